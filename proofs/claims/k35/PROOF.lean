import PyProof.Rows.All
import Wide.All
import OpenK.AllK
import Wide.FinOn
import PySem.Challenge.RW_highground_k35_whole_rules_beside_rules
import KE.SortData
import KE.KDictSum
import KE.KDictCopyH
import KE.DataMinMax
import KE.KDictKeyed
import HandS.ForMost
import HandS.Exc
import HandS.TryOnly
import HandS.ExcOwn
import HandS.Deep
import HandS.Conv
import HandS.Defaults
import HandS.TupMul
import KE.KDictWalk
import HandS.Iter
import HandS.Dict
import HandS.TupAny
import HandS.Style
import HandS.Rev
import HandS.Zip
import KE.KTupSum
import HandS.RaiseMore
import HandS.IsInst
import KE.GoesMore
import HandS.DictComp
import HandS.Small
import HandS.HeadHook2
import HandS.Wide
import HandS.Head0
import HandS.Head1
import HandS.Head2
import HandS.HeadEnd
import PyProof.ExcBaseAll.ValueError
import KE.KStateDown
set_option Elab.async false
set_option linter.all false
set_option maxRecDepth 100000
section
set_option maxHeartbeats 0
/-! sorting tuples of which the first is empty: CPython then takes the tuples' own `<` -/
namespace HG
open PySem PySem.W PySem.SeqAt PyProof.Rows PySem.Calls
theorem callTupLt {A : Around} {s : Shared} {prog : Program} {w : World} {E : Value → Shared → Prop} {Q : Value → Shared → Prop} {l b : Addr} {items items2 : Array Value} {e r : Nat → Bool} (hl : s.heap.IsTuple l items) (hb : s.heap.IsTuple b items2)
    (he : ∀ j (h1 : j < items.size) (h2 : j < items2.size), EqAt A.in1 s items[j] items2[j] (e j)) (hr : ∀ j (h1 : j < items.size) (h2 : j < items2.size), e j = false → RcLt A.in1 s items[j] items2[j] (r j))
    (h : Q (.bool (firstLt e r (decide (items.size < items2.size)) (List.range (min items.size items2.size)))) s) : wpAny (model prog w) A (call (.builtin "tuple.__lt__") [.ref l, .ref b]) Q E s := by
  obtain ⟨⟨cls, dd, data, sl⟩, ho, hc, n, hd⟩ := id hl
  obtain ⟨⟨cls2, dd2, data2, sl2⟩, ho2, hc2, n2, hd2⟩ := id hb
  simp only at hc hd hc2 hd2
  subst hc hd hc2 hd2
  exact call_meets F.slot_tuple_lt ⟨_, ho, rfl⟩ F.entry_tuple_lt (F.args_tuple_lt_2 _ _) (tuple_ltAt l b items items2 n n2 dd dd2 sl sl2 e r) ⟨ho, ho2, he, hr, h⟩
section
variable {prog : Program} {w : World} {A : Around} {s : Shared}
theorem oneLtTup {xs ys : List PyData} {a b : Value} {as bs : List Addr} {E : Value → Shared → Prop} {Q : Bool → Shared → Prop} (ra : Reads s.heap a (.tuple xs) as) (rb : Reads s.heap b (.tuple ys) bs) (h : alike (.tuple xs) (.tuple ys) = true)
    (hu : A.units + min (PyData.tuple xs).depth (PyData.tuple ys).depth < cLine) (hq : Q (dataLt (.tuple xs) (.tuple ys)) s) : wpAny (model prog w) A (oneLt' true a b) Q E s := by
  have hal : alikeAll xs ys = true := by simpa [alike] using h
  cases ra with
  | @tuple l o vs n _ as₁ h1 h2 h3 h4 =>
    cases rb with
    | @tuple l' o' vs' n' _ bs₁ k1 k2 k3 k4 =>
      have n1 : vs.size = xs.length := by simpa using ReadsAll.length _ _ _ h4
      have n2 : vs'.size = ys.length := by simpa using ReadsAll.length _ _ _ k4
      rw [dataLt_tuple, ← firstLt_toks xs ys hal, ← n1, ← n2] at hq
      rw [oneLt'_eq]
      simp only [if_true]
      refine wpAny_bind (wpAny_cRoomFor (room_here hu) ?_)
      refine wpAny_bind (wpAny_callSpecialIfBound?_slot (T := "tuple") ⟨_, h1, h2⟩ F.slot_tuple_lt (callTupLt (e := pairEq xs ys) (r := fun j => dataLt (xs.getD j .none) (ys.getD j .none)) ⟨_, h1, h2, _, h3⟩ ⟨_, k1, k2, _, k3⟩ (fun j j1 j2 => ?_) (fun j j1 j2 hj => ?_) ?_))
      · have := eqAt_alikeAll xs ys A.in1 s vs.toList vs'.toList _ _ h4 k4 hal (room_in hu) j (by simpa using j1) (by simpa using j2)
        simpa using this
      · have := rcLt_alikeAll xs ys A.in1 s vs.toList vs'.toList _ _ h4 k4 hal (room_in hu) j (by simpa using j1) (by simpa using j2) hj
        simpa using this
      · exact wpAny_truthy_bool hq
end
/-- all are tuples, and the first is empty -/
def EmptyFirst (ds : List PyData) : Prop := (∃ r, ds = .tuple [] :: r) ∧ ∀ d ∈ ds, ∃ xs, d = .tuple xs
section
variable {M : Model} {A : Around} {E : Value → Shared → Prop} {s : Shared}
theorem mapM_any {α β : Type} {f : α → Sem β} : ∀ (l : List α) {Q : List β → Shared → Prop}, (∀ v ∈ l, ∀ (Q' : β → Shared → Prop), (∀ b, Q' b s) → wpAny M A (f v) Q' E s) → (∀ bs, bs.length = l.length → Q bs s) → wpAny M A (l.mapM f) Q E s
  | [], _, _, h => by rw [List.mapM_nil]; exact wpAny_pure (h [] rfl)
  | x :: l, Q, hf, h => by
    rw [List.mapM_cons]
    exact wpAny_bind (hf x (.head _) _ fun b => wpAny_bind (mapM_any l (Q := fun bs s' => wpAny M A (pure (b :: bs)) Q E s') (fun v hv => hf v (.tail _ hv)) fun bs hb => wpAny_pure (h _ (by simp [hb]))))
theorem kind_ef {vs : List Value} {ds : List PyData} {Q : SortKind → Shared → Prop} (e : EachIs (fun v d => ∃ as, Reads s.heap v d as) vs ds) (he : EmptyFirst ds) (h2 : 2 ≤ vs.length) (h : Q oneType' s) :
    wpAny M A (keyKind' vs.toArray) Q E s := by
  obtain ⟨⟨r, rfl⟩, ht⟩ := he
  have hT : ∀ v ∈ vs, Looks M s.heap (typeOf v) (.type "tuple") := by
    intro v hv
    obtain ⟨d, hd, as, rd⟩ := e.left v hv
    obtain ⟨xs, rfl⟩ := ht d hd
    exact looks_reads rd
  cases e with
  | @cons v₁ _ vs' _ hr hrest =>
    obtain ⟨as, hr⟩ := hr
    have hfirst : ∀ (v : Value), v ∈ vs' → ∀ (Q' : Option Value → Shared → Prop), (∀ b, Q' b s) → wpAny M A (firstOfTuple' v) Q' E s := by
      intro v hv Q' hq
      obtain ⟨d, hd, as, rd⟩ := hrest.left v hv
      obtain ⟨xs, rfl⟩ := ht d (List.mem_cons_of_mem _ hd)
      rw [kas_first_eq]
      refine wpAny_bind ((hT v (List.mem_cons_of_mem _ hv)).here ?_)
      rw [if_neg (by first | decide | simp)]
      cases rd with
      | @tuple l o ws n _ as₁ h1 h2 h3 h4 =>
        exact wpAny_bind (listItems_at h1 h3 (wpAny_pure (hq _)))
    rw [keyKind'_eq, List.mapM_toArray, map_eq_pure_bind]
    refine wpAny_bind (wpAny_bind ?_)
    rw [List.mapM_cons]
    refine wpAny_bind ?_
    rw [kas_first_eq]
    refine wpAny_bind ((hT v₁ List.mem_cons_self).here ?_)
    rw [if_neg (by first | decide | simp)]
    cases hr with
    | @tuple l o ws n _ as₁ h1 h2' h3 h4 =>
      refine wpAny_bind (listItems_at h1 h3 (wpAny_pure ?_))
      have hw : ws[0]? = none := by
        have : ws.toList = [] := by
          generalize ws.toList = zs at h4
          cases h4
          rfl
        rw [← Array.getElem?_toList, this]; rfl
      rw [hw]
      refine wpAny_bind (mapM_any vs' hfirst fun bs hb => wpAny_pure (wpAny_pure ?_))
      rw [if_neg (by simp), if_neg (by simp)]
      rw [oneTypeOnly'_eq, List.mapM_toArray, map_eq_pure_bind]
      refine wpAny_bind (wpAny_bind (wpAny_bind (kas_mapM (r := Value.type "tuple") _ (fun v hv Q' hq => (hT v hv).here hq) (wpAny_pure ?_))))
      have hall : ((List.map (fun _ => Value.type "tuple") (Value.ref l :: vs')).toArray.all fun x => x == Value.type "tuple") = true := by
        simp only [List.all_toArray, List.all_map, List.all_eq_true]
        intro _ _
        exact beq_self_eq_true _
      have h0 : (List.map (fun _ => Value.type "tuple") (Value.ref l :: vs')).toArray[0]? = some (Value.type "tuple") := by simp
      rw [h0]
      simp only [hall, if_true]
      exact wpAny_pure (wpAny_pure h)
end
/-- what can be sorted here: as the kit says, or tuples of which the first is empty -/
def SortableE (ds : List PyData) : Prop := PySem.W.Sortable ds ∨ EmptyFirst ds
section
variable {prog : Program} {w : World} {A : Around} {s : Shared}
theorem sortsAtE {vs : List Value} {ds : List PyData} (e : EachIs (fun v d => ∃ as, Reads s.heap v d as) vs ds) (hal : AllAlike ds) (hk : SortableE ds) (hu : ∀ d, d ∈ ds → A.units + d.depth < cLine) : SortsAt prog w A s (dataKind s.heap ds) vs := by
  rcases hk with hk | hk
  · exact SortsAt.data e hal hk hu
  have room : ∀ {d d' : PyData}, d ∈ ds → A.units + min d.depth d'.depth < cLine := fun {d d'} hd => Nat.lt_of_le_of_lt (Nat.add_le_add_left (Nat.min_le_left _ _) _) (hu d hd)
  refine ⟨fun v hv => ?_, oneType', ?_, fun h2 E Q hq => kind_ef e hk h2 hq⟩
  · obtain ⟨d, hd, as, r⟩ := e.left v hv
    exact ⟨_, dataKind_some hal hd r⟩
  · intro E x y a b Q ha hb hq
    obtain ⟨d, as, hd, ra, rfl⟩ := dataKind_inv ha
    obtain ⟨d', as', hd', rb, rfl⟩ := dataKind_inv hb
    have hroom := room (d' := d') hd
    have hdd := hal d hd d' hd'
    obtain ⟨xs, rfl⟩ := hk.2 d hd
    obtain ⟨ys, rfl⟩ := hk.2 d' hd'
    rw [keyLt'_oneType]
    exact oneLtTup ra rb hdd hroom hq
theorem sortedE {E : Value → Shared → Prop} {vs : List Value} {bs : List PyData} {R : Value → PyData → Prop} {l : Addr} {Q : Value → Shared → Prop} (hl : s.heap.IsList l vs.toArray) (e : EachIs R vs bs) (er : EachIs (fun v b => ∃ as, Reads s.heap v b as) vs bs) (hal : AllAlike bs) (hk : SortableE bs) (hL : bs.length ≤ sizeLine)
    (hu : ∀ b, b ∈ bs → A.units + 2 + b.depth < cLine) (h : ∀ out, out.length = bs.length → EachIs R out (bs.mergeSort (dataLe false fun d : PyData => d)) → Q (.ref (s.heap.objs.size + 1)) { s with heap := sortedAll s.heap vs (List.toArray out) }) :
    wpAny (model prog w) A (call (.builtin "sorted") [.ref l]) Q E s := by
  have er' : EachIs (fun v b => ∃ as, Reads (sortingHeap (copyHeap s.heap vs) (s.heap.objs.size + 1) vs) v b as) vs bs := er.mono fun _ _ ⟨as, r⟩ => ⟨as, PyProof.Rows.Reads.keeps (fun _ _ => sorting_copy_old) r⟩
  have hm : bs.map (fun d : PyData => d) = bs := List.map_id' bs
  have hd := sortVals_data (enc := fun d : PyData => d) false e er' (by rw [hm]; exact hal)
  rw [hm] at hd
  exact sorted_vals hl (sortsAtE (s := { s with heap := sortingHeap (copyHeap s.heap vs) (s.heap.objs.size + 1) vs }) er' hal hk hu) (by rw [e.length]; exact hL)
    (h _ (by rw [sortVals_length false rfl]; exact e.length) hd)
end
end HG
end
section
set_option maxHeartbeats 1000000
/-! HGSrt2: sorted of what is no list. -/
namespace HG
open PySem PySem.W PyProof.Rows PySem.Calls
section
variable {prog : Program} {w : World} {A : Around} {s : Shared}
/-- the items of what is no list, one by one -/
theorem collectK {T : String} {r d : Addr} {n : Nat} {P : Nat → Value → Prop} {OK : Heap → Prop} {E : Value → Shared → Prop} {R : List Value → Shared → Prop} (K : KdlSrc prog w T r d n P OK) (hh : A.handled = none) (hok : OK s.heap) (hn : n ≤ sizeLine)
    (q : ∀ (h' : Heap) (tk : Nat) (acc : Array Value), s.heap.objs.size < h'.objs.size → (∀ b o, s.heap.get? b = some o → h'.get? b = some o) → ItemsOf P acc n → R acc.toList { s with heap := h', toks := tk }) : wpAny (model prog w) A (collect (.ref r)) R E s := by
  have lt := K.there _ hok
  have at0 : (s.heap.push { cls := .type "list", data := .seq ([] : List Value).toArray }).get? s.heap.objs.size = some { cls := .type "list", data := .seq #[] } := Heap.get?_push_size _ rfl
  unfold collect
  refine wpAny_bind (wpAny_runValue (codeAny_builtin entry_proto_collect' ?_)); rw [Around.under_plainId PySem.F.plain_proto_collect _]
  show wpAny _ A.in1 (newList [] >>= fun l => again (.builtin "list.__iadd__" ⟨[l, .ref r], []⟩)) _ _ s; refine wpAny_bind (wpAny_newObj_type ?_)
  refine wpAny_pure ⟨plainId_quiet PySem.F.plain_list_iadd _, codeAny_builtin entry_list_iadd' ?_⟩; rw [Around.under_plainId PySem.F.plain_list_iadd _]
  show wpAny _ A.in1 (Builtin.List.listExtendWith (.ref s.heap.objs.size) (.ref r) (.ref s.heap.objs.size)) _ _ _; have key := kdl_extend (A := A) (s := { s with heap := s.heap.push { cls := .type "list", data := .seq ([] : List Value).toArray } }) (R := fun (f : Result) (s' : Shared) => ∃ (h' : Heap) (tk : Nat) (acc : Array Value) (c : Nat), (f = .ok (.ret (.ref s.heap.objs.size)) ∧ s' = { s with heap := h', toks := tk }) ∧ (∀ b o, s.heap.get? b = some o → h'.get? b = some o) ∧ h'.get? s.heap.objs.size = some { cls := .type "list", dict := none, data := .seq acc c, slots := #[] } ∧ ItemsOf P acc n)
      K hh (K.keep _ _ hok fun b _ o e => Heap.get?_push_of_some _ e) s.heap.objs.size (Nat.ne_of_gt lt.1) (Nat.ne_of_gt lt.2) (.ref s.heap.objs.size) 0 at0 (fun h' tk acc c hk hS hacc => ⟨h', tk, acc, c, ⟨rfl, rfl⟩, fun b o e => hk b o (Nat.ne_of_lt (Heap.lt_size e)) (Heap.get?_push_of_some _ e), hS, hacc⟩) hn
  have fin : ∀ (h' : Heap) (tk : Nat) (acc : Array Value) (c : Nat), (∀ b o, s.heap.get? b = some o → h'.get? b = some o) → h'.get? s.heap.objs.size = some { cls := .type "list", dict := none, data := .seq acc c, slots := #[] } → ItemsOf P acc n → wpAny (model prog w) A (do
      let o ← load s.heap.objs.size
      match o.data with
      | .seq xs _ => pure xs.toList
      | _ => unsupported "internal:collect") R E { s with heap := h', toks := tk } := fun h' tk acc c hk hS hacc => wpAny_bind (wpAny_load hS (wpAny_pure (q h' tk acc (Heap.lt_size hS) hk hacc)))
  refine wpAny_mono key (fun f s' x => ?_) fun e s' x => ?_
  · cases f with
    | done f =>
      obtain ⟨h', tk, acc, c, ⟨e, rfl⟩, hk, hS, hacc⟩ := x
      cases e
      exact fin h' tk acc c hk hS hacc
    | again c₁ =>
      refine ⟨x.1, codeAny_mono x.2 fun f s₂ y => ?_⟩
      obtain ⟨h', tk, acc, c, ⟨rfl, rfl⟩, hk, hS, hacc⟩ := y
      exact fin h' tk acc c hk hS hacc
  · obtain ⟨_, _, _, _, ⟨e', _⟩, _⟩ := x
    cases e'
theorem sortedK {T : String} {r d : Addr} {n : Nat} {P : Nat → Value → Prop} {OK : Heap → Prop} {E : Value → Shared → Prop} {vs : List Value} {bs : List PyData} {R : Value → PyData → Prop} {Q : Value → Shared → Prop} (K : KdlSrc prog w T r d n P OK) (hh : A.handled = none) (hok : OK s.heap)
    (hP : ∀ acc : List Value, acc.length = n → (∀ j v, acc[j]? = some v → P j v) → acc = vs) (hn : n ≤ sizeLine) (e : EachIs R vs bs) (er : EachIs (fun v b => ∃ as, Reads s.heap v b as) vs bs) (hal : AllAlike bs) (hk : SortableE bs) (hL : bs.length ≤ sizeLine)
    (hu : ∀ b, b ∈ bs → A.units + 2 + b.depth < cLine) (h : ∀ D h' tk out ep, s.heap.objs.size ≤ D → (∀ b o, s.heap.get? b = some o → h'.get? b = some o) → h'.get? D = some (seqObj "list" (List.toArray out) ep) → out.length = bs.length → EachIs R out (bs.mergeSort (dataLe false fun d : PyData => d)) → Q (.ref D) { s with heap := h', toks := tk }) :
    wpAny (model prog w) A (call (.builtin "sorted") [.ref r]) Q E s := by
  refine call_function_entry_kw kind_sorted plain_sorted entry_sorted (args_sorted1 _) ?_
  unfold Builtin.«sorted»
  refine wpAny_bind (m := checkCount "sorted" 1 1 _) (wpAny_pure ?_)
  refine wpAny_bind (collectK (A := A.in1) K hh hok hn fun h' tk acc hsz hkp hacc => ?_)
  have ev : acc.toList = vs := hP acc.toList (by rw [Array.length_toList]; exact hacc.1) fun j v z => hacc.2 j v (by rw [← Array.getElem?_toList]; exact z)
  have hvl : vs.length ≤ sizeLine := by rw [e.length]; exact hL
  rw [ev]
  refine wpAny_bind (wpAny_newList ?_ hvl)
  have hD : (h'.push (seqObj "list" vs.toArray 0)).get? h'.objs.size = some (seqObj "list" vs.toArray 0) := Heap.get?_push_size _ rfl
  have old1 : ∀ b o, s.heap.get? b = some o → (h'.push (seqObj "list" vs.toArray 0)).get? b = some o := fun b o z => Heap.get?_push_of_some _ (hkp b o z)
  have le : s.heap.objs.size ≤ h'.objs.size := Nat.le_of_lt hsz
  have ne : ∀ b o, s.heap.get? b = some o → b ≠ h'.objs.size := fun b o z => Nat.ne_of_lt (Heap.lt_size (hkp b o z))
  have er' : EachIs (fun v b => ∃ as, Reads (sortingHeap (h'.push (seqObj "list" vs.toArray 0)) h'.objs.size vs) v b as) vs bs := er.mono fun _ _ ⟨as, r⟩ => ⟨as, PyProof.Rows.Reads.keeps (fun b o z => sortingHeap_old (ne b o z) (old1 b o z)) r⟩
  have hm : bs.map (fun d : PyData => d) = bs := List.map_id' bs
  have hd := sortVals_data (enc := fun d : PyData => d) false e er' (by rw [hm]; exact hal)
  rw [hm] at hd
  have S : SortsAt prog w A.in1.in1 { s with heap := sortingHeap (h'.push (seqObj "list" vs.toArray 0)) h'.objs.size vs, toks := tk } _ vs := sortsAtE er' hal hk hu
  refine wpAny_bind (wpAny_holding (wpAny_call_entry_kw slot_list_sort ⟨_, hD, rfl⟩ entry_list_sort ?body (args_list_sort _)))
  case body =>
    show wpAny (model prog w) A.in1.in1 (Builtin.«list.sort» ⟨[.ref h'.objs.size], []⟩) _ _ _
    refine list_sort_vals (s := { s with heap := h'.push (seqObj "list" vs.toArray 0), toks := tk }) hD S hvl ?_
    obtain ⟨ep, hf⟩ := sortedHeap_at (vs := vs) (out := (sortVals (dataKind (sortingHeap (h'.push (seqObj "list" vs.toArray 0)) h'.objs.size vs) bs) false vs vs).toArray) hD
    refine ⟨_, rfl, wpAny_pure ⟨_, rfl, h h'.objs.size _ tk (sortVals (dataKind (sortingHeap (h'.push (seqObj "list" vs.toArray 0)) h'.objs.size vs) bs) false vs vs) ep le (fun b o z => ?_) hf (by rw [sortVals_length false rfl]; exact e.length) hd⟩⟩
    rw [sortedHeap_old (ne b o z) (Heap.lt_size (old1 b o z))]
    exact old1 b o z
end
end HG
end
section
set_option maxHeartbeats 400000
/-! HGCore: a small language over PyData, a demonic monad, the denotation. -/
namespace HG
open PySem
abbrev PV := PyData
abbrev Env := List (Option PV)
abbrev LINE : Nat := 16777216
/-- a demonic computation: what is wanted of a value, what is wanted of an exception -/
def M (α : Type) : Type := (α → Prop) → (PV → Prop) → Prop
def pu {α : Type} (a : α) : M α := fun Q _ => Q a
def bd {α β : Type} (m : M α) (f : α → M β) : M β := fun Q E => m (fun a => f a Q E) E
def stuck {α : Type} : M α := fun _ _ => False
def gd {α : Type} (c : Prop) (m : M α) : M α := fun Q E => c ∧ m Q E
def rz {α : Type} (x : PV) : M α := fun _ E => E x
def noX {α : Type} (m : M α) : M α := fun Q _ => m Q fun _ => False
/-- any number from 0 to n - 1 -/
def rl (n : Int) : M PV := fun Q _ => (0 < n ∧ n < 4611686018427387904) ∧ ∀ r : Int, 0 ≤ r → r < n → Q (.int r)
section
variable {α β γ : Type}
@[simp] theorem bd_pu (a : α) (f : α → M β) : bd (pu a) f = f a := rfl
@[simp] theorem bd_stuck (f : α → M β) : bd stuck f = stuck := rfl
@[simp] theorem bd_rz (x : PV) (f : α → M β) : bd (rz x) f = rz x := rfl
@[simp] theorem bd_gd (c : Prop) (m : M α) (f : α → M β) : bd (gd c m) f = gd c (bd m f) := rfl
theorem bd_bd (m : M α) (f : α → M β) (g : β → M γ) : bd (bd m f) g = bd m fun a => bd (f a) g := rfl
@[simp] theorem bd_id (m : M α) : bd m pu = m := rfl
theorem gd_yes {c : Prop} {m : M α} (h : c) : gd c m = m := by
  funext Q E
  exact propext ⟨fun x => x.2, fun x => ⟨h, x⟩⟩
@[simp] theorem gd_true (m : M α) : gd True m = m := gd_yes trivial
@[simp] theorem noX_pu (a : α) : noX (pu a) = pu a := rfl
@[simp] theorem noX_stuck : noX (stuck : M α) = stuck := rfl
theorem pu_app (a : α) (Q : α → Prop) (E : PV → Prop) : pu a Q E = Q a := rfl
end
/-! ### values -/
def cupV : PV := .dict [(.list [], .int 0)]
def fnV (n : Nat) : PV := .dict [(.list [], .int (n + 1))]
/-- an exception of the class numbered c -/
def errV (c : Nat) (vs : List PV) : PV := .dict [(.list [], .tuple (.int c :: vs))]
def isCup : PV → Bool
  | .dict [(.list [], .int 0)] => true
  | _ => false
def unFn : PV → Option Nat
  | .dict [(.list [], .int (.ofNat (n + 1)))] => some n
  | _ => none
def asB {α : Type} (v : PV) (k : Bool → M α) : M α := match v with
  | .bool b => k b
  | _ => stuck
def asI {α : Type} (v : PV) (k : Int → M α) : M α := match v with
  | .int i => k i
  | _ => stuck
@[simp] theorem asB_bool {α : Type} (b : Bool) (k : Bool → M α) : asB (.bool b) k = k b := rfl
@[simp] theorem asI_int {α : Type} (i : Int) (k : Int → M α) : asI (.int i) k = k i := rfl
def getV (ρ : Env) (i : Nat) : M PV := match ρ[i]? with
  | some (some v) => pu v
  | _ => stuck
/-- xs[i], i may be negative -/
def at? {α : Type} (xs : List α) (i : Int) : Option α := if 0 ≤ i then xs[i.toNat]? else if -(xs.length : Int) ≤ i then xs[(i + xs.length).toNat]? else none
def ofO {α : Type} : Option α → M α
  | some a => pu a
  | none => stuck
@[simp] theorem ofO_some {α : Type} (a : α) : ofO (some a) = pu a := rfl
/-! ### data: equal, less -/
def shp (d : PV) : Bool := SeqAt.shaped d
def eqP (x y : PV) : Bool := PyData.eqv x y
def ltP (x y : PV) : Bool := PySem.W.dataLt x y
/-- two data that < tells apart -/
def cmpb (x y : PV) : Bool := PySem.W.alike x y && !(match x with | .none => true | _ => false)
def dep (d : PV) : Nat := d.depth
/-! ### keys of dicts: ints, texts, None; tuples of these, of bools and of such tuples -/
abbrev KVs := List (PV × PV)
/-- a dict that stands for a dict -/
def plainD : PV → Bool
  | .dict kvs => !isCup (.dict kvs) && (unFn (.dict kvs)).isNone
  | _ => false
/-- keys that are numbers, texts, None; that are tuples -/
def skey : PV → Bool
  | .none => true
  | .int _ => true
  | .str _ => true
  | _ => false
def key0 : PV → Bool
  | .none => true
  | .bool _ => true
  | .int _ => true
  | .str _ => true
  | _ => false
def key1 : PV → Bool
  | .tuple xs => xs.all key0
  | x => key0 x
def key2 : PV → Bool
  | .tuple xs => xs.all key1
  | x => key0 x
def key3 : PV → Bool
  | .tuple xs => xs.all key2
  | x => key0 x
def tkey : PV → Bool
  | .tuple xs => xs.all key3
  | _ => false
mutual
/-- the key, up to == -/
def nk : PV → NestedKey
  | .none => .none
  | .bool b => .num (if b = true then 1 else 0)
  | .int i => .num i
  | .str x => .text x
  | .tuple xs => .tup (nks xs)
  | .list _ => .none
  | .dict _ => .none
def nks : List PV → List NestedKey
  | [] => []
  | x :: xs => nk x :: nks xs
end
/-- a key of a dict's kind -/
def kndOk (ks : List PV) (k : PV) : Bool := (skey k && ks.all skey) || (tkey k && ks.all tkey)
def dget (kvs : KVs) (k : PV) : Option PV := match kvs with
  | [] => none
  | (k', v) :: r => if eqP k' k then some v else dget r k
def dput (kvs : KVs) (k v : PV) : KVs := match kvs with
  | [] => [(k, v)]
  | (k', v') :: r => if eqP k' k then (k', v) :: r else (k', v') :: dput r k v
def dputs (kvs : KVs) : KVs → KVs
  | [] => kvs
  | (k, v) :: r => dputs (dput kvs k v) r
/-! ### operators -/
inductive Bop where | add | sub | mul | div | mod | pow
  deriving DecidableEq
inductive Cop where | eq | ne | lt | le | gt | ge | isin | notin | is_ | isnot
  deriving DecidableEq
def rep {α : Type} (n : Nat) (xs : List α) : List α := (List.replicate n xs).flatten
def pBin (o : Bop) (x y : PV) : M PV := match o, x, y with
  | .add, .int a, .int b => pu (.int (a + b))
  | .add, .str a, .str b => gd (a.length + b.length ≤ LINE) (pu (.str (a ++ b)))
  | .add, .list a, .list b => gd (a.length + b.length ≤ LINE) (pu (.list (a ++ b)))
  | .add, .tuple a, .tuple b => gd (a.length + b.length ≤ LINE) (pu (.tuple (a ++ b)))
  | .sub, .int a, .int b => pu (.int (a - b))
  | .mul, .int a, .int b => gd ((-(2 ^ 64) < a ∧ a < 2 ^ 64) ∨ (-(2 ^ 64) < b ∧ b < 2 ^ 64)) (pu (.int (a * b)))
  | .mul, .str a, .int b => gd (-(2 ^ 63) ≤ b ∧ b ≤ 1000 ∧ a.length ≤ 1000) (pu (.str ⟨(rep b.toNat a.cps.toList).toArray⟩))
  | .mul, .list a, .int b => gd ((b.toNat * a.length ≤ LINE ∧ b < 2 ^ 62) ∧ -(2 ^ 63) ≤ b) (pu (.list (rep b.toNat a)))
  | .mul, .tuple a, .int b => gd (-(2 ^ 63) ≤ b ∧ b ≤ 1000 ∧ a.length ≤ 1000) (pu (.tuple (rep b.toNat a)))
  | .div, .int a, .int b => gd (0 < b ∧ b < 1073741824) (pu (.int (a / b)))
  | .mod, .int a, .int b => gd (0 < b) (pu (.int (a % b)))
  | .pow, .int a, .int b => gd (0 ≤ b ∧ b ≤ 1000000 ∧ a.natAbs < 2 ^ 64) (pu (.int (a ^ b.toNat)))
  | _, _, _ => stuck
def pNeg (x : PV) : M PV := match x with
  | .int a => pu (.int (-a))
  | _ => stuck
def isNone : PV → Bool
  | .none => true
  | _ => false
def isTrueV : PV → Bool
  | .bool true => true
  | _ => false
def isFalseV : PV → Bool
  | .bool false => true
  | _ => false
def pIn (x y : PV) : M PV := match y with
  | .list ys => gd (shp x = true ∧ shp y = true) (pu (.bool (ys.any fun z => eqP z x)))
  | .tuple ys => gd (shp x = true ∧ shp y = true) (pu (.bool (ys.any fun z => eqP z x)))
  | .str z => match x with
    | .str w => pu (.bool (!(Builtin.Str.occurrences z w 0 z.length 1).isEmpty))
    | _ => stuck
  | .dict kvs => gd (plainD (.dict kvs) = true ∧ kndOk (kvs.map (·.1)) x = true) (pu (.bool (dget kvs x).isSome))
  | _ => stuck
/-- x is y, y one of None, True, False -/
def pIs (x y : PV) : M PV := match y with
  | .none => pu (.bool (isNone x))
  | .bool true => pu (.bool (isTrueV x))
  | .bool false => pu (.bool (isFalseV x))
  | _ => stuck
def isD : PV → Bool
  | .dict _ => true
  | _ => false
def nB (m : M PV) : M PV := bd m fun v => asB v fun b => pu (.bool !b)
/-- == : of data; of a dict and an empty one -/
def pEq (x y : PV) : M PV := match x, y with
  | .dict _, .dict [] => stuck
  | _, _ => gd (shp x = true ∧ shp y = true) (pu (.bool (eqP x y)))
def pCmp (o : Cop) (x y : PV) : M PV := match o with
  | .eq => pEq x y
  | .ne => nB (pEq x y)
  | .lt => gd (cmpb x y = true ∧ shp x = true ∧ shp y = true) (pu (.bool (ltP x y)))
  | .gt => gd (cmpb x y = true ∧ shp x = true ∧ shp y = true) (pu (.bool (ltP y x)))
  | .le => gd (cmpb x y = true ∧ shp x = true ∧ shp y = true) (pu (.bool (!ltP y x)))
  | .ge => gd (cmpb x y = true ∧ shp x = true ∧ shp y = true) (pu (.bool (!ltP x y)))
  | .isin => pIn x y
  | .notin => nB (pIn x y)
  | .is_ => pIs x y
  | .isnot => nB (pIs x y)
def pIdx (x i : PV) : M PV := match x, i with
  | .list xs, .int k => ofO (at? xs k)
  | .tuple xs, .int k => ofO (at? xs k)
  | .str z, .int k => gd (z.length ≤ LINE) (ofO ((at? z.cps.toList k).map fun c => .str ⟨#[c]⟩))
  | .dict kvs, k => gd (plainD (.dict kvs) = true ∧ kndOk (kvs.map (·.1)) k = true) (ofO (dget kvs k))
  | _, _ => stuck
/-- a slice's end: n items, d where it is left out -/
def clipI (n d : Nat) : PV → Option Nat
  | .none => some d
  | .int v => some (if v < 0 then (v + n).toNat else min v.toNat n)
  | _ => none
def cut {α : Type} (xs : List α) (lo hi : Nat) : List α := (xs.drop lo).take (hi - lo)
def pSlc (x lo hi : PV) : M PV := match x with
  | .list xs => bd (ofO (clipI xs.length 0 lo)) fun l => bd (ofO (clipI xs.length xs.length hi)) fun h => pu (.list (cut xs l h))
  | .tuple xs => bd (ofO (clipI xs.length 0 lo)) fun l => bd (ofO (clipI xs.length xs.length hi)) fun h => pu (.tuple (cut xs l h))
  | .str z => bd (ofO (clipI z.length 0 lo)) fun l => bd (ofO (clipI z.length z.length hi)) fun h => gd (z.length ≤ LINE) (pu (.str ⟨(cut z.cps.toList l h).toArray⟩))
  | _ => stuck
def partOk : PV → Bool
  | .none => true
  | .int _ => true
  | _ => false
/-- x[::-1] -/
def pRev (x : PV) : M PV := match x with
  | .list xs => pu (.list xs.reverse)
  | .tuple xs => pu (.tuple xs.reverse)
  | _ => stuck
/-- how many items x[lo::-1] has -/
def rvN (n : Nat) (lo : Int) : Nat := if lo < 0 then (lo + n + 1).toNat else min (lo.toNat + 1) n
/-- x[lo::-1] -/
def pRvf (x lo : PV) : M PV := match x, lo with
  | .tuple xs, .int v => pu (.tuple (xs.take (rvN xs.length v)).reverse)
  | _, _ => stuck
/-! ### what is walked -/
def iterV (v : PV) : M (List PV) := match v with
  | .list xs => pu xs
  | .tuple xs => pu xs
  | .dict kvs => gd (plainD (.dict kvs) = true) (pu (kvs.map (·.1)))
  | .str z => gd (z.length ≤ LINE) (pu (z.cps.toList.map fun c => .str ⟨#[c]⟩))
  | _ => stuck
def seqV (v : PV) : M (List PV) := match v with
  | .list xs => pu xs
  | .tuple xs => pu xs
  | _ => stuck
def rng (a b : Int) : List PV := (List.range (b - a).toNat).map fun i => .int (a + (i : Nat))
def RB (i : Int) : Prop := -8388608 ≤ i ∧ i ≤ 8388608
/-- down by ones from a, above b -/
def rngD (a b : Int) : List PV := (List.range (a - b).toNat).map fun i => .int (a - (i : Nat))
def zipP : List PV → List PV → List PV
  | x :: xs, y :: ys => .tuple [x, y] :: zipP xs ys
  | _, _ => []
def pZip (x y : PV) : M PV := match x, y with
  | .list xs, .list ys => pu (.list (zipP xs ys))
  | .tuple xs, .tuple ys => pu (.list (zipP xs ys))
  | _, _ => stuck
def enmP : Nat → List PV → List PV
  | _, [] => []
  | n, x :: xs => .tuple [.int (n : Nat), x] :: enmP (n + 1) xs
def pEnm (x : PV) : M PV := match x with
  | .list xs => pu (.list (enmP 0 xs))
  | .tuple xs => pu (.list (enmP 0 xs))
  | _ => stuck
/-! ### built-ins -/
inductive Bi where | len | abs | int | str | max1 | min1 | max2 | min2 | max3 | sum | all | any | sorted | list | tuple | dict | sortedset | lenset | listset | gcd
  deriving DecidableEq
def intsOf : List PV → Option (List Int)
  | [] => some []
  | .int i :: r => (intsOf r).map (i :: ·)
  | _ :: _ => none
def boolsOf : List PV → Option (List Bool)
  | [] => some []
  | .bool i :: r => (boolsOf r).map (i :: ·)
  | _ :: _ => none
/-- all can be told apart by < -/
def AllCmp (xs : List PV) : Prop := PySem.W.AlikeAll xs ∧ shp (.list xs) = true
def sortP (xs : List PV) : List PV := xs.mergeSort fun a b => !ltP b a
def pairs? : List PV → Option KVs
  | [] => some []
  | .tuple [k, v] :: r => (pairs? r).map ((k, v) :: ·)
  | _ :: _ => none
def dedup : List PV → List PV
  | [] => []
  | x :: xs => x :: (dedup xs).filter fun y => !eqP x y
/-- the pairs of a list -/
def pairsOf : List PV → Option KVs
  | [] => some []
  | .tuple [k, v] :: r => (pairsOf r).map fun ps => (k, v) :: ps
  | _ :: _ => none
/-- the lesser of two numbers, of two tuples -/
def pMin2 (x y : PV) : M PV := match x, y with
  | .int i, .int j => pu (.int (if j < i then j else i))
  | .tuple xs, .tuple ys => gd (AllCmp [.tuple xs, .tuple ys]) (pu (PySem.W.minD (.tuple xs) [.tuple ys]))
  | _, _ => stuck
def pBi (b : Bi) (vs : List PV) : M PV := match b, vs with
  | .len, [.list xs] => pu (.int xs.length)
  | .len, [.tuple xs] => pu (.int xs.length)
  | .len, [.str x] => gd (x.length ≤ LINE) (pu (.int x.length))
  | .len, [.dict kvs] => gd (plainD (.dict kvs) = true) (pu (.int kvs.length))
  | .abs, [.int i] => pu (.int (if i < 0 then -i else i))
  | .int, [.int i] => pu (.int i)
  | .str, [.int i] => gd (i.natAbs.log2 < 1920) (pu (.str (Str.ofString (toString i))))
  | .str, [.str x] => pu (.str x)
  | .max2, [.int i, .int j] => pu (.int (if j > i then j else i))
  | .min2, [x, y] => pMin2 x y
  | .max1, [v] => bd (seqV v) fun xs => match xs with
      | [] => stuck
      | x :: r => gd (AllCmp (x :: r)) (pu (PySem.W.maxD x r))
  | .min1, [v] => bd (seqV v) fun xs => match xs with
      | [] => stuck
      | x :: r => gd (AllCmp (x :: r)) (pu (PySem.W.minD x r))
  | .sum, [.list xs] => bd (ofO (intsOf xs)) fun is => pu (.int is.sum)
  | .sum, [.tuple xs] => bd (ofO (intsOf xs)) fun is => pu (.int is.sum)
  | .all, [.list xs] => bd (ofO (boolsOf xs)) fun bs => pu (.bool (bs.all id))
  | .any, [.list xs] => bd (ofO (boolsOf xs)) fun bs => pu (.bool (bs.any id))
  | .sorted, [.list xs] => gd (AllCmp xs ∧ SortableE xs) (pu (.list (sortP xs)))
  | .sorted, [.dict kvs] => gd (plainD (.dict kvs) = true ∧ AllCmp (kvs.map (·.1)) ∧ SortableE (kvs.map (·.1))) (pu (.list (sortP (kvs.map (·.1)))))
  | .dict, [.list xs] => bd (ofO (pairsOf xs)) fun ps => gd (ps.length ≤ LINE ∧ (ps.all fun p => tkey p.1) = true) (pu (.dict (dputs [] ps)))
  | .list, [.dict kvs] => gd (plainD (.dict kvs) = true ∧ kvs.length ≤ LINE) (pu (.list (kvs.map (·.1))))
  | .list, [v] => bd (seqV v) fun xs => gd (xs.length ≤ LINE) (pu (.list xs))
  | .tuple, [v] => bd (seqV v) fun xs => gd (xs.length ≤ LINE) (pu (.tuple xs))
  | _, _ => stuck
/-! ### isinstance -/
def notSp : PV → Bool
  | .dict _ => false
  | _ => true
inductive Ty where | int | bool | str | tuple | list
  deriving DecidableEq
def isTy (v : PV) : Ty → Bool
  | .int => match v with | .int _ => true | .bool _ => true | _ => false
  | .bool => match v with | .bool _ => true | _ => false
  | .str => match v with | .str _ => true | _ => false
  | .tuple => match v with | .tuple _ => true | _ => false
  | .list => match v with | .list _ => true | _ => false
/-! ### methods that change nothing -/
inductive Mt where | get1 | get2 | index | count | startswith | join
  deriving DecidableEq
/-- what has the method -/
def metOn (m : Mt) (o : PV) : Bool := match m, o with
  | .get1, .dict kvs => plainD (.dict kvs)
  | .get2, .dict kvs => plainD (.dict kvs)
  | _, _ => false
def pMet (m : Mt) (o : PV) (vs : List PV) : M PV := match m, o, vs with
  | .get1, .dict kvs, [k] => gd (plainD (.dict kvs) = true ∧ kndOk (kvs.map (·.1)) k = true) (pu ((dget kvs k).getD .none))
  | .get2, .dict kvs, [k, x] => gd (plainD (.dict kvs) = true ∧ kndOk (kvs.map (·.1)) k = true) (pu ((dget kvs k).getD x))
  | _, _, _ => stuck
/-! ### the language -/
inductive Tg where
  | nm (i : Nat)
  | tp (ts : List Tg)
inductive Ex where
  | lit (v : PV)
  | var (i : Nat)
  | glb (g : Nat)
  | fnv (f : Nat)
  | tup (es : List Ex)
  | lst (es : List Ex)
  | dct (ks vs : List Ex)
  | bin (o : Bop) (a b : Ex)
  | neg (a : Ex)
  | nt (a : Ex)
  | an (a b : Ex)
  | or_ (a b : Ex)
  | cmp (o : Cop) (a b : Ex)
  | chn (o p : Cop) (a b c : Ex)
  | ite (c a b : Ex)
  | idx (a i : Ex)
  | slc (a lo hi : Ex)
  | rvs (a : Ex)
  | rvf (a lo : Ex)
  | call (f : Nat) (es : List Ex)
  | callv (g : Ex) (es : List Ex)
  | roll (c m : Ex)
  | bi (b : Bi) (es : List Ex)
  | isi (a : Ex) (t : Ty)
  | met (m : Mt) (o : Ex) (es : List Ex)
  | rng1 (b : Ex)
  | rng2 (a b : Ex)
  | rngd (a b : Ex)
  | zip (a b : Ex)
  | enm (a : Ex)
  | rvd (a : Ex)
  | items (a : Ex)
  | vals (a : Ex)
  | lc1 (elt : Ex) (tg : Tg) (it c : Ex)
  | lc2 (elt : Ex) (tg : Tg) (it c : Ex) (tg2 : Tg) (it2 c2 : Ex)
  | dc1 (k v : Ex) (tg : Tg) (it c : Ex)
  | dc2 (k v : Ex) (tg : Tg) (it c : Ex) (tg2 : Tg) (it2 c2 : Ex)
/-- one target of several: a name, x[i] -/
inductive Tu where
  | nm (i : Nat)
  | st (x : Nat) (i : Ex)
inductive St where
  | asg (tg : Tg) (e : Ex)
  | asgU (ts : List Tu) (es : List Ex)
  | own (i : Nat) (e : Ex)
  | asgT (is : List Nat) (ks : List Bool) (es : List Ex)
  | seti (x : Nat) (i e : Ex)
  | app (x : Nat) (e : Ex)
  | pop (y x : Nat)
  | popi (y x : Nat) (i : Ex)
  | appPop (y x : Nat) (i : Ex)
  | upd (x : Nat) (e : Ex)
  | aug (x : Nat) (e : Ex)
  | augi (x : Nat) (i e : Ex)
  | ex (e : Ex)
  | ret (e : Ex)
  | ite (c : Ex) (a b : List St)
  | whl (c : Ex) (b : List St)
  | for_ (tg : Tg) (it : Ex) (b : List St)
  | brk
  | cnt
  | pass
  | rai (c : Nat) (es : List Ex)
  | never
  | frz (is : List Nat)
/-! ### the denotation -/
mutual
def bindT : Tg → PV → Env → M Env
  | .nm i, v, ρ => pu (ρ.set i (some v))
  | .tp ts, .tuple vs, ρ => gd (ts.length = vs.length) (bindTs ts vs ρ)
  | .tp _, _, _ => stuck
def bindTs : List Tg → List PV → Env → M Env
  | t :: ts, v :: vs, ρ => bd (bindT t v ρ) fun ρ' => bindTs ts vs ρ'
  | _, _, ρ => pu ρ
end
/-- a dict's pairs, in order -/
def itemsV (d : PV) : M PV := match d with
  | .dict kvs => gd (plainD (.dict kvs) = true) (pu (.list (kvs.map fun p => .tuple [p.1, p.2])))
  | _ => stuck
def mfm (f : PV → M (Option PV)) : List PV → M (List PV)
  | [] => pu []
  | x :: xs => bd (f x) fun y => bd (mfm f xs) fun ys => pu (match y with | some y => y :: ys | none => ys)
/-- a list grown, item by item -/
def mfl (f : PV → List PV → M (List PV)) : List PV → List PV → M (List PV)
  | [], acc => pu acc
  | x :: xs, acc => bd (f x acc) fun acc' => mfl f xs acc'
/-- a dict grown by the pairs that come -/
def mkd (f : PV → M (Option (PV × PV))) : List PV → KVs → M KVs
  | [], d => pu d
  | x :: xs, d => bd (f x) fun y => match y with
      | some (k, v) => gd (kndOk (d.map (·.1)) k = true ∧ d.length < LINE) (mkd f xs (dput d k v))
      | none => mkd f xs d
def mkdl (f : PV → KVs → M KVs) : List PV → KVs → M KVs
  | [], d => pu d
  | x :: xs, d => bd (f x d) fun d' => mkdl f xs d'
def putAll : List PV → List PV → KVs → M KVs
  | k :: ks, v :: vs, d => gd (kndOk (d.map (·.1)) k = true) (putAll ks vs (dput d k v))
  | [], [], d => pu d
  | _, _, _ => stuck
mutual
def tgS : Tg → List Nat
  | .nm i => [i]
  | .tp ts => tgSs ts
def tgSs : List Tg → List Nat
  | [] => []
  | t :: ts => tgS t ++ tgSs ts
end
/-- the slots forgotten -/
def wipeE (ρ : Env) : List Nat → Env
  | [] => ρ
  | i :: is => (wipeE ρ is).set i none
section
variable (C : Nat → List PV → M PV) (G : List PV)
mutual
def denE : Ex → Env → M PV
  | .lit v, _ => pu v
  | .var i, ρ => getV ρ i
  | .glb g, _ => ofO G[g]?
  | .fnv f, _ => pu (fnV f)
  | .tup es, ρ => bd (denEs es ρ) fun vs => pu (.tuple vs)
  | .lst es, ρ => bd (denEs es ρ) fun vs => pu (.list vs)
  | .dct ks vs, ρ => bd (denEs ks ρ) fun ks => bd (denEs vs ρ) fun vs => bd (putAll ks vs []) fun d => pu (.dict d)
  | .bin o a b, ρ => bd (denE a ρ) fun x => bd (denE b ρ) fun y => pBin o x y
  | .neg a, ρ => bd (denE a ρ) pNeg
  | .nt a, ρ => bd (denE a ρ) fun x => asB x fun b => pu (.bool !b)
  | .an a b, ρ => bd (denE a ρ) fun x => asB x fun c => if c then denE b ρ else pu (.bool false)
  | .or_ a b, ρ => bd (denE a ρ) fun x => asB x fun c => if c then pu (.bool true) else denE b ρ
  | .cmp o a b, ρ => bd (denE a ρ) fun x => bd (denE b ρ) fun y => pCmp o x y
  | .chn o p a b c, ρ => bd (denE a ρ) fun x => bd (denE b ρ) fun y => bd (pCmp o x y) fun t => asB t fun t => if t then bd (denE c ρ) fun z => pCmp p y z else pu (.bool false)
  | .ite c a b, ρ => bd (denE c ρ) fun x => asB x fun t => if t then denE a ρ else denE b ρ
  | .idx a i, ρ => bd (denE a ρ) fun x => bd (denE i ρ) fun y => pIdx x y
  | .slc a lo hi, ρ => bd (denE a ρ) fun x => bd (denE lo ρ) fun l => gd (partOk l = true) (bd (denE hi ρ) fun h => gd (partOk h = true) (pSlc x l h))
  | .rvs a, ρ => bd (denE a ρ) pRev
  | .rvf a lo, ρ => bd (denE a ρ) fun x => bd (denE lo ρ) fun l => gd (partOk l = true) (pRvf x l)
  | .call f es, ρ => bd (denEs es ρ) fun vs => C f vs
  | .callv g es, ρ => bd (denE g ρ) fun x => bd (denEs es ρ) fun vs => match unFn x with
      | some f => C f vs
      | none => stuck
  | .roll c m, ρ => bd (denE c ρ) fun x => bd (denE m ρ) fun y => asI y fun n => if isCup x then rl n else stuck
  | .bi b es, ρ => bd (denEs es ρ) fun vs => pBi b vs
  | .isi a t, ρ => bd (denE a ρ) fun x => gd (notSp x = true) (pu (.bool (isTy x t)))
  | .met m o es, ρ => bd (denE o ρ) fun x => gd (metOn m x = true) (bd (denEs es ρ) fun vs => pMet m x vs)
  | .rng1 b, ρ => bd (denE b ρ) fun y => asI y fun n => gd (RB n) (pu (.list (rng 0 n)))
  | .rng2 a b, ρ => bd (denE a ρ) fun x => bd (denE b ρ) fun y => asI x fun m => asI y fun n => gd (RB m ∧ RB n) (pu (.list (rng m n)))
  | .rngd a b, ρ => bd (denE a ρ) fun x => bd (denE b ρ) fun y => asI x fun m => asI y fun n => gd (RB m ∧ RB n) (pu (.list (rngD m n)))
  | .zip a b, ρ => bd (denE a ρ) fun x => bd (denE b ρ) fun y => pZip x y
  | .enm a, ρ => bd (denE a ρ) fun x => pEnm x
  | .rvd a, ρ => bd (denE a ρ) fun x => bd (seqV x) fun xs => pu (.list xs.reverse)
  | .items a, ρ => bd (denE a ρ) itemsV
  | .vals _, _ => stuck
  | .lc1 e tg it c, ρ => noX (bd (denE it ρ) fun v => bd (iterV v) fun xs => bd (mfm (fun x => bd (bindT tg x (wipeE ρ (tgS tg))) fun ρ' => bd (denE c ρ') fun t => asB t fun t => if t then bd (denE e ρ') fun y => pu (some y) else pu none) xs) fun ys => pu (.list ys))
  | .lc2 e tg it c tg2 it2 c2, ρ => noX (bd (denE it ρ) fun v => bd (iterV v) fun xs => bd (mfl (fun x acc => bd (bindT tg x (wipeE ρ (tgS tg ++ tgS tg2))) fun ρ' => bd (denE c ρ') fun t => asB t fun t => if t then
      bd (bd (denE it2 ρ') iterV) fun xs2 => gd (acc.length + xs2.length ≤ LINE) (bd (mfm (fun x2 => bd (bindT tg2 x2 (wipeE ρ' (tgS tg2))) fun ρ2 => bd (denE c2 ρ2) fun t => asB t fun t => if t then bd (denE e ρ2) fun y => pu (some y) else pu none) xs2) fun ys => pu (acc ++ ys)) else pu acc) xs []) fun ys => pu (.list ys))
  | .dc1 k w tg it c, ρ => noX (bd (denE it ρ) fun v => bd (iterV v) fun xs => bd (mkd (fun x => bd (bindT tg x (wipeE ρ (tgS tg))) fun ρ' => bd (denE c ρ') fun t => asB t fun t => if t then bd (denE k ρ') fun y => bd (denE w ρ') fun z => pu (some (y, z)) else pu none) xs []) fun d => pu (.dict d))
  | .dc2 k w tg it c tg2 it2 c2, ρ => noX (bd (denE it ρ) fun v => bd (iterV v) fun xs => bd (mkdl (fun x d => bd (bindT tg x (wipeE ρ (tgS tg ++ tgS tg2))) fun ρ' => bd (denE c ρ') fun t => asB t fun t => if t then
      bd (bd (denE it2 ρ') iterV) fun xs2 => mkd (fun x2 => bd (bindT tg2 x2 (wipeE ρ' (tgS tg2))) fun ρ2 => bd (denE c2 ρ2) fun t => asB t fun t => if t then bd (denE k ρ2) fun y => bd (denE w ρ2) fun z => pu (some (y, z)) else pu none) xs2 d else pu d) xs []) fun d => gd (d.length ≤ LINE) (pu (.dict d)))
def denEs : List Ex → Env → M (List PV)
  | [], _ => pu []
  | e :: es, ρ => bd (denE e ρ) fun x => bd (denEs es ρ) fun xs => pu (x :: xs)
end
end
inductive Fl where
  | nx (ρ : Env) | rt (v : PV) | bk (ρ : Env) | ct (ρ : Env)
/-- behind a statement: go on, or leave -/
def thenK (k : Env → M Fl) (f : Fl) : M Fl := match f with
  | .nx ρ => k ρ
  | .rt v => pu (.rt v)
  | .bk ρ => pu (.bk ρ)
  | .ct ρ => pu (.ct ρ)
def thenF (m : M Fl) (k : Env → M Fl) : M Fl := bd m (thenK k)
/-- behind a turn of a loop: go on, or leave -/
def loopK (k : Env → M Fl) (f : Fl) : M Fl := match f with
  | .nx ρ => k ρ
  | .ct ρ => k ρ
  | .bk ρ => pu (.nx ρ)
  | .rt v => pu (.rt v)
def forL (b : PV → Env → M Fl) : List PV → Env → M Fl
  | [], ρ => pu (.nx ρ)
  | x :: xs, ρ => bd (b x ρ) (loopK (forL b xs))
/-- at most n turns -/
def whileN (c : Env → M PV) (b : Env → M Fl) : Nat → Env → M Fl
  | 0, _ => stuck
  | n + 1, ρ => bd (c ρ) fun t => asB t fun t => if t then bd (b ρ) (loopK (whileN c b n)) else pu (.nx ρ)
def whileL (c : Env → M PV) (b : Env → M Fl) (ρ : Env) : M Fl := fun Q E => ∃ n, whileN c b n ρ Q E
def setL : List Nat → List PV → Env → Env
  | i :: is, v :: vs, ρ => (setL is vs ρ).set i (some v)
  | _, _, ρ => ρ
/-- o[i] = v -/
def pSet (o i v : PV) : M PV := match o, i with
  | .list xs, .int k => if 0 ≤ k ∧ k < xs.length then pu (.list (xs.set k.toNat v)) else if -(xs.length : Int) ≤ k ∧ k < 0 then pu (.list (xs.set (k + xs.length).toNat v)) else stuck
  | .dict kvs, k => gd (plainD (.dict kvs) = true ∧ kndOk (kvs.map (·.1)) k = true ∧ kvs.length < LINE) (pu (.dict (dput kvs k v)))
  | _, _ => stuck
def pApp (o v : PV) : M PV := match o with
  | .list xs => gd (xs.length < LINE) (pu (.list (xs ++ [v])))
  | _ => stuck
def pPop (o : PV) (k : PV → PV → M Fl) : M Fl := match o with
  | .list xs => bd (ofO xs.getLast?) fun v => k v (.list xs.dropLast)
  | _ => stuck
def pPopi (o i : PV) (k : PV → PV → M Fl) : M Fl := match o, i with
  | .list xs, .int j => gd ((0 ≤ j ∧ j < xs.length) ∧ xs.length ≤ LINE) (bd (ofO xs[j.toNat]?) fun v => k v (.list (xs.eraseIdx j.toNat)))
  | _, _ => stuck
/-- a list grown by another one -/
def pExt (o v : PV) : M PV := match o, v with
  | .list xs, .list ys => gd (xs.length + ys.length ≤ LINE) (pu (.list (xs ++ ys)))
  | _, _ => stuck
/-- keys of one kind; behind an empty dict: with unlike hashes -/
def updOk (kvs ws : KVs) : Prop := ((∀ p ∈ kvs ++ ws, skey p.1 = true) ∨ ((∀ p ∈ kvs ++ ws, tkey p.1 = true) ∧ (kvs = [] → ∀ w : World, (ws.map fun p => (nk p.1).hash w).Nodup))) ∧ kvs.length + ws.length ≤ LINE
def pUpd (o d : PV) : M PV := match o, d with
  | .dict kvs, .dict ws => gd (plainD (.dict ws) = true ∧ updOk kvs ws) (pu (.dict (dputs kvs ws)))
  | _, _ => stuck
def isL : PV → Bool
  | .list _ => true
  | _ => false
section
variable (C : Nat → List PV → M PV) (G : List PV)
def setU : List Tu → List PV → Env → M Env
  | [], [], ρ => pu ρ
  | .nm i :: ts, v :: vs, ρ => setU ts vs (ρ.set i (some v))
  | .st x i :: ts, v :: vs, ρ => bd (bd (getV ρ x) fun o => bd (denE C G i ρ) fun k => bd (pSet o k v) fun o' => pu (ρ.set x (some o'))) fun ρ' => setU ts vs ρ'
  | _, _, _ => stuck
mutual
def denS : St → Env → M Fl
  | .asg tg e, ρ => bd (denE C G e ρ) fun v => bd (bindT tg v ρ) fun ρ' => pu (.nx ρ')
  | .own i e, ρ => bd (denE C G e ρ) fun v => bd (bindT (.nm i) v ρ) fun ρ' => pu (.nx ρ')
  | .asgT is _ es, ρ => bd (denEs C G es ρ) fun vs => pu (.nx (setL is vs ρ))
  | .asgU ts es, ρ => bd (denEs C G es ρ) fun vs => bd (setU C G ts vs ρ) fun ρ' => pu (.nx ρ')
  | .seti x i e, ρ => bd (denE C G e ρ) fun v => bd (setU C G [.st x i] [v] ρ) fun ρ' => pu (.nx ρ')
  | .app x e, ρ => bd (getV ρ x) fun o => gd (isL o = true) (bd (denE C G e ρ) fun v => bd (pApp o v) fun o' => pu (.nx (ρ.set x (some o'))))
  | .pop y x, ρ => bd (getV ρ x) fun o => pPop o fun v o' => pu (.nx ((ρ.set x (some o')).set y (some v)))
  | .popi y x i, ρ => bd (getV ρ x) fun o => gd (isL o = true) (bd (denE C G i ρ) fun k => pPopi o k fun v o' => pu (.nx ((ρ.set x (some o')).set y (some v))))
  | .appPop y x i, ρ => bd (getV ρ y) fun p => gd (isL p = true) (bd (getV ρ x) fun o => gd (isL o = true) (bd (denE C G i ρ) fun k => pPopi o k fun v o' => bd (pApp p v) fun p' => pu (.nx ((ρ.set x (some o')).set y (some p')))))
  | .upd x e, ρ => bd (getV ρ x) fun o => gd (plainD o = true) (bd (denE C G e ρ) fun d => bd (pUpd o d) fun o' => pu (.nx (ρ.set x (some o'))))
  | .aug x e, ρ => bd (getV ρ x) fun o => gd (isL o = true) (bd (denE C G e ρ) fun v => bd (pExt o v) fun o' => pu (.nx (ρ.set x (some o'))))
  | .augi x i e, ρ => bd (getV ρ x) fun o => bd (denE C G i ρ) fun k => bd (pIdx o k) fun u => bd (denE C G e ρ) fun v => bd (pBin .add u v) fun z => bd (pSet o k z) fun o' => pu (.nx (ρ.set x (some o')))
  | .ex e, ρ => bd (denE C G e ρ) fun _ => pu (.nx ρ)
  | .ret e, ρ => bd (denE C G e ρ) fun v => pu (.rt v)
  | .ite c a b, ρ => bd (denE C G c ρ) fun t => asB t fun t => if t then denB a ρ else denB b ρ
  | .whl c b, ρ => whileL (denE C G c) (denB b) ρ
  | .for_ tg it b, ρ => bd (denE C G it ρ) fun v => bd (iterV v) fun xs => forL (fun x ρ => bd (bindT tg x ρ) (denB b)) xs ρ
  | .brk, ρ => pu (.bk ρ)
  | .cnt, ρ => pu (.ct ρ)
  | .pass, ρ => pu (.nx ρ)
  | .rai c es, ρ => bd (denEs C G es ρ) fun vs => rz (errV c vs)
  | .never, _ => stuck
  | .frz _, ρ => pu (.nx ρ)
def denB : List St → Env → M Fl
  | [], ρ => pu (.nx ρ)
  | s :: r, ρ => thenF (denS s ρ) (denB r)
end
end
/-- a def: how many parameters, how many slots, its body -/
structure Fd where
  np : Nat
  ns : Nat
  body : List St
def endF (m : M Fl) : M PV := bd m fun f => match f with
  | .rt v => pu v
  | .nx _ => pu .none
  | _ => stuck
def startE (n : Nat) (vs : List PV) : Env := vs.map some ++ List.replicate (n - vs.length) none
def call (D : List Fd) (G : List PV) : Nat → Nat → List PV → M PV
  | 0, _, _ => stuck
  | d + 1, f, vs => match D[f]? with
    | some fd => gd (vs.length = fd.np) (endF (denB (call D G d) G fd.body (startE fd.ns vs)))
    | none => stuck
theorem rng_len (a b : Int) : (rng a b).length = (b - a).toNat := by unfold rng; simp
end HG
end
section
set_option maxHeartbeats 4000000
/-! HGRel: how values, environments of the small language lie in the abstract heap. -/
namespace HG
open PySem PySem.Spec PyProof.Rows L2
/-- the fixed things: the written part, the cup's address, the defs' addresses -/
structure GC where
  P : Program
  w : World
  K : PySem.W.Frag
  ca : Addr
  fa : List Addr
  ea : List Addr
/-! ### keys -/
inductive Ky where
  | non
  | num (i : Int)
  | txt (x : Str)
  deriving DecidableEq
def kyD : Ky → PV
  | .non => .none
  | .num i => .int i
  | .txt x => .str x
def kyV : Ky → V
  | .non => .non
  | .num i => .int i
  | .txt x => .str x
def kyL : Ky → Leaf
  | .non => .none
  | .num i => .num i
  | .txt x => .text x
def kyIs : Ky → Value → Bool
  | .non, .none => true
  | .num i, .int j _ => decide (j = i)
  | .txt x, v => Value.isStrOf x v
  | _, _ => false
theorem kyIs_rel : ∀ {k : Ky} {v : Value}, kyIs k v = true → RelV (kyV k) v
  | .non, v, e => by cases v <;> first | rfl | exact absurd e Bool.false_ne_true
  | .num i, v, e => by
    cases v with
    | int j t =>
      have e' : j = i := of_decide_eq_true e
      subst e'
      exact ⟨t, rfl⟩
    | _ => exact absurd e Bool.false_ne_true
  | .txt x, v, e => by
    obtain ⟨t, rfl⟩ := Value.isStrOf_shape (show Value.isStrOf x v = true from e)
    exact ⟨t, rfl⟩
theorem kyIs_of : ∀ {k : Ky} {v : Value}, RelV (kyV k) v → kyIs k v = true
  | .non, v, e => by
    have e : v = Value.none := e
    subst e; rfl
  | .num i, v, e => by
    obtain ⟨t, rfl⟩ := e
    exact decide_eq_true rfl
  | .txt x, v, e => by
    obtain ⟨t, rfl⟩ := e
    show Value.isStrOf x (.str x t) = true
    simp [Value.isStrOf]
theorem kyIs_leaf {k : Ky} {v : Value} (h : kyIs k v = true) : Leaf.isOf (kyL k) v = true := by
  have r := kyIs_rel h
  cases k with
  | non =>
    have e : v = Value.none := r
    subst e; rfl
  | num i =>
    obtain ⟨t, rfl⟩ := r
    exact decide_eq_true rfl
  | txt x => exact h
theorem kyL_inj {a b : Ky} (h : kyL a = kyL b) : a = b := by
  cases a <;> cases b <;> first | rfl | (cases h; done) | (cases h; rfl)
def kyKind (prog : Program) (w : World) : PySem.KeyKind prog w Ky where
  is := kyIs
  hash := fun k => (kyL k).key.hash w
  inj := fun v a b ha hb => kyL_inj ((leafKind prog w).inj v _ _ (kyIs_leaf ha) (kyIs_leaf hb))
  byValue := fun _ _ h => Leaf.byValue (kyIs_leaf h)
  pyHash := fun hv h => pyHash_leaf (kyIs_leaf hv) h
  eqBool := fun {A E s a b u v Q} hu hv h => (leafKind prog w).eqBool (kyIs_leaf hu) (kyIs_leaf hv) (by
    have e : decide (kyL a = kyL b) = decide (a = b) := by
      by_cases q : a = b
      · rw [decide_eq_true q, decide_eq_true (congrArg kyL q)]
      · rw [decide_eq_false q, decide_eq_false fun z => q (kyL_inj z)]
    rw [e]; exact h)
  «strs» := fun k x t v h => by
    have r := kyIs_rel h
    cases k with
    | non => cases (show Value.str x t = Value.none from r)
    | num i =>
      obtain ⟨u, e⟩ := r
      cases e
    | txt y => exact (leafKind prog w).strs (.text y) x t v h
mutual
/-- a key as it lies -/
def KVal (K : PySem.W.Frag) (H : Hp) : PV → V → Prop
  | .none, v => v = .non
  | .bool b, v => v = .bl b
  | .int i, v => v = .int i
  | .str x, v => v = .str x
  | .tuple ds, v => ∃ a xs, v = .ref a ∧ SqT K H a xs ∧ KVals K H ds xs
  | .list _, _ => False
  | .dict _, _ => False
def KVals (K : PySem.W.Frag) (H : Hp) : List PV → List V → Prop
  | [], xs => xs = []
  | d :: ds, xs => ∃ y ys, xs = y :: ys ∧ KVal K H d y ∧ KVals K H ds ys
end
mutual
theorem KVal.imp {K : PySem.W.Frag} {H H' : Hp} (f : ∀ b ys, SqT K H b ys → SqT K H' b ys) : ∀ {d : PV} {v : V}, KVal K H d v → KVal K H' d v
  | .none, _, h => by unfold KVal at h ⊢; exact h
  | .bool _, _, h => by unfold KVal at h ⊢; exact h
  | .int _, _, h => by unfold KVal at h ⊢; exact h
  | .str _, _, h => by unfold KVal at h ⊢; exact h
  | .tuple ds, _, h => by
    unfold KVal at h ⊢
    obtain ⟨a, xs, e, h1, h2⟩ := h
    exact ⟨a, xs, e, f _ _ h1, KVals.imp f h2⟩
  | .list _, _, h => by unfold KVal at h; exact h.elim
  | .dict _, _, h => by unfold KVal at h; exact h.elim
theorem KVals.imp {K : PySem.W.Frag} {H H' : Hp} (f : ∀ b ys, SqT K H b ys → SqT K H' b ys) : ∀ {ds : List PV} {vs : List V}, KVals K H ds vs → KVals K H' ds vs
  | [], _, h => by unfold KVals at h ⊢; exact h
  | d :: ds, _, h => by
    unfold KVals at h ⊢
    obtain ⟨y, ys, e, h1, h2⟩ := h
    exact ⟨y, ys, e, KVal.imp f h1, KVals.imp f h2⟩
end
/-- a dict told by its object -/
def dO (a : Addr) (o : Obj) : HO := .ext fun h => h.get? a = some o
/-- pairs of which the keys are tuples, as they lie -/
abbrev KTS (K : PySem.W.Frag) (H : Hp) : List (PV × V) → List (NestedKey × Addr × Value) → Prop := Paired fun p q => (tkey p.1 = true ∧ q.1 = nk p.1) ∧ KVal K H p.1 (.ref q.2.1) ∧ RelV p.2 q.2.2
/-- a dict at a: its pairs in order -/
inductive DRep (g : GC) (H : Hp) (a : Addr) : List (PV × V) → Prop
  | k {kvs : List (Ky × V)} {vs : List (Ky × Value)} {o : Obj} {es : Array DictEntry} {ep : Nat} : H a = some (dO a o) → o.ExactDict → o.data = .dict es ep → KeysOf (kyKind g.P g.w) es → Pairs (kyKind g.P g.w) es.toList vs →
      (vs.map (·.1)).Nodup → KV kvs vs → kvs.length ≤ sizeLine → (a == sysModules) = false → DRep g H a (kvs.map fun p => (kyD p.1, p.2))
  | t {kvs : List (PV × V)} {xs : List (NestedKey × Addr × Value)} {o : Obj} {es : Array DictEntry} {ep : Nat} : H a = some (dO a o) → o.ExactDict → o.data = .dict es ep → es.toList = xs.map (entryOfKey (nestedKind g.P g.w)) →
      (xs.map (·.1)).Nodup → KTS g.K H kvs xs → kvs.length ≤ sizeLine → (a == sysModules) = false → DRep g H a kvs
mutual
inductive Rep (g : GC) (H : Hp) (F : Addr → Prop) : V → PV → Prop
  | non : Rep g H F .non .none
  | bl (b : Bool) : Rep g H F (.bl b) (.bool b)
  | int (i : Int) : Rep g H F (.int i) (.int i)
  | str (x : Str) : Rep g H F (.str x) (.str x)
  | tup {a : Addr} {xs : List V} {ds : List PV} : SqT g.K H a xs → Reps g H F xs ds → Rep g H F (.ref a) (.tuple ds)
  | lst {a : Addr} {xs : List V} {ds : List PV} : H a = some (.lst xs) → F a → a ≠ g.ca → Reps g H F xs ds → Rep g H F (.ref a) (.list ds)
  | dct {a : Addr} {kvs : List (PV × V)} {ds : List PV} {d : PV} : DRep g H a kvs → F a → a ≠ g.ca → Reps g H F (kvs.map (·.2)) ds → plainD d = true → d = .dict ((kvs.map (·.1)).zip ds) → Rep g H F (.ref a) d
  | cup {d : PV} : d = cupV → Rep g H F (.ref g.ca) d
  | fn {n : Nat} {f : Addr} {d : PV} : g.fa[n]? = some f → d = fnV n → Rep g H F (.ref f) d
inductive Reps (g : GC) (H : Hp) (F : Addr → Prop) : List V → List PV → Prop
  | nil : Reps g H F [] []
  | cons {v : V} {vs : List V} {d : PV} {ds : List PV} : Rep g H F v d → Reps g H F vs ds → Reps g H F (v :: vs) (d :: ds)
end
/-- what stays: all but the cup's list and the tables of code objects -/
def Ext (ca : Addr) (H H' : Hp) : Prop := ∀ b o, H b = some o → (b ≠ ca ∨ (∃ xs, o = .tup xs) ∨ ∃ ob u, o = .frz ob u) → (∀ ps, o ≠ .tbl ps) → H' b = some o
theorem Ext.refl {ca : Addr} (H : Hp) : Ext ca H H := fun _ _ h _ _ => h
theorem Ext.trans {ca : Addr} {H H1 H2 : Hp} (a : Ext ca H H1) (b : Ext ca H1 H2) : Ext ca H H2 := fun c o h n m => b c o (a c o h n m) n m
theorem Ext.upd {ca : Addr} {H : Hp} {p : Addr} {o : HO} (h : H p = none) : Ext ca H (upd H p o) := fun b u e _ _ => by rw [upd_ne (ne_of_none e h)]; exact e
theorem Ext.tup {ca : Addr} {H H' : Hp} {a : Addr} {xs : List V} (x : Ext ca H H') (h : H a = some (.tup xs)) : H' a = some (.tup xs) := x a _ h (.inr (.inl ⟨xs, rfl⟩)) (fun _ z => by cases z)
theorem Ext.sqT {g : GC} {H H' : Hp} {a : Addr} {xs : List V} (x : Ext g.ca H H') (h : SqT g.K H a xs) : SqT g.K H' a xs := by
  rcases h with (h | ⟨o, h⟩) | h
  · exact .inl (.inl (x.tup h))
  · exact .inl (.inr ⟨o, x a _ h (.inr (.inr ⟨_, _, rfl⟩)) (fun _ z => by cases z)⟩)
  · exact .inr h
theorem Ext.lst {ca : Addr} {H H' : Hp} {a : Addr} {xs : List V} (x : Ext ca H H') (n : a ≠ ca) (h : H a = some (.lst xs)) : H' a = some (.lst xs) := x a _ h (.inl n) (fun _ z => by cases z)
theorem KTS.imp {K : PySem.W.Frag} {H H' : Hp} {kvs : List (PV × V)} {xs : List (NestedKey × Addr × Value)} (f : ∀ b ys, SqT K H b ys → SqT K H' b ys) (r : KTS K H kvs xs) : KTS K H' kvs xs :=
  Paired.mapP r fun _ _ z => ⟨z.1, KVal.imp f z.2.1, z.2.2⟩
theorem DRep.map {g : GC} {H H' : Hp} {a : Addr} {kvs : List (PV × V)} (e : H' a = H a) (f : ∀ b ys, SqT g.K H b ys → SqT g.K H' b ys) (h : DRep g H a kvs) : DRep g H' a kvs := by
  cases h with
  | k h h1 h2 h3 h4 h5 h6 h7 h8 => exact .k (e.trans h) h1 h2 h3 h4 h5 h6 h7 h8
  | t h h1 h2 h3 h4 h5 h6 h7 => exact .t (e.trans h) h1 h2 h3 h4 (h5.imp f) h6 h7
theorem DRep.at_ {g : GC} {H : Hp} {a : Addr} {kvs : List (PV × V)} (h : DRep g H a kvs) : ∃ o, H a = some (dO a o) := by
  cases h with
  | k h _ _ _ _ _ _ _ _ => exact ⟨_, h⟩
  | t h _ _ _ _ _ _ _ => exact ⟨_, h⟩
theorem DRep.ext {g : GC} {H H' : Hp} {a : Addr} {kvs : List (PV × V)} (x : Ext g.ca H H') (n : a ≠ g.ca) (h : DRep g H a kvs) : DRep g H' a kvs := by
  cases h with
  | k h h1 h2 h3 h4 h5 h6 h7 h8 => exact .k (x a _ h (.inl n) (fun _ z => by cases z)) h1 h2 h3 h4 h5 h6 h7 h8
  | t h h1 h2 h3 h4 h5 h6 h7 => exact .t (x a _ h (.inl n) (fun _ z => by cases z)) h1 h2 h3 h4 (h5.imp fun _ _ z => x.sqT z) h6 h7
theorem Rep.ext {g : GC} {H H' : Hp} {F F' : Addr → Prop} (x : Ext g.ca H H') (f : ∀ a, F a → F' a) {d : PV} {v : V} (h : Rep g H F v d) : Rep g H' F' v d :=
  Rep.rec (motive_1 := fun v d _ => Rep g H' F' v d) (motive_2 := fun vs ds _ => Reps g H' F' vs ds)
    .non (fun b => .bl b) (fun i => .int i) (fun y => .str y) (fun h _ r => .tup (x.sqT h) r) (fun h k n _ r => .lst (x.lst n h) (f _ k) n r)
    (fun h k n _ c e r => .dct (h.ext x n) (f _ k) n r c e) (fun e => .cup e) (fun h e => .fn h e) .nil (fun _ _ h r => .cons h r) h
theorem Reps.ext {g : GC} {H H' : Hp} {F F' : Addr → Prop} (x : Ext g.ca H H') (f : ∀ a, F a → F' a) : ∀ {ds : List PV} {vs : List V}, Reps g H F vs ds → Reps g H' F' vs ds
  | _, _, .nil => .nil
  | _, _, .cons h r => .cons (Rep.ext x f h) (Reps.ext x f r)
section
variable {g : GC} {H H' : Hp} {F F' : Addr → Prop}
theorem Reps.length : ∀ {vs : List V} {ds : List PV}, Reps g H F vs ds → vs.length = ds.length
  | _, _, .nil => rfl
  | _, _, .cons _ r => congrArg Nat.succ (Reps.length r)
theorem Reps.get : ∀ {vs : List V} {ds : List PV} {i : Nat} {d : PV}, Reps g H F vs ds → ds[i]? = some d → ∃ v, vs[i]? = some v ∧ Rep g H F v d
  | _, _, _, _, .nil, e => by simp at e
  | _, _, 0, _, .cons r _, e => by simp at e; subst e; exact ⟨_, rfl, r⟩
  | _, _, i + 1, d, .cons _ t, e => by
    obtain ⟨u, h1, h2⟩ := Reps.get (i := i) (d := d) t (by simpa using e)
    exact ⟨u, by simpa using h1, h2⟩
theorem Reps.getV : ∀ {vs : List V} {ds : List PV} {i : Nat} {v : V}, Reps g H F vs ds → vs[i]? = some v → ∃ d, ds[i]? = some d ∧ Rep g H F v d
  | _, _, _, _, .nil, e => by simp at e
  | _, _, 0, _, .cons r _, e => by simp at e; subst e; exact ⟨_, rfl, r⟩
  | _, _, i + 1, d, .cons _ t, e => by
    obtain ⟨u, h1, h2⟩ := Reps.getV (i := i) (v := d) t (by simpa using e)
    exact ⟨u, by simpa using h1, h2⟩
theorem Reps.append : ∀ {xs ys : List V} {us ws : List PV}, Reps g H F xs us → Reps g H F ys ws → Reps g H F (xs ++ ys) (us ++ ws)
  | _, _, _, _, .nil, s => s
  | _, _, _, _, .cons r t, s => .cons r (Reps.append t s)
theorem Reps.take : ∀ {xs : List V} {us : List PV} (n : Nat), Reps g H F xs us → Reps g H F (xs.take n) (us.take n)
  | _, _, 0, _ => .nil
  | _, _, _ + 1, .nil => .nil
  | _, _, n + 1, .cons r t => .cons r (Reps.take n t)
theorem Reps.drop : ∀ {xs : List V} {us : List PV} (n : Nat), Reps g H F xs us → Reps g H F (xs.drop n) (us.drop n)
  | _, _, 0, r => r
  | _, _, _ + 1, .nil => .nil
  | _, _, n + 1, .cons _ t => Reps.drop n t
theorem Reps.set {x : V} {u : PV} (r : Rep g H F x u) : ∀ {xs : List V} {us : List PV} (i : Nat), Reps g H F xs us → Reps g H F (xs.set i x) (us.set i u)
  | _, _, _, .nil => .nil
  | _, _, 0, .cons _ t => .cons r t
  | _, _, i + 1, .cons q t => .cons q (Reps.set r i t)
theorem Reps.eraseIdx : ∀ {xs : List V} {us : List PV} (i : Nat), Reps g H F xs us → Reps g H F (xs.eraseIdx i) (us.eraseIdx i)
  | _, _, _, .nil => .nil
  | _, _, 0, .cons _ t => t
  | _, _, i + 1, .cons q t => .cons q (Reps.eraseIdx i t)
theorem Reps.rev {xs : List V} {us : List PV} (h : Reps g H F xs us) : Reps g H F xs.reverse us.reverse := by
  induction xs generalizing us with
  | nil => cases h; exact .nil
  | cons x xs ih =>
    cases h with
    | cons r t => rw [List.reverse_cons, List.reverse_cons]; exact (ih t).append (.cons r .nil)
theorem Reps.of_get : ∀ {xs : List V} {us : List PV}, xs.length = us.length → (∀ (i : Nat) (x : V) (u : PV), xs[i]? = some x → us[i]? = some u → Rep g H F x u) → Reps g H F xs us
  | [], [], _, _ => .nil
  | [], _ :: _, h, _ => by cases h
  | _ :: _, [], h, _ => by cases h
  | x :: xs, u :: us, h, k => .cons (k 0 x u rfl rfl) (Reps.of_get (by simpa using h) fun i x u h1 h2 => k (i + 1) x u (by simpa using h1) (by simpa using h2))
theorem Reps.ints (is : List Int) : Reps g H F (is.map V.int) (is.map PyData.int) := by
  induction is with
  | nil => exact .nil
  | cons i r ih => exact .cons (.int i) ih
/-- what lies at a: a list, a dict -/
def Lay (g : GC) (H : Hp) (F : Addr → Prop) (a : Addr) (p : PV) : Prop :=
  (∃ xs ds, H a = some (.lst xs) ∧ Reps g H F xs ds ∧ p = .list ds) ∨
    ∃ kvs ds, DRep g H a kvs ∧ Reps g H F (kvs.map (·.2)) ds ∧ p = .dict ((kvs.map (·.1)).zip ds)
def isMut : PV → Bool
  | .list _ => true
  | .dict kvs => plainD (.dict kvs)
  | _ => false
theorem plainD_cup : plainD cupV = false := rfl
theorem plainD_fn (n : Nat) : plainD (fnV n) = false := by
  unfold plainD fnV isCup unFn
  rfl
theorem isMut_dict {kvs : List (PV × PV)} (h : isMut (.dict kvs) = true) : plainD (.dict kvs) = true := h
theorem Rep.mut {v : V} {p : PV} (h : Rep g H F v p) (m : isMut p = true) : ∃ a, v = .ref a ∧ F a ∧ a ≠ g.ca ∧ Lay g H F a p := by
  cases h with
  | lst h k n r => exact ⟨_, rfl, k, n, .inl ⟨_, _, h, r, rfl⟩⟩
  | dct h k n r c e => exact ⟨_, rfl, k, n, .inr ⟨_, _, h, r, e⟩⟩
  | cup e => subst e; exact absurd (show false = true from m) Bool.false_ne_true
  | @fn n f d h e =>
    subst e
    exact absurd ((plainD_fn n).symm.trans m) Bool.false_ne_true
  | _ => cases m
theorem Lay.rep {a : Addr} {p : PV} (h : Lay g H F a p) (m : isMut p = true) (f : F a) (n : a ≠ g.ca) : Rep g H F (.ref a) p := by
  rcases h with ⟨xs, ds, h, r, rfl⟩ | ⟨kvs, ds, h, r, rfl⟩
  · exact .lst h f n r
  · exact .dct h f n r m rfl
theorem Lay.ext {a : Addr} {p : PV} (x : Ext g.ca H H') (f : ∀ a, F a → F' a) (n : a ≠ g.ca) (h : Lay g H F a p) : Lay g H' F' a p := by
  rcases h with ⟨xs, ds, h, r, rfl⟩ | ⟨kvs, ds, h, r, rfl⟩
  · exact .inl ⟨xs, ds, x.lst n h, r.ext x f, rfl⟩
  · exact .inr ⟨kvs, ds, h.ext x n, r.ext x f, rfl⟩
theorem Lay.there {a : Addr} {p : PV} (h : Lay g H F a p) : ∃ o, H a = some o := by
  rcases h with ⟨xs, ds, h, r, rfl⟩ | ⟨kvs, ds, h, r, rfl⟩
  · exact ⟨_, h⟩
  · cases h with
    | k h _ _ _ _ _ _ _ _ => exact ⟨_, h⟩
    | t h _ _ _ _ _ _ _ => exact ⟨_, h⟩
/-- the value of a name that alone holds it -/
def Own (g : GC) (H : Hp) (F : Addr → Prop) (v : V) (p : PV) : Prop := if isMut p = true then ∃ a, v = .ref a ∧ ¬ F a ∧ a ≠ g.ca ∧ Lay g H F a p else Rep g H F v p
/-- .. of any expression -/
def AnyR (g : GC) (H : Hp) (F : Addr → Prop) (v : V) (p : PV) : Prop := if isMut p = true then ∃ a, v = .ref a ∧ a ≠ g.ca ∧ Lay g H F a p else Rep g H F v p
/-- .. of one that makes it anew -/
def New (g : GC) (H₀ H : Hp) (F : Addr → Prop) (v : V) (p : PV) : Prop := if isMut p = true then ∃ a, v = .ref a ∧ ¬ F a ∧ a ≠ g.ca ∧ H₀ a = none ∧ Lay g H F a p else Rep g H F v p
inductive Kd where | any | shr | own
  deriving DecidableEq
def RK (k : Kd) (g : GC) (H₀ H : Hp) (F : Addr → Prop) (v : V) (p : PV) : Prop := match k with
  | .any => AnyR g H F v p
  | .shr => Rep g H F v p
  | .own => New g H₀ H F v p
theorem Rep.any {v : V} {p : PV} (h : Rep g H F v p) : AnyR g H F v p := by
  unfold AnyR
  split
  · rename_i m
    obtain ⟨a, e, f, n, l⟩ := h.mut m
    exact ⟨a, e, n, l⟩
  · exact h
theorem Own.any {v : V} {p : PV} (h : Own g H F v p) : AnyR g H F v p := by
  unfold Own at h
  unfold AnyR
  split
  · rename_i m
    rw [if_pos m] at h
    obtain ⟨a, e, f, n, l⟩ := h
    exact ⟨a, e, n, l⟩
  · rename_i m
    rw [if_neg m] at h
    exact h
theorem New.any {H₀ : Hp} {v : V} {p : PV} (h : New g H₀ H F v p) : AnyR g H F v p := by
  unfold New at h
  unfold AnyR
  split
  · rename_i m
    rw [if_pos m] at h
    obtain ⟨a, e, f, n, _, l⟩ := h
    exact ⟨a, e, n, l⟩
  · rename_i m
    rw [if_neg m] at h
    exact h
theorem Rep.new {H₀ : Hp} {v : V} {p : PV} (h : Rep g H F v p) (m : isMut p = false) : New g H₀ H F v p := by
  unfold New
  rw [if_neg (by rw [m]; exact Bool.false_ne_true)]
  exact h
theorem New.rep {H₀ : Hp} {v : V} {p : PV} (h : New g H₀ H F v p) (m : isMut p = false) : Rep g H F v p := by
  unfold New at h
  rw [if_neg (by rw [m]; exact Bool.false_ne_true)] at h
  exact h
theorem AnyR.rep {v : V} {p : PV} (h : AnyR g H F v p) (m : isMut p = false) : Rep g H F v p := by
  unfold AnyR at h
  rw [if_neg (by rw [m]; exact Bool.false_ne_true)] at h
  exact h
theorem AnyR.ext {v : V} {p : PV} (x : Ext g.ca H H') (f : ∀ a, F a → F' a) (h : AnyR g H F v p) : AnyR g H' F' v p := by
  unfold AnyR at h ⊢
  split at h
  · rename_i m
    rw [if_pos m]
    obtain ⟨a, e, n, l⟩ := h
    exact ⟨a, e, n, l.ext x f n⟩
  · rename_i m
    rw [if_neg m]
    exact h.ext x f
end
/-! ### the state -/
def CupOk (ca : Addr) (H : Hp) : Prop := ∃ c d : Int, H ca = some (.lst [.int c, .int d]) ∧ 0 ≤ c ∧ 0 ≤ d ∧ d < 2 ^ 62
def isO (Γ : List Bool) (i : Nat) : Bool := Γ.getD i false
structure EnvR (g : GC) (H : Hp) (F : Addr → Prop) (Γ : List Bool) (σ : L2.St) (ρ : Env) : Prop where
  len : ρ.length = σ.length
  get : ∀ i p, ρ[i]? = some (some p) → ∃ v, σ[i]? = some (some v) ∧ (if isO Γ i = true then Own g H F v p else Rep g H F v p)
  apart : ∀ i j p q a, i ≠ j → isO Γ i = true → isO Γ j = true → ρ[i]? = some (some p) → ρ[j]? = some (some q) → isMut p = true → isMut q = true → σ[i]? = some (some (V.ref a)) → σ[j]? ≠ some (some (V.ref a))
structure Sta (g : GC) (H : Hp) (F : Addr → Prop) (Γ : List Bool) (σ : L2.St) (ρ : Env) : Prop where
  env : EnvR g H F Γ σ ρ
  cup : CupOk g.ca H
  fca : ¬ F g.ca
  fin : ∀ a, F a → ∃ o, H a = some o
structure Grow (g : GC) (H : Hp) (F : Addr → Prop) (H' : Hp) (F' : Addr → Prop) : Prop where
  ext : Ext g.ca H H'
  mono : ∀ a, F a → F' a
  new : ∀ a, F' a → F a ∨ H a = none
  cup : CupOk g.ca H'
  fca : ¬ F' g.ca
  fin : ∀ a, F' a → ∃ o, H' a = some o
  there : ∀ a o, H a = some o → ∃ o', H' a = some o'
section
variable {g : GC} {H H1 H2 H' : Hp} {F F1 F2 F' : Addr → Prop} {Γ : List Bool} {σ : L2.St} {ρ : Env}
theorem Grow.refl (c : CupOk g.ca H) (f : ¬ F g.ca) (n : ∀ a, F a → ∃ o, H a = some o) : Grow g H F H F := ⟨Ext.refl H, fun _ h => h, fun _ h => .inl h, c, f, n, fun _ o h => ⟨o, h⟩⟩
theorem Sta.self (s : Sta g H F Γ σ ρ) : Grow g H F H F := Grow.refl s.cup s.fca s.fin
theorem Grow.trans (a : Grow g H F H1 F1) (b : Grow g H1 F1 H2 F2) : Grow g H F H2 F2 where
  ext := a.ext.trans b.ext
  mono := fun c h => b.mono c (a.mono c h)
  new := fun c h => by
    rcases b.new c h with h | h
    · exact a.new c h
    · right
      cases e : H c with
      | none => rfl
      | some o =>
        obtain ⟨o', z⟩ := a.there c o e
        rw [h] at z; cases z
  cup := b.cup
  fca := b.fca
  fin := b.fin
  there := fun c o h => by
    obtain ⟨o1, h1⟩ := a.there c o h
    exact b.there c o1 h1
theorem Own.grow {v : V} {p : PV} (w : Grow g H F H' F') (h : Own g H F v p) : Own g H' F' v p := by
  unfold Own at h ⊢
  split at h
  · rename_i m
    rw [if_pos m]
    obtain ⟨a, e, f, n, l⟩ := h
    refine ⟨a, e, fun q => ?_, n, l.ext w.ext w.mono n⟩
    rcases w.new a q with q | q
    · exact f q
    · obtain ⟨o, z⟩ := l.there
      rw [q] at z; cases z
  · rename_i m
    rw [if_neg m]
    exact h.ext w.ext w.mono
theorem EnvR.grow (w : Grow g H F H' F') (s : EnvR g H F Γ σ ρ) : EnvR g H' F' Γ σ ρ where
  len := s.len
  get := fun i p e => by
    obtain ⟨v, h, r⟩ := s.get i p e
    refine ⟨v, h, ?_⟩
    split at r
    · rename_i m; rw [if_pos m]; exact r.grow w
    · rename_i m; rw [if_neg m]; exact r.ext w.ext w.mono
  apart := s.apart
theorem Sta.grow (w : Grow g H F H' F') (s : Sta g H F Γ σ ρ) : Sta g H' F' Γ σ ρ := ⟨s.env.grow w, w.cup, w.fca, w.fin⟩
/-- a new thing counted among those that stay -/
theorem Grow.freeze (w : Grow g H F H' F') {a : Addr} (n : H a = none) (c : a ≠ g.ca) (h : ∃ o, H' a = some o) : Grow g H F H' (fun b => F' b ∨ b = a) where
  ext := w.ext
  mono := fun b h => .inl (w.mono b h)
  new := fun b h => by
    rcases h with h | h
    · exact w.new b h
    · rw [h]; exact .inr n
  cup := w.cup
  fca := fun h => by
    rcases h with h | h
    · exact w.fca h
    · exact c h.symm
  fin := fun b k => by
    rcases k with k | k
    · exact w.fin b k
    · rw [k]; exact h
  there := w.there
theorem New.frozen {v : V} {p : PV} (w : Grow g H F H' F') (h : New g H H' F' v p) : ∃ F2, Grow g H F H' F2 ∧ Rep g H' F2 v p ∧ ∀ a, F' a → F2 a := by
  unfold New at h
  split at h
  · rename_i m
    obtain ⟨a, rfl, f, n, e, l⟩ := h
    refine ⟨_, w.freeze e n l.there, Lay.rep (l.ext (Ext.refl H') (fun b h => .inl h) n) m (.inr rfl) n, fun b h => .inl h⟩
  · exact ⟨F', w, h, fun _ h => h⟩
end
/-! ### exceptions -/
def XRep (g : GC) (H : Hp) (x : PV) (cls : Value) (d : Option Addr) : Prop := ∃ c C, x = errV c [] ∧ g.ea[c]? = some C ∧ cls = .ref C ∧ d = none
def EXW (g : GC) (W : WX) (σ : L2.St) (H : Hp) (x : PV) : Prop := ∀ cls d H', Ext g.ca H H' → CupOk g.ca H' → XRep g H' x cls d → W cls d σ H'
theorem EXW.grow {g : GC} {W : WX} {σ : L2.St} {H H' : Hp} {F F' : Addr → Prop} {x : PV} (w : Grow g H F H' F') (h : EXW g W σ H x) : EXW g W σ H' x := fun cls d H2 e c r => h cls d H2 (w.ext.trans e) c r
/-- the reading of an expression: m what it denotes, k how its value lies -/
def TX (g : GC) (W : WX) (Γ : List Bool) (k : Kd) (m : Env → M PV) : TE := fun σ H Q => ∃ F ρ Qd E, Sta g H F Γ σ ρ ∧ m ρ Qd E ∧
  (∀ p, Qd p → ∀ v H' F', Grow g H F H' F' → RK k g H H' F' v p → Q v H') ∧ ∀ x, E x → EXW g W σ H x
/-- .. of a list of expressions -/
def TXs (g : GC) (W : WX) (Γ : List Bool) (m : Env → M (List PV)) : TA := fun σ H Q => ∃ F ρ Qd E, Sta g H F Γ σ ρ ∧ m ρ Qd E ∧
  (∀ ps, Qd ps → ∀ vs H' F', Grow g H F H' F' → Reps g H' F' vs ps → Q vs H') ∧ ∀ x, E x → EXW g W σ H x
theorem _root_.L2.PE.imp {X : Cx} {e : Expr} {t u : TE} (h : PE X e t) (i : ∀ σ H Q, u σ H Q → t σ H Q) : PE X e u := ⟨fun pins s σ H Q I q => h.run pins s σ H Q I (i σ H Q q)⟩
theorem _root_.L2.PA.imp {X : Cx} {e : List Expr} {t u : TA} (h : PA X e t) (i : ∀ σ H Q, u σ H Q → t σ H Q) : PA X e u := ⟨fun pos pins s σ H Q I q => h.run pos pins s σ H Q I (i σ H Q q)⟩
theorem _root_.L2.PT.imp {X : Cx} {e : Expr} {t u : TT} (h : PT X e t) (i : ∀ σ H Q, u σ H Q → t σ H Q) : PT X e u := ⟨fun pins s σ H Q I q => h.run pins s σ H Q I (i σ H Q q)⟩
theorem _root_.L2.PS.imp {X : Cx} {e : Stmt} {t u : TS} (h : PS X e t) (i : ∀ D σ H, u D σ H → t D σ H) : PS X e u := ⟨fun pins s σ H D I q => h.run pins s σ H D I (i D σ H q)⟩
theorem _root_.L2.PSs.imp {X : Cx} {e : List Stmt} {t u : TS} (h : PSs X e t) (i : ∀ D σ H, u D σ H → t D σ H) : PSs X e u := ⟨fun pins s σ H D I q => h.run pins s σ H D I (i D σ H q)⟩
section
variable {g : GC} {W : WX} {Γ : List Bool} {m : Env → M PV}
theorem TX.any_of_shr {σ : L2.St} {H : Hp} {Q : VK} (h : TX g W Γ .any m σ H Q) : TX g W Γ .shr m σ H Q := by
  obtain ⟨F, ρ, Qd, E, s, hm, q, x⟩ := h
  exact ⟨F, ρ, Qd, E, s, hm, fun p hp v H' F' w r => q p hp v H' F' w (Rep.any r), x⟩
theorem TX.any_of_own {σ : L2.St} {H : Hp} {Q : VK} (h : TX g W Γ .any m σ H Q) : TX g W Γ .own m σ H Q := by
  obtain ⟨F, ρ, Qd, E, s, hm, q, x⟩ := h
  exact ⟨F, ρ, Qd, E, s, hm, fun p hp v H' F' w r => q p hp v H' F' w (New.any r), x⟩
theorem TX.shr_of_own {σ : L2.St} {H : Hp} {Q : VK} (h : TX g W Γ .shr m σ H Q) : TX g W Γ .own m σ H Q := by
  obtain ⟨F, ρ, Qd, E, s, hm, q, x⟩ := h
  refine ⟨F, ρ, Qd, E, s, hm, fun p hp v H' F' w r => ?_, x⟩
  obtain ⟨F2, w2, r2, _⟩ := New.frozen w r
  exact q p hp v H' F2 w2 r2
theorem PE.of_own {X : Cx} {e : Expr} (k : Kd) (h : PE X e (TX g W Γ .own m)) : PE X e (TX g W Γ k m) := by
  cases k with
  | any => exact h.imp fun _ _ _ q => q.any_of_own
  | shr => exact h.imp fun _ _ _ q => q.shr_of_own
  | own => exact h
/-- a value that is never changed: as new -/
theorem TX.own_of_scal {σ : L2.St} {H : Hp} {Q : VK} (h : TX g W Γ .own m σ H Q) : ∃ F ρ Qd E, Sta g H F Γ σ ρ ∧ m ρ Qd E ∧
  (∀ p, Qd p → isMut p = false → ∀ v H' F', Grow g H F H' F' → Rep g H' F' v p → Q v H') ∧ ∀ x, E x → EXW g W σ H x := by
  obtain ⟨F, ρ, Qd, E, s, hm, q, x⟩ := h
  exact ⟨F, ρ, Qd, E, s, hm, fun p hp z v H' F' w r => q p hp v H' F' w (Rep.new r z), x⟩
end
end HG
end
section
set_option maxHeartbeats 4000000
/-! HGTup: a tuple taken once, or not at all. -/
namespace HG
open PySem PySem.Spec PyProof.Rows L2
theorem mulT_same (l : Addr) (items : Array Value) (n : Nat) (dd : Option Addr) (sl : Array (Option Value)) (x : Int) (u : Tok) (c0 : (decide (x < -(2 ^ 63)) || decide (x ≥ 2 ^ 63)) = false) (c1 : (items.isEmpty || x == 1) = true) :
    Meets (Builtin.«tuple.__mul__» ⟨[.ref l, .int x u], []⟩) (fun _ R s => s.heap.get? l = some { cls := .type "tuple", dict := dd, data := .seq items n, slots := sl } ∧ R (.ok (.ret (Value.ref l))) s) := by
  refine .of_wp fun prog w A R s h => ?_
  obtain ⟨hp, g, d, tk, os⟩ := s
  obtain ⟨hl, h⟩ := h
  have f1 := AutoSeq1.idx_int
  wp_walk using wpAny_loadPart' hl
  repeat (first
    | (refine wpAny_ite_false (decide_eq_false (by rw [c0]; exact Bool.false_ne_true)) ?_; wp_walk using wpAny_loadPart' hl)
    | (refine wpAny_ite_true (decide_eq_true (by rw [c1])) ?_; wp_walk using wpAny_loadPart' hl))
  exact ⟨_, rfl, h⟩
theorem mulT_none (l : Addr) (items : Array Value) (n : Nat) (dd : Option Addr) (sl : Array (Option Value)) (x : Int) (u : Tok) (c0 : (decide (x < -(2 ^ 63)) || decide (x ≥ 2 ^ 63)) = false) (c1 : (items.isEmpty || x == 1) = false) (c2 : (decide (x ≤ 0) || items.isEmpty) = true) :
    Meets (Builtin.«tuple.__mul__» ⟨[.ref l, .int x u], []⟩) (fun _ R s => s.heap.get? l = some { cls := .type "tuple", dict := dd, data := .seq items n, slots := sl } ∧
      R (.ok (.ret (Value.ref s.heap.objs.size))) { s with heap := s.heap.push { cls := Value.type "tuple", data := Data.seq #[] }, toks := s.toks }) := by
  refine .of_wp fun prog w A R s h => ?_
  obtain ⟨hp, g, d, tk, os⟩ := s
  obtain ⟨hl, h⟩ := h
  have f1 := AutoSeq1.idx_int
  wp_walk using wpAny_loadPart' hl
  repeat (first
    | (refine wpAny_ite_false (decide_eq_false (by rw [c0]; exact Bool.false_ne_true)) ?_; wp_walk using wpAny_loadPart' hl)
    | (refine wpAny_ite_false (decide_eq_false (by rw [c1]; exact Bool.false_ne_true)) ?_; wp_walk using wpAny_loadPart' hl)
    | (refine wpAny_ite_true (decide_eq_true (by rw [c2])) ?_; wp_walk using wpAny_loadPart' hl))
  exact ⟨_, rfl, h⟩
def rRepA (K : PySem.W.Frag) : R2 := fun x y H Q => ∃ l k xs, x = .ref l ∧ y = .int k ∧ SqT K H l xs ∧ -(2 ^ 63) ≤ k ∧ k ≤ 1000 ∧ xs.length ≤ 1000 ∧ ((xs = [] ∨ k = 1) → Q (.ref l) H) ∧ (xs ≠ [] → k ≠ 1 → ∀ p, H p = none → Q (.ref p) (upd H p (.tup (List.replicate k.toNat xs).flatten)))
theorem op_repA {X : Cx} : OpR X (binaryOp .Mult) (rRepA X.K) := by
  intro pins s σ H x y v u Q I rx ry h
  obtain ⟨l, k, xs, rfl, rfl, hT, h0, h2, hz, q1, q2⟩ := h
  by_cases c : xs ≠ [] ∧ 2 ≤ k
  · exact op_repT pins s σ H _ _ v u Q I rx ry ⟨l, k, xs, rfl, rfl, hT, c.1, c.2, h2, hz, q2 c.1 (by omega)⟩
  cases rx
  obtain ⟨t, rfl⟩ := ry
  obtain ⟨its, r, ⟨⟨cls, dd, data, sl⟩, ho, hc, n, hd⟩, hs⟩ := I.tuple hT
  simp only at hc hd
  subst hc hd
  have hle : its.length = xs.length := r.length.symm
  have c0 : (decide (k < -(2 ^ 63)) || decide (k ≥ 2 ^ 63)) = false := by rw [decide_eq_false (by omega), decide_eq_false (by omega)] <;> rfl
  by_cases c1 : (its.toArray.isEmpty || k == 1) = true
  · have hx : xs = [] ∨ k = 1 := by
      rw [Bool.or_eq_true] at c1
      rcases c1 with c1 | c1
      · left
        have : its = [] := by simpa using c1
        rw [this] at hle
        exact List.eq_nil_of_length_eq_zero hle.symm
      · exact .inr (eq_of_beq c1)
    refine wpAny_binaryOp_repeat_ref (T := "tuple") (U := "int") (by decide) ⟨_, ho, rfl⟩ (fun s' => typeIs_int s' k t) noFill_tuple_mul F.fills_int_mul F.slot_int_rmul repeat_tuple F.slot_int_index.lookup
      (call_meets F.slot_int_rmul (typeIs_int s k t) F.entry_int_rmul (F.args_int_rmul_2 _ _) (int_rmul_tuple k t l its.toArray n dd sl)
        ⟨ho, rfl, ⟨_, ho, rfl⟩, call_meets F.slot_tuple_mul ⟨_, ho, rfl⟩ F.entry_tuple_mul (F.args_tuple_mul_2 _ _) (mulT_same l its.toArray n dd sl k t c0 c1) ⟨ho, ?_⟩⟩)
    exact ⟨.ref l, H, I, rfl, q1 hx⟩
  · have c1 : (its.toArray.isEmpty || k == 1) = false := by simpa using c1
    rw [Bool.or_eq_false_iff] at c1
    have hne : xs ≠ [] := fun e => by
      rw [e] at hle
      have : its = [] := List.eq_nil_of_length_eq_zero hle
      rw [this] at c1
      exact absurd c1.1 (by decide)
    have hk1 : k ≠ 1 := by have := c1.2; simpa using this
    have hk : k ≤ 0 := by
      have : ¬ 2 ≤ k := fun h => c ⟨hne, h⟩
      omega
    have c2 : (decide (k ≤ 0) || its.toArray.isEmpty) = true := by rw [decide_eq_true hk]; rfl
    refine wpAny_binaryOp_repeat_ref (T := "tuple") (U := "int") (by decide) ⟨_, ho, rfl⟩ (fun s' => typeIs_int s' k t) noFill_tuple_mul F.fills_int_mul F.slot_int_rmul repeat_tuple F.slot_int_index.lookup
      (call_meets F.slot_int_rmul (typeIs_int s k t) F.entry_int_rmul (F.args_int_rmul_2 _ _) (int_rmul_tuple k t l its.toArray n dd sl)
        ⟨ho, rfl, ⟨_, ho, rfl⟩, call_meets F.slot_tuple_mul ⟨_, ho, rfl⟩ F.entry_tuple_mul (F.args_tuple_mul_2 _ _) (mulT_none l its.toArray n dd sl k t c0 (by rw [c1.1, c1.2]; rfl) c2) ⟨ho, ?_⟩⟩)
    have q := q2 hne hk1 _ (I.hok.fresh (Nat.le_refl s.heap.objs.size))
    have e0 : (List.replicate k.toNat xs).flatten = [] := by
      have : k.toNat = 0 := by omega
      rw [this]
      rfl
    rw [e0] at q
    exact ⟨.ref s.heap.objs.size, _, I.laid (t' := s.toks) (o := .tup []) (fun b ob q => Heap.get?_push_of_some _ q) (Nat.le_refl _) ⟨by show 0 ≤ sizeLine; exact Nat.zero_le _, [], .nil, IsTup.new _ _⟩, rfl, q⟩
end HG
end
section
set_option maxHeartbeats 4000000
/-! HGDict: dicts, keys and operations by values. -/
namespace HG
open PySem PySem.Spec PyProof.Rows L2
theorem line_eq : sizeLine = LINE := sizeLine_eq
/-! ### what a value is -/
section
variable {g : GC} {H H₀ : Hp} {F : Addr → Prop} {x : V}
theorem AnyR.int {i : Int} (h : AnyR g H F x (.int i)) : x = .int i := by
  cases (show Rep g H F x (.int i) from h.rep rfl) with
  | int => rfl
  | dct _ _ _ _ _ e => cases e
  | cup e => cases e
  | fn _ e => cases e
theorem AnyR.bool {b : Bool} (h : AnyR g H F x (.bool b)) : x = .bl b := by
  cases (show Rep g H F x (.bool b) from h.rep rfl) with
  | bl => rfl
  | dct _ _ _ _ _ e => cases e
  | cup e => cases e
  | fn _ e => cases e
theorem AnyR.str {b : Str} (h : AnyR g H F x (.str b)) : x = .str b := by
  cases (show Rep g H F x (.str b) from h.rep rfl) with
  | str => rfl
  | dct _ _ _ _ _ e => cases e
  | cup e => cases e
  | fn _ e => cases e
theorem AnyR.none (h : AnyR g H F x .none) : x = .non := by
  cases (show Rep g H F x .none from h.rep rfl) with
  | non => rfl
  | dct _ _ _ _ _ e => cases e
  | cup e => cases e
  | fn _ e => cases e
theorem AnyR.tup {ds : List PV} (h : AnyR g H F x (.tuple ds)) : ∃ a xs, x = .ref a ∧ SqT g.K H a xs ∧ Reps g H F xs ds := by
  cases (show Rep g H F x (.tuple ds) from h.rep rfl) with
  | tup h1 r => exact ⟨_, _, rfl, h1, r⟩
  | dct _ _ _ _ _ e => cases e
  | cup e => cases e
  | fn _ e => cases e
theorem AnyR.lst {ds : List PV} (h : AnyR g H F x (.list ds)) : ∃ a xs, x = .ref a ∧ a ≠ g.ca ∧ H a = some (.lst xs) ∧ Reps g H F xs ds := by
  unfold AnyR at h
  rw [if_pos (show isMut (.list ds) = true from rfl)] at h
  obtain ⟨a, e, n, l⟩ := h
  rcases l with ⟨xs, ds', h, r, e'⟩ | ⟨kvs, ds', h, r, e'⟩
  · cases e'; exact ⟨a, xs, e, n, h, r⟩
  · cases e'
theorem AnyR.dict {ds : KVs} (h : AnyR g H F x (.dict ds)) (m : plainD (.dict ds) = true) : ∃ a kvs vs, x = .ref a ∧ a ≠ g.ca ∧ DRep g H a kvs ∧ Reps g H F (kvs.map (·.2)) vs ∧ ds = (kvs.map (·.1)).zip vs := by
  unfold AnyR at h
  rw [if_pos (show isMut (.dict ds) = true from m)] at h
  obtain ⟨a, e, n, l⟩ := h
  rcases l with ⟨xs, ds', h, r, e'⟩ | ⟨kvs, ds', h, r, e'⟩
  · cases e'
  · cases e'; exact ⟨a, kvs, ds', e, n, h, r, rfl⟩
end
/-! ### keys -/
theorem eqP_key (a b : Ky) : eqP (kyD a) (kyD b) = decide (a = b) := by
  cases a with
  | non =>
    cases b with
    | non => rfl
    | num j => rfl
    | txt y => rfl
  | num i =>
    cases b with
    | non => rfl
    | num j =>
      show decide (i = j) = _
      by_cases h : i = j
      · rw [decide_eq_true h, h]; simp
      · rw [decide_eq_false h, decide_eq_false (fun e => h (Ky.num.inj e))]
    | txt y => rw [decide_eq_false (by intro e; cases e)]; rfl
  | txt x =>
    cases b with
    | non => rfl
    | num j => rw [decide_eq_false (by intro e; cases e)]; rfl
    | txt y =>
      have e : eqP (kyD (.txt x)) (kyD (.txt y)) = (x == y) := rfl
      rw [e]
      by_cases h : x = y
      · rw [h, decide_eq_true rfl]; simp
      · rw [decide_eq_false (fun e => h (Ky.txt.inj e))]; simpa using h
theorem be_dec {α : Type} [BEq α] [LawfulBEq α] [DecidableEq α] (a b : α) : (a == b) = decide (a = b) := by
  by_cases h : a = b
  · rw [h]; simp
  · rw [decide_eq_false h]; exact beq_eq_false_iff_ne.mpr h
mutual
theorem eqv_nk {K : PySem.W.Frag} {H : Hp} : ∀ (a b : PV) (u v : V), KVal K H a u → KVal K H b v → PyData.eqv a b = NestedKey.beq (nk a) (nk b)
  | .none, b, _, _, _, h => by cases b <;> first | rfl | (unfold KVal at h; exact h.elim)
  | .bool x, b, _, _, _, h => by
    cases b with
    | bool y => cases x <;> cases y <;> rfl
    | int j => cases x <;> exact be_dec _ _
    | list _ => unfold KVal at h; exact h.elim
    | dict _ => unfold KVal at h; exact h.elim
    | _ => rfl
  | .int i, b, _, _, _, h => by
    cases b with
    | bool y => exact be_dec _ _
    | int j => exact be_dec _ _
    | list _ => unfold KVal at h; exact h.elim
    | dict _ => unfold KVal at h; exact h.elim
    | _ => rfl
  | .str x, b, _, _, _, h => by
    cases b with
    | str y => exact be_dec _ _
    | list _ => unfold KVal at h; exact h.elim
    | dict _ => unfold KVal at h; exact h.elim
    | _ => rfl
  | .tuple xs, b, _, _, g, h => by
    cases b with
    | tuple ys =>
      unfold KVal at g h
      obtain ⟨_, us, _, _, g⟩ := g
      obtain ⟨_, vs, _, _, h⟩ := h
      show PyData.eqvAll xs ys = NestedKey.beqAll (nks xs) (nks ys)
      exact eqv_nks xs ys us vs g h
    | list _ => unfold KVal at h; exact h.elim
    | dict _ => unfold KVal at h; exact h.elim
    | _ => rfl
  | .list _, _, _, _, g, _ => by unfold KVal at g; exact g.elim
  | .dict _, _, _, _, g, _ => by unfold KVal at g; exact g.elim
theorem eqv_nks {K : PySem.W.Frag} {H : Hp} : ∀ (a b : List PV) (u v : List V), KVals K H a u → KVals K H b v → PyData.eqvAll a b = NestedKey.beqAll (nks a) (nks b)
  | [], [], _, _, _, _ => rfl
  | [], _ :: _, _, _, _, _ => rfl
  | _ :: _, [], _, _, _, _ => rfl
  | a :: as, b :: bs, _, _, g, h => by
    unfold KVals at g h
    obtain ⟨_, us, _, g1, g2⟩ := g
    obtain ⟨_, vs, _, h1, h2⟩ := h
    show (PyData.eqv a b && PyData.eqvAll as bs) = (NestedKey.beq (nk a) (nk b) && NestedKey.beqAll (nks as) (nks bs))
    rw [eqv_nk a b _ _ g1 h1, eqv_nks as bs _ _ g2 h2]
end
theorem eqP_nk {K K' : PySem.W.Frag} {H H' : Hp} {a b : PV} {u v : V} (h1 : KVal K H a u) (h2 : KVal K H b v) : eqP a b = decide (nk a = nk b) := by
  rw [NestedKey.decide_eq]
  exact eqv_nk a b u v h1 h2
theorem nk_depth0 {x : PV} (h : key0 x = true) : (nk x).depth = 0 := by
  cases x <;> first | rfl | exact absurd (show false = true from h) Bool.false_ne_true
theorem nks_depth {n : Nat} : ∀ {xs : List PV}, (∀ x ∈ xs, (nk x).depth ≤ n) → NestedKey.depthAll (nks xs) ≤ n
  | [], _ => Nat.zero_le _
  | x :: xs, h => by
    have h1 := h x List.mem_cons_self
    have h2 := nks_depth (xs := xs) fun y hy => h y (List.mem_cons_of_mem _ hy)
    show max (nk x).depth (NestedKey.depthAll (nks xs)) ≤ n
    omega
theorem nk_depth1 {x : PV} (h : key1 x = true) : (nk x).depth ≤ 1 := by
  cases x with
  | tuple xs =>
    have h : xs.all key0 = true := h
    rw [List.all_eq_true] at h
    exact Nat.succ_le_succ (nks_depth fun y hy => Nat.le_of_eq (nk_depth0 (h y hy)))
  | list _ => exact absurd (show false = true from h) Bool.false_ne_true
  | dict _ => exact absurd (show false = true from h) Bool.false_ne_true
  | _ => exact Nat.zero_le _
theorem nk_depth2 {x : PV} (h : key2 x = true) : (nk x).depth ≤ 2 := by
  cases x with
  | tuple xs =>
    have h : xs.all key1 = true := h
    rw [List.all_eq_true] at h
    exact Nat.succ_le_succ (nks_depth fun y hy => nk_depth1 (h y hy))
  | list _ => exact absurd (show false = true from h) Bool.false_ne_true
  | dict _ => exact absurd (show false = true from h) Bool.false_ne_true
  | _ => exact Nat.zero_le _
theorem nk_depth3 {x : PV} (h : key3 x = true) : (nk x).depth ≤ 3 := by
  cases x with
  | tuple xs =>
    have h : xs.all key2 = true := h
    rw [List.all_eq_true] at h
    exact Nat.succ_le_succ (nks_depth fun y hy => nk_depth2 (h y hy))
  | list _ => exact absurd (show false = true from h) Bool.false_ne_true
  | dict _ => exact absurd (show false = true from h) Bool.false_ne_true
  | _ => exact Nat.zero_le _
theorem nk_depth {x : PV} (h : tkey x = true) : (nk x).depth ≤ 4 := by
  cases x with
  | tuple xs =>
    have h : xs.all key3 = true := h
    rw [List.all_eq_true] at h
    exact Nat.succ_le_succ (nks_depth fun y hy => nk_depth3 (h y hy))
  | _ => exact absurd (show false = true from h) Bool.false_ne_true
mutual
theorem KVal.rep {g : GC} {H : Hp} {F : Addr → Prop} : ∀ {d : PV} {v : V}, KVal g.K H d v → Rep g H F v d
  | .none, _, h => by unfold KVal at h; rw [h]; exact .non
  | .bool b, _, h => by unfold KVal at h; rw [h]; exact .bl b
  | .int i, _, h => by unfold KVal at h; rw [h]; exact .int i
  | .str x, _, h => by unfold KVal at h; rw [h]; exact .str x
  | .tuple ds, _, h => by
    unfold KVal at h
    obtain ⟨a, xs, e, h1, h2⟩ := h
    rw [e]
    exact .tup h1 (KVals.reps h2)
  | .list _, _, h => by unfold KVal at h; exact h.elim
  | .dict _, _, h => by unfold KVal at h; exact h.elim
theorem KVals.reps {g : GC} {H : Hp} {F : Addr → Prop} : ∀ {ds : List PV} {vs : List V}, KVals g.K H ds vs → Reps g H F vs ds
  | [], _, h => by unfold KVals at h; rw [h]; exact .nil
  | d :: ds, _, h => by
    unfold KVals at h
    obtain ⟨y, ys, e, h1, h2⟩ := h
    rw [e]
    exact .cons (KVal.rep h1) (KVals.reps h2)
end
section
variable {g : GC} {H : Hp} {F : Addr → Prop}
theorem Rep.kval0 {y : V} {k : PV} (h : Rep g H F y k) (s : key0 k = true) : KVal g.K H k y := by
  cases k with
  | none => unfold KVal; exact AnyR.none h.any
  | bool b => unfold KVal; exact AnyR.bool h.any
  | int i => unfold KVal; exact AnyR.int h.any
  | str x => unfold KVal; exact AnyR.str h.any
  | _ => exact absurd (show false = true from s) Bool.false_ne_true
theorem Reps.kvals {p : PV → Bool} (f : ∀ {y : V} {k : PV}, Rep g H F y k → p k = true → KVal g.K H k y) : ∀ {ds : List PV} {vs : List V}, Reps g H F vs ds → ds.all p = true → KVals g.K H ds vs
  | _, _, .nil, _ => by unfold KVals; rfl
  | _, _, .cons h r, s => by
    rw [List.all_cons, Bool.and_eq_true] at s
    unfold KVals
    exact ⟨_, _, rfl, f h s.1, Reps.kvals f r s.2⟩
theorem Rep.kval1 {y : V} {k : PV} (h : Rep g H F y k) (s : key1 k = true) : KVal g.K H k y := by
  cases k with
  | tuple ds =>
    obtain ⟨a, xs, e, h1, r⟩ := h.any.tup
    unfold KVal
    exact ⟨a, xs, e, h1, r.kvals Rep.kval0 s⟩
  | list _ => exact absurd (show false = true from s) Bool.false_ne_true
  | dict _ => exact absurd (show false = true from s) Bool.false_ne_true
  | _ => exact h.kval0 s
theorem Rep.kval2 {y : V} {k : PV} (h : Rep g H F y k) (s : key2 k = true) : KVal g.K H k y := by
  cases k with
  | tuple ds =>
    obtain ⟨a, xs, e, h1, r⟩ := h.any.tup
    unfold KVal
    exact ⟨a, xs, e, h1, r.kvals Rep.kval1 s⟩
  | list _ => exact absurd (show false = true from s) Bool.false_ne_true
  | dict _ => exact absurd (show false = true from s) Bool.false_ne_true
  | _ => exact h.kval0 s
theorem Rep.kval3 {y : V} {k : PV} (h : Rep g H F y k) (s : key3 k = true) : KVal g.K H k y := by
  cases k with
  | tuple ds =>
    obtain ⟨a, xs, e, h1, r⟩ := h.any.tup
    unfold KVal
    exact ⟨a, xs, e, h1, r.kvals Rep.kval2 s⟩
  | list _ => exact absurd (show false = true from s) Bool.false_ne_true
  | dict _ => exact absurd (show false = true from s) Bool.false_ne_true
  | _ => exact h.kval0 s
theorem AnyR.kvalT {y : V} {k : PV} (h : AnyR g H F y k) (s : tkey k = true) : KVal g.K H k y := by
  cases k with
  | tuple ds =>
    obtain ⟨a, xs, e, h1, r⟩ := h.tup
    unfold KVal
    exact ⟨a, xs, e, h1, r.kvals Rep.kval3 s⟩
  | _ => exact absurd (show false = true from s) Bool.false_ne_true
end
theorem KVal.ref {K : PySem.W.Frag} {H : Hp} {k : PV} {y : V} (h : KVal K H k y) (s : tkey k = true) : ∃ b, y = .ref b := by
  cases k with
  | tuple ds =>
    unfold KVal at h
    obtain ⟨a, xs, e, _⟩ := h
    exact ⟨a, e⟩
  | _ => exact absurd (show false = true from s) Bool.false_ne_true
/-- the value at a key, as it lies -/
def vget : List (PV × V) → PV → Option V
  | [], _ => none
  | (k', v) :: r, k => if eqP k' k then some v else vget r k
def vput : List (PV × V) → PV → V → List (PV × V)
  | [], k, v => [(k, v)]
  | (k', v') :: r, k, v => if eqP k' k then (k', v) :: r else (k', v') :: vput r k v
theorem vget_k (kk : Ky) : ∀ kvs : List (Ky × V), vget (kvs.map fun p => (kyD p.1, p.2)) (kyD kk) = valV kvs kk
  | [] => rfl
  | p :: r => by
    rw [List.map_cons]
    unfold vget
    rw [eqP_key]
    by_cases h : p.1 = kk
    · rw [decide_eq_true h, valV_pos h]; rfl
    · rw [decide_eq_false h, valV_neg h]; exact vget_k kk r
theorem putK_cons {κ : Type} [DecidableEq κ] (p : κ × V) (r : List (κ × V)) (k : κ) (v : V) (nd : ((p :: r).map (·.1)).Nodup) : putK (p :: r) k v = if p.1 = k then (p.1, v) :: r else p :: putK r k v := by
  rw [List.map_cons, List.nodup_cons] at nd
  unfold putK
  by_cases h : p.1 = k
  · rw [if_pos h, List.any_cons, decide_eq_true h, Bool.true_or, if_pos rfl, List.map_cons, if_pos h]
    congr 1
    conv => rhs; rw [← List.map_id r]
    refine List.map_congr_left fun q hq => ?_
    rw [if_neg fun e => nd.1 (by rw [h, ← e]; exact List.mem_map_of_mem hq)]
    rfl
  · rw [if_neg h, List.any_cons, decide_eq_false h, Bool.false_or]
    split
    · rw [List.map_cons, if_neg h]
    · rfl
theorem vput_k (kk : Ky) (v : V) : ∀ kvs : List (Ky × V), (kvs.map (·.1)).Nodup → vput (kvs.map fun p => (kyD p.1, p.2)) (kyD kk) v = (putK kvs kk v).map fun p => (kyD p.1, p.2)
  | [], _ => rfl
  | p :: r, nd => by
    rw [putK_cons p r kk v nd, List.map_cons]
    unfold vput
    rw [eqP_key]
    rw [List.map_cons, List.nodup_cons] at nd
    by_cases h : p.1 = kk
    · rw [decide_eq_true h, if_pos h]; rfl
    · rw [decide_eq_false h, if_neg h, List.map_cons, ← vput_k kk v r nd.2]; rfl
theorem length_vput (k : PV) (v : V) : ∀ kvs : List (PV × V), (vput kvs k v).length ≤ kvs.length + 1
  | [] => Nat.le_refl _
  | p :: r => by
    unfold vput
    split
    · exact Nat.le_succ _
    · exact Nat.succ_le_succ (length_vput k v r)
/-- what a dict says at a key, as value and as it lies -/
theorem get_rep {g : GC} {H : Hp} {F : Addr → Prop} {k : PV} : ∀ {kvs : List (PV × V)} {ds : List PV}, Reps g H F (kvs.map (·.2)) ds → (vget kvs k).isSome = (dget ((kvs.map (·.1)).zip ds) k).isSome ∧ ∀ d, dget ((kvs.map (·.1)).zip ds) k = some d → ∃ v, vget kvs k = some v ∧ Rep g H F v d
  | [], _, .nil => ⟨rfl, fun d h => by cases h⟩
  | (k', v) :: r, d :: ds, .cons h t => by
    rw [List.map_cons, List.zip_cons_cons]
    unfold vget dget
    by_cases e : eqP k' k = true
    · rw [if_pos e, if_pos e]
      exact ⟨rfl, fun d' z => by cases z; exact ⟨v, rfl, h⟩⟩
    · rw [if_neg e, if_neg e]
      exact get_rep t
theorem put_keys (k : PV) (v : V) (d : PV) : ∀ (kvs : List (PV × V)) (ds : List PV), kvs.length = ds.length → ∃ ds', dput ((kvs.map (·.1)).zip ds) k d = ((vput kvs k v).map (·.1)).zip ds' ∧ ∀ (g : GC) (H : Hp) (F : Addr → Prop), Rep g H F v d → Reps g H F (kvs.map (·.2)) ds → Reps g H F ((vput kvs k v).map (·.2)) ds'
  | [], [], _ => ⟨[d], rfl, fun g H F r _ => .cons r .nil⟩
  | (k', v') :: r, d' :: ds, hl => by
    rw [List.map_cons, List.zip_cons_cons]
    unfold vput dput
    by_cases e : eqP k' k = true
    · rw [if_pos e, if_pos e]
      refine ⟨d :: ds, rfl, fun g H F h q => ?_⟩
      cases q with
      | cons _ t => exact .cons h t
    · rw [if_neg e, if_neg e]
      obtain ⟨ds', e1, e2⟩ := put_keys k v d r ds (by simpa using hl)
      refine ⟨d' :: ds', by rw [e1]; rfl, fun g H F h q => ?_⟩
      cases q with
      | cons h2 t => exact .cons h2 (e2 g H F h t)
  | [], _ :: _, hl => by cases hl
  | _ :: _, [], hl => by cases hl
/-- y is the key k -/
def DKey (g : GC) (H : Hp) (y : V) (k : PV) : Prop := (∃ kk : Ky, k = kyD kk ∧ y = kyV kk) ∨ (tkey k = true ∧ KVal g.K H k y)
section
variable {g : GC} {H : Hp} {F : Addr → Prop}
theorem AnyR.skey {y : V} {k : PV} (h : AnyR g H F y k) (s : skey k = true) : ∃ kk, k = kyD kk ∧ y = kyV kk := by
  cases k <;> first | exact absurd (show false = true from s) Bool.false_ne_true | skip
  · exact ⟨.non, rfl, h.none⟩
  · rename_i i; exact ⟨.num i, rfl, h.int⟩
  · rename_i x; exact ⟨.txt x, rfl, h.str⟩
theorem AnyR.dkey {y : V} {k : PV} (h : AnyR g H F y k) (s : HG.skey k = true ∨ tkey k = true) : DKey g H y k := by
  rcases s with s | s
  · exact .inl (AnyR.skey h s)
  · exact .inr ⟨s, h.kvalT s⟩
end
theorem kndOk_key {ks : List PV} {k : PV} (h : kndOk ks k = true) : HG.skey k = true ∨ tkey k = true := by
  unfold kndOk at h
  rcases Bool.or_eq_true_iff.mp h with h | h
  · exact .inl (Bool.and_eq_true_iff.mp h).1
  · exact .inr (Bool.and_eq_true_iff.mp h).1
/-! ### over the heap -/
mutual
/-- a key, however it lies -/
theorem KVal.nested {X : Cx} {pins : List (Addr × Obj)} {σ : L2.St} {H : Hp} {s : Shared} (I : Inv X pins σ H s) : ∀ {d : PV} {v : V} {u : Value}, KVal X.K H d v → RelV v u → NestedIs s.heap (nk d) u
  | .none, v, u, h, r => by
    unfold KVal at h; subst h
    have e : u = Value.none := r
    rw [e]; exact .none
  | .bool b, v, u, h, r => by
    unfold KVal at h; subst h
    have e : u = Value.bool b := r
    rw [e]; exact .bool rfl
  | .int i, v, u, h, r => by
    unfold KVal at h; subst h
    obtain ⟨t, e⟩ := r
    rw [e]; exact .int i t
  | .str x, v, u, h, r => by
    unfold KVal at h; subst h
    obtain ⟨t, e⟩ := r
    rw [e]; exact .text x t
  | .tuple ds, v, u, h, r => by
    unfold KVal at h
    obtain ⟨a, xs, rfl, h1, h2⟩ := h
    have e : u = Value.ref a := r
    obtain ⟨its, rv, ⟨o, g1, g2, n, g3⟩, _⟩ := I.tuple h1
    rw [e]
    exact .tup g1 g2 g3 (by simpa using KVals.nested I h2 rv)
  | .list _, _, _, h, _ => by unfold KVal at h; exact h.elim
  | .dict _, _, _, h, _ => by unfold KVal at h; exact h.elim
theorem KVals.nested {X : Cx} {pins : List (Addr × Obj)} {σ : L2.St} {H : Hp} {s : Shared} (I : Inv X pins σ H s) : ∀ {ds : List PV} {vs : List V} {us : List Value}, KVals X.K H ds vs → Vals vs us → NestedAll s.heap (nks ds) us
  | [], vs, us, h, r => by
    unfold KVals at h; subst h
    cases r
    exact .nil
  | d :: ds, vs, us, h, r => by
    unfold KVals at h
    obtain ⟨y, ys, rfl, h1, h2⟩ := h
    cases r with
    | cons r1 r2 => exact .cons (KVal.nested I h1 r1) (KVals.nested I h2 r2)
end
theorem key_ofS {X : Cx} {pins : List (Addr × Obj)} {σ : L2.St} {H : Hp} {s : Shared} {b : Addr} {k : PV} (I : Inv X pins σ H s) (hk : tkey k = true) (h : KVal X.K H k (.ref b)) : (nestedKind X.prog X.w).is s.heap (nk k) b :=
  ⟨KVal.nested I h rfl, Nat.le_trans (nk_depth hk) (by decide)⟩
theorem KTS.val {K : PySem.W.Frag} {H : Hp} {kvs : List (PV × V)} {xs : List (NestedKey × Addr × Value)} (r : KTS K H kvs xs) {k : PV} {y : V} (hk : KVal K H k y) : RelO (vget kvs k) ((atKey xs (nk k)).map (·.2)) := by
  induction r with
  | nil => exact True.intro
  | @cons p q ps qs h t ih =>
    obtain ⟨⟨h0, h1⟩, h3, h2⟩ := h
    have e1 : eqP p.1 k = decide (nk p.1 = nk k) := eqP_nk (K' := K) (H' := H) h3 hk
    unfold vget
    rw [e1]
    by_cases e : nk p.1 = nk k
    · have e' : q.1 = nk k := h1.trans e
      have b : atKey (q :: qs) (nk k) = some q.2 := by simp [atKey, List.find?_cons, e']
      rw [decide_eq_true e, b]; exact h2
    · have e' : ¬ q.1 = nk k := fun z => e (h1.symm.trans z)
      have b : atKey (q :: qs) (nk k) = atKey qs (nk k) := by simp [atKey, List.find?_cons, e']
      rw [decide_eq_false e, b]; exact ih
theorem storedH_cons {q : NestedKey × Addr × Value} {qs : List (NestedKey × Addr × Value)} (k : NestedKey) (b : Addr) (u : Value) (nd : ((q :: qs).map (·.1)).Nodup) : storedH (q :: qs) k b u = if q.1 = k then (q.1, q.2.1, u) :: qs else q :: storedH qs k b u := by
  rw [List.map_cons, List.nodup_cons] at nd
  by_cases e : q.1 = k
  · have a : atKey (q :: qs) k = some q.2 := by simp [atKey, List.find?_cons, e]
    rw [storedH_old a, if_pos e, List.map_cons, map_putAt_of_not_mem qs k u (by rw [← e]; exact nd.1)]
    unfold putAt
    rw [if_pos e]
  · have a : atKey (q :: qs) k = atKey qs k := by simp [atKey, List.find?_cons, e]
    rw [if_neg e]
    cases h : atKey qs k with
    | none => rw [storedH_new (a.trans h), storedH_new h]; rfl
    | some p =>
      rw [storedH_old (a.trans h), storedH_old h, List.map_cons]
      unfold putAt
      rw [if_neg e]
theorem KTS.put {K : PySem.W.Frag} {H : Hp} : ∀ {kvs : List (PV × V)} {xs : List (NestedKey × Addr × Value)}, KTS K H kvs xs → (xs.map (·.1)).Nodup → ∀ {k : PV} {b : Addr} {y : V} {u : Value}, tkey k = true → KVal K H k (.ref b) → RelV y u →
    KTS K H (vput kvs k y) (storedH xs (nk k) b u)
  | _, _, .nil, _, k, b, y, u, ht, hb, ry => .cons ⟨⟨ht, rfl⟩, hb, ry⟩ .nil
  | p :: ps, q :: qs, .cons h t, nd, k, b, y, u, ht, hb, ry => by
    rw [storedH_cons _ _ _ nd]
    obtain ⟨⟨h0, h1⟩, h3, h2⟩ := h
    have e1 : eqP p.1 k = decide (nk p.1 = nk k) := eqP_nk (K' := K) (H' := H) h3 hb
    unfold vput
    rw [e1]
    by_cases e : nk p.1 = nk k
    · rw [decide_eq_true e, if_pos (h1.trans e), if_pos rfl]
      exact .cons ⟨⟨h0, h1⟩, h3, ry⟩ t
    · rw [decide_eq_false e, if_neg (fun z => e (h1.symm.trans z)), if_neg Bool.false_ne_true]
      rw [List.map_cons, List.nodup_cons] at nd
      exact .cons ⟨⟨h0, h1⟩, h3, h2⟩ (KTS.put t nd.2 ht hb ry)
section
variable {X : Cx} {g : GC} {pins : List (Addr × Obj)} {σ : L2.St} {H : Hp} {s : Shared} {a : Addr} {y v : V} {u r : Value} {kvs : List (PV × V)} {k : PV} {A : Around} {E : Value → Shared → Prop}
theorem KTS.are (hK : X.K = g.K) (I : Inv X pins σ H s) {l : List (PV × V)} {m : List (NestedKey × Addr × Value)} (q : KTS g.K H l m) : ∀ x ∈ m, (nestedKind X.prog X.w).is s.heap x.1 x.2.1 := by
  induction q with
  | nil => intro x hx; exact nomatch hx
  | @cons p q ps qs hq t ih =>
    intro x hx
    rcases List.mem_cons.mp hx with e | hx
    · subst e
      rw [hq.1.2]
      exact key_ofS I hq.1.1 (by rw [hK]; exact hq.2.1)
    · exact ih x hx
theorem kndOk_t {ks : List PV} {kk : Ky} (h : kndOk ks (kyD kk) = true) : ks.all HG.skey = true := by
  unfold kndOk at h
  have e : tkey (kyD kk) = false := by cases kk <;> rfl
  rw [e, Bool.false_and, Bool.or_false, Bool.and_eq_true] at h
  exact h.2
theorem kndOk_k {ks : List PV} {k : PV} (ht : tkey k = true) (h : kndOk ks k = true) : ks.all tkey = true := by
  unfold kndOk at h
  have e : HG.skey k = false := by cases k <;> first | rfl | exact absurd (show false = true from ht) Bool.false_ne_true
  rw [e, Bool.false_and, Bool.false_or, Bool.and_eq_true] at h
  exact h.2
/-- what the heap tells of a dict -/
theorem DRep.heap (hK : X.K = g.K) (hP : X.prog = g.P) (hW : X.w = g.w) (I : Inv X pins σ H s) (d : DRep g H a kvs) (hk : kndOk (kvs.map (·.1)) k = true) (y : V) (dk : DKey g H y k) : (a == sysModules) = false ∧ kvs.length ≤ sizeLine ∧
    ((∃ (kk : Ky) (ks : List (Ky × V)) (vs : List (Ky × Value)), k = kyD kk ∧ y = kyV kk ∧ kvs = ks.map (fun p => (kyD p.1, p.2)) ∧ KV ks vs ∧ s.heap.DictOf (kyKind X.prog X.w) a vs ∧ (ks.map (·.1)).Nodup) ∨
    ∃ (b : Addr) (xs : List (NestedKey × Addr × Value)), tkey k = true ∧ y = .ref b ∧ KVal X.K H k (.ref b) ∧ KTS X.K H kvs xs ∧ s.heap.DictOfH (nestedKind X.prog X.w) a xs ∧ (xs.map (·.1)).Nodup) := by
  cases d with
  | @k ks vs o es ep g0 g2 g3 g4 g5 g6 rel z hd =>
    have g1 : s.heap.get? a = some o := (show ObjOk X.prog X.w H s.heap a (dO a o) from I.hok a _ g0).1
    rw [← hP, ← hW] at g4 g5
    refine ⟨hd, by rw [List.length_map]; exact z, ?_⟩
    rcases dk with ⟨kk, e1, e2⟩ | ⟨ht, e3⟩
    · refine .inl ⟨kk, ks, vs, e1, e2, rfl, rel, ⟨o, es, ep, g1, g2, g3, g4, g5, g6⟩, by rw [rel.keys]; exact g6⟩
    · obtain ⟨b, e2⟩ := e3.ref ht
      have e : ks = [] := by
        cases ks with
        | nil => rfl
        | cons p r =>
          have hk := kndOk_k ht hk
          obtain ⟨p1, p2⟩ := p
          cases p1 <;> simp [tkey, kyD] at hk
      subst e
      cases rel
      refine .inr ⟨b, [], ht, e2, by rw [hK, ← e2]; exact e3, .nil, ⟨o, es, ep, g1, g2, g3, ?_, fun x hx => (nomatch hx), List.nodup_nil⟩, List.nodup_nil⟩
      generalize es.toList = el at g5
      cases g5
      rfl
  | @t _ xs o es ep h h1 h2 h3 h4 h5 h6 h7 =>
    have hget : s.heap.get? a = some o := (show ObjOk X.prog X.w H s.heap a (dO a o) from I.hok a _ h).1
    refine ⟨h7, h6, ?_⟩
    rcases dk with ⟨kk, e1, e2⟩ | ⟨ht, e3⟩
    · subst e1
      have e : kvs = [] := by
        cases kvs with
        | nil => rfl
        | cons p r =>
          have hk := kndOk_t hk
          rw [List.map_cons, List.all_cons, Bool.and_eq_true] at hk
          cases h5 with
          | cons q1 q2 =>
            have q := q1.1.1
            obtain ⟨p1, p2⟩ := p
            cases p1 <;> first | exact absurd (show false = true from q) Bool.false_ne_true | exact absurd (show false = true from hk.1) Bool.false_ne_true
      subst e
      cases h5
      have e0 : es = #[] := by
        have : es.toList = [] := h3
        simpa using this
      subst e0
      refine .inl ⟨kk, [], [], rfl, e2, rfl, .nil, ⟨o, #[], ep, hget, h1, h2, ?_, .nil, List.nodup_nil⟩, List.nodup_nil⟩
      intro e he
      simp at he
    · obtain ⟨b, e2⟩ := e3.ref ht
      refine .inr ⟨b, xs, ht, e2, by rw [hK, ← e2]; exact e3, by rw [hK]; exact h5, ⟨o, es, ep, hget, h1, h2, ?_, ?_, h4⟩, h4⟩
      · rw [hP, hW]; exact h3
      · exact KTS.are hK I h5
variable (hK : X.K = g.K) (hP : X.prog = g.P) (hW : X.w = g.w)
include hK hP hW
omit hK hP hW in
theorem room8 (hu : A.units + 9 < cLine) : (nestedKind X.prog X.w).room A.in1 := by
  show A.units + 1 + 8 < cLine
  omega
theorem dr_getItem {Q : Value → Shared → Prop} (hu : A.units + 9 < cLine) (I : Inv X pins σ H s) (d : DRep g H a kvs) (hk : kndOk (kvs.map (·.1)) k = true) (dk : DKey g H y k) (hv : vget kvs k = some v) (ry : RelV y u) (h : ∀ w' s', Inv X pins σ H s' → RelV v w' → Q w' s') :
    wpAny (model X.prog X.w) A (getItem (.ref a) u) Q E s := by
  obtain ⟨hd, z, ⟨kk, ks, vs, e1, e2, e3, rel, dd, _⟩ | ⟨b, xs, ht, e2, eb, rel, dd, _⟩⟩ := d.heap hK hP hW I hk y dk
  · subst e1 e2 e3
    rw [vget_k] at hv
    obtain ⟨w', hw, rw'⟩ := RelO.some_of (v := v) (o := valueAt vs kk) (by rw [← hv]; exact rel.val kk)
    exact wpAny_getItem_of (kyIs_of ry) dd.mapOf hw (h w' _ (I.tok _) rw')
  · subst e2
    cases (show u = Value.ref b from ry)
    obtain ⟨w', hw, rw'⟩ := RelO.some_of (v := v) (o := (atKey xs (nk k)).map (·.2)) (by rw [← hv]; exact rel.val eb)
    obtain ⟨p, hp, hp2⟩ := Option.map_eq_some_iff.mp hw
    refine wpAny_getItem_heap (room8 hu) (key_ofS I ht eb) dd hp ?_
    rw [hp2]
    exact h w' _ (I.tok _) rw'
theorem dr_in {Q : Value → Shared → Prop} (hu : A.units + 9 < cLine) (I : Inv X pins σ H s) (d : DRep g H a kvs) (hk : kndOk (kvs.map (·.1)) k = true) (dk : DKey g H y k) (ry : RelV y u) (h : ∀ s', Inv X pins σ H s' → Q (.bool (vget kvs k).isSome) s') :
    wpAny (model X.prog X.w) A (compareOp .In u (.ref a)) Q E s := by
  obtain ⟨hd, z, ⟨kk, ks, vs, e1, e2, e3, rel, dd, _⟩ | ⟨b, xs, ht, e2, eb, rel, dd, _⟩⟩ := d.heap hK hP hW I hk y dk
  · subst e1 e2 e3
    rw [vget_k] at h
    refine wpAny_in_of (kyIs_of ry) hd dd.mapOf ?_
    rw [← (rel.val kk).isSome_eq]
    exact h _ (I.tok _)
  · subst e2
    cases (show u = Value.ref b from ry)
    refine wpAny_in_heap (room8 hu) (key_ofS I ht eb) hd dd ?_
    have q := (rel.val eb).isSome_eq
    rw [Option.isSome_map] at q
    rw [← q]
    exact h _ (I.tok _)
theorem dr_notin {Q : Value → Shared → Prop} (hu : A.units + 9 < cLine) (I : Inv X pins σ H s) (d : DRep g H a kvs) (hk : kndOk (kvs.map (·.1)) k = true) (dk : DKey g H y k) (ry : RelV y u) (h : ∀ s', Inv X pins σ H s' → Q (.bool (!(vget kvs k).isSome)) s') :
    wpAny (model X.prog X.w) A (compareOp .NotIn u (.ref a)) Q E s := by
  obtain ⟨hd, z, ⟨kk, ks, vs, e1, e2, e3, rel, dd, _⟩ | ⟨b, xs, ht, e2, eb, rel, dd, _⟩⟩ := d.heap hK hP hW I hk y dk
  · subst e1 e2 e3
    rw [vget_k] at h
    refine wpAny_notIn_of (kyIs_of ry) hd dd.mapOf ?_
    rw [← (rel.val kk).isSome_eq]
    exact h _ (I.tok _)
  · subst e2
    cases (show u = Value.ref b from ry)
    refine wpAny_notIn_heap (room8 hu) (key_ofS I ht eb) hd dd ?_
    have q := (rel.val eb).isSome_eq
    rw [Option.isSome_map] at q
    rw [← q]
    exact h _ (I.tok _)
theorem dr_get1 {Q : Value → Shared → Prop} (hu : A.units + 9 < cLine) (I : Inv X pins σ H s) (d : DRep g H a kvs) (hk : kndOk (kvs.map (·.1)) k = true) (dk : DKey g H y k) (ry : RelV y u) (h : ∀ w' s', Inv X pins σ H s' → RelV ((vget kvs k).getD .non) w' → Q w' s') :
    wpAny (model X.prog X.w) A (PySem.call (.builtin "dict.get") [.ref a, u]) Q E s := by
  obtain ⟨hd, z, ⟨kk, ks, vs, e1, e2, e3, rel, dd, _⟩ | ⟨b, xs, ht, e2, eb, rel, dd, _⟩⟩ := d.heap hK hP hW I hk y dk
  · subst e1 e2 e3
    rw [vget_k] at h
    exact call_meetsIn PySem.F.slot_dict_get dd.typeIs PySem.F.entry_dict_get (PySem.F.args_dict_get_2 _ _) (meets_dict_get (kyKind X.prog X.w) a (kyIs_of ry) hd) ⟨_, dd.mapOf, h _ _ (I.tok _) ((rel.val kk).getD rfl)⟩
  · subst e2
    cases (show u = Value.ref b from ry)
    exact call_meetsIn PySem.F.slot_dict_get dd.typeIs PySem.F.entry_dict_get (PySem.F.args_dict_get_2 _ _) (meetsH_dict_get (nestedKind X.prog X.w) a b hd) ⟨room8 hu, nk k, xs, key_ofS I ht eb, dd, h _ _ (I.tok _) ((rel.val eb).getD rfl)⟩
theorem dr_get2 {x : V} {rx : Value} {Q : Value → Shared → Prop} (hu : A.units + 9 < cLine) (I : Inv X pins σ H s) (d : DRep g H a kvs) (hk : kndOk (kvs.map (·.1)) k = true) (dk : DKey g H y k) (ry : RelV y u) (rd : RelV x rx) (h : ∀ w' s', Inv X pins σ H s' → RelV ((vget kvs k).getD x) w' → Q w' s') :
    wpAny (model X.prog X.w) A (PySem.call (.builtin "dict.get") [.ref a, u, rx]) Q E s := by
  obtain ⟨hd, z, ⟨kk, ks, vs, e1, e2, e3, rel, dd, _⟩ | ⟨b, xs, ht, e2, eb, rel, dd, _⟩⟩ := d.heap hK hP hW I hk y dk
  · subst e1 e2 e3
    rw [vget_k] at h
    exact call_meetsIn PySem.F.slot_dict_get dd.typeIs PySem.F.entry_dict_get (PySem.F.args_dict_get_3 _ _ _) (meets_dict_get_default (kyKind X.prog X.w) a (kyIs_of ry) hd rx) ⟨_, dd.mapOf, h _ _ (I.tok _) ((rel.val kk).getD rd)⟩
  · subst e2
    cases (show u = Value.ref b from ry)
    exact call_meetsIn PySem.F.slot_dict_get dd.typeIs PySem.F.entry_dict_get (PySem.F.args_dict_get_3 _ _ _) (meetsH_dict_get_default (nestedKind X.prog X.w) a b hd rx) ⟨room8 hu, nk k, xs, key_ofS I ht eb, dd, h _ _ (I.tok _) ((rel.val eb).getD rd)⟩
/-- len(d) -/
theorem dr_len {Q : Value → Shared → Prop} (I : Inv X pins σ H s) (d : DRep g H a kvs) (h : ∀ t s', Inv X pins σ H s' → Q (.int kvs.length t) s') : wpAny (model X.prog X.w) A (PySem.call (.builtin "len") [.ref a]) Q E s := by
  cases d with
  | @k ks vs o es ep g0 g2 g3 g4 g5 g6 rel z hd =>
    rw [List.length_map] at h
    have g1 : s.heap.get? a = some o := (show ObjOk X.prog X.w H s.heap a (dO a o) from I.hok a _ g0).1
    rw [← hP, ← hW] at g4 g5
    have dd : s.heap.DictOf (kyKind X.prog X.w) a vs := ⟨o, es, ep, g1, g2, g3, g4, g5, g6⟩
    refine call_len_dict hd dd (by rw [← rel.length]; rw [sizeLine_eq] at z; omega) ?_
    rw [← rel.length]
    exact h _ _ (I.tok _)
  | @t _ xs o es ep h0 h1 h2 h3 h4 h5 h6 h7 =>
    have hget : s.heap.get? a = some o := (show ObjOk X.prog X.w H s.heap a (dO a o) from I.hok a _ h0).1
    have dd : s.heap.DictOfH (nestedKind X.prog X.w) a xs := ⟨o, es, ep, hget, h1, h2, by rw [hP, hW]; exact h3, KTS.are hK I h5, h4⟩
    have hl : kvs.length = xs.length := Paired.length h5
    have lp : (pairsH xs).length = kvs.length := by rw [pairsH_length, hl]
    rw [← lp] at h
    refine PyProof.Rows.call_len_slot (n := (pairsH xs).length) dd.typeIs PySem.F.slot_dict_len (fun Q' hq => len_keyed h7 ⟨xs, dd, rfl⟩ hq) (by omega) (by rw [lp]; rw [sizeLine_eq] at h6; omega) ?_
    exact h _ _ (I.tok _)
/-- d[y] = v -/
theorem dr_setItem {rv : Value} {Q : Unit → Shared → Prop} (hu : A.units + 9 < cLine) (I : Inv X pins σ H s) (d : DRep g H a kvs) (hk : kndOk (kvs.map (·.1)) k = true) (dk : DKey g H y k) (hlen : kvs.length < sizeLine) (ry : RelV y u) (rr : RelV v rv)
    (h : ∀ ob s', Inv X pins σ (upd H a ob) s' → DRep g (upd H a ob) a (vput kvs k v) → (∀ ps, ob ≠ .tbl ps) → Q () s') :
    wpAny (model X.prog X.w) A (setItem (.ref a) u rv) Q E s := by
  have mu : Mut (H a) ∧ ∀ b ys, SqT X.K H b ys → H b ≠ H a ∨ ∃ o : Obj, X.K.lookup b = some o := by
    cases d with
    | k h0 => rw [h0]; exact ⟨trivial, fun b ys q => by
        rcases q with (q | ⟨o, q⟩) | ⟨o, _, _, q, _⟩
        · exact .inl fun e => by rw [q] at e; cases e
        · exact .inl fun e => by rw [q] at e; cases e
        · exact .inr ⟨o, q⟩⟩
    | t h0 => rw [h0]; exact ⟨trivial, fun b ys q => by
        rcases q with (q | ⟨o, q⟩) | ⟨o, _, _, q, _⟩
        · exact .inl fun e => by rw [q] at e; cases e
        · exact .inl fun e => by rw [q] at e; cases e
        · exact .inr ⟨o, q⟩⟩
  have keep : ∀ ob b ys, SqT X.K H b ys → SqT X.K (upd H a ob) b ys := fun ob b ys q => by
    rcases q with (q | ⟨o, q⟩) | q
    · by_cases e : b = a
      · subst e
        rw [q] at mu
        exact absurd mu.1 id
      · exact .inl (.inl (by rw [upd_ne e]; exact q))
    · by_cases e : b = a
      · subst e
        rw [q] at mu
        exact absurd mu.1 id
      · exact .inl (.inr ⟨o, by rw [upd_ne e]; exact q⟩)
    · exact .inr q
  obtain ⟨hd, z, ⟨kk, ks, vs, e1, e2, e3, rel, dd, nd⟩ | ⟨b, xs, ht, e2, eb, rel, dd, nd⟩⟩ := d.heap hK hP hW I hk y dk
  · subst e1 e2 e3
    rw [List.length_map] at hlen
    have hz : vs.length ≤ sizeLine := by rw [← rel.length]; omega
    have hl : (putK ks kk v).length ≤ sizeLine := by have := length_putK ks kk v; omega
    refine wpAny_setItem_pairs (hsz := hz) (kyIs_of ry) dd fun h' dd' hs => ?_
    obtain ⟨q, es, ep, hq, h2, h3, h4, h5, h6⟩ := dd'
    refine h (dO a q) _ (d_write I mu.1 hs ⟨q, hq⟩ ⟨hq, ⟨q, hq⟩, fun h1 h2 e1 e2 => e2 _ e1⟩) ?_ (fun _ e => by cases e)
    rw [vput_k kk v ks nd]
    exact .k upd_same h2 h3 (by rw [← hP, ← hW]; exact h4) (by rw [← hP, ← hW]; exact h5) h6 (rel.put kk rr) hl hd
  · subst e2
    cases (show u = Value.ref b from ry)
    have hz : xs.length ≤ sizeLine := by rw [← Paired.length rel]; omega
    have hl : (vput kvs k v).length ≤ sizeLine := by have := length_vput k v kvs; omega
    refine wpAny_setItem_heap (hsz := hz) (room8 hu) (key_ofS I ht eb) dd fun h' dd' hs => ?_
    obtain ⟨q, es, ep, hq, h2, h3, h4, _, h5⟩ := dd'
    refine h (dO a q) _ (d_write I mu.1 hs ⟨q, hq⟩ ⟨hq, ⟨q, hq⟩, fun h1 h2 e1 e2 => e2 _ e1⟩) ?_ (fun _ e => by cases e)
    exact .t upd_same h2 h3 (by rw [← hP, ← hW]; exact h4) h5 (by rw [← hK]; exact (rel.put nd ht eb rr).imp (keep _)) hl hd
end
theorem DRep.typeIs {X : Cx} {g : GC} {pins : List (Addr × Obj)} {σ : L2.St} {H : Hp} {s : Shared} {a : Addr} {kvs : List (PV × V)} (I : Inv X pins σ H s) (d : DRep g H a kvs) : s.TypeIs (.ref a) "dict" := by
  cases d with
  | @k ks vs o es ep g0 g2 g3 g4 g5 g6 rel z hd =>
    exact ⟨o, (show ObjOk X.prog X.w H s.heap a (dO a o) from I.hok a _ g0).1, g2.1⟩
  | @t ks xs o es ep h h1 h2 h3 h4 h5 h6 h7 =>
    exact ⟨o, (show ObjOk X.prog X.w H s.heap a (dO a o) from I.hok a _ h).1, h1.1⟩
theorem tail_dict {prog : Program} {w : World} {A : Around} {E : Value → Shared → Prop} {s : Shared} {value slice : Expr} {o i : Value} {Q : Value → Shared → Prop} (hT : s.TypeIs o "dict") (hs : subscripted slice false o i = operate [o, i] (getItem o i))
    (h : wpAny (model prog w) A (getItem o i) Q E s) : wpAny (model prog w) A (subscriptTail value slice o i) Q E s := by
  unfold subscriptTail
  refine wpAny_bind ?_
  rw [getitemInPython_of_ne hT.not_modules]
  refine wpAny_bind (wpAny_specialOf hT PySem.F.slot_dict_getitem.lookup ?_)
  have fin : wpAny (model prog w) A (subscripted slice false o i) (fun r s₃ => wpAny (model prog w) A (letTemporaryGo value o r >>= fun _ => pure r) Q E s₃) E s := by
    rw [hs]
    exact wpAny_operating (wpAny_mono h (fun r s₃ h₃ => wpAny_bind (wpAny_letTemporaryGo (wpAny_pure h₃))) fun _ _ x => x)
  first
    | exact wpAny_pure (wpAny_bind fin)
    | exact wpAny_bind (wpAny_pure (wpAny_bind fin))
    | exact wpAny_bind fin
theorem zip_fst {α β γ : Type} : ∀ (kvs : List (α × β)) (ds : List γ), kvs.length = ds.length → ((kvs.map (·.1)).zip ds).map (·.1) = kvs.map (·.1)
  | [], [], _ => rfl
  | p :: r, d :: ds, h => by
    rw [List.map_cons, List.zip_cons_cons, List.map_cons, zip_fst r ds (by simpa using h)]
  | [], _ :: _, h => by cases h
  | _ :: _, [], h => by cases h
theorem Reps.lenV {g : GC} {H : Hp} {F : Addr → Prop} {kvs : List (PV × V)} {ds : List PV} (h : Reps g H F (kvs.map (·.2)) ds) : kvs.length = ds.length := by
  have := h.length
  rw [List.length_map] at this
  exact this
theorem plainD_cons {k v : PV} {r : KVs} (h : HG.skey k = true ∨ tkey k = true) : plainD (.dict ((k, v) :: r)) = true := by
  cases k with
  | int i => rfl
  | str x => rfl
  | tuple xs => rfl
  | none => rfl
  | bool b => rcases h with h | h <;> cases h
  | list xs => rcases h with h | h <;> cases h
  | dict xs => rcases h with h | h <;> cases h
theorem plainD_put {kvs : KVs} {k v : PV} (h : kndOk (kvs.map (·.1)) k = true) : plainD (.dict (dput kvs k v)) = true := by
  cases kvs with
  | nil => exact plainD_cons (kndOk_key h)
  | cons p r =>
    obtain ⟨k1, v1⟩ := p
    have h1 : HG.skey k1 = true ∨ tkey k1 = true := by
      unfold kndOk at h
      rcases Bool.or_eq_true_iff.mp h with h | h
      · have h := (Bool.and_eq_true_iff.mp h).2
        rw [List.map_cons, List.all_cons, Bool.and_eq_true] at h
        exact .inl h.1
      · have h := (Bool.and_eq_true_iff.mp h).2
        rw [List.map_cons, List.all_cons, Bool.and_eq_true] at h
        exact .inr h.1
    unfold dput
    split
    · exact plainD_cons h1
    · exact plainD_cons h1
/-- o[i] = v, of a list or a dict -/
def rSetA (g : GC) : V → V → V → Hp → (Hp → Prop) → Prop := fun o i v H Q => rSetL o i v H Q ∨ ∃ (a : Addr) (kvs : List (PV × V)) (k : PV), o = .ref a ∧ DRep g H a kvs ∧ kndOk (kvs.map (·.1)) k = true ∧ DKey g H i k ∧ kvs.length < sizeLine ∧
  ∀ ob, DRep g (upd H a ob) a (vput kvs k v) → (∀ ps, ob ≠ .tbl ps) → Q (upd H a ob)
theorem set_any {X : Cx} {g : GC} (hK : X.K = g.K) (hP : X.prog = g.P) (hW : X.w = g.w) (hu : X.A.units + 9 < cLine) : PSet X (rSetA g) := by
  intro pins s σ H o i v ov iv u Q I ro ri rv h
  rcases h with h | ⟨a, kvs, k, rfl, d, hk, dk, hl, q⟩
  · exact set_list pins s σ H o i v ov iv u Q I ro ri rv h
  · cases ro
    exact dr_setItem hK hP hW hu I d hk dk hl ri rv fun ob s' I' d' nt => ⟨_, I', q ob d' nt⟩
/-! ### a new dict -/
def tDNewO (g : GC) : TE := fun _ H Q => ∀ p o, H p = none → DRep g (upd H p (dO p o)) p [] → Q (.ref p) (upd H p (dO p o))
theorem pe_dnewO {X : Cx} {g : GC} {pos : Pos} : PE X (.Dict [] [] pos) (tDNewO g) := ⟨fun pins s σ H Q I h =>
  wpAny_Dict_empty ⟨.ref s.heap.objs.size, _, I.laid (a := s.heap.objs.size) (o := dO s.heap.objs.size { cls := .type "dict", data := .dict #[] }) (t' := s.toks) (fun _ _ q => Heap.get?_push_of_some _ q) (Nat.le_refl _)
    ⟨Heap.get?_push_size _ rfl, ⟨_, Heap.get?_push_size _ rfl⟩, fun h1 h2 e1 e2 => e2 _ e1⟩, rfl, h _ _ (I.hok.fresh (Nat.le_refl _))
    (.k (kvs := []) upd_same ⟨rfl, rfl, rfl⟩ rfl (fun e he => by simp at he) .nil List.nodup_nil .nil (Nat.zero_le _) (beq_eq_false_iff_ne.mpr (Ne.symm (Nat.ne_of_lt I.big))))⟩⟩
/-! ### the keys, walked -/
def Itx (d : Addr) (o : Obj) (ks : List V) : It :=
  ⟨fun i H => H d = some (dO d o) ∧ i < ks.length, fun i H x H' => H' = H ∧ ks[i]? = some x, fun i H => H d = some (dO d o) ∧ ks.length ≤ i⟩
theorem turn_keysX {P : Program} {w : World} {K : PySem.W.Frag} {tg : Expr} {d : Addr} {o : Obj} {es : Array DictEntry} {ep : Nat} {ks : List V} (it : Addr) (hod : o.data = .dict es ep) (hk : Paired (fun (k : V) (e : DictEntry) => RelV k e.key) ks es.toList) :
    Turn P w K tg (Itx d o ks) [it] it (fun i h => h.IsKeyIter it d i es.size ep) where
  mem := by simp
  obj := fun i h st b hb => by
    have e : b = it := by simpa using hb
    subst e
    obtain ⟨oi, e, c, dd⟩ := st
    exact ⟨oi, e, fun v z => by rw [dd] at z; cases z⟩
  keep := fun i h h' st k => st.at fun oi e => k it (by simp) oi e
  item := by
    intro X hP hw hK hc i pins s σ H E I hf st hg
    obtain ⟨hd, hi⟩ := hg
    obtain ⟨f0, f1, f2, f3, f4, f5⟩ := hf it (by simp)
    have hgd : s.heap.get? d = some o := (show ObjOk X.prog X.w H s.heap d (dO d o) from I.hok d _ hd).1
    obtain ⟨k, hkv⟩ : ∃ p, ks[i]? = some p := ⟨ks[i], List.getElem?_eq_getElem hi⟩
    obtain ⟨en, hen, ren⟩ := paired_get hk hkv
    refine next_key_item st hgd hod rfl (by rw [← Array.getElem?_toList]; exact hen) fun h' st' sb => ?_
    have I1 : Inv X pins σ H { s with heap := h' } := I.turned (t' := s.toks) (fun b ob hb e => (sb.2 b hb).trans e) f0 f1 f3 f4 f5
    obtain ⟨oi, e, c, dd⟩ := id st'
    exact ⟨en.key, rfl, go_of (s := { s with heap := h' }) e c dd (by decide) ⟨k, H, I1, ren, ⟨rfl, hkv⟩, st', fun b hb => (hf b hb).1⟩⟩
  done := by
    intro X hP hw hK hc i pins s σ H E I hf st hg
    obtain ⟨hd, hi⟩ := hg
    obtain ⟨f0, f1, f2, f3, f4, f5⟩ := hf it (by simp)
    have hgd : s.heap.get? d = some o := (show ObjOk X.prog X.w H s.heap d (dO d o) from I.hok d _ hd).1
    have hl : ks.length = es.size := by rw [Paired.length hk, Array.length_toList]
    exact next_key_end (I.ok.hd hc) st hgd hod rfl (by omega) fun h' eb => ⟨rfl, I.turned (t' := s.toks) (fun b ob hb e => eb b ob hb e) f0 f1 f3 f4 f5⟩
  self := fun A i s Q E st h => by
    refine wpAny_pyIter_slot st.typeIs PySem.F.slot_dict_keyiterator_iter (wpAny_call_entry PySem.F.slot_dict_keyiterator_iter st.typeIs PySem.F.entry_dict_keyiterator_iter ?_ (PySem.F.args_dict_keyiterator_iter_1 _))
    show wpAny _ _ (PySem.ret (.ref it)) _ _ s
    exact wpAny_pure ⟨_, rfl, "dict_keyiterator", _, st.typeIs, PySem.F.slot_dict_keyiterator_next.lookup, h⟩
theorem rep_keyD {g : GC} {H : Hp} {F : Addr → Prop} (k : Ky) : Rep g H F (kyV k) (kyD k) := by
  cases k with
  | non => exact .non
  | num i => exact .int i
  | txt x => exact .str x
theorem reps_keyD {g : GC} {H : Hp} {F : Addr → Prop} : ∀ ks : List Ky, Reps g H F (ks.map kyV) (ks.map kyD)
  | [] => .nil
  | k :: r => .cons (rep_keyD k) (reps_keyD r)
/-- the object of a dict, its keys as they lie -/
theorem DRep.obj {g : GC} {H : Hp} {a : Addr} {kvs : List (PV × V)} (d : DRep g H a kvs) : ∃ (o : Obj) (es : Array DictEntry) (ep : Nat) (ks : List V), H a = some (dO a o) ∧ o.ExactDict ∧ o.data = .dict es ep ∧ Paired (fun (k : V) (e : DictEntry) => RelV k e.key) ks es.toList ∧ ks.length = kvs.length ∧ (a == sysModules) = false ∧ kvs.length ≤ sizeLine ∧
    ∀ F, Reps g H F ks (kvs.map (·.1)) := by
  cases d with
  | @k ks vs o es ep g0 g2 g3 g4 g5 g6 rel z hd =>
    refine ⟨o, es, ep, ks.map fun p => kyV p.1, g0, g2, g3, ?_, by rw [List.length_map, List.length_map], hd, by rw [List.length_map]; exact z, fun F => ?_⟩
    · generalize es.toList = el at g5
      clear g6 z g4 g3 g2 g0
      induction rel generalizing el with
      | nil => cases g5; exact .nil
      | @cons p q ps qs hq t ih =>
        cases g5 with
        | cons k1 k2 k3 =>
          refine .cons ?_ (ih _ k3)
          show RelV (kyV p.1) _
          rw [hq.1]
          exact kyIs_rel k1
    · rw [List.map_map]
      have e : ks.map (fun p => kyV p.1) = (ks.map (·.1)).map kyV := by rw [List.map_map]; rfl
      have e2 : ks.map ((fun x : PV × V => x.1) ∘ fun p => (kyD p.1, p.2)) = (ks.map (·.1)).map kyD := by rw [List.map_map]; rfl
      rw [e, e2]
      exact reps_keyD _
  | @t _ xs o es ep h h1 h2 h3 h4 h5 h6 h7 =>
    refine ⟨o, es, ep, xs.map fun x => V.ref x.2.1, h, h1, h2, ?_, by rw [List.length_map, Paired.length h5], h7, h6, fun F => ?_⟩
    · rw [h3]
      clear h5 h3 h4
      induction xs with
      | nil => exact .nil
      | cons x r ih => exact .cons rfl ih
    · clear h6 h4 h3
      induction h5 with
      | nil => exact .nil
      | @cons p q ps qs hq t ih => exact .cons (KVal.rep hq.2.1) ih
end HG
end
section
set_option maxHeartbeats 4000000
/-! HGOps: the operators and built-ins by values. -/
namespace HG
open PySem PySem.Spec PyProof.Rows L2
/-! ### the ways a value is handed on -/
/-- what a place knows of the heap -/
structure St0 (g : GC) (H : Hp) (F : Addr → Prop) : Prop where
  cup : CupOk g.ca H
  fca : ¬ F g.ca
  fin : ∀ a, F a → ∃ o, H a = some o
theorem Sta.st0 {g : GC} {H : Hp} {F : Addr → Prop} {Γ : List Bool} {σ : L2.St} {ρ : Env} (s : Sta g H F Γ σ ρ) : St0 g H F := ⟨s.cup, s.fca, s.fin⟩
theorem Grow.st0 {g : GC} {H H' : Hp} {F F' : Addr → Prop} (s : Grow g H F H' F') : St0 g H' F' := ⟨s.cup, s.fca, s.fin⟩
theorem St0.self {g : GC} {H : Hp} {F : Addr → Prop} (s : St0 g H F) : Grow g H F H F := Grow.refl s.cup s.fca s.fin
/-- what is wanted: of each value that may come -/
def Out (g : GC) (H : Hp) (F : Addr → Prop) (Qd : PV → Prop) (Q : VK) : Prop := ∀ p, Qd p → ∀ v H' F', Grow g H F H' F' → New g H H' F' v p → Q v H'
section
variable {g : GC} {H : Hp} {F : Addr → Prop} {Qd : PV → Prop} {Q : VK}
theorem Out.scal (o : Out g H F Qd Q) (s : St0 g H F) {p : PV} (hp : Qd p) {v : V} (r : Rep g H F v p) (m : isMut p = false) : Q v H := o p hp v H F s.self (r.new m)
theorem Out.int (o : Out g H F Qd Q) (s : St0 g H F) {i : Int} (hp : Qd (.int i)) : Q (.int i) H := o.scal s hp (.int i) rfl
theorem Out.bl (o : Out g H F Qd Q) (s : St0 g H F) {i : Bool} (hp : Qd (.bool i)) : Q (.bl i) H := o.scal s hp (.bl i) rfl
theorem Out.str (o : Out g H F Qd Q) (s : St0 g H F) {i : Str} (hp : Qd (.str i)) : Q (.str i) H := o.scal s hp (.str i) rfl
theorem St0.upd (s : St0 g H F) {p : Addr} {o : HO} (h : H p = none) : Grow g H F (upd H p o) F where
  ext := .upd h
  mono := fun _ k => k
  new := fun _ k => .inl k
  cup := by
    obtain ⟨c, d, e, r⟩ := s.cup
    exact ⟨c, d, by rw [upd_ne (ne_of_none e h)]; exact e, r⟩
  fca := s.fca
  fin := fun a k => by
    obtain ⟨o, e⟩ := s.fin a k
    exact ⟨o, by rw [upd_ne (ne_of_none e h)]; exact e⟩
  there := fun a o e => ⟨o, by rw [upd_ne (ne_of_none e h)]; exact e⟩
theorem St0.ne_ca (s : St0 g H F) {p : Addr} (h : H p = none) : p ≠ g.ca := fun e => by
  obtain ⟨c, d, z, _⟩ := s.cup
  rw [← e, h] at z; cases z
theorem St0.notF (s : St0 g H F) {p : Addr} (h : H p = none) : ¬ F p := fun k => by
  obtain ⟨o, e⟩ := s.fin p k
  rw [h] at e; cases e
/-- a new list -/
theorem Out.newL (o : Out g H F Qd Q) (s : St0 g H F) {xs : List V} {ds : List PV} (hp : Qd (.list ds)) (r : Reps g H F xs ds) : ∀ p, H p = none → Q (.ref p) (upd H p (.lst xs)) := fun p h => by
  have w := s.upd (o := .lst xs) h
  refine o _ hp _ _ F w ?_
  unfold New
  rw [if_pos (show isMut (.list ds) = true from rfl)]
  exact ⟨p, rfl, s.notF h, s.ne_ca h, h, .inl ⟨xs, ds, upd_same, r.ext w.ext w.mono, rfl⟩⟩
/-- a new tuple -/
theorem Out.newT (o : Out g H F Qd Q) (s : St0 g H F) {xs : List V} {ds : List PV} (hp : Qd (.tuple ds)) (r : Reps g H F xs ds) : ∀ p, H p = none → Q (.ref p) (upd H p (.tup xs)) := fun p h => by
  have w := s.upd (o := .tup xs) h
  exact o _ hp _ _ F w (Rep.new (.tup (.inl (.inl upd_same)) (r.ext w.ext w.mono)) rfl)
theorem Out.tup (o : Out g H F Qd Q) (s : St0 g H F) {xs : List V} {ds : List PV} {a : Addr} (hp : Qd (.tuple ds)) (h : SqT g.K H a xs) (r : Reps g H F xs ds) : Q (.ref a) H := o.scal s hp (.tup h r) rfl
end
/-- the reading of a two-place operation -/
def rOp (g : GC) (f : PV → PV → M PV) : R2 := fun x y H Q => ∃ F p q Qd E, St0 g H F ∧ AnyR g H F x p ∧ AnyR g H F y q ∧ f p q Qd E ∧ Out g H F Qd Q
section
variable {X : Cx} {g : GC}
theorem rep_flat {α : Type} (n : Nat) (xs : List α) : rep n xs = (List.replicate n xs).flatten := rfl
theorem Reps.rep {g : GC} {H : Hp} {F : Addr → Prop} {xs : List V} {ds : List PV} (r : Reps g H F xs ds) (n : Nat) : Reps g H F (List.replicate n xs).flatten (HG.rep n ds) := by
  unfold HG.rep
  induction n with
  | zero => exact .nil
  | succ n ih => rw [List.replicate_succ, List.flatten_cons, List.replicate_succ, List.flatten_cons]; exact r.append ih
theorem op_bin_add (hK : X.K = g.K) : OpR X (binaryOp .Add) (rOp g (pBin .add)) := by
  intro pins s σ H x y v u Q I rx ry ⟨F, p, q, Qd, E, s0, hx, hy, hf, o⟩
  cases p <;> cases q <;> try exact False.elim hf
  · rename_i i j
    have ex := hx.int; have ey := hy.int
    exact op_add pins s σ H x y v u Q I rx ry ⟨i, j, ex, ey, o.int s0 hf⟩
  · rename_i i j
    exact op_add_str pins s σ H x y v u Q I rx ry ⟨i, j, hx.str, hy.str, by rw [line_eq]; exact hf.1, o.str s0 hf.2⟩
  · rename_i i j
    obtain ⟨a, xs, ex, _, h1, r1⟩ := hx.lst
    obtain ⟨b, ys, ey, _, h2, r2⟩ := hy.lst
    refine op_cat pins s σ H x y v u Q I rx ry ⟨a, b, xs, ys, ex, ey, h1, h2, by rw [r1.length, r2.length, line_eq]; exact hf.1, o.newL s0 hf.2 (r1.append r2)⟩
  · rename_i i j
    obtain ⟨a, xs, ex, h1, r1⟩ := hx.tup
    obtain ⟨b, ys, ey, h2, r2⟩ := hy.tup
    refine op_catA pins s σ H x y v u Q I rx ry ⟨a, b, xs, ys, ex, ey, by rw [hK]; exact h1, by rw [hK]; exact h2, by rw [r1.length, r2.length, line_eq]; exact hf.1, fun e => ?_, fun _ e => ?_, fun _ _ => o.newT s0 hf.2 (r1.append r2)⟩
    · subst e
      cases r1
      exact o.tup s0 hf.2 h2 r2
    · subst e
      cases r2
      exact o.tup s0 (by have := hf.2; rw [List.append_nil] at this; exact this) h1 r1
theorem op_bin_sub : OpR X (binaryOp .Sub) (rOp g (pBin .sub)) := by
  intro pins s σ H x y v u Q I rx ry ⟨F, p, q, Qd, E, s0, hx, hy, hf, o⟩
  cases p <;> cases q <;> try exact False.elim hf
  exact op_sub pins s σ H x y v u Q I rx ry ⟨_, _, hx.int, hy.int, o.int s0 hf⟩
theorem op_bin_mod : OpR X (binaryOp .Mod) (rOp g (pBin .mod)) := by
  intro pins s σ H x y v u Q I rx ry ⟨F, p, q, Qd, E, s0, hx, hy, hf, o⟩
  cases p <;> cases q <;> try exact False.elim hf
  exact op_mod pins s σ H x y v u Q I rx ry ⟨_, _, hx.int, hy.int, hf.1, o.int s0 hf.2⟩
theorem op_bin_div : OpR X (binaryOp .FloorDiv) (rOp g (pBin .div)) := by
  intro pins s σ H x y v u Q I rx ry ⟨F, p, q, Qd, E, s0, hx, hy, hf, o⟩
  cases p <;> cases q <;> try exact False.elim hf
  exact op_fdiv pins s σ H x y v u Q I rx ry ⟨_, _, hx.int, hy.int, hf.1, o.int s0 hf.2⟩
theorem op_bin_pow : OpR X (binaryOp .Pow) (rOp g (pBin .pow)) := by
  intro pins s σ H x y v u Q I rx ry ⟨F, p, q, Qd, E, s0, hx, hy, hf, o⟩
  cases p <;> cases q <;> try exact False.elim hf
  exact op_pow pins s σ H x y v u Q I rx ry ⟨_, _, hx.int, hy.int, hf.1, o.int s0 hf.2⟩
theorem repl_cps (c : Array Nat) : ∀ (n : Nat) (acc : Array Nat), (List.replicate n c).foldl (· ++ ·) acc = acc ++ (rep n c.toList).toArray
  | 0, acc => by simp [rep]
  | n + 1, acc => by
    rw [List.replicate_succ, List.foldl_cons, repl_cps c n]
    unfold rep
    rw [List.replicate_succ, List.flatten_cons]
    apply Array.ext'
    simp
theorem op_bin_mul (hK : X.K = g.K) : OpR X (binaryOp .Mult) (rOp g (pBin .mul)) := by
  intro pins s σ H x y v u Q I rx ry ⟨F, p, q, Qd, E, s0, hx, hy, hf, o⟩
  cases p <;> cases q <;> try exact False.elim hf
  · exact op_mul pins s σ H x y v u Q I rx ry ⟨_, _, hx.int, hy.int, hf.1, o.int s0 hf.2⟩
  · rename_i i j
    have ex := hx.str
    have ey := hy.int
    subst ex ey
    obtain ⟨t, rfl⟩ := rx
    obtain ⟨t2, rfl⟩ := ry
    obtain ⟨⟨k1, k2, k4⟩, k3⟩ := hf
    have hp : (i.length : Int) * j ≤ 1000 * 1000 ∨ j < 1 := by
      by_cases hj : j < 1
      · exact .inr hj
      · exact .inl (Int.le_trans (Int.mul_le_mul_of_nonneg_left k2 (by omega)) (Int.mul_le_mul_of_nonneg_right (by omega) (by decide)))
    have hpn : ¬ j < 1 → i.length * j.toNat ≤ 1000000 := fun hj => by
      rcases hp with hp | hp
      · have e : ((i.length * j.toNat : Nat) : Int) = (i.length : Int) * j := by rw [Int.natCast_mul, Int.toNat_of_nonneg (by omega)]
        omega
      · exact absurd hp hj
    refine PySem.P.mul_str (by rw [decide_eq_false (by omega), decide_eq_false (by omega)]; rfl) (fun hj _ => ?_) (fun hj _ => ?_) ?_
    · have : (i.length : Int) ≤ (2 ^ 63 - 1) / j := Int.le_ediv_of_mul_le (by omega) (by rcases hp with hp | hp <;> omega)
      omega
    · have := hpn hj
      unfold PySem.Builtin.Str.tooLong
      exact decide_eq_false (by rw [sizeLine_eq]; omega)
    · by_cases hj : j < 1
      · rw [if_pos hj]
        have e : (⟨(rep j.toNat i.cps.toList).toArray⟩ : Str) = Str.empty := by rw [show j.toNat = 0 by omega]; rfl
        rw [e] at k3
        exact ⟨by decide, .str _, H, I.tok _, ⟨_, rfl⟩, o.str s0 k3⟩
      · rw [if_neg hj]
        by_cases c : (j == 1 || i.length == 0) = true
        · rw [if_pos c]
          have e : (⟨(rep j.toNat i.cps.toList).toArray⟩ : Str) = i := by
            rw [Bool.or_eq_true, beq_iff_eq, beq_iff_eq] at c
            rcases c with c | c
            · subst c
              show (⟨([i.cps.toList].flatten).toArray⟩ : Str) = i
              simp
            · have : i.cps = #[] := Array.size_eq_zero_iff.mp c
              obtain ⟨cps⟩ := i
              have : cps = #[] := this
              subst this
              simp [rep]
          rw [e] at k3
          exact ⟨.str _, H, I, ⟨_, rfl⟩, o.str s0 k3⟩
        · rw [if_neg c, repl_cps]
          have e : (#[] ++ (rep j.toNat i.cps.toList).toArray : Array Nat) = (rep j.toNat i.cps.toList).toArray := by simp
          rw [e]
          refine ⟨?_, .str _, H, I.tok _, ⟨_, rfl⟩, o.str s0 k3⟩
          show (rep j.toNat i.cps.toList).toArray.size ≤ sizeLine
          rw [List.size_toArray, sizeLine_eq]
          have : (rep j.toNat i.cps.toList).length = j.toNat * i.length := by
            unfold rep
            rw [List.length_flatten, List.map_replicate, Array.length_toList]
            show (List.replicate j.toNat i.cps.size).sum = j.toNat * i.cps.size
            generalize j.toNat = m
            induction m with
            | zero => simp
            | succ m ih => rw [List.replicate_succ, List.sum_cons, ih, Nat.succ_mul]; omega
          rw [this, Nat.mul_comm]
          have := hpn hj
          omega
  · rename_i i j
    obtain ⟨a, xs, ex, _, h1, r1⟩ := hx.lst
    obtain ⟨⟨k1, k2⟩, k3⟩ := hf
    have hl := r1.length
    refine op_rep pins s σ H x y v u Q I rx ry ⟨a, j, xs, ex, hy.int, h1, k2, by omega, by rw [hl, line_eq, Nat.mul_comm]; exact k1.1, ?_⟩
    rw [← rep_flat]
    exact o.newL s0 k3 (r1.rep _)
  · rename_i i j
    obtain ⟨a, xs, ex, h1, r1⟩ := hx.tup
    obtain ⟨⟨k1, k2, k4⟩, k3⟩ := hf
    have hl := r1.length
    refine op_repA pins s σ H x y v u Q I rx ry ⟨a, j, xs, ex, hy.int, by rw [hK]; exact h1, k1, k2, by omega, fun e => ?_, fun _ _ => ?_⟩
    · subst ex
      have e2 : rep j.toNat i = i := by
        rcases e with e | e
        · subst e
          cases r1
          unfold rep
          simp
        · subst e
          show (List.replicate 1 i).flatten = i
          simp
      exact o.tup s0 (by rw [e2] at k3; exact k3) h1 r1
    · rw [← rep_flat]
      exact o.newT s0 k3 (r1.rep _)
def bop : Bop → Operator
  | .add => .Add | .sub => .Sub | .mul => .Mult | .div => .FloorDiv | .mod => .Mod | .pow => .Pow
theorem op_bin (hK : X.K = g.K) : ∀ b : Bop, OpR X (binaryOp (bop b)) (rOp g (pBin b))
  | .add => op_bin_add hK
  | .sub => op_bin_sub
  | .mul => op_bin_mul hK
  | .div => op_bin_div
  | .mod => op_bin_mod
  | .pow => op_bin_pow
end
/-! ### comparisons -/
theorem canLayAll_cons {x : PyData} {xs : List PyData} (h : PyData.canLayAll0 (x :: xs) = true) : x.canLay0 = true ∧ PyData.canLayAll0 xs = true := by
  rw [PyData.canLayAll0, Bool.and_eq_true] at h
  exact h
theorem Rep.dp {g : GC} {H : Hp} {F : Addr → Prop} {v : V} {p : PV} (h : Rep g H F v p) : p.canLay0 = true → Dp g.K H v p :=
  Rep.rec (motive_1 := fun v p _ => p.canLay0 = true → Dp g.K H v p) (motive_2 := fun vs ps _ => PyData.canLayAll0 ps = true → DpAll g.K H vs ps)
    (fun _ => .non) (fun b _ => .bl b) (fun i _ => .int i) (fun y _ => .str y) (fun h _ r c => .tup h (r (by rw [PyData.canLay0] at c; exact c)))
    (fun h k n _ r c => .lst (SqL.of h) (r (by rw [PyData.canLay0] at c; exact c)))
    (fun h k n _ c e r z => by subst e; rw [PyData.canLay0] at z; cases z) (fun e z => by subst e; unfold cupV at z; rw [PyData.canLay0] at z; cases z) (fun h e z => by subst e; unfold fnV at z; rw [PyData.canLay0] at z; cases z) (fun _ => .nil)
    (fun _ _ h r c => .cons (h (canLayAll_cons c).1) (r (canLayAll_cons c).2)) h
theorem Reps.dp {g : GC} {H : Hp} {F : Addr → Prop} : ∀ {vs : List V} {ps : List PV}, Reps g H F vs ps → PyData.canLayAll0 ps = true → DpAll g.K H vs ps
  | _, _, .nil, _ => .nil
  | _, _, .cons h r, c => .cons (Rep.dp h (canLayAll_cons c).1) (Reps.dp r (canLayAll_cons c).2)
theorem AnyR.dp {g : GC} {H : Hp} {F : Addr → Prop} {v : V} {p : PV} (h : AnyR g H F v p) (c : p.canLay0 = true) : Dp g.K H v p := by
  cases p with
  | list ds =>
    obtain ⟨a, xs, rfl, _, h1, r⟩ := h.lst
    exact .lst (SqL.of h1) (Reps.dp r (by rw [PyData.canLay0] at c; exact c))
  | dict kvs => rw [PyData.canLay0] at c; cases c
  | _ => exact Rep.dp (h.rep rfl) c
theorem shp_lay {p : PV} (h : shp p = true) : p.canLay0 = true := SeqAt.canLay_of_shaped h
section
variable {X : Cx} {g : GC}
theorem op_data_eq (hK : X.K = g.K) (hu : X.A.units + 64 < cLine) {p q : PV} {F : Addr → Prop} {H : Hp} {x y : V} {pins : List (Addr × Obj)} {s : Shared} {σ : L2.St} {v u : Value} {Q : VK} (I : Inv X pins σ H s) (rx : RelV x v) (ry : RelV y u)
    (hx : AnyR g H F x p) (hy : AnyR g H F y q) (c1 : shp p = true) (c2 : shp q = true) (k : Q (.bl (eqP p q)) H) : wpAny (model X.prog X.w) X.A (compareOp .Eq v u) (EP X pins σ Q) X.xe s :=
  op_eqD hu pins s σ H x y v u Q I rx ry ⟨p, q, by rw [hK]; exact hx.dp (shp_lay c1), by rw [hK]; exact hy.dp (shp_lay c2), c1, c2, k⟩
theorem op_data_ne (hK : X.K = g.K) (hu : X.A.units + 64 < cLine) {p q : PV} {F : Addr → Prop} {H : Hp} {x y : V} {pins : List (Addr × Obj)} {s : Shared} {σ : L2.St} {v u : Value} {Q : VK} (I : Inv X pins σ H s) (rx : RelV x v) (ry : RelV y u)
    (hx : AnyR g H F x p) (hy : AnyR g H F y q) (c1 : shp p = true) (c2 : shp q = true) (k : Q (.bl (!eqP p q)) H) : wpAny (model X.prog X.w) X.A (compareOp .NotEq v u) (EP X pins σ Q) X.xe s :=
  op_neD hu pins s σ H x y v u Q I rx ry ⟨p, q, by rw [hK]; exact hx.dp (shp_lay c1), by rw [hK]; exact hy.dp (shp_lay c2), c1, c2, k⟩
theorem cmpb_of {p q : PV} (h : cmpb p q = true) : PySem.W.alike p q = true ∧ p ≠ .none := by
  unfold cmpb at h
  rw [Bool.and_eq_true] at h
  refine ⟨h.1, fun e => ?_⟩
  subst e
  exact absurd h.2 (by simp)
theorem op_ord (hK : X.K = g.K) (hu : X.A.units + 64 < cLine) {op : CmpOp} {f : PV → PV → Bool}
    (rule : ∀ (s : Shared) (a b : Value) (da db : PyData) (as bs : List Addr) (Q : Value → Shared → Prop), Reads s.heap a da as → Reads s.heap b db bs → PySem.W.alike da db = true → da ≠ .none → X.A.units + min da.depth db.depth < cLine → Q (.bool (f da db)) s → wpAny (model X.prog X.w) X.A (compareOp op a b) Q X.xe s) :
    OpR X (compareOp op) (rOp g fun p q => gd (cmpb p q = true ∧ shp p = true ∧ shp q = true) (pu (.bool (f p q)))) := by
  intro pins s σ H x y v u Q I rx ry ⟨F, p, q, Qd, E, s0, hx, hy, ⟨⟨c1, c2, c3⟩, hf⟩, o⟩
  have h1 := hx.dp (shp_lay c2)
  have h2 := hy.dp (shp_lay c3)
  rw [← hK] at h1 h2
  obtain ⟨as, r1⟩ := Dp.reads I p x v h1 rx
  obtain ⟨bs, r2⟩ := Dp.reads I q y u h2 ry
  obtain ⟨c4, c5⟩ := cmpb_of c1
  refine rule s v u p q as bs _ r1 r2 c4 c5 (SeqAt.room_of_shaped c2 hu) ⟨.bl _, H, I, rfl, o.bl s0 hf⟩
theorem pnot {g : GC} {f : PV → PV → M PV} {H : Hp} {x y : V} {Q : VK} (h : rOp g (fun p q => nB (f p q)) x y H Q) :
    ∃ F p q Qd E, St0 g H F ∧ AnyR g H F x p ∧ AnyR g H F y q ∧ f p q Qd E ∧ ∀ z, Qd z → ∃ b, z = .bool b ∧ ∀ v H' F', Grow g H F H' F' → v = .bl (!b) → Q v H' := by
  obtain ⟨F, p, q, Qd, E, s0, hx, hy, hf, o⟩ := h
  refine ⟨F, p, q, _, E, s0, hx, hy, hf, fun z hz => ?_⟩
  cases z <;> try exact False.elim hz
  rename_i b
  refine ⟨b, rfl, fun v H' F' w e => ?_⟩
  subst e
  exact o _ hz _ H' F' w (Rep.new (.bl (!b)) rfl)
theorem op_cmp_eq (hK : X.K = g.K) (hu : X.A.units + 64 < cLine) : OpR X (compareOp .Eq) (rOp g pEq) := by
  intro pins s σ H x y v u Q I rx ry ⟨F, p, q, Qd, E, s0, hx, hy, hf, o⟩
  unfold pEq at hf
  split at hf
  · exact False.elim hf
  · exact op_data_eq hK hu I rx ry hx hy hf.1.1 hf.1.2 (o.bl s0 hf.2)
theorem op_cmp_ne (hK : X.K = g.K) (hu : X.A.units + 64 < cLine) : OpR X (compareOp .NotEq) (rOp g fun p q => nB (pEq p q)) := by
  intro pins s σ H x y v u Q I rx ry h
  obtain ⟨F, p, q, Qd, E, s0, hx, hy, hf, o⟩ := pnot h
  unfold pEq at hf
  split at hf
  · exact False.elim hf
  · obtain ⟨b, e, k⟩ := o _ hf.2
    cases e
    exact op_data_ne hK hu I rx ry hx hy hf.1.1 hf.1.2 (k _ H F s0.self rfl)
theorem is_bool_wp {M : Model} {A : Around} {x : V} {v : Value} {b : Bool} {Q : Value → Shared → Prop} {E : Value → Shared → Prop} {s : Shared} (r : RelV x v) (h : Q (.bool (decide (x = .bl b))) s) : wpAny M A (compareOp .Is v (.bool b)) Q E s := by
  cases x with
  | non => cases r; exact wpAny_pure h
  | bl c =>
    cases r
    refine wpAny_pure ?_
    have e : decide (V.bl c = V.bl b) = (Value.bool c == Value.bool b) := by cases b <;> cases c <;> rfl
    rw [e] at h
    exact h
  | int i => obtain ⟨t, rfl⟩ := r; exact wpAny_pure h
  | str i => obtain ⟨t, rfl⟩ := r; exact wpAny_pure h
  | byt i => obtain ⟨t, rfl⟩ := r; exact wpAny_pure h
  | flt i => obtain ⟨t, rfl⟩ := r; exact wpAny_pure h
  | ref a => cases r; exact wpAny_pure h
  | ty n => cases r; exact wpAny_pure h
theorem isnot_bool_wp {M : Model} {A : Around} {x : V} {v : Value} {b : Bool} {Q : Value → Shared → Prop} {E : Value → Shared → Prop} {s : Shared} (r : RelV x v) (h : Q (.bool (!decide (x = .bl b))) s) : wpAny M A (compareOp .IsNot v (.bool b)) Q E s := by
  cases x with
  | non => cases r; exact wpAny_pure h
  | bl c =>
    cases r
    refine wpAny_pure ?_
    have e : decide (V.bl c = V.bl b) = (Value.bool c == Value.bool b) := by cases b <;> cases c <;> rfl
    rw [e] at h
    exact h
  | int i => obtain ⟨t, rfl⟩ := r; exact wpAny_pure h
  | str i => obtain ⟨t, rfl⟩ := r; exact wpAny_pure h
  | byt i => obtain ⟨t, rfl⟩ := r; exact wpAny_pure h
  | flt i => obtain ⟨t, rfl⟩ := r; exact wpAny_pure h
  | ref a => cases r; exact wpAny_pure h
  | ty n => cases r; exact wpAny_pure h
theorem AnyR.dec {g : GC} {H : Hp} {F : Addr → Prop} {x : V} {p : PV} (h : AnyR g H F x p) : decide (x = .non) = isNone p ∧ decide (x = .bl true) = isTrueV p ∧ decide (x = .bl false) = isFalseV p := by
  cases p with
  | none => rw [h.none]; exact ⟨rfl, rfl, rfl⟩
  | bool b => rw [h.bool]; cases b <;> exact ⟨rfl, rfl, rfl⟩
  | int b => rw [h.int]; exact ⟨rfl, rfl, rfl⟩
  | str b => rw [h.str]; exact ⟨rfl, rfl, rfl⟩
  | tuple b => obtain ⟨a, _, e, _⟩ := h.tup; rw [e]; exact ⟨rfl, rfl, rfl⟩
  | list b => obtain ⟨a, _, e, _⟩ := h.lst; rw [e]; exact ⟨rfl, rfl, rfl⟩
  | dict b =>
    have e : ∃ a, x = .ref a := by
      unfold AnyR at h
      split at h
      · obtain ⟨a, e, _⟩ := h; exact ⟨a, e⟩
      · cases h with
        | dct => exact ⟨_, rfl⟩
        | cup => exact ⟨_, rfl⟩
        | fn => exact ⟨_, rfl⟩
    obtain ⟨a, e⟩ := e
    rw [e]
    exact ⟨rfl, rfl, rfl⟩
theorem op_cmp_is : OpR X (compareOp .Is) (rOp g pIs) := by
  intro pins s σ H x y v u Q I rx ry ⟨F, p, q, Qd, E, s0, hx, hy, hf, o⟩
  obtain ⟨d1, d2, d3⟩ := hx.dec
  cases q <;> try exact False.elim hf
  · have ey := hy.none
    subst ey
    exact op_isN pins s σ H x _ v u Q I rx ry ⟨rfl, by rw [d1]; exact o.bl s0 hf⟩
  · rename_i b
    have ey := hy.bool
    subst ey
    cases (show u = Value.bool b from ry)
    cases b with
    | true => exact is_bool_wp rx ⟨.bl _, H, I, rfl, by rw [d2]; exact o.bl s0 hf⟩
    | false => exact is_bool_wp rx ⟨.bl _, H, I, rfl, by rw [d3]; exact o.bl s0 hf⟩
theorem op_cmp_isnot : OpR X (compareOp .IsNot) (rOp g fun p q => nB (pIs p q)) := by
  intro pins s σ H x y v u Q I rx ry h
  obtain ⟨F, p, q, Qd, E, s0, hx, hy, hf, o⟩ := pnot h
  obtain ⟨d1, d2, d3⟩ := hx.dec
  cases q <;> try exact False.elim hf
  · have ey := hy.none
    subst ey
    obtain ⟨b, e, k⟩ := o _ hf
    cases e
    exact op_notN pins s σ H x _ v u Q I rx ry ⟨rfl, by rw [d1]; exact k _ H F s0.self rfl⟩
  · rename_i b
    have ey := hy.bool
    subst ey
    cases (show u = Value.bool b from ry)
    cases b with
    | true =>
      obtain ⟨b, e, k⟩ := o _ hf
      cases e
      exact isnot_bool_wp rx ⟨.bl _, H, I, rfl, by rw [d2]; exact k _ H F s0.self rfl⟩
    | false =>
      obtain ⟨b, e, k⟩ := o _ hf
      cases e
      exact isnot_bool_wp rx ⟨.bl _, H, I, rfl, by rw [d3]; exact k _ H F s0.self rfl⟩
theorem Rep.layAll {ds : List PV} (h : shp (.list ds) = true) : PyData.canLayAll0 ds = true := by
  have := shp_lay h
  rw [PyData.canLay0] at this
  exact this
theorem op_cmp_in (hK : X.K = g.K) (hP : X.prog = g.P) (hW : X.w = g.w) (hu : X.A.units + 65 < cLine) : OpR X (compareOp .In) (rOp g pIn) := by
  intro pins s σ H x y v u Q I rx ry ⟨F, p, q, Qd, E, s0, hx, hy, hf, o⟩
  cases q <;> try exact False.elim hf
  · cases p <;> try exact False.elim hf
    have ex := hx.str
    have ey := hy.str
    subst ex ey
    obtain ⟨t, rfl⟩ := rx
    obtain ⟨t2, rfl⟩ := ry
    exact PySem.P.in_str ⟨.bl _, H, I, rfl, o.bl s0 hf⟩
  · rename_i ds
    obtain ⟨⟨c1, c2⟩, hf⟩ := hf
    exact op_inD hu pins s σ H x y v u Q I rx ry ⟨p, ds, by rw [hK]; exact hx.dp (shp_lay c1), by rw [hK]; exact hy.dp (shp_lay c2), c1, c2, o.bl s0 hf⟩
  · rename_i ds
    obtain ⟨⟨c1, c2⟩, hf⟩ := hf
    have h1 := hx.dp (shp_lay c1)
    have h2 := hy.dp (shp_lay c2)
    rw [← hK] at h1 h2
    obtain ⟨as, r1⟩ := Dp.reads I p x v h1 rx
    obtain ⟨bs, r2⟩ := Dp.reads I (.tuple ds) y u h2 ry
    have l2 := shp_lay c2
    rw [PyData.canLay0] at l2
    refine SeqAt.in_tuple_reads r2 r1 l2 (shp_lay c1) ?_ ⟨.bl _, H, I, rfl, o.bl s0 hf⟩
    have h3 := SeqAt.depth_of_shaped (show SeqAt.shaped p = true from c1)
    have h4 : min (PyData.depthAll ds) p.depth ≤ p.depth := Nat.min_le_right _ _
    omega
  · rename_i ds
    obtain ⟨⟨pl, kk⟩, hf⟩ := hf
    obtain ⟨a, kvs, vs, rfl, n, dr, rr, rfl⟩ := hy.dict pl
    cases ry
    rw [zip_fst _ _ rr.lenV] at kk
    have gr := (get_rep (k := p) rr).1
    rw [← gr] at hf
    exact dr_in hK hP hW (by omega) I dr kk (hx.dkey (kndOk_key kk)) rx fun s' I' => ⟨.bl _, H, I', rfl, o.bl s0 hf⟩
theorem op_cmp_notin (hK : X.K = g.K) (hP : X.prog = g.P) (hW : X.w = g.w) (hu : X.A.units + 65 < cLine) : OpR X (compareOp .NotIn) (rOp g fun p q => nB (pIn p q)) := by
  intro pins s σ H x y v u Q I rx ry h
  obtain ⟨F, p, q, Qd, E, s0, hx, hy, hf, o⟩ := pnot h
  cases q <;> try exact False.elim hf
  · cases p <;> try exact False.elim hf
    have ex := hx.str
    have ey := hy.str
    subst ex ey
    obtain ⟨t, rfl⟩ := rx
    obtain ⟨t2, rfl⟩ := ry
    obtain ⟨b, e, k⟩ := o _ hf
    cases e
    exact PySem.P.notIn_str ⟨.bl _, H, I, rfl, k _ H F s0.self rfl⟩
  · rename_i ds
    obtain ⟨⟨c1, c2⟩, hf⟩ := hf
    obtain ⟨b, e, k⟩ := o _ hf
    cases e
    exact op_notInD hu pins s σ H x y v u Q I rx ry ⟨p, ds, by rw [hK]; exact hx.dp (shp_lay c1), by rw [hK]; exact hy.dp (shp_lay c2), c1, c2, k _ H F s0.self rfl⟩
  · rename_i ds
    obtain ⟨⟨c1, c2⟩, hf⟩ := hf
    obtain ⟨b, e, k⟩ := o _ hf
    cases e
    have h1 := hx.dp (shp_lay c1)
    have h2 := hy.dp (shp_lay c2)
    rw [← hK] at h1 h2
    obtain ⟨as, r1⟩ := Dp.reads I p x v h1 rx
    obtain ⟨bs, r2⟩ := Dp.reads I (.tuple ds) y u h2 ry
    have l2 := shp_lay c2
    rw [PyData.canLay0] at l2
    refine SeqAt.notIn_tuple_reads r2 r1 l2 (shp_lay c1) ?_ ⟨.bl _, H, I, rfl, k _ H F s0.self rfl⟩
    have h3 := SeqAt.depth_of_shaped (show SeqAt.shaped p = true from c1)
    have h4 : min (PyData.depthAll ds) p.depth ≤ p.depth := Nat.min_le_right _ _
    omega
  · rename_i ds
    obtain ⟨⟨pl, kk⟩, hf⟩ := hf
    obtain ⟨b, e, k⟩ := o _ hf
    cases e
    obtain ⟨a, kvs, vs, rfl, n, dr, rr, rfl⟩ := hy.dict pl
    cases ry
    rw [zip_fst _ _ rr.lenV] at kk
    have gr := (get_rep (k := p) rr).1
    rw [← gr] at k
    exact dr_notin hK hP hW (by omega) I dr kk (hx.dkey (kndOk_key kk)) rx fun s' I' => ⟨.bl _, H, I', rfl, k _ H F s0.self rfl⟩
def cop : Cop → CmpOp
  | .eq => .Eq | .ne => .NotEq | .lt => .Lt | .le => .LtE | .gt => .Gt | .ge => .GtE | .isin => .In | .notin => .NotIn | .is_ => .Is | .isnot => .IsNot
theorem op_cmp (hK : X.K = g.K) (hP : X.prog = g.P) (hW : X.w = g.w) (hu : X.A.units + 65 < cLine) : ∀ c : Cop, OpR X (compareOp (cop c)) (rOp g (pCmp c))
  | .eq => op_cmp_eq hK (by omega)
  | .ne => op_cmp_ne hK (by omega)
  | .lt => op_ord hK (by omega) fun s a b da db as bs Q r1 r2 h n hu q => PySem.W.lt_data r1 r2 h n hu q
  | .gt => op_ord (f := fun p q => ltP q p) hK (by omega) fun s a b da db as bs Q r1 r2 h n hu q => PySem.W.gt_data r1 r2 h n hu q
  | .le => op_ord (f := fun p q => !ltP q p) hK (by omega) fun s a b da db as bs Q r1 r2 h n hu q => PySem.W.le_data r1 r2 h n hu q
  | .ge => op_ord (f := fun p q => !ltP p q) hK (by omega) fun s a b da db as bs Q r1 r2 h n hu q => PySem.W.ge_data r1 r2 h n hu q
  | .isin => op_cmp_in hK hP hW hu
  | .notin => op_cmp_notin hK hP hW hu
  | .is_ => op_cmp_is
  | .isnot => op_cmp_isnot
end
/-! ### subscripts -/
theorem at_eq {α : Type} (xs : List α) (i : Int) : atI xs i = at? xs i := by
  unfold atI ixN at?
  by_cases h : 0 ≤ i
  · rw [if_pos h, if_pos h]
    by_cases h2 : i < (xs.length : Int)
    · rw [if_pos h2]; rfl
    · rw [if_neg h2]
      show none = xs[i.toNat]?
      rw [List.getElem?_eq_none (by omega)]
  · rw [if_neg h, if_neg h]
    by_cases h2 : -(xs.length : Int) ≤ i
    · rw [if_pos h2, if_pos h2]; rfl
    · rw [if_neg h2, if_neg h2]; rfl
theorem Reps.at {g : GC} {H : Hp} {F : Addr → Prop} {vs : List V} {ds : List PV} (r : Reps g H F vs ds) {i : Int} {d : PV} (h : at? ds i = some d) : ∃ v, atI vs i = some v ∧ Rep g H F v d := by
  rw [at_eq]
  unfold at? at h ⊢
  rw [r.length]
  split at h
  · rename_i h1
    rw [if_pos h1]
    exact r.get h
  · split at h
    · rename_i h1 h2
      rw [if_neg h1, if_pos h2]
      exact r.get h
    · cases h
def OutR (g : GC) (H : Hp) (F : Addr → Prop) (Qd : PV → Prop) (Q : VK) : Prop := ∀ p, Qd p → ∀ v, Rep g H F v p → Q v H
def rIdx (g : GC) : R2 := fun x y H Q => ∃ F p q Qd E, St0 g H F ∧ AnyR g H F x p ∧ AnyR g H F y q ∧ pIdx p q Qd E ∧ OutR g H F Qd Q
section
variable {X : Cx} {g : GC}
theorem ofO_app {α : Type} {o : Option α} {Q : α → Prop} {E : PV → Prop} (h : ofO o Q E) : ∃ a, o = some a ∧ Q a := by
  cases o with
  | none => exact False.elim h
  | some a => exact ⟨a, rfl, h⟩
theorem op_idx (hK : X.K = g.K) (hP : X.prog = g.P) (hW : X.w = g.w) (hu : X.A.units + 9 < cLine) : IxR X (rIdx g) := by
  intro value slice pins s σ H x y v u Q I rx ry ⟨F, p, q, Qd, E, s0, hx, hy, hf, o⟩ hs
  have dict : ∀ ds : KVs, p = .dict ds → wpAny (model X.prog X.w) X.A (subscriptTail value slice v u) (EP X pins σ Q) X.xe s := fun ds e => by
    subst e
    have hf : gd (plainD (.dict ds) = true ∧ kndOk (ds.map (·.1)) q = true) (ofO (dget ds q)) Qd E := hf
    obtain ⟨⟨pl, kk⟩, hf⟩ := hf
    obtain ⟨d, h1, h2⟩ := ofO_app hf
    obtain ⟨a, kvs, vs, rfl, n, dr, rr, rfl⟩ := hx.dict pl
    cases rx
    rw [zip_fst _ _ rr.lenV] at kk
    obtain ⟨v1, h3, h4⟩ := (get_rep (k := q) rr).2 d h1
    exact tail_dict (dr.typeIs I) hs (dr_getItem hK hP hW hu I dr kk (hy.dkey (kndOk_key kk)) h3 ry fun w' s' I' rw' => ⟨v1, H, I', rw', o _ h2 _ h4⟩)
  cases p <;> try exact dict _ rfl
  all_goals cases q <;> try exact False.elim hf
  · obtain ⟨c, h1, h2⟩ := ofO_app hf.2
    rename_i z i
    cases e : at? z.cps.toList i with
    | none => rw [e] at h1; cases h1
    | some c' =>
      rw [e] at h1
      cases h1
      exact ix_str value slice pins s σ H x y v u Q I rx ry ⟨z, i, c', hx.str, hy.int, by rw [line_eq]; exact hf.1, by rw [at_eq]; exact e, o _ h2 _ (.str _)⟩ hs
  · rename_i ds i
    obtain ⟨d, h1, h2⟩ := ofO_app hf
    obtain ⟨a, xs, ex, _, hl, r⟩ := hx.lst
    obtain ⟨w, h3, h4⟩ := r.at h1
    exact ix_list value slice pins s σ H x y v u Q I rx ry ⟨a, xs, i, w, ex, hy.int, SqL.of hl, h3, o _ h2 _ h4⟩ hs
  · rename_i ds i
    obtain ⟨d, h1, h2⟩ := ofO_app hf
    obtain ⟨a, xs, ex, hl, r⟩ := hx.tup
    obtain ⟨w, h3, h4⟩ := r.at h1
    exact ix_tup value slice pins s σ H x y v u Q I rx ry ⟨a, xs, i, w, ex, hy.int, by rw [hK]; exact hl, h3, o _ h2 _ h4⟩ hs
/-- a part of a slice as a value -/
def oi : Option Int → PV
  | none => .none
  | some i => .int i
theorem clip_sIx (n d : Nat) (o : Option Int) : clipI n d (oi o) = some (HT.sIx n d o) := by
  cases o <;> rfl
def rSlc (g : GC) : V → Option Int → Option Int → Hp → VK → Prop := fun x lo hi H Q => ∃ F p Qd E, St0 g H F ∧ AnyR g H F x p ∧ pSlc p (oi lo) (oi hi) Qd E ∧ Out g H F Qd Q
theorem Reps.cut {g : GC} {H : Hp} {F : Addr → Prop} {vs : List V} {ds : List PV} (r : Reps g H F vs ds) (a b : Nat) : Reps g H F ((vs.drop a).take (b - a)) (HG.cut ds a b) := (r.drop a).take _
theorem op_slc (hK : X.K = g.K) : SlR X (rSlc g) := by
  intro pins s σ H x v vl vu lo hi sl Q I rx hs pl pu ⟨F, p, Qd, E, s0, hx, hf, o⟩
  cases p <;> try exact False.elim hf
  · rename_i z
    have hf : bd (ofO (clipI z.length 0 (oi lo))) (fun l => bd (ofO (clipI z.length z.length (oi hi))) fun h => gd (z.length ≤ LINE) (HG.pu (.str ⟨(HG.cut z.cps.toList l h).toArray⟩))) Qd E := hf
    rw [clip_sIx, clip_sIx] at hf
    exact sl_str pins s σ H x v vl vu lo hi sl Q I rx hs pl pu ⟨z, hx.str, by rw [line_eq]; exact hf.1, o.str s0 hf.2⟩
  · rename_i ds
    obtain ⟨a, xs, ex, _, h1, r⟩ := hx.lst
    have hf : bd (ofO (clipI ds.length 0 (oi lo))) (fun l => bd (ofO (clipI ds.length ds.length (oi hi))) fun h => HG.pu (.list (HG.cut ds l h))) Qd E := hf
    rw [clip_sIx, clip_sIx] at hf
    refine sl_list pins s σ H x v vl vu lo hi sl Q I rx hs pl pu ⟨a, xs, ex, SqL.of h1, o.newL s0 hf ?_⟩
    unfold cutV
    rw [r.length]
    exact r.cut _ _
  · rename_i ds
    obtain ⟨a, xs, ex, h1, r⟩ := hx.tup
    have hf : bd (ofO (clipI ds.length 0 (oi lo))) (fun l => bd (ofO (clipI ds.length ds.length (oi hi))) fun h => HG.pu (.tuple (HG.cut ds l h))) Qd E := hf
    rw [clip_sIx, clip_sIx] at hf
    have hr : Reps g H F (cutV xs lo hi) (HG.cut ds (HT.sIx ds.length 0 lo) (HT.sIx ds.length ds.length hi)) := by
      unfold cutV
      rw [r.length]
      exact r.cut _ _
    refine sl_tupA pins s σ H x v vl vu lo hi sl Q I rx hs pl pu ⟨a, xs, ex, by rw [hK]; exact h1, fun ⟨e1, e2⟩ => ?_, fun _ => o.newT s0 hf hr⟩
    rw [r.length] at e1 e2
    have hf : Qd (.tuple (HG.cut ds (HT.sIx ds.length 0 lo) (HT.sIx ds.length ds.length hi))) := hf
    rw [e1, e2] at hf
    have e3 : HG.cut ds 0 ds.length = ds := by unfold HG.cut; simp
    rw [e3] at hf
    exact o.tup s0 hf h1 r
end
/-! ### t[::-1] of a tuple -/
section
variable {prog : Program} {w : World} {A : Around} {E : Value → Shared → Prop} {s : Shared}
theorem adj_rev (n : Nat) : Builtin.Slice.sliceAdjust none none (-1) (n : Int) = ((n : Int) - 1, -1) := by
  unfold Builtin.Slice.sliceAdjust
  simp
theorem places_rev (n : Nat) : Builtin.Slice.slicePlaces ((n : Int) - 1) (-1) (-1) = n := by
  unfold Builtin.Slice.slicePlaces
  have h1 : ¬ ((-1 : Int) > 0) := by omega
  rw [if_neg h1]
  by_cases h : ((n : Int) - 1) > -1
  · rw [if_pos h]; simp
  · rw [if_neg h]; omega
theorem pick_rev (xs : Array Value) : ((List.range xs.size).filterMap fun (m : Nat) => xs[(((xs.size : Int) - 1) + (m : Int) * (-1)).toNat]?).toArray = xs.toList.reverse.toArray := by
  have e : (List.range xs.size).filterMap (fun (m : Nat) => xs[(((xs.size : Int) - 1) + (m : Int) * (-1)).toNat]?) = xs.toList.reverse := by
    have e1 : (List.range xs.size).filterMap (fun (m : Nat) => xs[(((xs.size : Int) - 1) + (m : Int) * (-1)).toNat]?) = (List.range xs.size).map fun m => xs.toList.getD (xs.size - 1 - m) .none := by
      have go : ∀ l : List Nat, (∀ m ∈ l, m < xs.size) → l.filterMap (fun (m : Nat) => xs[(((xs.size : Int) - 1) + (m : Int) * (-1)).toNat]?) = l.map fun m => xs.toList.getD (xs.size - 1 - m) .none := by
        intro l hl
        induction l with
        | nil => rfl
        | cons m l ih =>
          have hm : m < xs.size := hl m List.mem_cons_self
          have e2 : (((xs.size : Int) - 1) + (m : Int) * (-1)).toNat = xs.size - 1 - m := by omega
          have h3 : xs.size - 1 - m < xs.size := by omega
          have e3 : xs[(((xs.size : Int) - 1) + (m : Int) * (-1)).toNat]? = some (xs.toList.getD (xs.size - 1 - m) .none) := by
            rw [e2]
            simp [h3]
          rw [List.filterMap_cons_some (f := fun (m : Nat) => xs[(((xs.size : Int) - 1) + (m : Int) * (-1)).toNat]?) e3, ih fun m h => hl m (List.mem_cons_of_mem _ h), List.map_cons]
      exact go _ fun m hm => List.mem_range.mp hm
    rw [e1]
    apply List.ext_getElem?
    intro i
    by_cases hi : i < xs.size
    · have hi' : i < xs.toList.length := by simpa using hi
      rw [List.getElem?_map, List.getElem?_range hi, List.getElem?_reverse hi']
      have h3 : xs.size - 1 - i < xs.size := by omega
      simp [h3]
    · rw [List.getElem?_eq_none (by simp; omega), List.getElem?_eq_none (by simp; omega)]
  rw [e]
theorem getItem_tuple_rev {t sl : Addr} {items : Array Value} {vs : Value} {Q : Value → Shared → Prop} (ht : IsTup s.heap t items) (hs : s.heap.IsSliceOf sl .none .none vs) (ps : IsPart vs (some (-1)))
    (h : Q (.ref s.heap.objs.size) { s with heap := s.heap.push { cls := .type "tuple", data := .seq items.toList.reverse.toArray } })
    (hsz : items.size ≤ sizeLine) : wpAny (model prog w) A (getItem (.ref t) (.ref sl)) Q E s := by
  have htake : sizeOk (.seq items.toList.reverse.toArray) := by
    show items.toList.reverse.toArray.size ≤ sizeLine
    rw [List.size_toArray, List.length_reverse, Array.length_toList]
    omega
  obtain ⟨os, hos, hcs, hds⟩ := id hs
  have hTs : s.TypeIs (.ref sl) "slice" := ⟨os, hos, hcs⟩
  unfold getItem
  try with_reducible refine wpAny_holding ?_
  first | refine wpAny_bind (wpAny_pure ?_) | skip
  refine wpAny_bind (wpAny_sequenceKey ht.typeIs (by decide) ?_)
  refine wpAny_bind (wpAny_callSpecial?_slot (name := Str.ofString "__getitem__") ht.typeIs PyProof.Rows.slot_tuple_getitem
    (wpAny_call_entry PyProof.Rows.slot_tuple_getitem ht.typeIs entry_tuple_getitem ?_ (args_tuple_getitem _ _)))
  show wpAny _ _ (Builtin.Tuple.tupleItemsOf (.ref t) >>= _) _ _ s
  refine wpAny_bind (tupleItemsOf_ ht ?_)
  refine wpAny_bind (wpAny_typeOf hTs ?_)
  rw [if_pos (by decide)]
  have sa : ∀ {Q : Int × Int × Nat → Shared → Prop}, Q ((items.size : Int) - 1, -1, items.size) s → wpAny (model prog w) A.in1 (Builtin.Slice.sliceApplied (.ref sl) (pure (items.size : Int))) Q E s := by
    intro Q h
    unfold Builtin.Slice.sliceApplied Builtin.Slice.sliceFields
    refine wpAny_bind (wpAny_bind (wpAny_field hos hds (x := .none) rfl (wpAny_bind (wpAny_field hos hds (x := .none) rfl (wpAny_bind (wpAny_field hos hds (x := vs) rfl (wpAny_pure ?_)))))))
    refine wpAny_bind (HT.slicePart_ ps ?_)
    show wpAny _ _ (if ((-1 : Int) == 0) = true then _ else _) _ _ s
    rw [if_neg (by decide)]
    refine wpAny_bind (slicePart_none (wpAny_bind (slicePart_none (wpAny_bind (wpAny_pure ?_)))))
    show wpAny _ _ (match Builtin.Slice.sliceAdjust none none (-1) (items.size : Int) with | (lo, hi) => pure (lo, (-1 : Int), Builtin.Slice.slicePlaces lo hi (-1))) _ _ s
    rw [adj_rev]
    show wpAny _ _ (pure (((items.size : Int) - 1), (-1 : Int), Builtin.Slice.slicePlaces ((items.size : Int) - 1) (-1) (-1))) _ _ s
    rw [places_rev]
    exact wpAny_pure h
  refine wpAny_bind (sa ?_)
  show wpAny _ _ (if (((items.size : Int) - 1) == 0 && (-1 : Int) == 1 && items.size == items.size) = true then _ else _) _ _ s
  rw [if_neg (by simp), pick_rev]
  first
    | exact wpAny_bind (m := Builtin.Tuple.tupleExact _) (wpAny_newObj_type (wpAny_pure ⟨_, rfl, wpAny_pure h⟩) htake)
    | exact wpAny_bind (m := Builtin.Tuple.tupleExact _) (wpAny_newObj_type (wpAny_bind (wpAny_pure (wpAny_pure ⟨_, rfl, wpAny_pure h⟩))) htake)
    | exact wpAny_bind (wpAny_bind (m := Builtin.Tuple.tupleExact _) (wpAny_newObj_type (wpAny_pure (wpAny_pure ⟨_, rfl, wpAny_pure h⟩)) htake))
    | exact wpAny_bind (wpAny_bind (m := Builtin.Tuple.tupleExact _) (wpAny_newObj_type (wpAny_pure ⟨_, rfl, wpAny_pure h⟩) htake))
theorem rvN_le (n : Nat) (v : Int) : rvN n v ≤ n := by
  unfold rvN
  split <;> omega
theorem adj_rvf (n : Nat) (v : Int) : Builtin.Slice.sliceAdjust (some v) none (-1) (n : Int) = (((rvN n v : Nat) : Int) - 1, -1) := by
  unfold Builtin.Slice.sliceAdjust rvN
  have h1 : ((-1 : Int) < 0) := by omega
  simp only [h1, if_true]
  refine Prod.ext ?_ rfl
  show (if v < 0 then max (v + (n : Int)) (-1) else min v ((n : Int) - 1)) = _
  by_cases h : v < 0
  · rw [if_pos h, if_pos h]; omega
  · rw [if_neg h, if_neg h]; omega
theorem pick_rvf (xs : Array Value) (c : Nat) (hc : c ≤ xs.size) : ((List.range c).filterMap fun (m : Nat) => xs[(((c : Nat) : Int) - 1 + (m : Int) * (-1)).toNat]?).toArray = (xs.toList.take c).reverse.toArray := by
  have e : (List.range c).filterMap (fun (m : Nat) => xs[(((c : Nat) : Int) - 1 + (m : Int) * (-1)).toNat]?) = (xs.toList.take c).reverse := by
    have e1 : (List.range c).filterMap (fun (m : Nat) => xs[(((c : Nat) : Int) - 1 + (m : Int) * (-1)).toNat]?) = (List.range c).map fun m => xs.toList.getD (c - 1 - m) .none := by
      have go : ∀ l : List Nat, (∀ m ∈ l, m < c) → l.filterMap (fun (m : Nat) => xs[(((c : Nat) : Int) - 1 + (m : Int) * (-1)).toNat]?) = l.map fun m => xs.toList.getD (c - 1 - m) .none := by
        intro l hl
        induction l with
        | nil => rfl
        | cons m l ih =>
          have hm : m < c := hl m List.mem_cons_self
          have e2 : (((c : Nat) : Int) - 1 + (m : Int) * (-1)).toNat = c - 1 - m := by omega
          have h3 : c - 1 - m < xs.size := by omega
          have e3 : xs[(((c : Nat) : Int) - 1 + (m : Int) * (-1)).toNat]? = some (xs.toList.getD (c - 1 - m) .none) := by
            rw [e2]
            simp [h3]
          rw [List.filterMap_cons_some (f := fun (m : Nat) => xs[(((c : Nat) : Int) - 1 + (m : Int) * (-1)).toNat]?) e3, ih fun m h => hl m (List.mem_cons_of_mem _ h), List.map_cons]
      exact go _ fun m hm => List.mem_range.mp hm
    rw [e1]
    apply List.ext_getElem?
    intro i
    have hl : (xs.toList.take c).length = c := by simp; omega
    by_cases hi : i < c
    · have hi' : i < (xs.toList.take c).length := by omega
      rw [List.getElem?_map, List.getElem?_range hi, List.getElem?_reverse hi', hl, List.getElem?_take, if_pos (by omega)]
      have h3 : c - 1 - i < xs.size := by omega
      simp [h3]
    · rw [List.getElem?_eq_none (by simp; omega), List.getElem?_eq_none (by simp; omega)]
  rw [e]
theorem getItem_tuple_rvf {t sl : Addr} {items : Array Value} {vl vs : Value} {v : Int} {Q : Value → Shared → Prop} (ht : IsTup s.heap t items) (hs : s.heap.IsSliceOf sl vl .none vs) (pl : IsPart vl (some v)) (ps : IsPart vs (some (-1)))
    (h : Q (.ref s.heap.objs.size) { s with heap := s.heap.push { cls := .type "tuple", data := .seq (items.toList.take (rvN items.size v)).reverse.toArray } })
    (hsz : items.size ≤ sizeLine) : wpAny (model prog w) A (getItem (.ref t) (.ref sl)) Q E s := by
  have htake : sizeOk (.seq (items.toList.take (rvN items.size v)).reverse.toArray) := by
    show (items.toList.take (rvN items.size v)).reverse.toArray.size ≤ sizeLine
    rw [List.size_toArray, List.length_reverse, List.length_take, Array.length_toList]
    omega
  obtain ⟨os, hos, hcs, hds⟩ := id hs
  have hTs : s.TypeIs (.ref sl) "slice" := ⟨os, hos, hcs⟩
  unfold getItem
  try with_reducible refine wpAny_holding ?_
  first | refine wpAny_bind (wpAny_pure ?_) | skip
  refine wpAny_bind (wpAny_sequenceKey ht.typeIs (by decide) ?_)
  refine wpAny_bind (wpAny_callSpecial?_slot (name := Str.ofString "__getitem__") ht.typeIs PyProof.Rows.slot_tuple_getitem
    (wpAny_call_entry PyProof.Rows.slot_tuple_getitem ht.typeIs entry_tuple_getitem ?_ (args_tuple_getitem _ _)))
  show wpAny _ _ (Builtin.Tuple.tupleItemsOf (.ref t) >>= _) _ _ s
  refine wpAny_bind (tupleItemsOf_ ht ?_)
  refine wpAny_bind (wpAny_typeOf hTs ?_)
  rw [if_pos (by decide)]
  have sa : ∀ {Q : Int × Int × Nat → Shared → Prop}, Q (((rvN items.size v : Nat) : Int) - 1, -1, rvN items.size v) s → wpAny (model prog w) A.in1 (Builtin.Slice.sliceApplied (.ref sl) (pure (items.size : Int))) Q E s := by
    intro Q h
    unfold Builtin.Slice.sliceApplied Builtin.Slice.sliceFields
    refine wpAny_bind (wpAny_bind (wpAny_field hos hds (x := vl) rfl (wpAny_bind (wpAny_field hos hds (x := .none) rfl (wpAny_bind (wpAny_field hos hds (x := vs) rfl (wpAny_pure ?_)))))))
    refine wpAny_bind (HT.slicePart_ ps ?_)
    show wpAny _ _ (if ((-1 : Int) == 0) = true then _ else _) _ _ s
    rw [if_neg (by decide)]
    refine wpAny_bind (HT.slicePart_ pl (wpAny_bind (slicePart_none (wpAny_bind (wpAny_pure ?_)))))
    show wpAny _ _ (match Builtin.Slice.sliceAdjust (some v) none (-1) (items.size : Int) with | (lo, hi) => pure (lo, (-1 : Int), Builtin.Slice.slicePlaces lo hi (-1))) _ _ s
    rw [adj_rvf]
    show wpAny _ _ (pure ((((rvN items.size v : Nat) : Int) - 1), (-1 : Int), Builtin.Slice.slicePlaces (((rvN items.size v : Nat) : Int) - 1) (-1) (-1))) _ _ s
    rw [places_rev]
    exact wpAny_pure h
  refine wpAny_bind (sa ?_)
  show wpAny _ _ (if ((((rvN items.size v : Nat) : Int) - 1) == 0 && (-1 : Int) == 1 && rvN items.size v == items.size) = true then _ else _) _ _ s
  rw [if_neg (by simp), pick_rvf _ _ (rvN_le _ _)]
  first
    | exact wpAny_bind (m := Builtin.Tuple.tupleExact _) (wpAny_newObj_type (wpAny_pure ⟨_, rfl, wpAny_pure h⟩) htake)
    | exact wpAny_bind (m := Builtin.Tuple.tupleExact _) (wpAny_newObj_type (wpAny_bind (wpAny_pure (wpAny_pure ⟨_, rfl, wpAny_pure h⟩))) htake)
    | exact wpAny_bind (wpAny_bind (m := Builtin.Tuple.tupleExact _) (wpAny_newObj_type (wpAny_pure (wpAny_pure ⟨_, rfl, wpAny_pure h⟩)) htake))
    | exact wpAny_bind (wpAny_bind (m := Builtin.Tuple.tupleExact _) (wpAny_newObj_type (wpAny_pure ⟨_, rfl, wpAny_pure h⟩) htake))
end
/-- e[::-1] -/
def tRvs (g : GC) (te : TE) : TE := fun σ H Q => te σ H fun x H1 => ∃ F p Qd E, St0 g H1 F ∧ AnyR g H1 F x p ∧ pRev p Qd E ∧ Out g H1 F Qd Q
theorem pe_rvs {X : Cx} {g : GC} (hK : X.K = g.K) {e : Expr} {te : TE} {k : Nat} {p1 p2 p3 pos : Pos} (he : PE X e te) : PE X (.Subscript e (.Slice none none (some (.UnaryOp .USub (.Constant (.int 1) k p1) p2)) p3) pos) (tRvs g te) := by
  refine ⟨fun pins s σ H Q I h => ?_⟩
  refine Subscript_ (thn (he.run pins s σ H _ I h) fun v s1 ⟨x, H1, I1, r1, q1⟩ => ?_)
  obtain ⟨F, p, Qd, E, s0, hx, hf, o⟩ := q1
  have hst : PO X (some (.UnaryOp .USub (.Constant (.int 1) k p1) p2)) (tPart (tUn (rU fun i => .int (-i)) (tC (.int 1)))) := po_some (pe_un un_neg pe_int)
  refine wpAny_Slice (thn (po_none.run pins s1 σ H1 (fun o H2 => o = none ∧ H2 = H1) I1 ⟨rfl, rfl⟩) fun vl s2 ⟨l, H2, I2, pl, el, e2⟩ => ?_)
  subst el e2
  refine thn (po_none.run pins s2 σ H2 (fun o H3 => o = none ∧ H3 = H2) I2 ⟨rfl, rfl⟩) fun vu s3 ⟨u, H3, I3, pu, eu, e3⟩ => ?_
  subst eu e3
  refine thn (hst.run pins s3 σ H3 (fun o H4 => o = some (-1) ∧ H4 = H3) I3 ⟨1, rfl, -1, rfl, rfl, rfl⟩) fun vs s4 ⟨o', H4, I4, ps, eo, e4⟩ => ?_
  subst eo e4
  have I5 : Inv X pins σ H4 { s4 with heap := s4.heap.push { cls := .type "slice", data := .fields #[vl, vu, vs] } } := I4.kept (t' := s4.toks) fun b ob q => Heap.get?_push_of_some _ q
  show wpAny (model X.prog X.w) X.A (subscriptTail e (.Slice none none (some (.UnaryOp .USub (.Constant (.int 1) k p1) p2)) p3) v (.ref s4.heap.objs.size)) (EP X pins σ Q) X.xe { s4 with heap := s4.heap.push { cls := .type "slice", data := .fields #[vl, vu, vs] } }
  cases pl
  cases pu
  cases p <;> try exact False.elim hf
  · rename_i ds
    obtain ⟨a, xs, rfl, _, h1, r⟩ := hx.lst
    cases r1
    obtain ⟨its, rv, ht, hz⟩ := I5.list (SqL.of h1)
    have hlen := rv.length
    refine tail_any (ops := [.ref a, .ref s4.heap.objs.size]) ht.isList.typeIs (PySem.slot_list_getitem.lookup) ?_ (by with_unfolding_all rfl)
    refine wpAny_getItem_list_slice ht.isList (Heap.IsSliceOf.new _ .none .none vs) .none .none ps (by decide) ?_ (by rw [List.size_toArray]; omega)
    rw [PySem.W.krv_pick]
    refine ⟨.ref _, _, I5.laid (t' := s4.toks) (o := .lst xs.reverse) (fun b ob q => Heap.get?_push_of_some _ q) (Nat.le_refl _) ?_, rfl, o.newL s0 hf r.rev _ (I5.hok.fresh (Nat.le_refl _))⟩
    exact ⟨by rw [List.length_reverse]; exact hz, _, 0, rv.reverse, Heap.get?_push_size _ rfl⟩
  · rename_i ds
    obtain ⟨a, xs, rfl, h1, r⟩ := hx.tup
    cases r1
    obtain ⟨its, rv, ht, hz⟩ := I5.tuple (by rw [hK]; exact h1)
    have hlen := rv.length
    refine tail_any (ops := [.ref a, .ref s4.heap.objs.size]) ht.typeIs (PyProof.Rows.slot_tuple_getitem.lookup) ?_ (by with_unfolding_all rfl)
    refine getItem_tuple_rev ht (Heap.IsSliceOf.new _ .none .none vs) ps ?_ (by rw [List.size_toArray]; omega)
    refine ⟨.ref _, _, I5.laid (t' := s4.toks) (o := .tup xs.reverse) (fun b ob q => Heap.get?_push_of_some _ q) (Nat.le_refl _) ?_, rfl, o.newT s0 hf r.rev _ (I5.hok.fresh (Nat.le_refl _))⟩
    exact ⟨by rw [List.length_reverse]; exact hz, its.reverse, rv.reverse, ⟨_, Heap.get?_push_size _ rfl, rfl, 0, rfl⟩⟩
/-- e[lo::-1] -/
def tRvf (g : GC) (te tl : TE) : TE := fun σ H Q => te σ H fun x H1 => tl σ H1 fun y H2 => ∃ v, y = .int v ∧ ∃ i, some v = some i ∧ ∃ F p Qd E, St0 g H2 F ∧ AnyR g H2 F x p ∧ pRvf p (.int i) Qd E ∧ Out g H2 F Qd Q
theorem pe_rvf {X : Cx} {g : GC} (hK : X.K = g.K) {e lo : Expr} {te tl : TE} {k : Nat} {p1 p2 p3 pos : Pos} (he : PE X e te) (hl : PE X lo tl) : PE X (.Subscript e (.Slice (some lo) none (some (.UnaryOp .USub (.Constant (.int 1) k p1) p2)) p3) pos) (tRvf g te tl) := by
  refine ⟨fun pins s σ H Q I h => ?_⟩
  refine Subscript_ (thn (he.run pins s σ H _ I h) fun v s1 ⟨x, H1, I1, r1, q1⟩ => ?_)
  have hst : PO X (some (.UnaryOp .USub (.Constant (.int 1) k p1) p2)) (tPart (tUn (rU fun i => .int (-i)) (tC (.int 1)))) := po_some (pe_un un_neg pe_int)
  have hlo : PO X (some lo) (tPart tl) := po_some hl
  refine wpAny_Slice (thn (hlo.run pins s1 σ H1 (fun o H2 => ∃ i, o = some i ∧ ∃ F p Qd E, St0 g H2 F ∧ AnyR g H2 F x p ∧ pRvf p (.int i) Qd E ∧ Out g H2 F Qd Q) I1 q1) fun vl s2 ⟨l, H2, I2, pl, el⟩ => ?_)
  obtain ⟨i, rfl, F, p, Qd, E, s0, hx, hf, o⟩ := el
  refine thn (po_none.run pins s2 σ H2 (fun o H3 => o = none ∧ H3 = H2) I2 ⟨rfl, rfl⟩) fun vu s3 ⟨u, H3, I3, pu, eu, e3⟩ => ?_
  subst eu e3
  refine thn (hst.run pins s3 σ H3 (fun o H4 => o = some (-1) ∧ H4 = H3) I3 ⟨1, rfl, -1, rfl, rfl, rfl⟩) fun vs s4 ⟨o', H4, I4, ps, eo, e4⟩ => ?_
  subst eo e4
  have I5 : Inv X pins σ H4 { s4 with heap := s4.heap.push { cls := .type "slice", data := .fields #[vl, vu, vs] } } := I4.kept (t' := s4.toks) fun b ob q => Heap.get?_push_of_some _ q
  show wpAny (model X.prog X.w) X.A (subscriptTail e (.Slice (some lo) none (some (.UnaryOp .USub (.Constant (.int 1) k p1) p2)) p3) v (.ref s4.heap.objs.size)) (EP X pins σ Q) X.xe { s4 with heap := s4.heap.push { cls := .type "slice", data := .fields #[vl, vu, vs] } }
  cases pu
  cases p <;> try exact False.elim hf
  · rename_i ds
    obtain ⟨a, xs, rfl, h1, r⟩ := hx.tup
    cases r1
    obtain ⟨its, rv, ht, hz⟩ := I5.tuple (by rw [hK]; exact h1)
    have hlen := rv.length
    have hlen2 := r.length
    refine tail_any (ops := [.ref a, .ref s4.heap.objs.size]) ht.typeIs (PyProof.Rows.slot_tuple_getitem.lookup) ?_ (by with_unfolding_all rfl)
    refine getItem_tuple_rvf ht (Heap.IsSliceOf.new _ vl .none vs) pl ps ?_ (by rw [List.size_toArray]; omega)
    have e1 : its.toArray.size = xs.length := by rw [List.size_toArray, hlen]
    have hf : Qd (.tuple (ds.take (rvN ds.length i)).reverse) := hf
    rw [e1]
    rw [← hlen2] at hf
    refine ⟨.ref _, _, I5.laid (t' := s4.toks) (o := .tup (xs.take (rvN xs.length i)).reverse) (fun b ob q => Heap.get?_push_of_some _ q) (Nat.le_refl _) ?_, rfl, o.newT s0 hf (r.take _).rev _ (I5.hok.fresh (Nat.le_refl _))⟩
    exact ⟨by rw [List.length_reverse, List.length_take]; omega, (its.take _).reverse, (rv.take _).reverse, ⟨_, Heap.get?_push_size _ rfl, rfl, 0, rfl⟩⟩
end HG
end
section
set_option maxHeartbeats 4000000
/-! HGMin: min of two that < tells apart. -/
namespace HG
open PySem PySem.W
section
variable {prog : Program} {w : World} {A : Around} {E : Value → Shared → Prop} {s : Shared}
theorem min_two_data {a b : Value} {x y : PyData} {as : List Addr} {Q : Value → Shared → Prop} (hh : A.handled = none) (hr : ReadsAll s.heap [a, b] [x, y] as) (ha : AlikeAll [x, y]) (hu : A.units + 1 + PyData.depthAll [x, y] < cLine)
    (h : ∀ v h' tk bs, (v = a ∨ v = b) → Reads h' v (minD x [y]) bs → (∀ b o, s.heap.get? b = some o → h'.get? b = some o) → Q v { s with heap := h', toks := tk }) :
    wpAny (model prog w) A (PySem.call (.builtin "min") [a, b]) Q E s := by
  have hname : (toString "min" ++ toString ".loop" : String) = "min.loop" := by decide
  refine call_function_tree F.kind_min F.plain_min F.entry_min (F.args_min2 _ _) ?_
  show wpAny _ A.in1 (Builtin.Builtins.bindParams "min" ["key", "default"] 0 ⟨[], []⟩ >>= _) _ _ s
  refine wpAny_bind (wpAny_of_eq (show Builtin.Builtins.bindParams "min" ["key", "default"] 0 ⟨[], []⟩ = pure [none, none] from rfl) ?_)
  show wpAny _ A.in1 (newTuple [a, b] >>= _) _ _ s
  refine wpAny_bind (wpAny_newObj_type ?_)
  have hT : (s.heap.push { cls := .type "tuple", data := .seq #[a, b] }).IsTuple s.heap.objs.size #[a, b] := ⟨_, Heap.get?_push_size _ rfl, rfl, 0, rfl⟩
  have k1 : ∀ c o, s.heap.get? c = some o → (s.heap.push { cls := .type "tuple", data := .seq #[a, b] }).get? c = some o := fun _ o e => Heap.get?_push_of_some _ e
  generalize hs1 : ({ s with heap := s.heap.push { cls := .type "tuple", data := .seq #[a, b] } } : Shared) = s1
  have e1 : s1.heap = s.heap.push { cls := .type "tuple", data := .seq #[a, b] } := by rw [← hs1]
  rw [← e1] at hT k1
  have hra : ∀ (vs : List Value) (xs : List PyData) (as : List Addr), ReadsAll s.heap vs xs as → ReadsAll s1.heap vs xs as := fun vs xs as r => PyProof.Rows.ReadsAll.keeps k1 r
  have hr1 := hra _ _ _ hr
  refine wpAny_bind (iter_tupleW (A := A.in1) (s := s1) hh hT fun s₂ e W st hfp hw hk => ?_)
  refine wpAny_bind (wpAny_newObj_type ?_)
  have hSf : s₂.heap.objs.size ∉ [s1.heap.objs.size, s.heap.objs.size] := fun hm => Nat.lt_irrefl _ (hfp _ hm)
  rw [hname]
  refine wpAny_pure ⟨plainId_quiet F.plain_min_loop _, codeAny_min_loop_firstH W s1.heap hw _ (cmpIn_lt (A := A.in1) (s := s1) (vs := #[a, b]) hr1 ha (by show A.units + 1 + _ < _; exact hu)) s₂.heap.objs.size hSf (fresh_in hk) _ (by show 0 < 2; decide) (fun b o e => Heap.get?_push_of_some _ (hk b o e)) (W.frame 0 s₂ _ s₂.toks st (Nat.le_refl _) fun b _ o e => Heap.get?_push_of_some _ e) (Heap.get?_push_size _ rfl) fun v s' hP hm => ?_⟩
  have m := Moved.drop_new (tk := s₂.toks) hm (Nat.le_refl _)
  obtain ⟨h', tk, es, hk'⟩ := moved_old (s := s1) e rfl m
  obtain ⟨bs, r, hi, _, _⟩ := readsAll_atA hr1 _ v hP
  have e2 := (argBest_fold dataLt PyData.none x [y] 1 (Nat.le_refl _)).2
  subst es
  have hv : v = a ∨ v = b := by
    have hP : (#[a, b] : Array Value)[argBest (fun i j => dataLt ([x, y].getD i .none) ([x, y].getD j .none)) 1]? = some v := hP
    generalize argBest (fun i j => dataLt ([x, y].getD i .none) ([x, y].getD j .none)) 1 = n at hP
    match n, hP with
    | 0, hP => exact .inl (Option.some.inj hP).symm
    | 1, hP => exact .inr (Option.some.inj hP).symm
    | n + 2, hP => simp at hP
  have fin := h v h' tk bs hv (by
    refine reads_keeps hk' ?_
    have e3 : [y].take 1 = [y] := rfl
    rw [e3] at e2
    unfold minD
    rw [← e2]
    exact r) fun b o e => hk' b o (k1 b o e)
  rw [← hs1]
  exact fin
end
end HG
end
section
set_option maxHeartbeats 4000000
/-! HGBi: the built-ins by values. -/
namespace HG
open PySem PySem.Spec PyProof.Rows L2
inductive Anys (g : GC) (H : Hp) (F : Addr → Prop) : List V → List PV → Prop
  | nil : Anys g H F [] []
  | cons {v : V} {vs : List V} {d : PV} {ds : List PV} : AnyR g H F v d → Anys g H F vs ds → Anys g H F (v :: vs) (d :: ds)
theorem Anys.ext {g : GC} {H H' : Hp} {F F' : Addr → Prop} (x : Ext g.ca H H') (f : ∀ a, F a → F' a) : ∀ {vs : List V} {ds : List PV}, Anys g H F vs ds → Anys g H' F' vs ds
  | _, _, .nil => .nil
  | _, _, .cons h r => .cons (h.ext x f) (Anys.ext x f r)
theorem Reps.anys {g : GC} {H : Hp} {F : Addr → Prop} : ∀ {vs : List V} {ds : List PV}, Reps g H F vs ds → Anys g H F vs ds
  | _, _, .nil => .nil
  | _, _, .cons h r => .cons h.any (Reps.anys r)
/-- .. of values that are shared from now on -/
def OutS (g : GC) (H : Hp) (F : Addr → Prop) (Qd : PV → Prop) (Q : VK) : Prop := ∀ p, Qd p → ∀ v H' F', Grow g H F H' F' → Rep g H' F' v p → Q v H'
theorem OutS.out {g : GC} {H : Hp} {F : Addr → Prop} {Qd : PV → Prop} {Q : VK} (o : OutS g H F Qd Q) : Out g H F Qd Q := fun p hp v H' F' w r => by
  obtain ⟨F2, w2, r2, _⟩ := New.frozen w r
  exact o p hp v H' F2 w2 r2
def rBi (g : GC) (b : Bi) : List V → Hp → VK → Prop := fun xs H Q => ∃ F ps Qd E, St0 g H F ∧ Anys g H F xs ps ∧ pBi b ps Qd E ∧ Out g H F Qd Q
def rBiS (g : GC) (b : Bi) : List V → Hp → VK → Prop := fun xs H Q => ∃ F ps Qd E, St0 g H F ∧ Anys g H F xs ps ∧ pBi b ps Qd E ∧ OutS g H F Qd Q
theorem callR_shr {X : Cx} {g : GC} {b : Bi} {f : Value} (h : CallR X f (rBi g b)) : CallR X f (rBiS g b) := fun pins s σ H xs us Q I r ⟨F, ps, Qd, E, s0, hx, hf, o⟩ => h pins s σ H xs us Q I r ⟨F, ps, Qd, E, s0, hx, hf, o.out⟩
section
variable {g : GC} {H : Hp} {F : Addr → Prop}
theorem anys1 {xs : List V} {d : PV} (h : Anys g H F xs [d]) : ∃ x, xs = [x] ∧ AnyR g H F x d := by
  cases h with
  | cons a r => cases r; exact ⟨_, rfl, a⟩
theorem anys2 {xs : List V} {d e : PV} (h : Anys g H F xs [d, e]) : ∃ x y, xs = [x, y] ∧ AnyR g H F x d ∧ AnyR g H F y e := by
  cases h with
  | cons a r =>
    cases r with
    | cons b r => cases r; exact ⟨_, _, rfl, a, b⟩
theorem reps_ints : ∀ {ds : List PV} {is : List Int} {xs : List V}, intsOf ds = some is → Reps g H F xs ds → xs = is.map V.int
  | [], is, xs, e, r => by cases r; cases e; rfl
  | d :: ds, is, xs, e, r => by
    cases r with
    | cons r1 r2 =>
      cases d with
      | int i =>
        have e2 : (intsOf ds).map (i :: ·) = some is := e
        obtain ⟨js, h1, h2⟩ := Option.map_eq_some_iff.mp e2
        have h3 := reps_ints h1 r2
        have h4 := (Rep.any r1).int
        subst h2 h3 h4
        rfl
      | _ => cases e
theorem reps_bools : ∀ {ds : List PV} {is : List Bool} {xs : List V}, boolsOf ds = some is → Reps g H F xs ds → xs = is.map V.bl
  | [], is, xs, e, r => by cases r; cases e; rfl
  | d :: ds, is, xs, e, r => by
    cases r with
    | cons r1 r2 =>
      cases d with
      | bool i =>
        have e2 : (boolsOf ds).map (i :: ·) = some is := e
        obtain ⟨js, h1, h2⟩ := Option.map_eq_some_iff.mp e2
        have h3 := reps_bools h1 r2
        have h4 := (Rep.any r1).bool
        subst h2 h3 h4
        rfl
      | _ => cases e
end
section
variable {X : Cx} {g : GC}
/-- the items of a list or a tuple, read -/
theorem seq_dp {H : Hp} {F : Addr → Prop} {x : V} {v : PV} {ds : List PV} (hx : AnyR g H F x v) (hs : v = .list ds ∨ v = .tuple ds) :
    ∃ a xs, x = .ref a ∧ Reps g H F xs ds ∧ ((v = .list ds ∧ H a = some (.lst xs)) ∨ (v = .tuple ds ∧ SqT g.K H a xs)) := by
  rcases hs with rfl | rfl
  · obtain ⟨a, xs, e, _, h, r⟩ := hx.lst
    exact ⟨a, xs, e, r, .inl ⟨rfl, h⟩⟩
  · obtain ⟨a, xs, e, h, r⟩ := hx.tup
    exact ⟨a, xs, e, r, .inr ⟨rfl, h⟩⟩
theorem seqV_app {v : PV} {Q : List PV → Prop} {E : PV → Prop} (h : seqV v Q E) : ∃ ds, (v = .list ds ∨ v = .tuple ds) ∧ Q ds := by
  cases v <;> try exact False.elim h
  · exact ⟨_, .inl rfl, h⟩
  · exact ⟨_, .inr rfl, h⟩
theorem shpL {ds : List PV} (h : shp (.list ds) = true) : PyData.canLayAll0 ds = true ∧ PyData.depthAll ds ≤ 63 := by
  refine ⟨Rep.layAll h, ?_⟩
  have := SeqAt.depth_of_shaped (show SeqAt.shaped (.list ds) = true from h)
  rw [PyData.depth] at this
  omega
/-- the item that min, max hands on -/
theorem pick_item {pins : List (Addr × Obj)} {s : Shared} {σ : L2.St} {H : Hp} {F : Addr → Prop} (I : Inv X pins σ H s) (hK : X.K = g.K) {xs : List V} {ds : List PV} {its : List Value} (r : Reps g H F xs ds) (rv : Vals xs its) (c : PyData.canLayAll0 ds = true)
    {i : Nat} {v : Value} (hv : its[i]? = some v) {d : PV} (hd : d ∈ ds) {h' : Heap} {bs : List Addr} (hr : Reads h' v d bs) (k : ∀ b o, s.heap.get? b = some o → h'.get? b = some o) : ∃ w, RelV w v ∧ Rep g H F w d := by
  have hi : i < xs.length := by
    have := List.getElem?_eq_some_iff.mp hv
    obtain ⟨h1, _⟩ := this
    rw [rv.length]; exact h1
  obtain ⟨u, h1, h2⟩ := rv.get (List.getElem?_eq_getElem hi)
  rw [hv] at h1
  cases h1
  obtain ⟨e, h3, h4⟩ := r.getV (List.getElem?_eq_getElem hi)
  have he : e ∈ ds := List.mem_of_getElem? h3
  have ce := PyData.canLay0_of_mem ds e c he
  have cd := PyData.canLay0_of_mem ds d c hd
  have h5 := Rep.dp h4 ce
  rw [← hK] at h5
  obtain ⟨as, h6⟩ := Dp.reads I e _ v h5 h2
  have h7 := PySem.W.reads_keeps k h6
  have e1 := SeqAt.readOf_eq ce h7
  have e2 := SeqAt.readOf_eq cd hr
  rw [e1] at e2
  subst e2
  exact ⟨_, h2, h4⟩
theorem minD_mem (x : PV) (xs : List PV) : PySem.W.minD x xs ∈ x :: xs := by
  unfold PySem.W.minD
  have go : ∀ (l : List PV) (a : PV), l.foldl (fun a y => if PySem.W.dataLt y a then y else a) a ∈ a :: l := by
    intro l
    induction l with
    | nil => intro a; exact List.mem_cons_self
    | cons y l ih =>
      intro a
      rw [List.foldl_cons]
      have := ih (if PySem.W.dataLt y a then y else a)
      split at this
      · rename_i h
        rw [if_pos h]
        exact List.mem_cons_of_mem _ this
      · rename_i h
        rw [if_neg h]
        rcases List.mem_cons.mp this with e | e
        · rw [e]; exact List.mem_cons_self
        · exact List.mem_cons_of_mem _ (List.mem_cons_of_mem _ e)
  exact go xs x
theorem maxD_mem (x : PV) (xs : List PV) : PySem.W.maxD x xs ∈ x :: xs := by
  unfold PySem.W.maxD
  have go : ∀ (l : List PV) (a : PV), l.foldl (fun a y => if PySem.W.dataLt a y then y else a) a ∈ a :: l := by
    intro l
    induction l with
    | nil => intro a; exact List.mem_cons_self
    | cons y l ih =>
      intro a
      rw [List.foldl_cons]
      have := ih (if PySem.W.dataLt a y then y else a)
      split at this
      · rename_i h
        rw [if_pos h]
        exact List.mem_cons_of_mem _ this
      · rename_i h
        rw [if_neg h]
        rcases List.mem_cons.mp this with e | e
        · rw [e]; exact List.mem_cons_self
        · exact List.mem_cons_of_mem _ (List.mem_cons_of_mem _ e)
  exact go xs x
theorem OutS.rep {H : Hp} {F : Addr → Prop} {Qd : PV → Prop} {Q : VK} (o : OutS g H F Qd Q) (s : St0 g H F) {p : PV} (hp : Qd p) {v : V} (r : Rep g H F v p) : Q v H := o p hp v H F s.self r
theorem bi_min1 (hK : X.K = g.K) (hc : X.calm = true) (hu : X.A.units + 65 < cLine) : CallR X (.builtin "min") (rBiS g .min1) := by
  intro pins s σ H xs us Q I r ⟨F, ps, Qd, E, s0, hx, hf, o⟩
  rcases ps with _ | ⟨p, _ | ⟨p2, ps⟩⟩ <;> try exact False.elim hf
  obtain ⟨x, rfl, hx1⟩ := anys1 hx
  obtain ⟨u, rfl, rx⟩ := vals1 r
  have hf : bd (seqV p) (fun xs => match xs with
      | [] => stuck
      | x :: r => gd (AllCmp (x :: r)) (pu (PySem.W.minD x r))) Qd E := hf
  obtain ⟨ds, hs, hf⟩ := seqV_app hf
  cases ds with
  | nil => exact False.elim hf
  | cons d ds =>
    obtain ⟨⟨hal, hsh⟩, hq⟩ := hf
    obtain ⟨c1, c2⟩ := shpL hsh
    obtain ⟨a, vs, rfl, rr, hl⟩ := seq_dp hx1 hs
    cases rx
    have hdp := Reps.dp rr c1
    rw [← hK] at hdp
    rcases hl with ⟨_, hl⟩ | ⟨_, hl⟩
    · obtain ⟨its, rv, pl, hz⟩ := I.list (SqL.of hl)
      obtain ⟨as, hra⟩ := Dp.readsAll I _ _ its hdp rv
      refine PySem.W.min_list_data (I.ok.hd hc) pl.isList (by simpa using hra) hal (by omega) fun i v h' tk bs hv hr hk => ?_
      obtain ⟨w, h1, h2⟩ := pick_item I hK rr rv c1 (by simpa using hv) (minD_mem d ds) hr hk
      exact ⟨w, H, I.kept hk, h1, o.rep s0 hq h2⟩
    · obtain ⟨its, rv, pl, hz⟩ := I.tuple (by rw [hK]; exact hl)
      obtain ⟨as, hra⟩ := Dp.readsAll I _ _ its hdp rv
      refine PySem.W.min_tuple_data (I.ok.hd hc) (show s.heap.IsTuple a its.toArray from pl) (by simpa using hra) hal (by omega) fun i v h' tk bs hv hr hk => ?_
      obtain ⟨w, h1, h2⟩ := pick_item I hK rr rv c1 (by simpa using hv) (minD_mem d ds) hr hk
      exact ⟨w, H, I.kept hk, h1, o.rep s0 hq h2⟩
theorem bi_max1 (hK : X.K = g.K) (hc : X.calm = true) (hu : X.A.units + 65 < cLine) : CallR X (.builtin "max") (rBiS g .max1) := by
  intro pins s σ H xs us Q I r ⟨F, ps, Qd, E, s0, hx, hf, o⟩
  rcases ps with _ | ⟨p, _ | ⟨p2, ps⟩⟩ <;> try exact False.elim hf
  obtain ⟨x, rfl, hx1⟩ := anys1 hx
  obtain ⟨u, rfl, rx⟩ := vals1 r
  have hf : bd (seqV p) (fun xs => match xs with
      | [] => stuck
      | x :: r => gd (AllCmp (x :: r)) (pu (PySem.W.maxD x r))) Qd E := hf
  obtain ⟨ds, hs, hf⟩ := seqV_app hf
  cases ds with
  | nil => exact False.elim hf
  | cons d ds =>
    obtain ⟨⟨hal, hsh⟩, hq⟩ := hf
    obtain ⟨c1, c2⟩ := shpL hsh
    obtain ⟨a, vs, rfl, rr, hl⟩ := seq_dp hx1 hs
    cases rx
    have hdp := Reps.dp rr c1
    rw [← hK] at hdp
    rcases hl with ⟨_, hl⟩ | ⟨_, hl⟩
    · obtain ⟨its, rv, pl, hz⟩ := I.list (SqL.of hl)
      obtain ⟨as, hra⟩ := Dp.readsAll I _ _ its hdp rv
      refine PySem.W.max_list_data (I.ok.hd hc) pl.isList (by simpa using hra) hal (by omega) fun i v h' tk bs hv hr hk => ?_
      obtain ⟨w, h1, h2⟩ := pick_item I hK rr rv c1 (by simpa using hv) (maxD_mem d ds) hr hk
      exact ⟨w, H, I.kept hk, h1, o.rep s0 hq h2⟩
    · obtain ⟨its, rv, pl, hz⟩ := I.tuple (by rw [hK]; exact hl)
      obtain ⟨as, hra⟩ := Dp.readsAll I _ _ its hdp rv
      refine PySem.W.max_tuple_data (I.ok.hd hc) (show s.heap.IsTuple a its.toArray from pl) (by simpa using hra) hal (by omega) fun i v h' tk bs hv hr hk => ?_
      obtain ⟨w, h1, h2⟩ := pick_item I hK rr rv c1 (by simpa using hv) (maxD_mem d ds) hr hk
      exact ⟨w, H, I.kept hk, h1, o.rep s0 hq h2⟩
theorem bi_max2 (hc : X.calm = true) : CallR X (.builtin "max") (rBi g .max2) := by
  intro pins s σ H xs us Q I r ⟨F, ps, Qd, E, s0, hx, hf, o⟩
  rcases ps with _ | ⟨p, _ | ⟨p2, _ | ⟨p3, ps⟩⟩⟩ <;> try exact False.elim hf
  · cases p <;> exact False.elim hf
  · cases p <;> cases p2 <;> try exact False.elim hf
    obtain ⟨x, y, rfl, h1, h2⟩ := anys2 hx
    exact call_max2 hc pins s σ H _ us Q I r ⟨_, _, by rw [h1.int, h2.int], o.int s0 hf⟩
  · cases p <;> cases p2 <;> exact False.elim hf
theorem bi_min2 (hK : X.K = g.K) (hc : X.calm = true) (hu : X.A.units + 65 < cLine) : CallR X (.builtin "min") (rBi g .min2) := by
  intro pins s σ H xs us Q I r ⟨F, ps, Qd, E, s0, hx, hf, o⟩
  rcases ps with _ | ⟨p, _ | ⟨p2, _ | ⟨p3, ps⟩⟩⟩ <;> try exact False.elim hf
  · have hf : pMin2 p p2 Qd E := hf
    obtain ⟨x, y, rfl, h1, h2⟩ := anys2 hx
    cases p <;> cases p2 <;> try exact False.elim hf
    · exact call_min2 hc pins s σ H _ us Q I r ⟨_, _, by rw [h1.int, h2.int], o.int s0 hf⟩
    · rename_i ds es _
      obtain ⟨⟨hal, hsh⟩, hq⟩ := hf
      obtain ⟨c1, c2⟩ := shpL hsh
      obtain ⟨a, vs, rfl, t1, r1⟩ := h1.tup
      obtain ⟨b, ws, rfl, t2, r2⟩ := h2.tup
      have rr : Reps g H F [.ref a, .ref b] [.tuple ds, .tuple es] := .cons (.tup t1 r1) (.cons (.tup t2 r2) .nil)
      have hdp := Reps.dp rr c1
      rw [← hK] at hdp
      obtain ⟨as, hra⟩ := Dp.readsAll I _ _ us hdp r
      cases r with
      | cons ra rb =>
      cases rb with
      | cons rb rc =>
      cases rc
      cases ra
      cases rb
      refine min_two_data (I.ok.hd hc) hra hal (by omega) fun v h' tk bs hv hr hk => ?_
      obtain ⟨i, hi⟩ : ∃ i, ([Value.ref a, Value.ref b] : List Value)[i]? = some v := by
        rcases hv with rfl | rfl
        · exact ⟨0, rfl⟩
        · exact ⟨1, rfl⟩
      have hm := minD_mem (.tuple ds) [.tuple es]
      obtain ⟨w, q1, q2⟩ := pick_item I hK rr (.cons rfl (.cons rfl .nil)) c1 hi hm hr hk
      refine ⟨w, H, I.kept hk, q1, o.scal s0 hq q2 ?_⟩
      rcases List.mem_cons.mp hm with e | e
      · rw [e]; rfl
      · rw [List.mem_singleton.mp e]; rfl
theorem bi_abs : CallR X (.builtin "abs") (rBi g .abs) := by
  intro pins s σ H xs us Q I r ⟨F, ps, Qd, E, s0, hx, hf, o⟩
  rcases ps with _ | ⟨p, _ | ⟨p2, ps⟩⟩ <;> try exact False.elim hf
  · cases p <;> try exact False.elim hf
    obtain ⟨x, rfl, h1⟩ := anys1 hx
    exact call_abs pins s σ H _ us Q I r ⟨_, by rw [h1.int], o.int s0 hf⟩
  · cases p <;> exact False.elim hf
theorem bi_int : CallR X (.type "int") (rBi g .int) := by
  intro pins s σ H xs us Q I r ⟨F, ps, Qd, E, s0, hx, hf, o⟩
  rcases ps with _ | ⟨p, _ | ⟨p2, ps⟩⟩ <;> try exact False.elim hf
  · cases p <;> try exact False.elim hf
    obtain ⟨x, rfl, h1⟩ := anys1 hx
    exact call_int1 pins s σ H _ us Q I r (.inl ⟨_, by rw [h1.int], o.int s0 hf⟩)
  · cases p <;> exact False.elim hf
theorem bi_str : CallR X (.type "str") (rBi g .str) := by
  intro pins s σ H xs us Q I r ⟨F, ps, Qd, E, s0, hx, hf, o⟩
  rcases ps with _ | ⟨d, _ | ⟨d2, ps⟩⟩ <;> try exact False.elim hf
  · obtain ⟨x, rfl, rx⟩ := anys1 hx
    cases d <;> try exact False.elim hf
    · have e := rx.int
      subst e
      obtain ⟨h1, h2⟩ := hf
      exact call_str_int pins s σ H _ us Q I r ⟨_, rfl, h1, o.str s0 h2⟩
    · have e := rx.str
      subst e
      exact SkE.call_str_str pins s σ H _ us Q I r ⟨_, rfl, o.str s0 hf⟩
  · cases d <;> exact False.elim hf
theorem bi_len (hK : X.K = g.K) (hP : X.prog = g.P) (hW : X.w = g.w) : CallR X (.builtin "len") (rBi g .len) := by
  intro pins s σ H xs us Q I r ⟨F, ps, Qd, E, s0, hx, hf, o⟩
  rcases ps with _ | ⟨p, _ | ⟨p2, ps⟩⟩ <;> try exact False.elim hf
  · cases p <;> try exact False.elim hf
    · obtain ⟨x, rfl, h1⟩ := anys1 hx
      have e := h1.str
      subst e
      exact call_len pins s σ H _ us Q I r ⟨_, _, rfl, ⟨by rw [line_eq]; exact hf.1, rfl⟩, o.int s0 hf.2⟩
    · obtain ⟨x, rfl, h1⟩ := anys1 hx
      obtain ⟨a, vs, rfl, _, hl, rr⟩ := h1.lst
      exact call_len pins s σ H _ us Q I r ⟨_, _, rfl, .inl ⟨vs, SqL.of hl, rfl⟩, by rw [rr.length]; exact o.int s0 hf⟩
    · obtain ⟨x, rfl, h1⟩ := anys1 hx
      obtain ⟨a, vs, rfl, hl, rr⟩ := h1.tup
      exact call_len pins s σ H _ us Q I r ⟨_, _, rfl, .inr ⟨vs, by rw [hK]; exact hl, rfl⟩, by rw [rr.length]; exact o.int s0 hf⟩
    · obtain ⟨x, rfl, h1⟩ := anys1 hx
      obtain ⟨pl, hf⟩ := hf
      obtain ⟨a, kvs, vs, rfl, n, dr, rr, rfl⟩ := h1.dict pl
      cases r with
      | cons r1 r2 =>
      cases r2
      cases r1
      have e : ((kvs.map (·.1)).zip vs).length = kvs.length := by
        rw [List.length_zip, List.length_map, ← rr.lenV, Nat.min_self]
      rw [e] at hf
      exact dr_len hK hP hW I dr fun t s' I' => ⟨.int _, H, I', ⟨_, rfl⟩, o.int s0 hf⟩
  · cases p <;> exact False.elim hf
theorem cr_sumT (hc : X.calm = true) : CallR X (.builtin "sum") fun vs H Q => ∃ (a : Addr) (ns : List Int), vs = [V.ref a] ∧ SqT X.K H a (ns.map V.int) ∧ Q (.int ns.sum) H := by
  intro pins s σ H vs us Q I r h
  obtain ⟨a, ns, rfl, hs, q⟩ := h
  obtain ⟨its, rv, hl, _⟩ := I.tuple hs
  have hl : s.heap.IsTuple a its.toArray := hl
  rw [Vals.ref1 r]
  obtain ⟨xs, e⟩ := rv.ints.allInts.items
  have hn : numsOf (intItems xs).toList = ns := by rw [← e]; exact rv.ints.numsOf
  rw [nums_intItems] at hn
  rw [e] at hl
  refine PySem.W.ktm_sumG (I.ok.hd hc) hl fun h' tk t' hk => ?_
  refine ⟨.int _, H, I.kept hk, ⟨_, rfl⟩, ?_⟩
  rw [preSum_eq, List.take_of_length_le (by simp), hn]
  exact q
theorem bi_sum (hK : X.K = g.K) (hc : X.calm = true) : CallR X (.builtin "sum") (rBi g .sum) := by
  intro pins s σ H xs us Q I r ⟨F, ps, Qd, E, s0, hx, hf, o⟩
  rcases ps with _ | ⟨p, _ | ⟨p2, ps⟩⟩ <;> try exact False.elim hf
  · cases p <;> try exact False.elim hf
    · rename_i ds
      obtain ⟨is, e, hf⟩ := ofO_app (show bd (ofO (intsOf ds)) (fun is => pu (.int is.sum)) Qd E from hf)
      obtain ⟨x, rfl, h1⟩ := anys1 hx
      obtain ⟨a, vs, rfl, _, hl, rr⟩ := h1.lst
      have e2 := reps_ints e rr
      subst e2
      exact cr_sum hc pins s σ H _ us Q I r ⟨a, is, rfl, SqL.of hl, o.int s0 hf⟩
    · rename_i ds
      obtain ⟨is, e, hf⟩ := ofO_app (show bd (ofO (intsOf ds)) (fun is => pu (.int is.sum)) Qd E from hf)
      obtain ⟨x, rfl, h1⟩ := anys1 hx
      obtain ⟨a, vs, rfl, hl, rr⟩ := h1.tup
      have e2 := reps_ints e rr
      subst e2
      exact cr_sumT hc pins s σ H _ us Q I r ⟨a, is, rfl, by rw [hK]; exact hl, o.int s0 hf⟩
  · cases p <;> exact False.elim hf
theorem bi_all (hc : X.calm = true) : CallR X (.builtin "all") (rBi g .all) := by
  intro pins s σ H xs us Q I r ⟨F, ps, Qd, E, s0, hx, hf, o⟩
  rcases ps with _ | ⟨p, _ | ⟨p2, ps⟩⟩ <;> try exact False.elim hf
  · cases p <;> try exact False.elim hf
    rename_i ds
    obtain ⟨is, e, hf⟩ := ofO_app (show bd (ofO (boolsOf ds)) (fun bs => pu (.bool (bs.all id))) Qd E from hf)
    obtain ⟨x, rfl, h1⟩ := anys1 hx
    obtain ⟨a, vs, rfl, _, hl, rr⟩ := h1.lst
    have e2 := reps_bools e rr
    subst e2
    exact cr_all hc pins s σ H _ us Q I r ⟨a, is, rfl, SqL.of hl, o.bl s0 hf⟩
  · cases p <;> exact False.elim hf
theorem bi_any (hc : X.calm = true) : CallR X (.builtin "any") (rBi g .any) := by
  intro pins s σ H xs us Q I r ⟨F, ps, Qd, E, s0, hx, hf, o⟩
  rcases ps with _ | ⟨p, _ | ⟨p2, ps⟩⟩ <;> try exact False.elim hf
  · cases p <;> try exact False.elim hf
    rename_i ds
    obtain ⟨is, e, hf⟩ := ofO_app (show bd (ofO (boolsOf ds)) (fun bs => pu (.bool (bs.any id))) Qd E from hf)
    obtain ⟨x, rfl, h1⟩ := anys1 hx
    obtain ⟨a, vs, rfl, _, hl, rr⟩ := h1.lst
    have e2 := reps_bools e rr
    subst e2
    exact cr_any hc pins s σ H _ us Q I r ⟨a, is, rfl, SqL.of hl, o.bl s0 hf⟩
  · cases p <;> exact False.elim hf
theorem dict_src {X : Cx} {pins : List (Addr × Obj)} {σ : L2.St} {H : Hp} {s : Shared} {a : Addr} {o : Obj} {es : Array DictEntry} {ep : Nat} {ks : List V} (I : Inv X pins σ H s) (h1 : H a = some (dO a o)) (h2 : o.ExactDict) (h3 : o.data = .dict es ep) (h4 : Paired (fun (k : V) (e : DictEntry) => RelV k e.key) ks es.toList) :
    Vals ks (es.toList.map (·.key)) ∧ (∀ acc : List Value, acc.length = es.size → (∀ j v, acc[j]? = some v → ∃ hi : j < es.size, v = es[j].key) → acc = es.toList.map (·.key)) ∧ s.heap.DictRaw a es ep := by
  refine ⟨?_, fun acc hl ha => List.ext_getElem? fun j => ?_, ⟨o, (show ObjOk X.prog X.w H s.heap a (dO a o) from I.hok a _ h1).1, h2, h3⟩⟩
  · generalize es.toList = el at h4
    induction h4 with
    | nil => exact .nil
    | cons h _ ih => exact .cons h ih
  · rw [List.getElem?_map]
    have hs : es.toList.length = es.size := Array.length_toList
    by_cases hj : j < es.size
    · obtain ⟨_, e⟩ := ha j acc[j] (List.getElem?_eq_getElem (by omega))
      rw [List.getElem?_eq_getElem (by omega), List.getElem?_eq_getElem (l := es.toList) (by omega), e]
      rfl
    · rw [List.getElem?_eq_none (by omega), List.getElem?_eq_none (l := es.toList) (by omega)]
      rfl
theorem bi_list (hK : X.K = g.K) (hc : X.calm = true) : CallR X (.type "list") (rBi g .list) := by
  intro pins s σ H xs us Q I r ⟨F, ps, Qd, E, s0, hx, hf, o⟩
  rcases ps with _ | ⟨p, _ | ⟨p2, ps⟩⟩ <;> try exact False.elim hf
  · obtain ⟨x, rfl, h1⟩ := anys1 hx
    by_cases hd : ∃ kvs, p = .dict kvs
    · obtain ⟨ds, rfl⟩ := hd
      obtain ⟨⟨pl, hlen⟩, hq⟩ := hf
      obtain ⟨u, rfl, rx⟩ := vals1 r
      obtain ⟨a, kvs, vs, rfl, n, dr, rr, e⟩ := h1.dict pl
      cases rx
      obtain ⟨ob, es, ep, ks, k1, k2, k3, k4, k5, k6, k7, k8⟩ := dr.obj
      obtain ⟨rv, hP, er⟩ := dict_src I k1 k2 k3 k4
      have hks : ds.map (·.1) = kvs.map (·.1) := by rw [e]; exact zip_fst kvs vs rr.lenV
      rw [hks] at hq
      refine PySem.W.kdl_call (KdlSrc.rawDict (d := a) (es := es) (ep := ep) k6) (I.ok.hd hc) er (by rw [← Array.length_toList, ← Paired.length k4, k5]; exact k7) fun h' tk acc c hk hS hacc => ?_
      have ea : acc.toList = es.toList.map (·.key) := hP acc.toList (by rw [Array.length_toList]; exact hacc.1) fun j v z => hacc.2 j v (by rw [← Array.getElem?_toList]; exact z)
      refine ⟨.ref _, upd H s.heap.objs.size (.lst ks), I.laid (t' := tk) hk (Nat.le_refl _) ⟨by rw [k5]; exact k7, acc.toList, c, by rw [ea]; exact rv, by rw [Array.toArray_toList]; exact hS⟩, rfl, o.newL s0 hq (k8 F) _ (I.hok.fresh (Nat.le_refl _))⟩
    have hf : bd (seqV p) (fun xs => gd (xs.length ≤ LINE) (pu (.list xs))) Qd E := by
      cases p <;> first | exact absurd ⟨_, rfl⟩ hd | exact hf
    cases p <;> try exact False.elim hf
    · obtain ⟨a, vs, rfl, _, hl, rr⟩ := h1.lst
      exact call_list_of pins s σ H _ us Q I r ⟨a, vs, rfl, .inl (SqL.of hl), o.newL s0 hf.2 rr⟩
    · obtain ⟨a, vs, rfl, hl, rr⟩ := h1.tup
      exact call_list_of pins s σ H _ us Q I r ⟨a, vs, rfl, .inr (by rw [hK]; exact hl), o.newL s0 hf.2 rr⟩
  · cases p <;> exact False.elim hf
theorem bi_tuple (hK : X.K = g.K) : CallR X (.type "tuple") (rBi g .tuple) := by
  intro pins s σ H xs us Q I r ⟨F, ps, Qd, E, s0, hx, hf, o⟩
  rcases ps with _ | ⟨p, _ | ⟨p2, ps⟩⟩ <;> try exact False.elim hf
  · have hf : bd (seqV p) (fun xs => gd (xs.length ≤ LINE) (pu (.tuple xs))) Qd E := hf
    obtain ⟨x, rfl, h1⟩ := anys1 hx
    obtain ⟨u, rfl, rx⟩ := vals1 r
    cases p <;> try exact False.elim hf
    · obtain ⟨a, vs, rfl, _, hl, rr⟩ := h1.lst
      exact rl_tuple pins s σ H _ u Q I rx (.inl ⟨a, vs, rfl, SqL.of hl, o.newT s0 hf.2 rr⟩)
    · obtain ⟨a, vs, rfl, hl, rr⟩ := h1.tup
      exact rl_tuple pins s σ H _ u Q I rx (.inr ⟨a, vs, rfl, by rw [hK]; exact hl, o.tup s0 hf.2 hl rr⟩)
theorem each_of {H : Hp} {F : Addr → Prop} {P : PV → Prop} : ∀ {xs : List V} {ds : List PV} {its : List Value}, Reps g H F xs ds → Vals xs its → (∀ d ∈ ds, P d) → PySem.W.EachIs (fun v d => P d ∧ ∃ w, RelV w v ∧ Rep g H F w d) its ds
  | _, _, _, .nil, .nil, _ => .nil
  | _, _, _, .cons h r, .cons k q, p => .cons ⟨p _ List.mem_cons_self, _, k, h⟩ (each_of r q fun d h => p d (List.mem_cons_of_mem _ h))
theorem of_each {H : Hp} {F : Addr → Prop} : ∀ {ds : List PV} {its : List Value}, PySem.W.EachIs (fun v d => ∃ w, RelV w v ∧ Rep g H F w d) its ds → ∃ xs, Vals xs its ∧ Reps g H F xs ds
  | _, _, .nil => ⟨[], .nil, .nil⟩
  | _, _, .cons ⟨w, h, k⟩ r =>
    let ⟨xs, h2, k2⟩ := of_each r
    ⟨w :: xs, .cons h h2, .cons k k2⟩
theorem depth_mem : ∀ {ds : List PV} {d : PV}, d ∈ ds → d.depth ≤ PyData.depthAll ds
  | d :: ds, _, .head _ => by rw [PyData.depthAll]; exact Nat.le_max_left _ _
  | d :: ds, _, .tail _ h => by rw [PyData.depthAll]; exact Nat.le_trans (depth_mem h) (Nat.le_max_right _ _)
theorem dataLe_ltP : PySem.W.dataLe false (fun d : PyData => d) = fun a b => !ltP b a := PySem.W.dataLe_eq false _
theorem bi_sorted (hK : X.K = g.K) (hc : X.calm = true) (hu : X.A.units + 70 < cLine) : CallR X (.builtin "sorted") (rBi g .sorted) := by
  intro pins s σ H xs us Q I r ⟨F, ps, Qd, E, s0, hx, hf, o⟩
  rcases ps with _ | ⟨p, _ | ⟨p2, ps⟩⟩
  · exact False.elim hf
  rotate_left
  · cases p <;> exact False.elim hf
  obtain ⟨x, rfl, h1⟩ := anys1 hx
  obtain ⟨u, rfl, rx⟩ := vals1 r
  cases p with
  | list ds =>
    obtain ⟨⟨⟨hal, hsh⟩, hso⟩, hq⟩ := hf
    obtain ⟨c1, c2⟩ := shpL hsh
    obtain ⟨a, vs, rfl, _, hl, rr⟩ := h1.lst
    cases rx
    obtain ⟨its, rv, pl, hz⟩ := I.list (SqL.of hl)
    have hdp := Reps.dp rr c1
    rw [← hK] at hdp
    obtain ⟨as, hra⟩ := Dp.readsAll I _ _ its hdp rv
    have hlen := rr.length
    have er : PySem.W.EachIs (fun v b => ∃ as, Reads s.heap v b as) its (ds.map fun d => d) := PySem.W.readsAll_each (fun d => d) (by simpa using hra) |> fun z => by simpa using z
    refine sortedE (bs := ds) (R := fun v d => ∃ w, RelV w v ∧ Rep g H F w d) pl.isList ((each_of (P := fun _ => True) rr rv fun _ _ => trivial).mono fun _ _ h => h.2) (by simpa using er) (fun d hd d' hd' => hal.1 d hd d' hd') hso (by rw [← hlen]; exact hz)
      (fun b hb => by have := depth_mem hb; omega) fun out hol hout => ?_
    rw [dataLe_ltP] at hout
    obtain ⟨ys, h2, h3⟩ := of_each hout
    obtain ⟨ep, he'⟩ := PyProof.Rows.sortedAll_at s.heap its out.toArray
    have hyl := h2.length
    refine ⟨.ref _, upd H (s.heap.objs.size + 1) (.lst ys), I.laid (t' := s.toks) (fun _ _ => PyProof.Rows.sortedAll_old) (Nat.le_succ _) ⟨by rw [hyl, hol, ← hlen]; exact hz, out, ep, h2, by simpa using he'⟩, rfl, o.newL s0 hq h3 _ (I.hok.fresh (Nat.le_succ _))⟩
  | dict ds =>
    obtain ⟨⟨pd, ⟨hal, hsh⟩, hso⟩, hq⟩ := hf
    obtain ⟨c1, c2⟩ := shpL hsh
    obtain ⟨a, kvs, vs, rfl, n, dr, rr, e⟩ := h1.dict pd
    cases rx
    obtain ⟨ob, es, ep, ks, k1, k2, k3, k4, k5, k6, k7, k8⟩ := dr.obj
    obtain ⟨rv, hP, okd⟩ := dict_src I k1 k2 k3 k4
    have hks : ds.map (·.1) = kvs.map (·.1) := by rw [e]; exact zip_fst kvs vs rr.lenV
    rw [hks] at hq hal hso c1 c2
    have rk := k8 F
    have hdp := Reps.dp rk c1
    rw [← hK] at hdp
    obtain ⟨as, hra⟩ := Dp.readsAll I _ _ (es.toList.map (·.key)) hdp rv
    have er : PySem.W.EachIs (fun v b => ∃ as, Reads s.heap v b as) (es.toList.map (·.key)) (kvs.map (·.1)) := PySem.W.readsAll_each (bs := kvs.map (·.1)) (fun d => d) (by rw [List.map_id']; exact hra)
    refine sortedK (bs := kvs.map (·.1)) (R := fun v d => ∃ w, RelV w v ∧ Rep g H F w d) (KdlSrc.rawDict (d := a) (es := es) (ep := ep) k6) (I.ok.hd hc) okd hP (by rw [← Array.length_toList, ← Paired.length k4, k5]; exact k7) ((each_of (P := fun _ => True) rk rv fun _ _ => trivial).mono fun _ _ h => h.2) er (fun d hd d' hd' => hal.1 d hd d' hd') hso (by rw [List.length_map]; exact k7)
      (fun b hb => by have := depth_mem hb; omega) fun D h' tk out ep2 hD hkeep hat hol hout => ?_
    rw [dataLe_ltP] at hout
    obtain ⟨ys, h2, h3⟩ := of_each hout
    have hyl := h2.length
    refine ⟨.ref D, upd H D (.lst ys), I.laid (t' := tk) hkeep hD ⟨by rw [hyl, hol, List.length_map]; exact k7, out, ep2, h2, by simpa using hat⟩, rfl, o.newL s0 hq h3 _ (I.hok.fresh hD)⟩
  | _ => exact False.elim hf
end
end HG
end
section
set_option maxHeartbeats 4000000
/-! HGDictC: dict( .. ) of a list of pairs. -/
namespace HG
open PySem PySem.Spec PyProof.Rows L2
def putAllV (acc L : List (PV × V)) : List (PV × V) := L.foldl (fun a p => vput a p.1 p.2) acc
theorem storedH_mem {k : NestedKey} {b : Addr} {u : Value} : ∀ {xs : List (NestedKey × Addr × Value)} {x : NestedKey}, (xs.map (·.1)).Nodup → x ∈ (storedH xs k b u).map (·.1) → x ∈ xs.map (·.1) ∨ x = k
  | [], x, _, h => by
    right
    have h : x ∈ [k] := h
    exact List.mem_singleton.mp h
  | q :: qs, x, nd, h => by
    rw [storedH_cons _ _ _ nd] at h
    rw [List.map_cons, List.nodup_cons] at nd
    by_cases e : q.1 = k
    · rw [if_pos e] at h
      exact .inl h
    · rw [if_neg e, List.map_cons] at h
      rcases List.mem_cons.mp h with h | h
      · exact .inl (by rw [h, List.map_cons]; exact List.mem_cons_self)
      · rcases storedH_mem nd.2 h with h | h
        · exact .inl (by rw [List.map_cons]; exact List.mem_cons_of_mem _ h)
        · exact .inr h
theorem storedH_nodup {k : NestedKey} {b : Addr} {u : Value} : ∀ {xs : List (NestedKey × Addr × Value)}, (xs.map (·.1)).Nodup → ((storedH xs k b u).map (·.1)).Nodup
  | [], _ => by
    show [k].Nodup
    simp
  | q :: qs, nd => by
    rw [storedH_cons _ _ _ nd]
    have nd' := nd
    rw [List.map_cons, List.nodup_cons] at nd
    by_cases e : q.1 = k
    · rw [if_pos e]; exact nd'
    · rw [if_neg e, List.map_cons, List.nodup_cons]
      refine ⟨fun h => ?_, storedH_nodup nd.2⟩
      rcases storedH_mem nd.2 h with h | h
      · exact nd.1 h
      · exact e h
theorem KTS.putAll {K : PySem.W.Frag} {H : Hp} : ∀ {L : List (PV × V)} {M : List (NestedKey × Addr × Value)} {acc : List (PV × V)} {xs : List (NestedKey × Addr × Value)}, KTS K H L M → KTS K H acc xs → (xs.map (·.1)).Nodup → KTS K H (putAllV acc L) (storedAllH xs M)
  | _, _, _, _, .nil, r, _ => r
  | _, _, _, _, .cons (a := p) (b := q) h t, r, nd => by
    obtain ⟨⟨h0, h1⟩, h2, h3⟩ := h
    have := r.put nd h0 h2 h3
    show KTS K H (putAllV (vput _ p.1 p.2) _) (storedAllH (storedH _ q.1 q.2.1 q.2.2) _)
    rw [h1]
    exact KTS.putAll t this (storedH_nodup nd)
theorem putAllV_len : ∀ (L acc : List (PV × V)), (putAllV acc L).length ≤ acc.length + L.length
  | [], acc => Nat.le_refl _
  | p :: r, acc => by
    have a := putAllV_len r (vput acc p.1 p.2)
    have b := length_vput p.1 p.2 acc
    show (putAllV (vput acc p.1 p.2) r).length ≤ _
    rw [List.length_cons]
    omega
theorem vput_mem {k : PV} {v : V} : ∀ {acc : List (PV × V)} {x : PV}, x ∈ (vput acc k v).map (·.1) → x ∈ acc.map (·.1) ∨ x = k
  | [], x, h => .inr (List.mem_singleton.mp h)
  | p :: r, x, h => by
    unfold vput at h
    split at h
    · exact .inl h
    · rw [List.map_cons] at h
      rcases List.mem_cons.mp h with h | h
      · exact .inl (by rw [h, List.map_cons]; exact List.mem_cons_self)
      · rcases vput_mem h with h | h
        · exact .inl (by rw [List.map_cons]; exact List.mem_cons_of_mem _ h)
        · exact .inr h
theorem putAllV_all {q : PV → Prop} : ∀ {L acc : List (PV × V)}, (∀ p ∈ L, q p.1) → (∀ x ∈ acc.map (·.1), q x) → ∀ x ∈ (putAllV acc L).map (·.1), q x
  | [], acc, _, h => h
  | p :: L, acc, hl, h => putAllV_all (L := L) (acc := vput acc p.1 p.2) (fun y hy => hl y (List.mem_cons_of_mem _ hy)) fun x hx => by
    rcases vput_mem hx with hx | hx
    · exact h x hx
    · rw [hx]; exact hl p List.mem_cons_self
/-- what is put one by one, as value and as it lies -/
theorem puts_rep {g : GC} {H : Hp} {F : Addr → Prop} : ∀ {L : List (PV × V)} {ps : KVs} {acc : List (PV × V)} {ds : List PV}, ps.map (·.1) = L.map (·.1) → Reps g H F (L.map (·.2)) (ps.map (·.2)) → Reps g H F (acc.map (·.2)) ds →
    ∃ ds', dputs ((acc.map (·.1)).zip ds) ps = ((putAllV acc L).map (·.1)).zip ds' ∧ Reps g H F ((putAllV acc L).map (·.2)) ds'
  | [], ps, acc, ds, e, _, r => by
    have : ps = [] := List.map_eq_nil_iff.mp e
    subst this
    exact ⟨ds, rfl, r⟩
  | p :: L, ps, acc, ds, e, q, r => by
    rcases ps with _ | ⟨⟨k, v⟩, ps⟩
    · cases e
    have e1 : k = p.1 := (List.cons.inj e).1
    have e2 := (List.cons.inj e).2
    cases q with
    | cons q1 q2 =>
    have hl : acc.length = ds.length := r.lenV
    obtain ⟨ds1, e3, e4⟩ := put_keys k p.2 v acc ds hl
    rw [e1] at e3 e4
    have := puts_rep (L := L) (ps := ps) (acc := vput acc p.1 p.2) (ds := ds1) e2 q2 (e4 g H F q1 r)
    show ∃ ds', dputs (dput ((acc.map (·.1)).zip ds) k v) ps = _ ∧ _
    rw [e1, e3]
    exact this
theorem putK_mem {κ : Type} [DecidableEq κ] {acc : List (κ × V)} {k : κ} {v : V} {x : κ} (h : x ∈ (putK acc k v).map (·.1)) : x ∈ acc.map (·.1) ∨ x = k := by
  unfold putK at h
  split at h
  · rw [List.map_map] at h
    obtain ⟨p, hp, rfl⟩ := List.mem_map.mp h
    by_cases e : p.1 = k
    · right; simp [e]
    · left; simp only [Function.comp_apply, if_neg e]; exact List.mem_map_of_mem hp
  · rw [List.map_append] at h
    rcases List.mem_append.mp h with h | h
    · exact .inl h
    · exact .inr (List.mem_singleton.mp h)
theorem putK_nodup {κ : Type} [DecidableEq κ] {acc : List (κ × V)} (k : κ) (v : V) (nd : (acc.map (·.1)).Nodup) : ((putK acc k v).map (·.1)).Nodup := by
  induction acc with
  | nil => simp [putK]
  | cons p r ih =>
    rw [putK_cons p r k v nd]
    rw [List.map_cons, List.nodup_cons] at nd
    by_cases e : p.1 = k
    · rw [if_pos e, List.map_cons, List.nodup_cons]
      exact nd
    · rw [if_neg e, List.map_cons, List.nodup_cons]
      refine ⟨fun h => ?_, ih nd.2⟩
      rcases putK_mem h with h | h
      · exact nd.1 h
      · exact e h
def putAllKy (acc L : List (Ky × V)) : List (Ky × V) := L.foldl (fun a p => putK a p.1 p.2) acc
theorem putAllKy_eq : ∀ {L acc : List (Ky × V)}, (acc.map (·.1)).Nodup → putAllV (acc.map fun p => (kyD p.1, p.2)) (L.map fun p => (kyD p.1, p.2)) = (putAllKy acc L).map fun p => (kyD p.1, p.2)
  | [], _, _ => rfl
  | p :: L, acc, nd => by
    show putAllV (vput (acc.map fun p => (kyD p.1, p.2)) (kyD p.1) p.2) (L.map fun p => (kyD p.1, p.2)) = (putAllKy (putK acc p.1 p.2) L).map fun p => (kyD p.1, p.2)
    rw [vput_k p.1 p.2 acc nd]
    exact putAllKy_eq (putK_nodup p.1 p.2 nd)
theorem KV.mergeY : ∀ {more : List (Ky × V)} {rs : List (Ky × Value)} {kvs : List (Ky × V)} {vs : List (Ky × Value)}, KV more rs → KV kvs vs → KV (putAllKy kvs more) (merged vs rs)
  | _, _, _, _, .nil, r => r
  | _, _, kvs, vs, .cons (a := p) (b := q) h t, r => by
    have e : KV (putK kvs p.1 p.2) (stored vs q.1 q.2) := by
      rw [← h.1]
      exact KV.put r p.1 h.2
    show KV (putAllKy (putK kvs p.1 p.2) _) (merged (stored vs q.1 q.2) _)
    exact KV.mergeY t e
theorem paired_get' {α β : Type} {P : α → β → Prop} : ∀ {xs : List α} {ys : List β} {i : Nat} {y : β}, Paired P xs ys → ys[i]? = some y → ∃ x, xs[i]? = some x ∧ P x y
  | _, _, _, _, .nil, e => by cases e
  | _, _, 0, _, .cons h _, e => by cases e; exact ⟨_, rfl, h⟩
  | _, _, i + 1, y, .cons _ t, e => paired_get' (i := i) t e
/-- the pairs of a list, over the heap -/
theorem pairs_read {X : Cx} {g : GC} {pins : List (Addr × Obj)} {σ : L2.St} {H : Hp} {F : Addr → Prop} {s : Shared} (hK : X.K = g.K) (I : Inv X pins σ H s) : ∀ {ds : List PV} {xs : List V} {us : List Value} {ps : KVs}, Reps g H F xs ds → Vals xs us → pairsOf ds = some ps → (ps.all fun p => tkey p.1) = true →
    ∃ (L : List (PV × V)) (M : List (NestedKey × Addr × Value)) (Ts : List Addr), us = Ts.map Value.ref ∧ ps.map (·.1) = L.map (·.1) ∧ Reps g H F (L.map (·.2)) (ps.map (·.2)) ∧ KTS g.K H L M ∧ Paired (fun (T : Addr) (m : NestedKey × Addr × Value) => s.heap.IsTuple T #[.ref m.2.1, m.2.2]) Ts M
  | [], _, _, ps, .nil, .nil, e, _ => by
    cases e
    exact ⟨[], [], [], rfl, rfl, .nil, .nil, .nil⟩
  | d :: ds, _, _, ps, .cons h t, .cons q qs, e, hk => by
    have hd : ∃ k v ps', d = .tuple [k, v] ∧ pairsOf ds = some ps' ∧ ps = (k, v) :: ps' := by
      unfold pairsOf at e
      split at e
      · cases ‹_ :: _ = []›
      · rename_i k v r e2
        cases e2
        cases h2 : pairsOf ds with
        | none => rw [h2] at e; cases e
        | some ps' => rw [h2] at e; cases e; exact ⟨k, v, ps', rfl, rfl, rfl⟩
      · cases e
    obtain ⟨k, v, ps', rfl, e2, rfl⟩ := hd
    rw [List.all_cons, Bool.and_eq_true] at hk
    obtain ⟨L, M, Ts, r1, r2, r3, r4, r5⟩ := pairs_read hK I t qs e2 hk.2
    obtain ⟨T, ys, rfl, hT, ry⟩ := (Rep.any h).tup
    cases ry with
    | cons y1 y2 =>
    cases y2 with
    | cons y2 y3 =>
    cases y3
    rename_i ky vy
    have kv := AnyR.kvalT (Rep.any y1) hk.1
    obtain ⟨b, e4⟩ := kv.ref hk.1
    subst e4
    obtain ⟨its, rv, tp, _⟩ := I.tuple (by rw [hK]; exact hT)
    cases rv with
    | cons v1 v2 =>
    cases v2 with
    | cons v2 v3 =>
    cases v3
    rename_i u1 u2
    cases v1
    cases q
    refine ⟨(k, vy) :: L, (nk k, b, u2) :: M, T :: Ts, by rw [r1]; rfl, by rw [List.map_cons, List.map_cons, r2], .cons y2 r3, .cons ⟨⟨hk.1, rfl⟩, kv, v2⟩ r4, .cons tp r5⟩
theorem plainD_all {kvs : KVs} (h : ∀ p ∈ kvs, tkey p.1 = true) : plainD (.dict kvs) = true := by
  cases kvs with
  | nil => rfl
  | cons p r => exact plainD_cons (.inr (h p List.mem_cons_self))
theorem bi_dict {X : Cx} {g : GC} (hK : X.K = g.K) (hP : X.prog = g.P) (hW : X.w = g.w) (hc : X.calm = true) (hu : X.A.units + 10 < cLine) : CallR X (.type "dict") (rBi g .dict) := by
  intro pins s σ H xs us Q I r ⟨F, ps, Qd, E, s0, hx, hf, o⟩
  rcases ps with _ | ⟨p, _ | ⟨p2, ps⟩⟩ <;> try exact False.elim hf
  · cases p <;> try exact False.elim hf
    rename_i ds
    obtain ⟨x, rfl, h1⟩ := anys1 hx
    obtain ⟨u, rfl, rx⟩ := vals1 r
    obtain ⟨a, vs, rfl, n, hl, rr⟩ := h1.lst
    cases rx
    have hf : bd (ofO (pairsOf ds)) (fun ps => gd (ps.length ≤ LINE ∧ (ps.all fun p => tkey p.1) = true) (pu (.dict (dputs [] ps)))) Qd E := hf
    obtain ⟨ps, e1, hf⟩ := ofO_app hf
    obtain ⟨⟨hlen, hk⟩, hq⟩ := hf
    obtain ⟨its, rv, pl, hz⟩ := I.list (SqL.of hl)
    obtain ⟨L, M, Ts, t1, t2, t3, t4, t5⟩ := pairs_read hK I rr rv e1 hk
    have lM : L.length = M.length := Paired.length t4
    have lT : Ts.length = M.length := Paired.length t5
    have lps : ps.length = L.length := by have := congrArg List.length t2; rw [List.length_map, List.length_map] at this; exact this
    have are := KTS.are hK I t4
    have pi : PairItems s.heap its.toArray (fun j => Ts.getD j 0) (M.map fun m => (Value.ref m.2.1, m.2.2)) := by
      refine ⟨by rw [List.size_toArray, t1, List.length_map, List.length_map, lT], fun j k v e => ?_⟩
      rw [List.getElem?_map] at e
      obtain ⟨m, hm, em⟩ := Option.map_eq_some_iff.mp e
      cases em
      obtain ⟨T, hT, tt⟩ := paired_get' t5 hm
      refine ⟨?_, .inl ?_⟩
      · rw [t1]
        show (Ts.map Value.ref).toArray[j]? = _
        have eT : Ts.getD j 0 = T := by rw [List.getD_eq_getElem?_getD, hT]; rfl
        rw [List.getElem?_toArray, List.getElem?_map, hT]
        show some (Value.ref T) = some (Value.ref (Ts.getD j 0))
        rw [eT]
      · have eT : Ts.getD j 0 = T := by rw [List.getD_eq_getElem?_getD, hT]; rfl
        show s.heap.IsTuple (Ts.getD j 0) _
        rw [eT]
        exact tt
    refine call_dict_pairsH (knd := nestedKind X.prog X.w) (ps := M) (PairArg.list a its.toArray (fun j => Ts.getD j 0) (M.map fun m => (Value.ref m.2.1, m.2.2))) (I.ok.hd hc) (by show X.A.units + 1 + 1 + 8 < cLine; omega) ⟨pl, pi⟩ ⟨(List.length_map _).symm, fun i key v e => ?_⟩ (fun h' keep x hx' => nestedKind_stays.stays (fun b ob vs n e _ => keep b ob (Nat.ne_of_lt (Heap.lt_size e)) (fun z => nomatch z) e) (are x hx')) (by rw [List.length_map, ← lM, ← lps, line_eq]; exact hlen) fun h' tk hd' hkeep => ?_
    · have e : (M.map fun m => (Value.ref m.2.1, m.2.2))[i]? = some (key, v) := e
      rw [List.getElem?_map] at e
      obtain ⟨m, hm, em⟩ := Option.map_eq_some_iff.mp e
      cases em
      exact ⟨m.1, m.2.1, hm, rfl⟩
    · obtain ⟨ob, es, ep, g1, g2, g3, g4, _, g5⟩ := hd'
      have hfresh := I.hok.fresh (Nat.le_refl s.heap.objs.size)
      have w := s0.upd (o := dO s.heap.objs.size ob) hfresh
      have I2 : Inv X pins σ (upd H s.heap.objs.size (dO s.heap.objs.size ob)) { s with heap := h', toks := tk } := I.laid (fun b u e => hkeep b u (fun z => nomatch z) e) (Nat.le_refl _) ⟨g1, ⟨ob, g1⟩, fun h1 h2 e1 e2 => e2 _ e1⟩
      obtain ⟨ds', d1, d2⟩ := puts_rep (acc := []) (ds := []) t2 t3 .nil
      have d1 : dputs [] ps = ((putAllV [] L).map (·.1)).zip ds' := d1
      have dr : DRep g (upd H s.heap.objs.size (dO s.heap.objs.size ob)) s.heap.objs.size (putAllV [] L) :=
        .t upd_same g2 g3 (by rw [← hP, ← hW]; exact g4) g5 ((KTS.putAll t4 .nil List.nodup_nil).imp fun _ _ z => w.ext.sqT z) (by
          have := putAllV_len L []
          rw [List.length_nil] at this
          rw [line_eq]
          show _ ≤ LINE
          omega) (beq_eq_false_iff_ne.mpr (Ne.symm (Nat.ne_of_lt I.big)))
      refine ⟨.ref s.heap.objs.size, _, I2, rfl, o _ hq _ _ F w ?_⟩
      have pd : plainD (.dict (dputs [] ps)) = true := by
        rw [d1]
        refine plainD_all fun p hp => ?_
        have := (List.of_mem_zip hp).1
        refine putAllV_all (q := fun x => tkey x = true) (fun p hp => ?_) (fun _ h => by cases h) _ this
        have : p.1 ∈ ps.map (·.1) := by rw [t2]; exact List.mem_map_of_mem hp
        obtain ⟨q, hq, e⟩ := List.mem_map.mp this
        rw [← e]
        exact (List.all_eq_true.mp hk) q hq
      unfold New
      rw [if_pos (show isMut (.dict (dputs [] ps)) = true from pd)]
      exact ⟨s.heap.objs.size, rfl, s0.notF hfresh, s0.ne_ca hfresh, hfresh, .inr ⟨_, ds', dr, d2.ext w.ext w.mono, by rw [d1]⟩⟩
  · cases p <;> exact False.elim hf
end HG
end
section
set_option maxHeartbeats 4000000
/-! HGSyn: which text a term of the small language stands for; its soundness. -/
namespace HG
open PySem PySem.Spec PyProof.Rows L2
/-- the names: slots, scope, defs, constants -/
structure Cc where
  N : List Str
  sc : Scope
  T : List Str
  Gn : List Str
  /-- the exceptions' classes -/
  En : List Str
  /-- the names whose cells are this block's own -/
  co : List Str
def Cc.blk (c : Cc) (sc : Scope) : Cc := { c with sc := relS sc c.sc, co := (sc.names.filter fun p => match p.2 with | .cell => true | _ => false).map (·.1) }
def litOk : PV → Const → Bool
  | .none, .none => true
  | .bool a, .bool b => a == b
  | .int a, .int b => decide (a = b)
  | .str a, .str b => decide (a = b)
  | _, _ => false
def nameOk (x : Str) : Bool := !(x == ("__debug__" : Str)) && !(x == ("__classdict__" : Str))
def visOk (sc : Scope) (x : Str) : Bool := match sc.names.lookup x with
  | some .local => true
  | some .cell => true
  | some .free => true
  | _ => false
def varOk (c : Cc) (i : Nat) (x : Str) : Bool := decide (c.N[i]? = some x) && (visOk c.sc x && nameOk x)
def glOk (c : Cc) (x : Str) : Bool := decide (c.sc.names.lookup x = some .globalImplicit) && nameOk x
def plainE : Expr → Bool
  | .Starred _ _ => false
  | .Slice _ _ _ _ => false
  | _ => true
def opB (o : Bop) (p : Operator) : Bool := match o, p with
  | .add, .Add => true | .sub, .Sub => true | .mul, .Mult => true | .div, .FloorDiv => true | .mod, .Mod => true | .pow, .Pow => true
  | _, _ => false
def biNm : Bi → String
  | .len => "len" | .abs => "abs" | .int => "int" | .str => "str" | .max1 => "max" | .min1 => "min" | .max2 => "max" | .min2 => "min" | .max3 => "max" | .sum => "sum" | .all => "all" | .any => "any"
  | .sorted => "sorted" | .list => "list" | .tuple => "tuple" | .dict => "dict" | .sortedset => "" | .lenset => "" | .listset => "" | .gcd => ""
/-- what these make is new -/
def biOwn : Bi → Bool
  | .max1 => false | .min1 => false
  | _ => true
/-- the built-ins that have a rule -/
def biHas : Bi → Bool
  | .len => true | .abs => true | .int => true | .max1 => true | .min1 => true | .max2 => true | .min2 => true | .sum => true | .all => true | .any => true | .str => true | .sorted => true | .list => true | .tuple => true | .dict => true
  | _ => false
def tyNm : Ty → String
  | .int => "int" | .bool => "bool" | .str => "str" | .tuple => "tuple" | .list => "list"
/-! ### the place where a text is run -/
section
/-- the promise of the def numbered f -/
def spF (g : GC) (np : Nat) (m : List PV → M PV) : Sp := fun vs H Q E => ∃ F ps Qd Ed, vs.length = np ∧ St0 g H F ∧ Reps g H F vs ps ∧ m ps Qd Ed ∧
  (∀ p, Qd p → ∀ v H' F', Grow g H F H' F' → Rep g H' F' v p → Q v H') ∧ ∀ x, Ed x → ∀ cls d H', Ext g.ca H H' → CupOk g.ca H' → XRep g H' x cls d → E cls d H'
def spRoll (g : GC) : Sp := fun vs H Q _ => ∃ F n, vs = [.ref g.ca, .int n] ∧ St0 g H F ∧ 0 < n ∧ n < 4611686018427387904 ∧ ∀ r : Int, 0 ≤ r → r < n → ∀ H', Grow g H F H' F → Q (.int r) H'
def FnC (X : Cx) (g : GC) (x : Str) (a : Option Addr) (sp : Sp) : Prop := ∃ (k : Nat) (f : Addr) (fd : FuncData) (ps : List Str), (∀ b, a = some b → b = f) ∧ X.mg x = some (.ref f) ∧ PySem.W.keepIn X.K (.ref f) = true ∧ Binds X.K fd ps [] ∧ FnOk X.prog X.w X.K X.mg X.base (L2.CX X.prog X.w) k f fd ps sp ∧ Room k X.A
def bltOk (x : Str) (v : Value) : Prop := bootBuiltins x = some v ∧ x ≠ "__name__"
structure Cxt (X : Cx) (c : Cc) (g : GC) (W : WX) (C : Nat → List PV → M PV) (G : List PV) : Prop where
  hK : X.K = g.K
  hP : X.prog = g.P
  hW : X.w = g.w
  hN : X.N = c.N
  hsc : X.env.scope = c.sc
  nd : c.N.Nodup
  calm : X.calm = true
  takes : Takes X W
  hu : X.A.units + 70 < cLine
  fns : ∀ (f : Nat) (x : Str), c.T[f]? = some x → ∃ np a, g.fa[f]? = some a ∧ (∀ vs Q E, C f vs Q E → vs.length = np) ∧ FnC X g x (some a) (spF g np (C f))
  gls : ∀ (i : Nat) (x : Str), c.Gn[i]? = some x → ∃ (u : Value) (v : V) (d : PV), X.mg x = some u ∧ RelV v u ∧ G[i]? = some d ∧ ∀ H F, Rep g H F v d
  blt : ∀ x ∈ (["len", "abs", "int", "str", "max", "min", "sum", "all", "any", "sorted", "list", "tuple", "dict", "set", "range", "zip", "enumerate", "reversed", "isinstance", "bool"] : List Str), X.mg x = none
  roll : FnC X g "_law_roll" none (spRoll g)
  co : ∀ x ∈ c.co, X.fn x = true
end
theorem no {α : Prop} (h : false = true) : α := by cases h
theorem an {a b : Bool} (h : (a && b) = true) : a = true ∧ b = true := Bool.and_eq_true_iff.mp h
section
variable {X : Cx} {c : Cc} {g : GC} {W : WX} {C : Nat → List PV → M PV} {G : List PV} {Γ : List Bool} {k : Kd} {m ma mb mc : Env → M PV} {e a b d : Expr} {pos : Pos}
theorem star_plain {es : List Expr} {env : PySem.Env} (h : plainE e = true) : starEach (e :: es) env = (false, eval e env) :: starEach es env := by
  cases e <;> first | rfl | exact no h
theorem snd_lit {v : PV} {x : Const} {j : Nat} (h : litOk v x = true) : PE X (.Constant x j pos) (TX g W Γ k fun _ => pu v) := by
  refine PE.of_own k ?_
  have go : ∀ {w : V}, (∀ H F, Rep g H F w v) → isMut v = false → ∀ σ H Q, TX g W Γ .own (fun _ => pu v) σ H Q → tC w σ H Q := fun {w} hr hm σ H Q ⟨F, ρ, Qd, E, s, hq, q, _⟩ => q v hq w H F s.self (Rep.new (hr H F) hm)
  cases v <;> cases x <;> first | exact no h | skip
  · exact pe_non.imp (go (fun _ _ => .non) rfl)
  · have e : _ = _ := eq_of_beq h
    subst e
    exact pe_bl.imp (go (fun _ _ => .bl _) rfl)
  · have e := of_decide_eq_true h
    subst e
    exact pe_int.imp (go (fun _ _ => .int _) rfl)
  · have e := of_decide_eq_true h
    subst e
    exact pe_str.imp (go (fun _ _ => .str _) rfl)
theorem getV_app {ρ : Env} {i : Nat} {Q : PV → Prop} {E : PV → Prop} (h : getV ρ i Q E) : ∃ p, ρ[i]? = some (some p) ∧ Q p := by
  unfold getV at h
  cases e : ρ[i]? with
  | none => rw [e] at h; exact False.elim h
  | some o =>
    rw [e] at h
    cases o with
    | none => exact False.elim h
    | some v => exact ⟨v, rfl, h⟩
theorem vis_of {sc : Scope} {x : Str} (h : visOk sc x = true) : Vis sc x := by
  unfold visOk at h
  unfold Vis
  cases hl : sc.names.lookup x with
  | none => rw [hl] at h; exact no h
  | some k =>
    rw [hl] at h
    cases k <;> first | exact no h | simp
theorem nameOk_of {x : Str} (h : nameOk x = true) : (x == ("__debug__" : Str)) = false ∧ (x == ("__classdict__" : Str)) = false := by
  obtain ⟨h1, h2⟩ := an h
  exact ⟨by simpa using h1, by simpa using h2⟩
theorem snd_var (cx : Cxt X c g W C G) {i : Nat} {x : Str} (h : varOk c i x = true) (hk : (match k with | .any => true | .shr => !isO Γ i | .own => false) = true) : PE X (.Name x pos) (TX g W Γ k fun ρ => getV ρ i) := by
  obtain ⟨h1, h2⟩ := an h
  obtain ⟨h3, h4⟩ := an h2
  obtain ⟨h5, h6⟩ := nameOk_of h4
  refine (pe_var (i := i) (by rw [cx.hN]; exact of_decide_eq_true h1) (by rw [cx.hsc]; exact vis_of h3) h5 h6).imp fun σ H Q ⟨F, ρ, Qd, E, s, hq, q, _⟩ => ?_
  obtain ⟨p, e, hp⟩ := getV_app hq
  obtain ⟨v, e2, r⟩ := s.env.get i p e
  refine ⟨v, e2, q p hp v H F s.self ?_⟩
  cases k with
  | any =>
    split at r
    · exact r.any
    · exact r.any
  | shr =>
    have hk : (!isO Γ i) = true := hk
    rw [if_neg (by simpa using hk)] at r
    exact r
  | own => exact no hk
theorem gl_of (cx : Cxt X c g W C G) {x : Str} (h : glOk c x = true) : Gl X x ∧ (x == ("__debug__" : Str)) = false := by
  obtain ⟨h1, h2⟩ := an h
  refine ⟨?_, (nameOk_of h2).1⟩
  show X.env.scope.names.lookup x = _
  rw [cx.hsc]
  exact of_decide_eq_true h1
theorem snd_glb (cx : Cxt X c g W C G) {n : Nat} {x : Str} (h : glOk c x = true) (hn : c.Gn[n]? = some x) (hk : (match k with | .own => false | _ => true) = true) : PE X (.Name x pos) (TX g W Γ k fun _ => ofO G[n]?) := by
  obtain ⟨u, v, d, h1, h2, h3, h4⟩ := cx.gls n x hn
  obtain ⟨h5, h6⟩ := gl_of cx h
  refine (pe_glob h5 h1 h2 h6).imp fun σ H Q ⟨F, ρ, Qd, E, s, hq, q, _⟩ => ?_
  rw [h3] at hq
  refine q d hq v H F s.self ?_
  cases k with
  | any => exact (h4 H F).any
  | shr => exact h4 H F
  | own => exact no hk
theorem fnV_mut (n : Nat) : isMut (fnV n) = false := plainD_fn n
theorem snd_fnv (cx : Cxt X c g W C G) {f : Nat} {x : Str} (h : glOk c x = true) (hn : c.T[f]? = some x) : PE X (.Name x pos) (TX g W Γ k fun _ => pu (fnV f)) := by
  refine PE.of_own k ?_
  obtain ⟨np, a, h1, _, _, f', _, _, h2, h3, _⟩ := cx.fns f x hn
  obtain ⟨h5, h6⟩ := gl_of cx h
  have e := h2 a rfl
  subst e
  refine (pe_glob (v := .ref a) h5 h3 rfl h6).imp fun σ H Q ⟨F, ρ, Qd, E, s, hq, q, _⟩ => ?_
  exact q _ hq _ H F s.self (Rep.new (.fn h1 rfl) (fnV_mut f))
/-- two operands, any values -/
theorem snd_bin2 {f : PV → PV → M PV} {r : R2} {σ : L2.St} {H : Hp} {Q : VK} {Qk : (F : Addr → Prop) → (H : Hp) → (PV → Prop) → VK → Prop}
    (h : TX g W Γ k (fun ρ => bd (ma ρ) fun x => bd (mb ρ) fun y => f x y) σ H Q)
    (hr : ∀ F H1 x y p q Qd E, St0 g H1 F → AnyR g H1 F x p → AnyR g H1 F y q → f p q Qd E → (∀ z, Qd z → ∀ v H' F', Grow g H1 F H' F' → RK k g H1 H' F' v z → Q v H') → r x y H1 Q) :
    tOp r (TX g W Γ .any ma) (TX g W Γ .any mb) σ H Q := by
  obtain ⟨F, ρ, Qd, E, s, hm, q, ex⟩ := h
  refine ⟨F, ρ, _, E, s, hm, fun p hp v H1 F1 w1 r1 => ?_, ex⟩
  refine ⟨F1, ρ, _, E, s.grow w1, hp, fun p2 hp2 v2 H2 F2 w2 r2 => ?_, fun x hx => (ex x hx).grow w1⟩
  refine hr F2 H2 v v2 p p2 Qd E w2.st0 (AnyR.ext w2.ext w2.mono r1) r2 hp2 fun z hz v' H' F' w' r' => q z hz v' H' F' ((w1.trans w2).trans w') ?_
  cases k with
  | any => exact r'
  | shr => exact r'
  | own =>
    have r' : New g H2 H' F' v' z := r'
    show New g H H' F' v' z
    unfold New at r' ⊢
    split at r'
    · rename_i m
      rw [if_pos m]
      obtain ⟨a, e, n1, n2, n3, l⟩ := r'
      refine ⟨a, e, n1, n2, ?_, l⟩
      cases z2 : H a with
      | none => rfl
      | some o =>
        obtain ⟨o', z3⟩ := (w1.trans w2).there a o z2
        rw [n3] at z3; cases z3
    · rename_i m
      rw [if_neg m]
      exact r'
theorem opB_of {o : Bop} {p : Operator} (h : opB o p = true) : p = bop o := by
  cases o <;> cases p <;> first | rfl | exact no h
theorem snd_bin (cx : Cxt X c g W C G) {o : Bop} {p : Operator} (h : opB o p = true) (ha : PE X a (TX g W Γ .any ma)) (hb : PE X b (TX g W Γ .any mb)) : PE X (.BinOp a p b pos) (TX g W Γ k fun ρ => bd (ma ρ) fun x => bd (mb ρ) fun y => pBin o x y) := by
  refine PE.of_own k ?_
  have e := opB_of h
  subst e
  exact (pe_op (op_bin cx.hK o) ha hb).imp fun σ H Q hq => snd_bin2 (Qk := fun _ _ _ _ => True) hq fun F H1 x y p q Qd E s hx hy hf hQ => ⟨F, p, q, Qd, E, s, hx, hy, hf, hQ⟩
theorem snd_cmp (cx : Cxt X c g W C G) {o : Cop} {p : CmpOp} (h : p = cop o) (hb' : behindInMarks p b = false) (ha : PE X a (TX g W Γ .any ma)) (hb : PE X b (TX g W Γ .any mb)) : PE X (.Compare a [p] [b] pos) (TX g W Γ k fun ρ => bd (ma ρ) fun x => bd (mb ρ) fun y => pCmp o x y) := by
  refine PE.of_own k ?_
  subst h
  exact (pe_cmpR (op_cmp cx.hK cx.hP cx.hW (by have := cx.hu; omega) o) ha hb hb').imp fun σ H Q hq => snd_bin2 (Qk := fun _ _ _ _ => True) hq fun F H1 x y p q Qd E s hx hy hf hQ => ⟨F, p, q, Qd, E, s, hx, hy, hf, hQ⟩
theorem plainIx_of (h : plainE e = true) : PlainIx e := by
  intro o i
  cases e <;> first | rfl | exact no h
theorem snd_idx (cx : Cxt X c g W C G) (h : plainE b = true) (hk : (match k with | .own => false | _ => true) = true) (ha : PE X a (TX g W Γ .any ma)) (hb : PE X b (TX g W Γ .any mb)) : PE X (.Subscript a b pos) (TX g W Γ k fun ρ => bd (ma ρ) fun x => bd (mb ρ) fun y => pIdx x y) := by
  refine (pe_ix (op_idx cx.hK cx.hP cx.hW (by have := cx.hu; omega)) ha hb (plainIx_of h)).imp fun σ H Q hq => snd_bin2 (Qk := fun _ _ _ _ => True) hq fun F H1 x y p q Qd E s hx hy hf hQ => ⟨F, p, q, Qd, E, s, hx, hy, hf, fun z hz v r => hQ z hz v H1 F s.self ?_⟩
  cases k with
  | any => exact r.any
  | shr => exact r
  | own => exact no hk
/-! ### lists of operands -/
def TXa (g : GC) (W : WX) (Γ : List Bool) (m : Env → M (List PV)) : TA := fun σ H Q => ∃ F ρ Qd E, Sta g H F Γ σ ρ ∧ m ρ Qd E ∧
  (∀ ps, Qd ps → ∀ vs H' F', Grow g H F H' F' → Anys g H' F' vs ps → Q vs H') ∧ ∀ x, E x → EXW g W σ H x
theorem sns_nil : PA X [] (TXs g W Γ fun _ => pu []) := pa_nil.imp fun σ H Q ⟨F, ρ, Qd, E, s, hq, q, _⟩ => q [] hq [] H F s.self .nil
theorem sna_nil : PA X [] (TXa g W Γ fun _ => pu []) := pa_nil.imp fun σ H Q ⟨F, ρ, Qd, E, s, hq, q, _⟩ => q [] hq [] H F s.self .nil
theorem sns_cons {es : List Expr} {ms : Env → M (List PV)} (hp : plainE e = true) (he : PE X e (TX g W Γ .shr m)) (hs : PA X es (TXs g W Γ ms)) : PA X (e :: es) (TXs g W Γ fun ρ => bd (m ρ) fun x => bd (ms ρ) fun xs => pu (x :: xs)) := by
  refine (pa_cons he hs (star_plain hp)).imp fun σ H Q ⟨F, ρ, Qd, E, s, hq, q, ex⟩ => ?_
  refine ⟨F, ρ, _, E, s, hq, fun p hp v H1 F1 w1 r1 => ?_, ex⟩
  refine ⟨F1, ρ, _, E, s.grow w1, hp, fun p2 hp2 v2 H2 F2 w2 r2 => ?_, fun x hx => (ex x hx).grow w1⟩
  exact q _ hp2 _ H2 F2 (w1.trans w2) (.cons (Rep.ext w2.ext w2.mono r1) r2)
theorem sna_cons {es : List Expr} {ms : Env → M (List PV)} (hp : plainE e = true) (he : PE X e (TX g W Γ .any m)) (hs : PA X es (TXa g W Γ ms)) : PA X (e :: es) (TXa g W Γ fun ρ => bd (m ρ) fun x => bd (ms ρ) fun xs => pu (x :: xs)) := by
  refine (pa_cons he hs (star_plain hp)).imp fun σ H Q ⟨F, ρ, Qd, E, s, hq, q, ex⟩ => ?_
  refine ⟨F, ρ, _, E, s, hq, fun p hp v H1 F1 w1 r1 => ?_, ex⟩
  refine ⟨F1, ρ, _, E, s.grow w1, hp, fun p2 hp2 v2 H2 F2 w2 r2 => ?_, fun x hx => (ex x hx).grow w1⟩
  exact q _ hp2 _ H2 F2 (w1.trans w2) (.cons (AnyR.ext w2.ext w2.mono r1) r2)
theorem New.older {H0 H1 H2 : Hp} {F F1 F2 : Addr → Prop} {v : V} {p : PV} (w : Grow g H0 F H1 F1) (r : New g H1 H2 F2 v p) : New g H0 H2 F2 v p := by
  unfold New at r ⊢
  split at r
  · rename_i m
    rw [if_pos m]
    obtain ⟨a, e, n1, n2, n3, l⟩ := r
    refine ⟨a, e, n1, n2, ?_, l⟩
    cases z2 : H0 a with
    | none => rfl
    | some o =>
      obtain ⟨o', z3⟩ := w.there a o z2
      rw [n3] at z3; cases z3
  · rename_i m
    rw [if_neg m]
    exact r
/-- an operation's result, in the place's terms -/
theorem out_of {H H1 : Hp} {F F1 : Addr → Prop} {Qd : PV → Prop} {Q : VK} (w : Grow g H F H1 F1) (q : ∀ p, Qd p → ∀ v H' F', Grow g H F H' F' → RK .own g H H' F' v p → Q v H') : Out g H1 F1 Qd Q := fun p hp v H' F' w' r =>
  q p hp v H' F' (w.trans w') (New.older w r)
theorem out_shr {H H1 : Hp} {F F1 : Addr → Prop} {Qd : PV → Prop} {Q : VK} (w : Grow g H F H1 F1) (q : ∀ p, Qd p → ∀ v H' F', Grow g H F H' F' → RK .shr g H H' F' v p → Q v H') : OutS g H1 F1 Qd Q := fun p hp v H' F' w' r =>
  q p hp v H' F' (w.trans w') r
theorem sns_len : ∀ {es : List Expr} {n : Nat}, es.length = n → es.length = n := fun h => h
theorem snd_tup {es : List Expr} {n j : Nat} {ms : Env → M (List PV)} (hn : n ≤ 1000) (hl : ∀ ρ Q E, ms ρ Q E → ms ρ (fun xs => Q xs ∧ xs.length = n) E) (hs : PA X es (TXs g W Γ ms)) : PE X (.Tuple es j pos) (TX g W Γ k fun ρ => bd (ms ρ) fun vs => pu (.tuple vs)) := by
  refine PE.of_own k ?_
  refine (pe_tup hs).imp fun σ H Q ⟨F, ρ, Qd, E, s, hq, q, ex⟩ => ?_
  refine ⟨F, ρ, _, E, s, hl ρ _ _ hq, fun ps ⟨hp, hpl⟩ vs H1 F1 w1 r1 => ⟨?_, (out_of w1 q).newT w1.st0 hp r1⟩, ex⟩
  rw [r1.length, hpl, line_eq]; show n ≤ 16777216; omega
theorem snd_lst {es : List Expr} {n : Nat} {ms : Env → M (List PV)} (hn : n ≤ 1000) (hl : ∀ ρ Q E, ms ρ Q E → ms ρ (fun xs => Q xs ∧ xs.length = n) E) (hs : PA X es (TXs g W Γ ms)) : PE X (.List es pos) (TX g W Γ k fun ρ => bd (ms ρ) fun vs => pu (.list vs)) := by
  refine PE.of_own k ?_
  refine (pe_lst hs).imp fun σ H Q ⟨F, ρ, Qd, E, s, hq, q, ex⟩ => ?_
  refine ⟨F, ρ, _, E, s, hl ρ _ _ hq, fun ps ⟨hp, hpl⟩ vs H1 F1 w1 r1 => ⟨?_, (out_of w1 q).newL w1.st0 hp r1⟩, ex⟩
  rw [r1.length, hpl, line_eq]; show n ≤ 16777216; omega
theorem snd_neg (ha : PE X a (TX g W Γ .any ma)) : PE X (.UnaryOp .USub a pos) (TX g W Γ k fun ρ => bd (ma ρ) pNeg) := by
  refine PE.of_own k ?_
  refine (pe_un un_neg ha).imp fun σ H Q ⟨F, ρ, Qd, E, s, hq, q, ex⟩ => ?_
  refine ⟨F, ρ, _, E, s, hq, fun p hp v H1 F1 w1 r1 => ?_, ex⟩
  cases p <;> try exact False.elim hp
  have r1 : AnyR g H1 F1 v (.int _) := r1
  exact ⟨_, r1.int, (out_of w1 q).int w1.st0 hp⟩
/-! ### tests -/
def TTX (g : GC) (W : WX) (Γ : List Bool) (m : Env → M PV) : TT := fun σ H Q => ∃ F ρ Qd E, Sta g H F Γ σ ρ ∧ m ρ Qd E ∧
  (∀ p, Qd p → ∃ b, p = .bool b ∧ ∀ H' F', Grow g H F H' F' → Q b H') ∧ ∀ x, E x → EXW g W σ H x
theorem TTX.tx {σ : L2.St} {H : Hp} {Q : Bool → Hp → Prop} (h : TTX g W Γ m σ H Q) : TX g W Γ .any m σ H fun x H' => ∃ k, x = .bl k ∧ Q k H' := by
  obtain ⟨F, ρ, Qd, E, s, hq, q, ex⟩ := h
  refine ⟨F, ρ, Qd, E, s, hq, fun p hp v H' F' w r => ?_, ex⟩
  obtain ⟨b, e, qq⟩ := q p hp
  subst e
  have r : AnyR g H' F' v (.bool b) := r
  exact ⟨b, r.bool, qq H' F' w⟩
theorem snd_pt (h : PE X e (TX g W Γ .any m)) (he : ∀ whole, isTrue e X.env whole = (do let v ← whole; standAt e.pos; holding [v] (truthy v))) : PT X e (TTX g W Γ m) := (pt_val h he).imp fun σ H Q q => q.tx
theorem asB_app {α : Type} {v : PV} {k : Bool → M α} {Q : α → Prop} {E : PV → Prop} (h : asB v k Q E) : ∃ b, v = .bool b ∧ k b Q E := by
  cases v <;> try exact False.elim h
  exact ⟨_, rfl, h⟩
theorem snd_nt (ha : PE X a (TX g W Γ .any ma)) : PE X (.UnaryOp .Not a pos) (TX g W Γ k fun ρ => bd (ma ρ) fun x => asB x fun b => pu (.bool !b)) := by
  refine PE.of_own k ?_
  refine (pe_not ha).imp fun σ H Q ⟨F, ρ, Qd, E, s, hq, q, ex⟩ => ?_
  refine ⟨F, ρ, _, E, s, hq, fun p hp v H1 F1 w1 r1 => ?_, ex⟩
  obtain ⟨b, e, hp⟩ := asB_app hp
  subst e
  have r1 : AnyR g H1 F1 v (.bool _) := r1
  exact ⟨_, r1.bool, (out_of w1 q).bl w1.st0 hp⟩
theorem snt_nt (ha : PT X a (TTX g W Γ ma)) : PT X (.UnaryOp .Not a pos) (TTX g W Γ fun ρ => bd (ma ρ) fun x => asB x fun b => pu (.bool !b)) := by
  refine (pt_not ha).imp fun σ H Q ⟨F, ρ, Qd, E, s, hq, q, ex⟩ => ?_
  refine ⟨F, ρ, _, E, s, hq, fun p hp => ?_, ex⟩
  obtain ⟨b, e, hp⟩ := asB_app hp
  obtain ⟨b2, e2, qq⟩ := q _ hp
  cases e2
  exact ⟨b, e, qq⟩
theorem snt_cmp (cx : Cxt X c g W C G) {o : Cop} {p : CmpOp} (h : p = cop o) (hb' : behindInMarks p b = false) (ha : PE X a (TX g W Γ .any ma)) (hb : PE X b (TX g W Γ .any mb)) : PT X (.Compare a [p] [b] pos) (TTX g W Γ fun ρ => bd (ma ρ) fun x => bd (mb ρ) fun y => pCmp o x y) := by
  subst h
  exact (pt_cmpR (op_cmp cx.hK cx.hP cx.hW (by have := cx.hu; omega) o) ha hb hb').imp fun σ H Q hq => snd_bin2 (Qk := fun _ _ _ _ => True) hq.tx fun F H1 x y p q Qd E s hx hy hf hQ => ⟨F, p, q, Qd, E, s, hx, hy, hf, fun z hz v H' F' w r => hQ z hz v H' F' w (New.any r)⟩
/-- a chain of two comparisons: what its reading asks -/
theorem snd_chain {o q : Cop} {σ : L2.St} {H : Hp} {Q : VK}
    (h : TX g W Γ .own (fun ρ => bd (ma ρ) fun x => bd (mb ρ) fun y => bd (pCmp o x y) fun t => asB t fun t => if t then bd (mc ρ) fun z => pCmp q y z else pu (.bool false)) σ H Q) :
    tChain (rOp g (pCmp o)) (rOp g (pCmp q)) (TX g W Γ .any ma) (TX g W Γ .any mb) (TX g W Γ .any mc) σ H Q := by
  obtain ⟨F, ρ, Qd, E, s, hm, k, ex⟩ := h
  refine ⟨F, ρ, _, E, s, hm, fun p hp v H1 F1 w1 r1 => ?_, ex⟩
  refine ⟨F1, ρ, _, E, s.grow w1, hp, fun p2 hp2 v2 H2 F2 w2 r2 => ?_, fun x hx => (ex x hx).grow w1⟩
  have r1 : AnyR g H1 F1 v p := r1
  have r2 : AnyR g H2 F2 v2 p2 := r2
  refine ⟨F2, p, p2, _, E, w2.st0, r1.ext w2.ext w2.mono, r2, hp2, fun t ht v3 H3 F3 w3 r3 => ?_⟩
  obtain ⟨b, e, ht⟩ := asB_app ht
  subst e
  refine ⟨b, (New.any r3).bool, ?_⟩
  have w := (w1.trans w2).trans w3
  cases b with
  | false => exact (out_of w k).bl w3.st0 ht
  | true =>
    refine ⟨F3, ρ, _, E, s.grow w, ht, fun p4 hp4 v4 H4 F4 w4 r4 => ?_, fun x hx => (ex x hx).grow w⟩
    have r4 : AnyR g H4 F4 v4 p4 := r4
    exact ⟨F4, p2, p4, Qd, E, w4.st0, (r2.ext w3.ext w3.mono).ext w4.ext w4.mono, r4, hp4, out_of (w.trans w4) k⟩
theorem snd_chn (cx : Cxt X c g W C G) {o q : Cop} {p p' : CmpOp} (h : p = cop o) (h' : p' = cop q) (hb' : lastMarks [p, p'] [b, d] = false) (ha : PE X a (TX g W Γ .any ma)) (hb : PE X b (TX g W Γ .any mb)) (hd : PE X d (TX g W Γ .any mc)) :
    PE X (.Compare a [p, p'] [b, d] pos) (TX g W Γ k fun ρ => bd (ma ρ) fun x => bd (mb ρ) fun y => bd (pCmp o x y) fun t => asB t fun t => if t then bd (mc ρ) fun z => pCmp q y z else pu (.bool false)) := by
  refine PE.of_own k ?_
  subst h h'
  exact (pe_chain (op_cmp cx.hK cx.hP cx.hW (by have := cx.hu; omega) o) (op_cmp cx.hK cx.hP cx.hW (by have := cx.hu; omega) q) ha hb hd hb').imp fun σ H Q hq => snd_chain hq
theorem TX.own_of_any {σ : L2.St} {H : Hp} {Q : VK} (h : TX g W Γ .any m σ H Q) : TX g W Γ .own m σ H Q := h.any_of_own
theorem snt_chn (cx : Cxt X c g W C G) {o q : Cop} {p p' : CmpOp} (h : p = cop o) (h' : p' = cop q) (hb' : lastMarks [p, p'] [b, d] = false) (ha : PE X a (TX g W Γ .any ma)) (hb : PE X b (TX g W Γ .any mb)) (hd : PE X d (TX g W Γ .any mc)) :
    PT X (.Compare a [p, p'] [b, d] pos) (TTX g W Γ fun ρ => bd (ma ρ) fun x => bd (mb ρ) fun y => bd (pCmp o x y) fun t => asB t fun t => if t then bd (mc ρ) fun z => pCmp q y z else pu (.bool false)) := by
  subst h h'
  exact (pt_chain (op_cmp cx.hK cx.hP cx.hW (by have := cx.hu; omega) o) (op_cmp cx.hK cx.hP cx.hW (by have := cx.hu; omega) q) ha hb hd hb').imp fun σ H Q hq => snd_chain hq.tx.any_of_own
theorem snd_an {r : List Expr} (ha : PE X a (TX g W Γ .any ma)) (hb : PE X (.BoolOp .And (b :: r) pos) (TX g W Γ k mb)) : PE X (.BoolOp .And (a :: b :: r) pos) (TX g W Γ k fun ρ => bd (ma ρ) fun x => asB x fun t => if t then mb ρ else pu (.bool false)) := by
  refine (pe_and ha hb).imp fun σ H Q ⟨F, ρ, Qd, E, s, hq, q, ex⟩ => ?_
  refine ⟨F, ρ, _, E, s, hq, fun p hp v H1 F1 w1 r1 => ?_, ex⟩
  obtain ⟨t, e, hp⟩ := asB_app hp
  subst e
  have r1 : AnyR g H1 F1 v (.bool _) := r1
  refine ⟨t, r1.bool, ?_⟩
  cases t with
  | false =>
    refine q _ hp _ H1 F1 w1 ?_
    cases k with
    | any => exact (Rep.bl false).any
    | shr => exact .bl false
    | own => exact Rep.new (.bl false) rfl
  | true =>
    refine ⟨F1, ρ, Qd, E, s.grow w1, hp, fun p2 hp2 v2 H2 F2 w2 r2 => q p2 hp2 v2 H2 F2 (w1.trans w2) ?_, fun x hx => (ex x hx).grow w1⟩
    cases k with
    | any => exact r2
    | shr => exact r2
    | own => exact New.older w1 r2
theorem snd_or {r : List Expr} (ha : PE X a (TX g W Γ .any ma)) (hb : PE X (.BoolOp .Or (b :: r) pos) (TX g W Γ k mb)) : PE X (.BoolOp .Or (a :: b :: r) pos) (TX g W Γ k fun ρ => bd (ma ρ) fun x => asB x fun t => if t then pu (.bool true) else mb ρ) := by
  refine (pe_or ha hb).imp fun σ H Q ⟨F, ρ, Qd, E, s, hq, q, ex⟩ => ?_
  refine ⟨F, ρ, _, E, s, hq, fun p hp v H1 F1 w1 r1 => ?_, ex⟩
  obtain ⟨t, e, hp⟩ := asB_app hp
  subst e
  have r1 : AnyR g H1 F1 v (.bool _) := r1
  refine ⟨t, r1.bool, ?_⟩
  cases t with
  | true =>
    refine q _ hp _ H1 F1 w1 ?_
    cases k with
    | any => exact (Rep.bl true).any
    | shr => exact .bl true
    | own => exact Rep.new (.bl true) rfl
  | false =>
    refine ⟨F1, ρ, Qd, E, s.grow w1, hp, fun p2 hp2 v2 H2 F2 w2 r2 => q p2 hp2 v2 H2 F2 (w1.trans w2) ?_, fun x hx => (ex x hx).grow w1⟩
    cases k with
    | any => exact r2
    | shr => exact r2
    | own => exact New.older w1 r2
/-- tests behind one another -/
theorem snt_an {r : List Expr} (ha : PT X a (TTX g W Γ ma)) (hb : PW X (.BoolOp .And (b :: r) pos) (TTX g W Γ mb)) : PW X (.BoolOp .And (a :: b :: r) pos) (TTX g W Γ fun ρ => bd (ma ρ) fun x => asB x fun t => if t then mb ρ else pu (.bool false)) := by
  refine ⟨fun wh pins s σ H Q I h => (pw_and ha hb).run wh pins s σ H Q I ?_⟩
  obtain ⟨F, ρ, Qd, E, st, hq, q, ex⟩ := h
  refine ⟨F, ρ, _, E, st, hq, fun p hp => ?_, ex⟩
  obtain ⟨t, e, hp⟩ := asB_app hp
  refine ⟨t, e, fun H1 F1 w1 => ?_⟩
  cases t with
  | false =>
    obtain ⟨b, e2, qq⟩ := q _ hp
    cases e2
    exact qq H1 F1 w1
  | true =>
    refine ⟨F1, ρ, Qd, E, st.grow w1, hp, fun p2 hp2 => ?_, fun x hx => (ex x hx).grow w1⟩
    obtain ⟨b, e2, qq⟩ := q _ hp2
    exact ⟨b, e2, fun H' F' w' => qq H' F' (w1.trans w')⟩
theorem snt_or {r : List Expr} (ha : PT X a (TTX g W Γ ma)) (hb : PW X (.BoolOp .Or (b :: r) pos) (TTX g W Γ mb)) : PW X (.BoolOp .Or (a :: b :: r) pos) (TTX g W Γ fun ρ => bd (ma ρ) fun x => asB x fun t => if t then pu (.bool true) else mb ρ) := by
  refine ⟨fun wh pins s σ H Q I h => (pw_or ha hb).run wh pins s σ H Q I ?_⟩
  obtain ⟨F, ρ, Qd, E, st, hq, q, ex⟩ := h
  refine ⟨F, ρ, _, E, st, hq, fun p hp => ?_, ex⟩
  obtain ⟨t, e, hp⟩ := asB_app hp
  refine ⟨t, e, fun H1 F1 w1 => ?_⟩
  cases t with
  | true =>
    obtain ⟨b, e2, qq⟩ := q _ hp
    cases e2
    exact qq H1 F1 w1
  | false =>
    refine ⟨F1, ρ, Qd, E, st.grow w1, hp, fun p2 hp2 => ?_, fun x hx => (ex x hx).grow w1⟩
    obtain ⟨b, e2, qq⟩ := q _ hp2
    exact ⟨b, e2, fun H' F' w' => qq H' F' (w1.trans w')⟩
theorem snt_one {op : BoolOp} (ha : PT X a (TTX g W Γ ma)) : PW X (.BoolOp op [a] pos) (TTX g W Γ ma) := by
  cases op
  · exact pw_and1 ha
  · exact pw_or1 ha
theorem snd_ite {t : Expr} (ht : PT X t (TTX g W Γ m)) (ha : PE X a (TX g W Γ k ma)) (hb : PE X b (TX g W Γ k mb)) : PE X (.IfExp t a b pos) (TX g W Γ k fun ρ => bd (m ρ) fun x => asB x fun t => if t then ma ρ else mb ρ) := by
  refine (pe_ifExp ht ha hb).imp fun σ H Q ⟨F, ρ, Qd, E, s, hq, q, ex⟩ => ?_
  refine ⟨F, ρ, _, E, s, hq, fun p hp => ?_, ex⟩
  obtain ⟨t, e, hp⟩ := asB_app hp
  refine ⟨t, e, fun H1 F1 w1 => ?_⟩
  have fin : ∀ {mm : Env → M PV}, mm ρ Qd E → TX g W Γ k mm σ H1 Q := fun {mm} hp => by
    refine ⟨F1, ρ, Qd, E, s.grow w1, hp, fun p2 hp2 v2 H2 F2 w2 r2 => q p2 hp2 v2 H2 F2 (w1.trans w2) ?_, fun x hx => (ex x hx).grow w1⟩
    cases k with
    | any => exact r2
    | shr => exact r2
    | own => exact New.older w1 r2
  cases t with
  | true => exact fin hp
  | false => exact fin hp
theorem snd_rvs (cx : Cxt X c g W C G) {j : Nat} {p1 p2 p3 : Pos} (ha : PE X a (TX g W Γ .any ma)) : PE X (.Subscript a (.Slice none none (some (.UnaryOp .USub (.Constant (.int 1) j p1) p2)) p3) pos) (TX g W Γ k fun ρ => bd (ma ρ) pRev) := by
  refine PE.of_own k ?_
  refine (pe_rvs cx.hK ha).imp fun σ H Q ⟨F, ρ, Qd, E, s, hq, q, ex⟩ => ?_
  exact ⟨F, ρ, _, E, s, hq, fun p hp v H1 F1 w1 r1 => ⟨F1, p, Qd, E, w1.st0, r1, hp, out_of w1 q⟩, ex⟩
theorem snd_rvf (cx : Cxt X c g W C G) {j : Nat} {p1 p2 p3 : Pos} (ha : PE X a (TX g W Γ .any ma)) (hb : PE X b (TX g W Γ .any mb)) : PE X (.Subscript a (.Slice (some b) none (some (.UnaryOp .USub (.Constant (.int 1) j p1) p2)) p3) pos) (TX g W Γ k fun ρ => bd (ma ρ) fun x => bd (mb ρ) fun l => gd (partOk l = true) (pRvf x l)) := by
  refine PE.of_own k ?_
  refine (pe_rvf cx.hK ha hb).imp fun σ H Q ⟨F, ρ, Qd, E, s, hq, q, ex⟩ => ?_
  refine ⟨F, ρ, _, E, s, hq, fun p hp v H1 F1 w1 r1 => ?_, ex⟩
  refine ⟨F1, ρ, _, E, s.grow w1, hp, fun p2 hp2 v2 H2 F2 w2 r2 => ?_, fun x hx => (ex x hx).grow w1⟩
  obtain ⟨_, hp2⟩ := hp2
  cases p <;> first | exact False.elim hp2 | skip
  cases p2 <;> first | exact False.elim hp2 | skip
  have r2 : AnyR g H2 F2 v2 (.int _) := r2
  have r1 : AnyR g H1 F1 v (.tuple _) := r1
  exact ⟨_, r2.int, _, rfl, F2, _, Qd, E, w2.st0, r1.ext w2.ext w2.mono, hp2, out_of (w1.trans w2) q⟩
/-- a part of a slice -/
def TOX (g : GC) (W : WX) (Γ : List Bool) (m : Env → M PV) : TO := fun σ H Q => ∃ F ρ Qd E, Sta g H F Γ σ ρ ∧ m ρ Qd E ∧
  (∀ p, Qd p → ∃ o, p = oi o ∧ ∀ H' F', Grow g H F H' F' → Q o H') ∧ ∀ x, E x → EXW g W σ H x
theorem sno_none : PO X none (TOX g W Γ fun _ => pu .none) := by
  refine ⟨fun pins s σ H Q I h => po_none.run pins s σ H Q I ?_⟩
  obtain ⟨F, ρ, Qd, E, st, hq, q, _⟩ := h
  obtain ⟨o, e, k⟩ := q _ hq
  cases o with
  | none => exact k H F st.self
  | some i => cases e
theorem sno_some (he : PE X e (TX g W Γ .any m)) : PO X (some e) (TOX g W Γ m) := by
  refine ⟨fun pins s σ H Q I h => ?_⟩
  rw [evalPart_some]
  obtain ⟨F, ρ, Qd, E, st, hq, q, ex⟩ := h
  refine thn (he.run pins s σ H (fun x H1 => (x = .non ∧ Q none H1) ∨ ∃ i, x = .int i ∧ Q (some i) H1) I ⟨F, ρ, Qd, E, st, hq, fun p hp v H' F' w r => ?_, ex⟩) fun u s1 ⟨x, H1, I1, r1, q1⟩ => ?_
  · obtain ⟨o, e, k⟩ := q p hp
    subst e
    have r : AnyR g H' F' v (oi o) := r
    cases o with
    | none => exact .inl ⟨r.none, k H' F' w⟩
    | some i => exact .inr ⟨i, r.int, k H' F' w⟩
  · rcases q1 with ⟨rfl, q1⟩ | ⟨i, rfl, q1⟩
    · cases r1
      exact ⟨none, H1, I1, .none, q1⟩
    · obtain ⟨t, rfl⟩ := r1
      exact ⟨some i, H1, I1, .int i t, q1⟩
theorem partOk_of {p : PV} (h : partOk p = true) : ∃ o, p = oi o := by
  cases p <;> first | exact no h | skip
  · exact ⟨none, rfl⟩
  · exact ⟨some _, rfl⟩
theorem snd_slc (cx : Cxt X c g W C G) {lo hi : Option Expr} {p2 : Pos} (ha : PE X a (TX g W Γ .any ma)) (hl : PO X lo (TOX g W Γ mb)) (hh : PO X hi (TOX g W Γ mc)) :
    PE X (.Subscript a (.Slice lo hi none p2) pos) (TX g W Γ k fun ρ => bd (ma ρ) fun x => bd (mb ρ) fun l => gd (partOk l = true) (bd (mc ρ) fun h => gd (partOk h = true) (pSlc x l h))) := by
  refine PE.of_own k ?_
  refine (pe_slice (op_slc cx.hK) ha hl hh).imp fun σ H Q ⟨F, ρ, Qd, E, s, hq, q, ex⟩ => ?_
  refine ⟨F, ρ, _, E, s, hq, fun p hp v H1 F1 w1 r1 => ?_, ex⟩
  refine ⟨F1, ρ, _, E, s.grow w1, hp, fun p2 hp2 => ?_, fun x hx => (ex x hx).grow w1⟩
  obtain ⟨c2, hp2⟩ := hp2
  obtain ⟨o, e⟩ := partOk_of c2
  refine ⟨o, e, fun H2 F2 w2 => ?_⟩
  refine ⟨F2, ρ, _, E, (s.grow w1).grow w2, hp2, fun p3 hp3 => ?_, fun x hx => ((ex x hx).grow w1).grow w2⟩
  obtain ⟨c3, hp3⟩ := hp3
  obtain ⟨o3, e3⟩ := partOk_of c3
  refine ⟨o3, e3, fun H3 F3 w3 => ?_⟩
  subst e e3
  have r1 : AnyR g H1 F1 v p := r1
  exact ⟨F3, p, Qd, E, w3.st0, (r1.ext w2.ext w2.mono).ext w3.ext w3.mono, hp3, out_of ((w1.trans w2).trans w3) q⟩
/-! ### calls -/
theorem back_plain : ∀ {es : List Expr} {ys : List Expr}, (∀ e ∈ es, plainE e = true) → (backTo pos (starEach es X.env)).any (·.1) = false
  | [], _, _ => rfl
  | e :: es, _, h => by
    rw [star_plain (h e List.mem_cons_self)]
    show (false || (backTo pos (starEach es X.env)).any (·.1)) = false
    rw [back_plain (ys := []) fun e h' => h e (List.mem_cons_of_mem _ h')]
    rfl
theorem snd_call (cx : Cxt X c g W C G) {f : Nat} {x : Str} {es : List Expr} {p : Pos} {ms : Env → M (List PV)} (h : glOk c x = true) (hn : c.T[f]? = some x) (hk : (match k with | .own => false | _ => true) = true) (hp : ∀ e' ∈ e :: es, plainE e' = true)
    (hs : PA X (e :: es) (TXs g W Γ ms)) : PE X (.Call (.Name x p) (e :: es) [] pos) (TX g W Γ k fun ρ => bd (ms ρ) fun vs => C f vs) := by
  obtain ⟨np, a, h1, hlen, kk, f', fd, ps, h2, h3, h4, h5, h6, h7⟩ := cx.fns f x hn
  obtain ⟨h8, h9⟩ := gl_of cx h
  refine (pe_callS h6 h7 h8 h3 h4 h5 (fun σ => passAt cx.takes σ) hs h9 (star_plain (hp e List.mem_cons_self)) (back_plain (ys := []) fun e' h' => hp e' (List.mem_cons_of_mem _ h'))).imp fun σ H Q ⟨F, ρ, Qd, E, s, hq, q, ex⟩ => ?_
  refine ⟨F, ρ, _, E, s, hq, fun vs hv vs' H1 F1 w1 r1 => ?_, ex⟩
  have hnp : vs'.length = np := r1.length.trans (hlen vs Qd E hv)
  refine ⟨F1, vs, Qd, E, hnp, w1.st0, r1, hv, fun p hp v H' F' w' r' => q p hp v H' F' (w1.trans w') ?_, fun x hx cls d H' e c r => ex x hx cls d H' (w1.ext.trans e) c r⟩
  cases k with
  | any => exact r'.any
  | shr => exact r'
  | own => exact no hk
theorem isCup_of {p : PV} (h : isCup p = true) : p = cupV := by
  unfold isCup at h
  split at h
  · rfl
  · exact no h
theorem AnyR.cup {H : Hp} {F : Addr → Prop} {v : V} (h : AnyR g H F v cupV) (c : ∃ a, v = .ref a) : True := trivial
theorem rep_cup {H : Hp} {F : Addr → Prop} {v : V} (h : AnyR g H F v cupV) : v = .ref g.ca := by
  have h : Rep g H F v cupV := h.rep rfl
  generalize hp : cupV = p at h
  cases h with
  | non => cases hp
  | bl => cases hp
  | int => cases hp
  | str => cases hp
  | tup => cases hp
  | lst => cases hp
  | dct _ _ _ _ pl e =>
    subst hp
    exact no pl
  | cup => rfl
  | @fn n _ _ _ e =>
    subst hp
    have : (0 : Int) = (n : Int) + 1 := by
      have e : cupV = fnV n := e
      unfold cupV fnV at e
      injection e with e
      injection e with e _
      injection e with _ e
      injection e
    omega
def rollK : List PV → M PV
  | [x, y] => asI y fun n => if isCup x then rl n else stuck
  | _ => stuck
theorem snd_roll (cx : Cxt X c g W C G) {x : Str} {p : Pos} (h : glOk c x = true) (hx : x = "_law_roll") (hp1 : plainE a = true) (hp2 : plainE b = true) (ha : PE X a (TX g W Γ .any ma)) (hb : PE X b (TX g W Γ .any mb)) :
    PE X (.Call (.Name x p) [a, b] [] pos) (TX g W Γ k fun ρ => bd (ma ρ) fun x => bd (mb ρ) fun y => asI y fun n => if isCup x then rl n else stuck) := by
  refine PE.of_own k ?_
  obtain ⟨kk, f', fd, ps, h2, h3, h4, h5, h6, h7⟩ := cx.roll
  subst hx
  obtain ⟨h8, h9⟩ := gl_of cx h
  have hs : PA X [a, b] (TXa g W Γ fun ρ => bd (ma ρ) fun x => bd (bd (mb ρ) fun y => bd (pu []) fun xs => pu (y :: xs)) fun xs => pu (x :: xs)) := sna_cons hp1 ha (sna_cons hp2 hb sna_nil)
  refine (pe_callS h6 h7 h8 h3 h4 h5 (fun σ => passAt cx.takes σ) hs h9 (star_plain hp1) (back_plain (es := [b]) (ys := []) fun e' h' => by simp at h'; subst h'; exact hp2)).imp fun σ H Q ⟨F, ρ, Qd, E, s, hq, q, ex⟩ => ?_
  refine ⟨F, ρ, fun xs => rollK xs Qd E, E, s, hq, fun vs hv vs' H1 F1 w1 r1 => ?_, ex⟩
  rcases vs with _ | ⟨x, _ | ⟨y, _ | ⟨z, vs⟩⟩⟩ <;> try exact False.elim hv
  obtain ⟨v1, v2, rfl, ra, rb⟩ := anys2 r1
  replace hv : (asI y fun n => if isCup x then rl n else stuck) Qd E := hv
  cases y with
  | int n => ?_
  | _ => exact False.elim hv
  replace hv : (if isCup x = true then rl n else stuck) Qd E := hv
  by_cases hc : isCup x = true
  · rw [if_pos hc] at hv
    have e := isCup_of hc
    subst e
    have e1 := rep_cup ra
    have e2 := rb.int
    subst e1 e2
    refine ⟨F1, n, rfl, w1.st0, hv.1.1, hv.1.2, fun r h0 h1 H' w' => ?_⟩
    exact q _ (hv.2 r h0 h1) _ H' F1 (w1.trans w') (Rep.new (.int r) rfl)
  · rw [if_neg hc] at hv
    exact False.elim hv
/-- which object a built-in's name stands for -/
def biV : Bi → Value
  | .len => .builtin "len" | .abs => .builtin "abs" | .int => .type "int" | .str => .type "str" | .max1 => .builtin "max" | .min1 => .builtin "min" | .max2 => .builtin "max" | .min2 => .builtin "min" | .max3 => .builtin "max" | .sum => .builtin "sum" | .all => .builtin "all" | .any => .builtin "any"
  | .sorted => .builtin "sorted" | .list => .type "list" | .tuple => .type "tuple" | .dict => .type "dict" | .sortedset => .none | .lenset => .none | .listset => .none | .gcd => .none
theorem biS (cx : Cxt X c g W C G) : ∀ b, biHas b = true → CallR X (biV b) (rBiS g b)
  | .len, _ => callR_shr (bi_len cx.hK cx.hP cx.hW)
  | .abs, _ => callR_shr bi_abs
  | .int, _ => callR_shr bi_int
  | .str, _ => callR_shr bi_str
  | .max1, _ => bi_max1 cx.hK cx.calm (by have := cx.hu; omega)
  | .min1, _ => bi_min1 cx.hK cx.calm (by have := cx.hu; omega)
  | .max2, _ => callR_shr (bi_max2 cx.calm)
  | .min2, _ => callR_shr (bi_min2 cx.hK cx.calm (by have := cx.hu; omega))
  | .sum, _ => callR_shr (bi_sum cx.hK cx.calm)
  | .all, _ => callR_shr (bi_all cx.calm)
  | .any, _ => callR_shr (bi_any cx.calm)
  | .sorted, _ => callR_shr (bi_sorted cx.hK cx.calm cx.hu)
  | .list, _ => callR_shr (bi_list cx.hK cx.calm)
  | .tuple, _ => callR_shr (bi_tuple cx.hK)
  | .dict, _ => callR_shr (bi_dict cx.hK cx.hP cx.hW cx.calm (by have := cx.hu; omega))
theorem biO (cx : Cxt X c g W C G) : ∀ b, biHas b = true → biOwn b = true → CallR X (biV b) (rBi g b)
  | .len, _, _ => bi_len cx.hK cx.hP cx.hW
  | .abs, _, _ => bi_abs
  | .int, _, _ => bi_int
  | .str, _, _ => bi_str
  | .max2, _, _ => bi_max2 cx.calm
  | .min2, _, _ => bi_min2 cx.hK cx.calm (by have := cx.hu; omega)
  | .sum, _, _ => bi_sum cx.hK cx.calm
  | .all, _, _ => bi_all cx.calm
  | .any, _, _ => bi_any cx.calm
  | .sorted, _, _ => bi_sorted cx.hK cx.calm cx.hu
  | .list, _, _ => bi_list cx.hK cx.calm
  | .tuple, _, _ => bi_tuple cx.hK
  | .dict, _, _ => bi_dict cx.hK cx.hP cx.hW cx.calm (by have := cx.hu; omega)
theorem bi_boot : ∀ b, biHas b = true → bootBuiltins (Str.ofString (biNm b)) = some (biV b) ∧ Str.ofString (biNm b) ≠ "__name__" ∧ Str.ofString (biNm b) ∈ (["len", "abs", "int", "str", "max", "min", "sum", "all", "any", "sorted", "list", "tuple", "dict", "set", "range", "zip", "enumerate", "reversed", "isinstance", "bool"] : List Str) := by
  intro b h
  cases b <;> first | exact no h | skip
  all_goals exact ⟨by decide +kernel, by decide +kernel, by decide +kernel⟩
theorem snd_bi (cx : Cxt X c g W C G) {bi : Bi} {x : Str} {p : Pos} {es : List Expr} {ms : Env → M (List PV)} (h : glOk c x = true) (hx : x = Str.ofString (biNm bi)) (hb : biHas bi = true) (hk : (match k with | .own => biOwn bi | _ => true) = true) (hp : ∀ e' ∈ e :: es, plainE e' = true)
    (hs : PA X (e :: es) (TXa g W Γ ms)) : PE X (.Call (.Name x p) (e :: es) [] pos) (TX g W Γ k fun ρ => bd (ms ρ) fun vs => pBi bi vs) := by
  subst hx
  obtain ⟨h1, h2, h3⟩ := bi_boot bi hb
  obtain ⟨h8, h9⟩ := gl_of cx h
  have h10 := cx.blt _ h3
  have gen : ∀ {r : List V → Hp → VK → Prop}, CallR X (biV bi) r → PE X (.Call (.Name (Str.ofString (biNm bi)) p) (e :: es) [] pos) (tCB r (TXa g W Γ ms)) := fun {r} hr => by
    have st := star_plain (es := es) (env := X.env) (hp e List.mem_cons_self)
    have bk := back_plain (X := X) (pos := pos) (ys := []) fun e' h' => hp e' (List.mem_cons_of_mem _ h')
    cases bi <;> first | exact no hb | skip
    all_goals first
      | exact pe_callB hr h8 h10 h1 hs h2 h9 st bk
      | exact pe_callTy hr h8 h10 h1 hs h2 h9 st bk
  cases k with
  | own =>
    refine (gen (biO cx bi hb hk)).imp fun σ H Q ⟨F, ρ, Qd, E, s, hq, q, ex⟩ => ?_
    exact ⟨F, ρ, _, E, s, hq, fun vs hv vs' H1 F1 w1 r1 => ⟨F1, vs, Qd, E, w1.st0, r1, hv, out_of w1 q⟩, ex⟩
  | shr =>
    refine (gen (biS cx bi hb)).imp fun σ H Q ⟨F, ρ, Qd, E, s, hq, q, ex⟩ => ?_
    exact ⟨F, ρ, _, E, s, hq, fun vs hv vs' H1 F1 w1 r1 => ⟨F1, vs, Qd, E, w1.st0, r1, hv, out_shr w1 q⟩, ex⟩
  | any =>
    refine (gen (biS cx bi hb)).imp fun σ H Q ⟨F, ρ, Qd, E, s, hq, q, ex⟩ => ?_
    exact ⟨F, ρ, _, E, s, hq, fun vs hv vs' H1 F1 w1 r1 => ⟨F1, vs, Qd, E, w1.st0, r1, hv, fun p hp v H' F' w' r' => q p hp v H' F' (w1.trans w') r'.any⟩, ex⟩
/-- the type of a value -/
theorem tyx {H : Hp} {F : Addr → Prop} {x : V} {p : PV} (hx : AnyR g H F x p) (hn : notSp p = true) : ∃ t : String, TyX g.K H x (.type t) ∧ ∀ ty : Ty, PySem.W.kitOne g.K (.type t) (.type (tyNm ty)) = some (isTy p ty) := by
  have kb : ∀ (t : String) (p : PV), (∀ ty : Ty, kitB t (tyNm ty) = some (isTy p ty)) → ∀ ty : Ty, PySem.W.kitOne g.K (.type t) (.type (tyNm ty)) = some (isTy p ty) := fun t p h ty => kit_ty (h ty)
  cases p with
  | none => rw [hx.none]; exact ⟨"NoneType", .base .non, kb _ _ fun ty => by cases ty <;> decide +kernel⟩
  | bool b => rw [hx.bool]; exact ⟨"bool", .base (.bl b), kb _ _ fun ty => by cases ty <;> first | (show kitB "bool" "int" = some true; decide +kernel) | (show kitB "bool" "bool" = some true; decide +kernel) | (show kitB "bool" "str" = some false; decide +kernel) | (show kitB "bool" "tuple" = some false; decide +kernel) | (show kitB "bool" "list" = some false; decide +kernel)⟩
  | int i => rw [hx.int]; exact ⟨"int", .base (.int i), kb _ _ fun ty => by cases ty <;> first | (show kitB "int" "int" = some true; decide +kernel) | (show kitB "int" "bool" = some false; decide +kernel) | (show kitB "int" "str" = some false; decide +kernel) | (show kitB "int" "tuple" = some false; decide +kernel) | (show kitB "int" "list" = some false; decide +kernel)⟩
  | str z => rw [hx.str]; exact ⟨"str", .base (.str z), kb _ _ fun ty => by cases ty <;> first | (show kitB "str" "int" = some false; decide +kernel) | (show kitB "str" "bool" = some false; decide +kernel) | (show kitB "str" "str" = some true; decide +kernel) | (show kitB "str" "tuple" = some false; decide +kernel) | (show kitB "str" "list" = some false; decide +kernel)⟩
  | list ds =>
    obtain ⟨a, xs, e, _, h1, _⟩ := hx.lst
    subst e
    exact ⟨"list", .base (.lst h1), kb _ _ fun ty => by cases ty <;> first | (show kitB "list" "int" = some false; decide +kernel) | (show kitB "list" "bool" = some false; decide +kernel) | (show kitB "list" "str" = some false; decide +kernel) | (show kitB "list" "tuple" = some false; decide +kernel) | (show kitB "list" "list" = some true; decide +kernel)⟩
  | tuple ds =>
    obtain ⟨a, xs, e, h1, _⟩ := hx.tup
    subst e
    refine ⟨"tuple", ?_, kb _ _ fun ty => by cases ty <;> first | (show kitB "tuple" "int" = some false; decide +kernel) | (show kitB "tuple" "bool" = some false; decide +kernel) | (show kitB "tuple" "str" = some false; decide +kernel) | (show kitB "tuple" "tuple" = some true; decide +kernel) | (show kitB "tuple" "list" = some false; decide +kernel)⟩
    rcases h1 with (h1 | ⟨o, h1⟩) | ⟨o, its, n, h1, h2, _⟩
    · exact .base (.tup h1)
    · exact .fTuple h1
    · exact .kTuple h1 h2
  | dict kvs => exact no hn
theorem ty_boot : ∀ t : Ty, bootBuiltins (Str.ofString (tyNm t)) = some (.type (tyNm t)) ∧ Str.ofString (tyNm t) ≠ "__name__" ∧ Str.ofString (tyNm t) ∈ (["len", "abs", "int", "str", "max", "min", "sum", "all", "any", "sorted", "list", "tuple", "dict", "set", "range", "zip", "enumerate", "reversed", "isinstance", "bool"] : List Str) := by
  intro b
  cases b <;> exact ⟨by decide +kernel, by decide +kernel, by decide +kernel⟩
theorem snd_isi (cx : Cxt X c g W C G) {t : Ty} {x y : Str} {p p2 : Pos} (h : glOk c x = true) (hx : x = "isinstance") (h' : glOk c y = true) (hy : y = Str.ofString (tyNm t)) (hp : plainE a = true) (ha : PE X a (TX g W Γ .any ma)) :
    PE X (.Call (.Name x p) [a, .Name y p2] [] pos) (TX g W Γ k fun ρ => bd (ma ρ) fun x => gd (notSp x = true) (pu (.bool (isTy x t)))) := by
  refine PE.of_own k ?_
  subst hx hy
  obtain ⟨h8, h9⟩ := gl_of cx h
  obtain ⟨k8, k9⟩ := gl_of cx h'
  obtain ⟨b1, b2, b3⟩ := ty_boot t
  have pn : PE X (.Name (Str.ofString (tyNm t)) p2) (tC (.ty (tyNm t))) := pe_bltn k8 (cx.blt _ b3) b1 rfl b2 k9
  refine (pe_callB call_isi h8 (cx.blt _ (by decide +kernel)) (by decide +kernel) (pa_cons ha (pa_cons pn pa_nil) (star_plain hp)) (by decide +kernel) h9 (star_plain hp) (by rfl)).imp fun σ H Q ⟨F, ρ, Qd, E, s, hq, q, ex⟩ => ?_
  refine ⟨F, ρ, _, E, s, hq, fun pv hpv v H1 F1 w1 r1 => ?_, ex⟩
  obtain ⟨hn, hv⟩ := hpv
  have r1 : AnyR g H1 F1 v pv := r1
  obtain ⟨tt, t1, t2⟩ := tyx r1 hn
  refine ⟨v, .ty (tyNm t), .type tt, .type (tyNm t), _, rfl, .ty _, by rw [cx.hK]; exact t1, by rw [cx.hK]; exact t2 t, (out_of w1 q).bl w1.st0 hv⟩
end
end HG
end
section
set_option maxHeartbeats 4000000
/-! HGEnum: enumerate over a tuple. -/
namespace HG
open PySem PySem.Spec PyProof.Rows L2
def enumO (it : Addr) : Obj := { cls := .type "enumerate", data := .fields #[.none, .bool false, .ref it, rawInt 0, .none, .none] }
/-- the class called with what begins as o -/
theorem meets_en1 {v : Value} {o : Obj} {Hb : Heap → Prop} (B : Begins v o Hb) :
    Meets (Builtin.«enumerate.__new__» ⟨[.type "enumerate", v], []⟩) (fun _ R s => Hb s.heap ∧ R (.ok (.ret (.ref (s.heap.push o).objs.size))) { s with heap := (s.heap.push o).push (enumO s.heap.objs.size) }) := by
  refine .of_wp fun prog w A R s h => ?_
  obtain ⟨hp, g, d, tk, os⟩ := s
  obtain ⟨hb, h⟩ := h
  have hsub := sub_enumerate
  have pit : ∀ {A2 : Around} {E2 : Value → Shared → Prop} {Q2 : Value → Shared → Prop}, Q2 (.ref hp.objs.size) ⟨hp.push o, g, d, tk, os⟩ → wpAny (model prog w) A2 (pyIter v) Q2 E2 ⟨hp, g, d, tk, os⟩ := fun q => B.iter prog w _ _ ⟨hp, g, d, tk, os⟩ _ hb q
  wp_walk using pit
  refine wpAny_stack_any fun st => wpAny_pure ?_
  split
  · rename_i c _ _ _ _ _
    cases (c == Value.type "enumerate")
    · wp_walk using pit
      exact ⟨_, rfl, h⟩
    · wp_walk using pit
      exact ⟨_, rfl, h⟩
  · wp_walk using pit
    exact ⟨_, rfl, h⟩
section
variable {prog : Program} {w : World} {A : Around} {E : Value → Shared → Prop} {s : Shared}
theorem call_enT {t : Addr} {items : Array Value} {Q : Value → Shared → Prop} (hT : s.heap.IsTuple t items)
    (k : ∀ h2, IsEnum h2 (s.heap.objs.size + 1) s.heap.objs.size 0 .none → h2.IsTupleIter s.heap.objs.size t 0 → (∀ b o, s.heap.get? b = some o → h2.get? b = some o) → Q (.ref (s.heap.objs.size + 1)) { s with heap := h2 }) :
    wpAny (model prog w) A (PySem.call (.type "enumerate") [.ref t]) Q E s := by
  refine callType_new F.called_enumerate (by decide) (F.typeCall_enumerate_1 _) (F.newCall_enumerate_1 _) (fun obj => F.args_object_init_2 obj _) F.entry_enumerate_new (meets_en1 (begins_tuple t items)) ⟨hT, ?_⟩
  have hz : (s.heap.push { cls := .type "tuple_iterator", data := .fields #[.ref t, .int 0 0] }).objs.size = s.heap.objs.size + 1 := Heap.size_push ..
  show _ ∧ _
  rw [hz]
  have he : IsEnum ((s.heap.push { cls := .type "tuple_iterator", data := .fields #[.ref t, .int 0 0] }).push (enumO s.heap.objs.size)) (s.heap.objs.size + 1) s.heap.objs.size 0 .none := by
    have := Heap.get?_push_size (s.heap.push { cls := .type "tuple_iterator", data := .fields #[.ref t, .int 0 0] }) (o := enumO s.heap.objs.size) rfl
    rw [hz] at this
    exact this
  exact ⟨⟨_, he, rfl⟩, k _ he ⟨_, Heap.get?_push_of_some _ (Heap.get?_push_size _ rfl), rfl, rfl⟩ fun b o x => Heap.get?_push_of_some _ (Heap.get?_push_of_some _ x)⟩
end
/-- the tuple at a, each item in a new pair -/
def ItU (K : PySem.W.Frag) (a : Addr) : It :=
  ⟨fun i H => ∃ (xs : List V) (x : V), SqT K H a xs ∧ xs[i]? = some x, fun i H v H' => ∃ T x, v = .ref T ∧ H T = none ∧ H' = upd H T (.tup [.int (i : Nat), x]) ∧ ∀ xs, SqT K H a xs → xs[i]? = some x, fun i H => ∃ xs : List V, SqT K H a xs ∧ xs.length = i⟩
theorem turn_enT {P : Program} {w : World} {K : PySem.W.Frag} {elts : List Expr} {kk : Nat} {tpos : Pos} (a e it : Addr) :
    Turn P w K (.Tuple elts kk tpos) (ItU K a) [e, it] e (fun i h => (∃ old, IsEnum h e it ((i : Nat) : Int) old) ∧ h.IsTupleIter it a i ∧ e ≠ it) where
  mem := by simp
  obj := fun i h st b hb => by
    obtain ⟨⟨old, he⟩, ⟨o, ho, _, hd⟩, _⟩ := st
    have hb : b = e ∨ b = it := by simpa using hb
    rcases hb with z | z
    · rw [z]
      exact ⟨_, he, fun v q => nomatch q⟩
    · rw [z]
      exact ⟨o, ho, fun v q => by rw [hd] at q; cases q⟩
  keep := fun i h h' st k => by
    obtain ⟨⟨old, he⟩, hi, hne⟩ := st
    exact ⟨⟨old, k e (by simp) _ he⟩, hi.at fun o q => k it (by simp) o q, hne⟩
  item := by
    intro X hP hw hK hc i pins s σ H E I hf st hg
    subst hP hw hK
    obtain ⟨⟨old, he⟩, hit, hne⟩ := st
    obtain ⟨xs, x, hq, hx⟩ := hg
    obtain ⟨its, rv, p, hz⟩ := I.tuple hq
    have p : s.heap.IsTuple a its.toArray := p
    obtain ⟨u, hu, ru⟩ := rv.get hx
    have hel : e < s.heap.objs.size := Heap.lt_size he
    have hai : a ≠ it := fun z => by
      obtain ⟨o, h1, h2, _⟩ := hit
      obtain ⟨o2, h3, h4, _⟩ := p
      rw [z, h1] at h3
      cases h3
      rw [h2] at h4
      exact absurd h4 (by decide)
    have hae : e ∉ [it, a] := fun z => by
      have z : e = it ∨ e = a := by simpa using z
      rcases z with z | z
      · exact hne z
      · obtain ⟨o2, h3, h4, _⟩ := p
        have he : s.heap.get? e = _ := he
        rw [z, h3] at he
        cases he
        have h4 : (Value.type "enumerate") = Value.type "tuple" := h4
        exact absurd h4 (by decide)
    refine wpAny_pyNext_enum_itemD (Draws.tuple (A := X.A.in1) (show X.A.in1.handled = none from I.ok.hd hc) it a hai its.toArray) he ⟨hit, p⟩ (by have h1 := rv.length; have h2 := (List.getElem?_eq_some_iff.mp hx).1; simp; omega) hne hae fun y h' tk hy ho hst hT hsz hk => ?_
    have hit' := hst.1
    have ey : y = u := by
      have : its[i]? = some y := by simpa using hy
      rw [hu] at this
      cases this; rfl
    subst ey
    refine ⟨_, rfl, wpAny_letOwnedTupleGo_enum (s := { s with heap := h', toks := tk + 1 }) ho fun h'' he' sb => ?_⟩
    have hT2 : h''.get? s.heap.objs.size = some { cls := .type "tuple", data := .seq #[.int i tk, y] } := (sb.2 _ (Nat.ne_of_gt hel)).trans hT
    have new : ObjOk X.prog X.w (upd H s.heap.objs.size (.tup [.int (i : Nat), x])) h'' s.heap.objs.size (.tup [.int (i : Nat), x]) := ⟨by show 2 ≤ sizeLine; decide, [.int i tk, y], .cons ⟨_, rfl⟩ (.cons ru .nil), ⟨_, hT2, rfl, _, rfl⟩⟩
    have I1 : Inv X pins σ (upd H s.heap.objs.size (.tup [.int (i : Nat), x])) { s with heap := h'', toks := tk + 1 } :=
      I.turnedNew (ch := [e, it]) (fun b ob hb q => (sb.2 b (fun z => hb (by simp [z]))).trans (hk b ob (fun z => hb (by simp [z])) (fun z => hb (by simp [z])) q)) hf (Nat.le_refl _) new
    refine ⟨.ref s.heap.objs.size, _, I1, rfl, ⟨_, x, rfl, I.hok.fresh (Nat.le_refl _), rfl, fun ys hy => by rw [I.tuple_inj hy hq]; exact hx⟩, ⟨⟨y, ?_⟩, hit'.at fun o q => (sb.2 it (Ne.symm hne)).trans q, hne⟩, fun b hb => ?_⟩
    · have e1 : ((i + 1 : Nat) : Int) = (i : Int) + 1 := by omega
      rw [e1]
      exact he'
    · have hb' : b < s.heap.objs.size := by
        have hb : b = e ∨ b = it := by simpa using hb
        rcases hb with z | z
        · rw [z]; exact hel
        · rw [z]; obtain ⟨_, q, _⟩ := hit; exact Heap.lt_size q
      rw [upd_ne (Nat.ne_of_lt hb')]
      exact (hf b hb).1
  done := by
    intro X hP hw hK hc i pins s σ H E I hf st hg
    subst hP hw hK
    obtain ⟨⟨old, he⟩, hit, hne⟩ := st
    obtain ⟨xs, hq, hx⟩ := hg
    obtain ⟨its, rv, p, hz⟩ := I.tuple hq
    have p : s.heap.IsTuple a its.toArray := p
    obtain ⟨f0, f1, f2, f3, f4, f5⟩ := hf it (by simp)
    have hl := rv.length
    have hai : a ≠ it := fun z => by
      obtain ⟨o, h1, h2, _⟩ := hit
      obtain ⟨o2, h3, h4, _⟩ := p
      rw [z, h1] at h3
      cases h3
      rw [h2] at h4
      exact absurd h4 (by decide)
    have en : i = its.toArray.size := by
      rw [List.size_toArray]
      omega
    exact wpAny_pyNext_enum_endD (Draws.tuple (A := X.A.in1) (show X.A.in1.handled = none from I.ok.hd hc) it a hai its.toArray) he ⟨en ▸ hit, p⟩ fun h' eb => ⟨rfl, I.turned (t' := s.toks) (fun b o hb q => eb b o hb q) f0 f1 f3 f4 f5⟩
  self := fun A i s Q E st h => by
    obtain ⟨⟨_, he⟩, _⟩ := st
    exact wpAny_pyIter_enum he h
def iEnT (K : PySem.W.Frag) (ta : TA) : TI := fun σ H R => ta σ H fun vs H1 => ∃ a xs, vs = [.ref a] ∧ SqT K H1 a xs ∧ R (ItU K a) H1
def iEnA (K : PySem.W.Frag) (ta : TA) : TI := fun σ H R => ta σ H fun vs H1 => ∃ a xs, vs = [.ref a] ∧ ((SqL K H1 a xs ∧ R (Ite K a) H1) ∨ (SqT K H1 a xs ∧ R (ItU K a) H1))
theorem pi_enA {X : Cx} {e : Expr} {ta : TA} {p pos tpos : Pos} {elts : List Expr} {kk : Nat} (hg : Gl X "enumerate") (hm : X.mg "enumerate" = none) (ha : PA X [e] ta) (hs : starEach [e] X.env = [(false, eval e X.env)] := by rfl) :
    PI X (.Tuple elts kk tpos) (.Call (.Name "enumerate" p) [e] [] pos) (iEnA X.K ta) := by
  refine ⟨fun pins s σ H R I h => ?_⟩
  refine Call_ (ld_blt I hg hm boot_enumerate (PyProof.Rows.callWith_type1 (thn (ha.run pos pins s σ H _ I h) fun us s1 ⟨vs, H1, I1, r1, q1⟩ => ?_) hs rfl))
  obtain ⟨a, xs, ex, q1⟩ := q1
  subst ex
  have fin : ∀ b, b = s1.heap.objs.size + 1 ∨ b = s1.heap.objs.size → FpOk X pins H1 b := fun b hb => by
    have hle : s1.heap.objs.size ≤ b := by
      rcases hb with z | z
      · rw [z]; exact Nat.le_add_right _ _
      · rw [z]; exact Nat.le_refl _
    exact I1.fpOk hle (I1.hok.fresh hle)
  cases r1 with
  | cons r rr =>
    cases rr
    cases r
    rcases q1 with ⟨hq, q⟩ | ⟨hq, q⟩
    · obtain ⟨its, rv, p', hz⟩ := I1.list hq
      refine call_enumerate_list p'.isList fun h' he hit hsz hk => wpAny_pyIter_enum he ?_
      have I2 : Inv X pins σ H1 { s1 with heap := h' } := I1.kept (t' := s1.toks) hk
      exact ⟨s1.heap.objs.size + 1, [s1.heap.objs.size + 1, s1.heap.objs.size], _, _, H1, rfl, I2, turn_enum a (s1.heap.objs.size + 1) s1.heap.objs.size, ⟨⟨.none, he⟩, hit, Nat.succ_ne_self _⟩, fun b hb => fin b (by simpa using hb), q⟩
    · obtain ⟨its, rv, p', hz⟩ := I1.tuple hq
      refine call_enT (show s1.heap.IsTuple a its.toArray from p') fun h' he hit hk => wpAny_pyIter_enum he ?_
      have I2 : Inv X pins σ H1 { s1 with heap := h' } := I1.kept (t' := s1.toks) hk
      exact ⟨s1.heap.objs.size + 1, [s1.heap.objs.size + 1, s1.heap.objs.size], _, _, H1, rfl, I2, turn_enT a (s1.heap.objs.size + 1) s1.heap.objs.size, ⟨⟨.none, he⟩, hit, Nat.succ_ne_self _⟩, fun b hb => fin b (by simpa using hb), q⟩
end HG
end
section
set_option maxHeartbeats 4000000
/-! HGIter: what loops and comprehensions walk. -/
namespace HG
open PySem PySem.Spec PyProof.Rows L2
/-- what stays under statements: what is shared, and tuples -/
structure Keep (g : GC) (H : Hp) (F : Addr → Prop) (H' : Hp) (F' : Addr → Prop) : Prop where
  ext : ∀ b o, H b = some o → (F b ∨ (∃ xs, o = .tup xs) ∨ ∃ ob u, o = .frz ob u) → (∀ ps, o ≠ .tbl ps) → H' b = some o
  mono : ∀ a, F a → F' a
  cup : CupOk g.ca H'
  fca : ¬ F' g.ca
  fin : ∀ a, F' a → ∃ o, H' a = some o
section
variable {g : GC} {H H1 H' : Hp} {F F1 F' : Addr → Prop}
theorem Grow.keep (w : Grow g H F H' F') (hf : ¬ F g.ca) : Keep g H F H' F' := ⟨fun b o e h n => w.ext b o e (by
    rcases h with h | h | h
    · exact .inl fun z => hf (z ▸ h)
    · exact .inr (.inl h)
    · exact .inr (.inr h)) n, w.mono, w.cup, w.fca, w.fin⟩
theorem Keep.trans (a : Keep g H F H1 F1) (b : Keep g H1 F1 H' F') : Keep g H F H' F' := ⟨fun c o e h n => b.ext c o (a.ext c o e h n) (by
    rcases h with h | h | h
    · exact .inl (a.mono c h)
    · exact .inr (.inl h)
    · exact .inr (.inr h)) n, fun c h => b.mono c (a.mono c h), b.cup, b.fca, b.fin⟩
theorem Keep.sqT {a : Addr} {xs : List V} (w : Keep g H F H' F') (h : SqT g.K H a xs) : SqT g.K H' a xs := by
  rcases h with (h | ⟨o, h⟩) | h
  · exact .inl (.inl (w.ext a _ h (.inr (.inl ⟨_, rfl⟩)) fun _ z => by cases z))
  · exact .inl (.inr ⟨o, w.ext a _ h (.inr (.inr ⟨_, _, rfl⟩)) fun _ z => by cases z⟩)
  · exact .inr h
theorem DRep.keep {a : Addr} {kvs : List (PV × V)} (w : Keep g H F H' F') (f : F a) (h : DRep g H a kvs) : DRep g H' a kvs := by
  cases h with
  | k h h1 h2 h3 h4 h5 h6 h7 h8 => exact .k (w.ext a _ h (.inl f) fun _ z => by cases z) h1 h2 h3 h4 h5 h6 h7 h8
  | t h h1 h2 h3 h4 h5 h6 h7 => exact .t (w.ext a _ h (.inl f) fun _ z => by cases z) h1 h2 h3 h4 (h5.imp fun _ _ z => w.sqT z) h6 h7
theorem Rep.keep (w : Keep g H F H' F') {d : PV} {v : V} (h : Rep g H F v d) : Rep g H' F' v d :=
  Rep.rec (motive_1 := fun v d _ => Rep g H' F' v d) (motive_2 := fun vs ds _ => Reps g H' F' vs ds)
    .non (fun b => .bl b) (fun i => .int i) (fun y => .str y) (fun h _ r => .tup (w.sqT h) r) (fun h k n _ r => .lst (w.ext _ _ h (.inl k) fun _ z => by cases z) (w.mono _ k) n r)
    (fun h k n _ c e r => .dct (h.keep w k) (w.mono _ k) n r c e) (fun e => .cup e) (fun h e => .fn h e) .nil (fun _ _ h r => .cons h r) h
theorem Reps.keep (w : Keep g H F H' F') : ∀ {ds : List PV} {vs : List V}, Reps g H F vs ds → Reps g H' F' vs ds
  | _, _, .nil => .nil
  | _, _, .cons h r => .cons (h.keep w) (Reps.keep w r)
end
/-- what the thing walked over leans on: its list is shared (k = shr), or nothing is written -/
def Kp (k : Kd) (g : GC) (H : Hp) (F : Addr → Prop) (H' : Hp) (F' : Addr → Prop) : Prop := match k with
  | .shr => Keep g H F H' F'
  | _ => Grow g H F H' F'
theorem Kp.grow {k : Kd} {g : GC} {H H1 H' : Hp} {F F1 F' : Addr → Prop} (a : Kp k g H F H1 F1) (b : Grow g H1 F1 H' F') (hf : ¬ F1 g.ca) : Kp k g H F H' F' := by
  cases k with
  | shr => exact Keep.trans a (b.keep hf)
  | any => exact Grow.trans a b
  | own => exact Grow.trans a b
theorem Kp.reps {k : Kd} {g : GC} {H H' : Hp} {F F' : Addr → Prop} (a : Kp k g H F H' F') {d : PV} {v : V} (h : Rep g H F v d) : Rep g H' F' v d := by
  cases k with
  | shr => exact Rep.keep a h
  | any => exact h.ext (Grow.ext a) (Grow.mono a)
  | own => exact h.ext (Grow.ext a) (Grow.mono a)
theorem Kp.st0 {k : Kd} {g : GC} {H H' : Hp} {F F' : Addr → Prop} (a : Kp k g H F H' F') : St0 g H' F' := by
  cases k with
  | shr => exact ⟨Keep.cup a, Keep.fca a, Keep.fin a⟩
  | any => exact Grow.st0 a
  | own => exact Grow.st0 a
/-- J walks ds, wherever the state has grown from H, F -/
def Walks (g : GC) (k : Kd) (H : Hp) (F : Addr → Prop) (J : It) (ds : List PV) : Prop := ∀ (i : Nat) (H1 : Hp) (F1 : Addr → Prop), Kp k g H F H1 F1 →
  (∀ d, ds[i]? = some d → J.go i H1 ∧ ∀ x H2, J.yld i H1 x H2 → Grow g H1 F1 H2 F1 ∧ Rep g H2 F1 x d) ∧ (ds.length = i → J.stop i H1)
/-- an iterator's reading -/
def IX (g : GC) (W : WX) (Γ : List Bool) (k : Kd) (m : Env → M (List PV)) : TI := fun σ H R => ∃ F ρ Qd E, Sta g H F Γ σ ρ ∧ m ρ Qd E ∧
  (∀ ds, Qd ds → ds.length ≤ LINE → ∀ J H' F', Grow g H F H' F' → Walks g k H' F' J ds → R J H') ∧ ∀ x, E x → EXW g W σ H x
theorem _root_.L2.PI.imp {X : Cx} {tg e : Expr} {t u : TI} (h : PI X tg e t) (i : ∀ σ H R, u σ H R → t σ H R) : PI X tg e u := ⟨fun pins s σ H R I q => h.run pins s σ H R I (i σ H R q)⟩
section
variable {X : Cx} {c : Cc} {g : GC} {W : WX} {C : Nat → List PV → M PV} {G : List PV} {Γ : List Bool} {k : Kd} {m ma mb mc : Env → M PV} {e a b d tg : Expr} {pos p : Pos}
/-- every list, every tuple is short enough -/
def LenOk (K : PySem.W.Frag) (H : Hp) : Prop := ∀ a xs, SqL K H a xs ∨ SqT K H a xs → xs.length ≤ LINE
theorem len_of {pins : List (Addr × Obj)} {σ : L2.St} {H : Hp} {s : Shared} (I : Inv X pins σ H s) : LenOk X.K H := fun a xs h => by
  rcases h with h | h
  · obtain ⟨_, _, _, hz⟩ := I.list h
    rw [← line_eq]; exact hz
  · obtain ⟨_, _, _, hz⟩ := I.tuple h
    rw [← line_eq]; exact hz
theorem _root_.L2.PE.len {t : TE} (h : PE X e t) : PE X e fun σ H Q => t σ H fun v H' => LenOk X.K H' → Q v H' := ⟨fun pins s σ H Q I q =>
  thn (h.run pins s σ H _ I q) fun u s1 ⟨x, H1, I1, r1, q1⟩ => ⟨x, H1, I1, r1, q1 (len_of I1)⟩⟩
/-- a list as it is walked -/
theorem walks_list (hK : X.K = g.K) {k : Kd} {H : Hp} {F : Addr → Prop} {l : Addr} {xs : List V} {ds : List PV} (n : l ≠ g.ca) (h : H l = some (.lst xs)) (r : Reps g H F xs ds) (hk : k = .shr → F l) : Walks g k H F (Itl X.K l) ds := by
  intro i H1 F1 w
  have h1 : H1 l = some (.lst xs) := by
    cases k with
    | shr => exact Keep.ext w l _ h (.inl (hk rfl)) fun _ z => by cases z
    | any => exact (Grow.ext w).lst n h
    | own => exact (Grow.ext w).lst n h
  refine ⟨fun d hd => ?_, fun e => ⟨xs, SqL.of h1, by rw [r.length, e]; exact Nat.le_refl _⟩⟩
  obtain ⟨v, e, rv⟩ := r.get hd
  refine ⟨⟨xs, v, SqL.of h1, e⟩, fun x H2 ⟨e2, y⟩ => ?_⟩
  subst e2
  have := y xs (SqL.of h1)
  rw [e] at this
  cases this
  exact ⟨(w.st0).self, w.reps rv⟩
theorem walks_tup (hK : X.K = g.K) {k : Kd} {H : Hp} {F : Addr → Prop} {l : Addr} {xs : List V} {ds : List PV} (h : SqT g.K H l xs) (r : Reps g H F xs ds) : Walks g k H F (Itt X.K l) ds := by
  intro i H1 F1 w
  have h1 : SqT X.K H1 l xs := by
    rw [hK]
    cases k with
    | shr => exact Keep.sqT w h
    | any => exact (Grow.ext w).sqT h
    | own => exact (Grow.ext w).sqT h
  refine ⟨fun d hd => ?_, fun e => ⟨xs, h1, by rw [r.length, e]; exact Nat.le_refl _⟩⟩
  obtain ⟨v, e, rv⟩ := r.get hd
  refine ⟨⟨xs, v, h1, e⟩, fun x H2 ⟨e2, y⟩ => ?_⟩
  subst e2
  have := y xs h1
  rw [e] at this
  cases this
  exact ⟨(w.st0).self, w.reps rv⟩
theorem RK.any_of {H H' : Hp} {F' : Addr → Prop} {v : V} {p : PV} (r : RK k g H H' F' v p) : AnyR g H' F' v p := by
  cases k with
  | any => exact r
  | shr => exact Rep.any r
  | own => exact New.any r
theorem walks_str {k : Kd} {H : Hp} {F : Addr → Prop} (z : Str) : Walks g k H F (Its z) (z.cps.toList.map fun c => PyData.str ⟨#[c]⟩) := by
  intro i H1 F1 w
  refine ⟨fun d hd => ?_, fun e => by rw [List.length_map, Array.length_toList] at e; exact Nat.le_of_eq e⟩
  rw [List.getElem?_map] at hd
  obtain ⟨c, h1, h2⟩ := Option.map_eq_some_iff.mp hd
  rw [Array.getElem?_toList] at h1
  have hi : i < z.cps.size := (Array.getElem?_eq_some_iff.mp h1).1
  refine ⟨hi, fun x H2 ⟨e1, c2, e2, e3⟩ => ?_⟩
  rw [h1] at e2
  cases e2
  subst e1 e3 h2
  exact ⟨w.st0.self, .str _⟩
/-- a dict's keys as they are walked -/
theorem walks_keys {k : Kd} {H : Hp} {F : Addr → Prop} {l : Addr} {o : Obj} {ks : List V} {ds : List PV} (n : l ≠ g.ca) (h : H l = some (dO l o)) (r : Reps g H F ks ds) (hk : k = .shr → F l) : Walks g k H F (Itx l o ks) ds := by
  intro i H1 F1 w
  have h1 : H1 l = some (dO l o) := by
    cases k with
    | shr => exact Keep.ext w l _ h (.inl (hk rfl)) fun _ z => by cases z
    | any => exact Grow.ext w l _ h (.inl n) fun _ z => by cases z
    | own => exact Grow.ext w l _ h (.inl n) fun _ z => by cases z
  refine ⟨fun d hd => ?_, fun e => ⟨h1, by rw [r.length, e]; exact Nat.le_refl _⟩⟩
  obtain ⟨v, e, rv⟩ := r.get hd
  refine ⟨⟨h1, (List.getElem?_eq_some_iff.mp e).1⟩, fun x H2 ⟨e2, y⟩ => ?_⟩
  subst e2
  rw [e] at y
  cases y
  exact ⟨(w.st0).self, w.reps rv⟩
/-- a list or a tuple -/
theorem pi_val (cx : Cxt X c g W C G) (hk : k ≠ .own) (he : PE X e (TX g W Γ k m)) : PI X tg e (IX g W Γ k fun ρ => bd (m ρ) iterV) := by
  refine ⟨fun pins s σ H R I ⟨F, ρ, Qd, E, st, hq, q, ex⟩ => ?_⟩
  refine thn (he.run pins s σ H (fun v H1 => ∃ p F1, Grow g H F H1 F1 ∧ RK k g H H1 F1 v p ∧ iterV p Qd E) I ⟨F, ρ, _, E, st, hq, fun p hp v H1 F1 w r => ⟨p, F1, w, r, hp⟩, ex⟩) fun v s1 ⟨x, H1, I1, r1, p, F1, w, r, hp⟩ => ?_
  have ra := r.any_of
  have fin : ∀ b, b = s1.heap.objs.size → FpOk X pins H1 b := fun b e => by
    subst e
    exact I1.fpOk (Nat.le_refl _) (I1.hok.fresh (Nat.le_refl _))
  cases p with
  | list ds =>
    obtain ⟨a, xs, rfl, n, h1, rr⟩ := ra.lst
    cases r1
    obtain ⟨its, rv, pl, hz⟩ := I1.list (SqL.of h1)
    refine wpAny_pyIter_list pl.isList ?_
    refine ⟨s1.heap.objs.size, [s1.heap.objs.size], _, _, H1, rfl, I1.kept (t' := s1.toks) fun b o e => Heap.get?_push_of_some _ e, turn_list a _, ⟨_, Heap.get?_push_size _ rfl, rfl, rfl⟩, fun b hb => fin b (by simpa using hb), ?_⟩
    refine q ds hp (by rw [← rr.length, ← line_eq]; exact hz) _ H1 F1 w (walks_list cx.hK n h1 rr fun e => ?_)
    subst e
    have r : Rep g H1 F1 (.ref a) (.list ds) := r
    obtain ⟨a', e, f, _⟩ := r.mut rfl
    cases e
    exact f
  | tuple ds =>
    obtain ⟨a, xs, rfl, h1, rr⟩ := ra.tup
    cases r1
    obtain ⟨its, rv, pl, hz⟩ := I1.tuple (by rw [cx.hK]; exact h1)
    refine wpAny_pyIter_tuple (show s1.heap.IsTuple a its.toArray from pl) ?_
    refine ⟨s1.heap.objs.size, [s1.heap.objs.size], _, _, H1, rfl, I1.kept (t' := s1.toks) fun b o e => Heap.get?_push_of_some _ e, turn_tuple a _, ⟨_, Heap.get?_push_size _ rfl, rfl, rfl⟩, fun b hb => fin b (by simpa using hb), ?_⟩
    exact q ds hp (by rw [← rr.length, ← line_eq]; exact hz) _ H1 F1 w (walks_tup cx.hK h1 rr)
  | str z =>
    obtain ⟨hz, hp⟩ := hp
    have ex : x = .str z := AnyR.str ra
    subst ex
    obtain ⟨t, rfl⟩ := r1
    have hlen : (z.cps.toList.map fun c => PyData.str ⟨#[c]⟩).length ≤ LINE := by rw [List.length_map, Array.length_toList]; exact hz
    cases ha : z.cps.all (· < 128)
    · exact wpAny_pyIter_wide ha (pi_one (tk := s1.toks) I1 _ (turn_str _ z t "str_iterator" (.inr rfl)) ⟨_, Heap.get?_push_size _ rfl, rfl, rfl⟩ (q _ hp hlen _ H1 F1 w (walks_str z)))
    · exact wpAny_pyIter_ascii ha (pi_one (tk := s1.toks) I1 _ (turn_str _ z t "str_ascii_iterator" (.inl rfl)) ⟨_, Heap.get?_push_size _ rfl, rfl, rfl⟩ (q _ hp hlen _ H1 F1 w (walks_str z)))
  | dict kvs =>
    obtain ⟨pl, hp⟩ := hp
    obtain ⟨a, ks, vs, rfl, n, dr, rr, rfl⟩ := ra.dict pl
    rw [zip_fst _ _ rr.lenV] at hp
    cases r1
    obtain ⟨o, es, ep, kv, h1, hx, hod, pk, hl, hs, hz, rk⟩ := dr.obj
    have hgd : s1.heap.get? a = some o := (show ObjOk X.prog X.w H1 s1.heap a (dO a o) from I1.hok a _ h1).1
    refine wpAny_pyIter_dict_raw hs ⟨o, hgd, hx, hod⟩ (pi_one (tk := s1.toks) I1 _ (turn_keysX _ hod pk) ⟨_, Heap.get?_push_size _ rfl, rfl, rfl⟩ ?_)
    refine q _ hp (by rw [List.length_map, ← line_eq]; exact hz) _ H1 F1 w (walks_keys n h1 (rk F1) fun e => ?_)
    subst e
    have r : Rep g H1 F1 (.ref a) (.dict ((ks.map (·.1)).zip vs)) := r
    obtain ⟨a', e, f, _⟩ := r.mut pl
    cases e
    exact f
  | _ => exact False.elim hp
theorem rng_get {a b : Int} {i : Nat} {d : PV} (h : (rng a b)[i]? = some d) : i < (b - a).toNat ∧ d = .int (a + i) := by
  unfold rng at h
  rw [List.getElem?_map] at h
  obtain ⟨j, h1, h2⟩ := Option.map_eq_some_iff.mp h
  have h3 := List.getElem?_eq_some_iff.mp h1
  obtain ⟨h4, h5⟩ := h3
  simp only [List.getElem_range] at h5
  subst h5
  exact ⟨by simpa using h4, h2.symm⟩
theorem walks_rng {k : Kd} {H : Hp} {F : Addr → Prop} (lo hi : Int) : Walks g k H F (Itr lo (hi - lo).toNat) (rng lo hi) := by
  intro i H1 F1 w
  refine ⟨fun d hd => ?_, fun e => by rw [rng_len] at e; exact Nat.le_of_eq e⟩
  obtain ⟨h1, h2⟩ := rng_get hd
  refine ⟨h1, fun x H2 ⟨e1, e2⟩ => ?_⟩
  subst e1 e2 h2
  exact ⟨w.st0.self, .int _⟩
theorem pi_rng1 (cx : Cxt X c g W C G) {x : Str} (h : glOk c x = true) (hx : x = "range") (hp : plainE a = true) (ha : PE X a (TX g W Γ .any ma)) : PI X tg (.Call (.Name x p) [a] [] pos) (IX g W Γ k fun ρ => bd (bd (ma ρ) fun y => asI y fun n => gd (RB n) (pu (.list (rng 0 n)))) iterV) := by
  subst hx
  obtain ⟨h8, h9⟩ := gl_of cx h
  refine (pi_range1 h8 (cx.blt _ (by decide +kernel)) (pa_cons ha pa_nil (star_plain hp)) (star_plain hp)).imp fun σ H R ⟨F, ρ, Qd, E, st, hq, q, ex⟩ => ?_
  refine ⟨F, ρ, _, E, st, hq, fun pv hpv v H1 F1 w1 r1 => ?_, ex⟩
  cases pv with
  | int n =>
    have r1 : AnyR g H1 F1 v (.int n) := r1
    obtain ⟨hb, hv⟩ := hpv
    have e := r1.int
    subst e
    refine ⟨n, rfl, by have := hb.1; omega, by have := hb.2; omega, ?_⟩
    have := walks_rng (g := g) (k := k) (H := H1) (F := F1) 0 n
    rw [Int.sub_zero] at this
    exact q _ hv (by rw [rng_len]; have := hb.2; show _ ≤ 16777216; omega) _ H1 F1 w1 this
  | _ => exact False.elim hpv
theorem pi_rng2 (cx : Cxt X c g W C G) {x : Str} (h : glOk c x = true) (hx : x = "range") (hp : plainE a = true) (hp2 : plainE b = true) (ha : PE X a (TX g W Γ .any ma)) (hb : PE X b (TX g W Γ .any mb)) : PI X tg (.Call (.Name x p) [a, b] [] pos) (IX g W Γ k fun ρ => bd (bd (ma ρ) fun x => bd (mb ρ) fun y => asI x fun m => asI y fun n => gd (RB m ∧ RB n) (pu (.list (rng m n)))) iterV) := by
  subst hx
  obtain ⟨h8, h9⟩ := gl_of cx h
  refine (pi_range2 h8 (cx.blt _ (by decide +kernel)) (pa_cons ha (pa_cons hb pa_nil (star_plain hp2)) (star_plain hp)) (by rw [star_plain hp, star_plain hp2]; rfl) (star_plain hp2)).imp fun σ H R ⟨F, ρ, Qd, E, st, hq, q, ex⟩ => ?_
  refine ⟨F, ρ, _, E, st, hq, fun pv hpv v H1 F1 w1 r1 => ?_, ex⟩
  refine ⟨F1, ρ, _, E, st.grow w1, hpv, fun pv2 hpv2 v2 H2 F2 w2 r2 => ?_, fun x hx => (ex x hx).grow w1⟩
  cases pv with
  | int m =>
    cases pv2 with
    | int n =>
      have r1 : AnyR g H1 F1 v (.int m) := r1
      have r2 : AnyR g H2 F2 v2 (.int n) := r2
      obtain ⟨⟨hb1, hb2⟩, hv⟩ := hpv2
      have e1 := r1.int
      have e2 := r2.int
      subst e1 e2
      exact ⟨m, n, rfl, ⟨by have := hb1.1; omega, by have := hb1.2; omega, by have := hb2.1; omega, by have := hb2.2; omega⟩, q _ hv (by rw [rng_len]; have h1 := hb1.1; have h2 := hb2.2; show _ ≤ 16777216; omega) _ H2 F2 (w1.trans w2) (walks_rng m n)⟩
    | _ => exact False.elim hpv2
  | _ => exact False.elim hpv2
theorem rngd_get {a b : Int} {i : Nat} {d : PV} (h : (rngD a b)[i]? = some d) : i < (a - b).toNat ∧ d = .int (a - i) := by
  unfold rngD at h
  rw [List.getElem?_map] at h
  obtain ⟨j, h1, h2⟩ := Option.map_eq_some_iff.mp h
  obtain ⟨h4, h5⟩ := List.getElem?_eq_some_iff.mp h1
  simp only [List.getElem_range] at h5
  subst h5
  exact ⟨by simpa using h4, h2.symm⟩
theorem rngd_len (a b : Int) : (rngD a b).length = (a - b).toNat := by unfold rngD; simp
theorem walks_rngd {k : Kd} {H : Hp} {F : Addr → Prop} (lo hi : Int) : Walks g k H F (Itc lo (-1) (lo - hi).toNat) (rngD lo hi) := by
  intro i H1 F1 w
  refine ⟨fun d hd => ?_, fun e => by rw [rngd_len] at e; exact Nat.le_of_eq e⟩
  obtain ⟨h1, h2⟩ := rngd_get hd
  refine ⟨h1, fun x H2 ⟨e1, e2⟩ => ?_⟩
  subst e1 e2 h2
  refine ⟨w.st0.self, ?_⟩
  have e : lo + (i : Nat) * (-1) = lo - (i : Int) := by omega
  rw [e]
  exact .int _
/-- range(a, b, -1) -/
theorem pi_rngd (cx : Cxt X c g W C G) {x : Str} {j : Nat} {p1 p2 : Pos} (h : glOk c x = true) (hx : x = "range") (hp : plainE a = true) (hp2 : plainE b = true) (ha : PE X a (TX g W Γ .any ma)) (hb : PE X b (TX g W Γ .any mb)) :
    PI X tg (.Call (.Name x p) [a, b, .UnaryOp .USub (.Constant (.int 1) j p1) p2] [] pos) (IX g W Γ k fun ρ => bd (bd (ma ρ) fun x => bd (mb ρ) fun y => asI x fun m => asI y fun n => gd (RB m ∧ RB n) (pu (.list (rngD m n)))) iterV) := by
  subst hx
  obtain ⟨h8, h9⟩ := gl_of cx h
  have hm1 : PE X (.UnaryOp .USub (.Constant (.int 1) j p1) p2) (tUn (rU fun i => .int (-i)) (tC (.int 1))) := pe_un un_neg pe_int
  refine (pi_range3 h8 (cx.blt _ (by decide +kernel)) (pa_cons ha (pa_cons hb (pa_cons hm1 pa_nil (star_plain rfl)) (star_plain hp2)) (star_plain hp)) (by rw [star_plain hp]) (by rw [star_plain hp2]; rfl)).imp fun σ H R ⟨F, ρ, Qd, E, st, hq, q, ex⟩ => ?_
  refine ⟨F, ρ, _, E, st, hq, fun pv hpv v H1 F1 w1 r1 => ?_, ex⟩
  refine ⟨F1, ρ, _, E, st.grow w1, hpv, fun pv2 hpv2 v2 H2 F2 w2 r2 => ?_, fun x hx => (ex x hx).grow w1⟩
  cases pv with
  | int m =>
    cases pv2 with
    | int n =>
      have r1 : AnyR g H1 F1 v (.int m) := r1
      have r2 : AnyR g H2 F2 v2 (.int n) := r2
      obtain ⟨⟨hb1, hb2⟩, hv⟩ := hpv2
      have e1 := r1.int
      have e2 := r2.int
      subst e1 e2
      have k1 := hb1.1
      have k2 := hb1.2
      have k3 := hb2.1
      have k4 := hb2.2
      exact ⟨1, rfl, m, n, -1, (m - n).toNat, rfl, RgC.neg (by omega) (by omega) (by omega) (by omega), q _ hv (by rw [rngd_len]; show _ ≤ 16777216; omega) _ H2 F2 (w1.trans w2) (walks_rngd m n)⟩
    | _ => exact False.elim hpv2
  | _ => exact False.elim hpv2
theorem zip_get : ∀ {xs ys : List PV} {i : Nat} {d : PV}, (zipP xs ys)[i]? = some d → ∃ x y, xs[i]? = some x ∧ ys[i]? = some y ∧ d = .tuple [x, y]
  | [], _, _, _, h => by unfold zipP at h; simp at h
  | _ :: _, [], _, _, h => by unfold zipP at h; simp at h
  | x :: xs, y :: ys, 0, d, h => by
    unfold zipP at h
    simp at h
    exact ⟨x, y, rfl, rfl, h.symm⟩
  | x :: xs, y :: ys, i + 1, d, h => by
    unfold zipP at h
    obtain ⟨a, b, h1, h2, h3⟩ := zip_get (xs := xs) (ys := ys) (i := i) (d := d) (by simpa using h)
    exact ⟨a, b, by simpa using h1, by simpa using h2, h3⟩
theorem zip_len : ∀ (xs ys : List PV), (zipP xs ys).length = min xs.length ys.length
  | [], _ => by unfold zipP; simp
  | _ :: _, [] => by unfold zipP; simp
  | x :: xs, y :: ys => by
    unfold zipP
    rw [List.length_cons, zip_len xs ys, List.length_cons, List.length_cons]
    omega
theorem Kp.lst {k : Kd} {H H' : Hp} {F F' : Addr → Prop} {l : Addr} {xs : List V} (w : Kp k g H F H' F') (n : l ≠ g.ca) (h : H l = some (.lst xs)) (hk : k = .shr → F l) : H' l = some (.lst xs) := by
  cases k with
  | shr => exact Keep.ext w l _ h (.inl (hk rfl)) fun _ z => by cases z
  | any => exact (Grow.ext w).lst n h
  | own => exact (Grow.ext w).lst n h
theorem Kp.sqT {k : Kd} {H H' : Hp} {F F' : Addr → Prop} {l : Addr} {xs : List V} (w : Kp k g H F H' F') (h : SqT g.K H l xs) : SqT g.K H' l xs := by
  cases k with
  | shr => exact Keep.sqT w h
  | any => exact (Grow.ext w).sqT h
  | own => exact (Grow.ext w).sqT h
theorem RK.lstF {H H' : Hp} {F' : Addr → Prop} {a : Addr} {ds : List PV} (r : RK k g H H' F' (.ref a) (.list ds)) : k = .shr → F' a := fun e => by
  subst e
  have r : Rep g H' F' (.ref a) (.list ds) := r
  obtain ⟨a', e, f, _⟩ := r.mut rfl
  cases e
  exact f
theorem pi_zip2 (cx : Cxt X c g W C G) (hk : k ≠ .own) {x : Str} {es : List Expr} {j : Nat} {tp : Pos} (h : glOk c x = true) (hx : x = "zip") (hp : plainE a = true) (hp2 : plainE b = true) (ha : PE X a (TX g W Γ k ma)) (hb : PE X b (TX g W Γ k mb)) :
    PI X (.Tuple es j tp) (.Call (.Name x p) [a, b] [] pos) (IX g W Γ k fun ρ => bd (bd (ma ρ) fun x => bd (mb ρ) fun y => pZip x y) iterV) := by
  subst hx
  obtain ⟨h8, h9⟩ := gl_of cx h
  refine (RZ.pi_zipA h8 (cx.blt _ (by decide +kernel)) (pa_cons ha (pa_cons hb.len pa_nil (star_plain hp2)) (star_plain hp)) (star_plain hp) (by rw [star_plain hp2]; rfl)).imp fun σ H R ⟨F, ρ, Qd, E, st, hq, q, ex⟩ => ?_
  refine ⟨F, ρ, _, E, st, hq, fun pv hpv v H1 F1 w1 r1 => ?_, ex⟩
  refine ⟨F1, ρ, _, E, st.grow w1, hpv, fun pv2 hpv2 v2 H2 F2 w2 r2 hlen => ?_, fun x hx => (ex x hx).grow w1⟩
  have a1 : AnyR g H2 F2 v pv := AnyR.ext w2.ext w2.mono r1.any_of
  have a2 := r2.any_of
  cases pv with
  | list xs =>
    cases pv2 with
    | list ys =>
      obtain ⟨a, vs, rfl, n1, h1, rr1⟩ := a1.lst
      obtain ⟨b, us, rfl, n2, h2, rr2⟩ := a2.lst
      have f1 : k = .shr → F2 a := fun e => w2.mono a (r1.lstF e)
      have f2 := r2.lstF
      refine ⟨a, b, vs, us, rfl, .inl ⟨SqL.of h1, SqL.of h2, q _ hpv2 (by rw [zip_len, ← rr1.length]; have := hlen a vs (.inl (SqL.of h1)); omega) _ H2 F2 (w1.trans w2) ?_⟩⟩
      intro i H3 F3 w3
      have k1 := w3.lst n1 h1 f1
      have k2 := w3.lst n2 h2 f2
      refine ⟨fun d hd => ?_, fun e => ⟨vs, us, SqL.of k1, SqL.of k2, ?_⟩⟩
      · obtain ⟨dx, dy, e1, e2, e3⟩ := zip_get hd
        obtain ⟨vx, e4, q1⟩ := rr1.get e1
        obtain ⟨vy, e5, q2⟩ := rr2.get e2
        refine ⟨⟨vs, us, vx, vy, SqL.of k1, SqL.of k2, e4, e5⟩, fun x H4 ⟨T, x', y', e6, e7, e8, e9, e10⟩ => ?_⟩
        have e11 := e9 vs (SqL.of k1)
        have e12 := e10 us (SqL.of k2)
        rw [e4] at e11; rw [e5] at e12
        cases e11; cases e12
        subst e6 e8 e3
        have g1 := w3.st0.upd (o := .tup [vx, vy]) e7
        exact ⟨g1, .tup (.inl (.inl upd_same)) (.cons ((w3.reps q1).ext g1.ext g1.mono) (.cons ((w3.reps q2).ext g1.ext g1.mono) .nil))⟩
      · rw [zip_len] at e
        rw [rr1.length, rr2.length]
        omega
    | _ => exact False.elim hpv2
  | tuple xs =>
    cases pv2 with
    | tuple ys =>
      obtain ⟨a, vs, rfl, h1, rr1⟩ := a1.tup
      obtain ⟨b, us, rfl, h2, rr2⟩ := a2.tup
      refine ⟨a, b, vs, us, rfl, .inr ⟨by rw [cx.hK]; exact h1, by rw [cx.hK]; exact h2, q _ hpv2 (by rw [zip_len, ← rr1.length]; have := hlen a vs (.inr (by rw [cx.hK]; exact h1)); omega) _ H2 F2 (w1.trans w2) ?_⟩⟩
      intro i H3 F3 w3
      have k1 := w3.sqT h1
      have k2 := w3.sqT h2
      rw [← cx.hK] at k1 k2
      refine ⟨fun d hd => ?_, fun e => ⟨vs, us, k1, k2, ?_⟩⟩
      · obtain ⟨dx, dy, e1, e2, e3⟩ := zip_get hd
        obtain ⟨vx, e4, q1⟩ := rr1.get e1
        obtain ⟨vy, e5, q2⟩ := rr2.get e2
        refine ⟨⟨vs, us, vx, vy, k1, k2, e4, e5⟩, fun x H4 ⟨T, x', y', e6, e7, e8, e9, e10⟩ => ?_⟩
        have e11 := e9 vs k1
        have e12 := e10 us k2
        rw [e4] at e11; rw [e5] at e12
        cases e11; cases e12
        subst e6 e8 e3
        have g1 := w3.st0.upd (o := .tup [vx, vy]) e7
        exact ⟨g1, .tup (.inl (.inl upd_same)) (.cons ((w3.reps q1).ext g1.ext g1.mono) (.cons ((w3.reps q2).ext g1.ext g1.mono) .nil))⟩
      · rw [zip_len] at e
        rw [rr1.length, rr2.length]
        omega
    | _ => exact False.elim hpv2
  | _ => exact False.elim hpv2
theorem enm_get : ∀ {xs : List PV} {n i : Nat} {d : PV}, (enmP n xs)[i]? = some d → ∃ x, xs[i]? = some x ∧ d = .tuple [.int ((n + i : Nat) : Int), x]
  | [], _, _, _, h => by unfold enmP at h; simp at h
  | x :: xs, n, 0, d, h => by
    unfold enmP at h
    simp at h
    exact ⟨x, rfl, h.symm⟩
  | x :: xs, n, i + 1, d, h => by
    unfold enmP at h
    obtain ⟨a, h1, h2⟩ := enm_get (xs := xs) (n := n + 1) (i := i) (d := d) (by simpa using h)
    refine ⟨a, by simpa using h1, ?_⟩
    rw [h2]
    have : n + 1 + i = n + (i + 1) := by omega
    rw [this]
theorem enm_len : ∀ (xs : List PV) (n : Nat), (enmP n xs).length = xs.length
  | [], _ => rfl
  | x :: xs, n => by
    unfold enmP
    rw [List.length_cons, enm_len xs, List.length_cons]
theorem pi_enm (cx : Cxt X c g W C G) (hk : k ≠ .own) {x : Str} {es : List Expr} {j : Nat} {tp : Pos} (h : glOk c x = true) (hx : x = "enumerate") (hp : plainE a = true) (ha : PE X a (TX g W Γ k ma)) :
    PI X (.Tuple es j tp) (.Call (.Name x p) [a] [] pos) (IX g W Γ k fun ρ => bd (bd (ma ρ) fun x => pEnm x) iterV) := by
  subst hx
  obtain ⟨h8, h9⟩ := gl_of cx h
  refine (pi_enA h8 (cx.blt _ (by decide +kernel)) (pa_cons ha.len pa_nil (star_plain hp)) (star_plain hp)).imp fun σ H R ⟨F, ρ, Qd, E, st, hq, q, ex⟩ => ?_
  refine ⟨F, ρ, _, E, st, hq, fun pv hpv v H1 F1 w1 r1 hlen => ?_, ex⟩
  have a1 := r1.any_of
  cases pv with
  | list xs =>
    obtain ⟨a, vs, rfl, n1, h1, rr1⟩ := a1.lst
    have f1 := r1.lstF
    refine ⟨a, vs, rfl, .inl ⟨SqL.of h1, q _ hpv (by rw [enm_len, ← rr1.length]; exact hlen a vs (.inl (SqL.of h1))) _ H1 F1 w1 ?_⟩⟩
    intro i H3 F3 w3
    have k1 := w3.lst n1 h1 f1
    refine ⟨fun d hd => ?_, fun e => ⟨vs, SqL.of k1, ?_⟩⟩
    · obtain ⟨dx, e1, e3⟩ := enm_get hd
      obtain ⟨vx, e4, q1⟩ := rr1.get e1
      refine ⟨⟨vs, vx, SqL.of k1, e4⟩, fun x H4 ⟨T, x', e6, e7, e8, e9⟩ => ?_⟩
      have e11 := e9 vs (SqL.of k1)
      rw [e4] at e11
      cases e11
      subst e6 e8 e3
      have g1 := w3.st0.upd (o := .tup [.int (i : Nat), vx]) e7
      refine ⟨g1, .tup (.inl (.inl upd_same)) (.cons ?_ (.cons ((w3.reps q1).ext g1.ext g1.mono) .nil))⟩
      rw [Nat.zero_add]
      exact .int _
    · rw [enm_len] at e
      rw [rr1.length, e]
      exact Nat.le_refl _
  | tuple xs =>
    obtain ⟨a, vs, rfl, h1, rr1⟩ := a1.tup
    refine ⟨a, vs, rfl, .inr ⟨by rw [cx.hK]; exact h1, q _ hpv (by rw [enm_len, ← rr1.length]; exact hlen a vs (.inr (by rw [cx.hK]; exact h1))) _ H1 F1 w1 ?_⟩⟩
    intro i H3 F3 w3
    have k1 : SqT X.K H3 a vs := by
      rw [cx.hK]
      cases k with
      | shr => exact Keep.sqT w3 h1
      | any => exact (Grow.ext w3).sqT h1
      | own => exact (Grow.ext w3).sqT h1
    refine ⟨fun d hd => ?_, fun e => ⟨vs, k1, ?_⟩⟩
    · obtain ⟨dx, e1, e3⟩ := enm_get hd
      obtain ⟨vx, e4, q1⟩ := rr1.get e1
      refine ⟨⟨vs, vx, k1, e4⟩, fun x H4 ⟨T, x', e6, e7, e8, e9⟩ => ?_⟩
      have e11 := e9 vs k1
      rw [e4] at e11
      cases e11
      subst e6 e8 e3
      have g1 := w3.st0.upd (o := .tup [.int (i : Nat), vx]) e7
      refine ⟨g1, .tup (.inl (.inl upd_same)) (.cons ?_ (.cons ((w3.reps q1).ext g1.ext g1.mono) .nil))⟩
      rw [Nat.zero_add]
      exact .int _
    · rw [enm_len] at e
      rw [rr1.length, e]
  | _ => exact False.elim hpv
end
end HG
end
section
set_option maxHeartbeats 4000000
/-! HGComp: targets, list comprehensions. -/
namespace HG
open PySem PySem.Spec PyProof.Rows L2
def locOk (c : Cc) (x : Str) : Bool := match c.sc.names.lookup x with
  | some .local => true
  | some .cell => decide (x ∈ c.co)
  | _ => false
mutual
/-- a target: its slots are none that a name alone holds -/
def chkTg (c : Cc) (Γ : List Bool) : Tg → Expr → Bool
  | .nm i, .Name x _ => decide (c.N[i]? = some x) && (locOk c x && !isO Γ i)
  | .tp ts, .Tuple es _ _ => chkTgs c Γ ts es
  | _, _ => false
def chkTgs (c : Cc) (Γ : List Bool) : List Tg → List Expr → Bool
  | [], [] => true
  | t :: ts, e :: es => plainE e && (chkTg c Γ t e && chkTgs c Γ ts es)
  | _, _ => false
end
def SameOut (vs : List Nat) (σ σ' : L2.St) : Prop := σ'.length = σ.length ∧ ∀ i, i ∉ vs → σ'[i]? = σ[i]?
theorem SameOut.trans {vs ws : List Nat} {σ σ1 σ2 : L2.St} (a : SameOut vs σ σ1) (b : SameOut ws σ1 σ2) : SameOut (vs ++ ws) σ σ2 := ⟨b.1.trans a.1, fun i hi => by
  rw [List.mem_append, not_or] at hi
  exact (b.2 i hi.2).trans (a.2 i hi.1)⟩
theorem wipe_get {σ : L2.St} {vs : List Nat} {i : Nat} : (L2.wipe σ vs)[i]? = if i ∈ vs ∧ i < σ.length then some none else σ[i]? := by
  induction vs with
  | nil => simp [L2.wipe]
  | cons v vs ih =>
    unfold L2.wipe
    by_cases hi : v = i
    · subst hi
      by_cases hl : v < σ.length
      · rw [List.getElem?_set_self (by rw [L2.wipe_length]; exact hl)]
        simp [hl]
      · rw [List.getElem?_eq_none (by rw [List.length_set, L2.wipe_length]; omega)]
        simp [hl]
    · rw [List.getElem?_set_ne hi, ih]
      simp [Ne.symm hi]
theorem wipe_same {vs : List Nat} {σ σ2 : L2.St} (h : SameOut vs (L2.wipe σ vs) σ2) : L2.wipe σ2 vs = L2.wipe σ vs := by
  apply List.ext_getElem?
  intro i
  have hl : σ2.length = σ.length := by rw [h.1, L2.wipe_length]
  rw [wipe_get, wipe_get, hl]
  by_cases hi : i ∈ vs
  · by_cases hl2 : i < σ.length
    · simp [hi, hl2]
    · rw [if_neg (fun z => hl2 z.2), if_neg (fun z => hl2 z.2), List.getElem?_eq_none (by omega), List.getElem?_eq_none (by omega)]
  · rw [if_neg (fun z => hi z.1), if_neg (fun z => hi z.1), h.2 i hi, wipe_get, if_neg (fun z => hi z.1)]
section
variable {g : GC} {H H' : Hp} {F F' : Addr → Prop} {Γ : List Bool} {σ : L2.St} {ρ : Env}
/-- a shared value stored -/
theorem EnvR.setS (s : EnvR g H F Γ σ ρ) {i : Nat} {v : V} {p : PV} (hi : isO Γ i = false) (r : Rep g H F v p) : EnvR g H F Γ (σ.set i (some v)) (ρ.set i (some p)) where
  len := by rw [List.length_set, List.length_set]; exact s.len
  get := fun j q e => by
    by_cases hj : i = j
    · subst hj
      have hl : i < ρ.length := by
        have := List.getElem?_eq_some_iff.mp e
        obtain ⟨h1, _⟩ := this
        simpa using h1
      rw [List.getElem?_set_self hl] at e
      cases e
      exact ⟨v, List.getElem?_set_self (by rw [← s.len]; exact hl), by rw [if_neg (by rw [hi]; exact Bool.false_ne_true)]; exact r⟩
    · rw [List.getElem?_set_ne hj] at e
      obtain ⟨w, h1, h2⟩ := s.get j q e
      exact ⟨w, by rw [List.getElem?_set_ne hj]; exact h1, h2⟩
  apart := fun j k p q a hn hj hk e1 e2 m1 m2 z => by
    have nj : i ≠ j := fun e => by rw [e, hj] at hi; cases hi
    have nk : i ≠ k := fun e => by rw [e, hk] at hi; cases hi
    rw [List.getElem?_set_ne nj] at e1 z
    rw [List.getElem?_set_ne nk] at e2 ⊢
    exact s.apart j k p q a hn hj hk e1 e2 m1 m2 z
theorem Sta.setS (s : Sta g H F Γ σ ρ) {i : Nat} {v : V} {p : PV} (hi : isO Γ i = false) (r : Rep g H F v p) : Sta g H F Γ (σ.set i (some v)) (ρ.set i (some p)) := ⟨s.env.setS hi r, s.cup, s.fca, s.fin⟩
theorem EnvR.wipe1 (s : EnvR g H F Γ σ ρ) (i : Nat) : EnvR g H F Γ (σ.set i none) (ρ.set i none) where
  len := by rw [List.length_set, List.length_set]; exact s.len
  get := fun j q e => by
    by_cases hj : i = j
    · subst hj
      by_cases hl : i < ρ.length
      · rw [List.getElem?_set_self hl] at e; cases e
      · rw [List.getElem?_eq_none (by simpa using hl)] at e; cases e
    · rw [List.getElem?_set_ne hj] at e
      obtain ⟨w, h1, h2⟩ := s.get j q e
      exact ⟨w, by rw [List.getElem?_set_ne hj]; exact h1, h2⟩
  apart := fun j k p q a hn hj hk e1 e2 m1 m2 z => by
    have out : ∀ {x : Nat} {y : PV}, (ρ.set i none)[x]? = some (some y) → i ≠ x := fun {x y} e h => by
      subst h
      by_cases hl : i < ρ.length
      · rw [List.getElem?_set_self hl] at e; cases e
      · rw [List.getElem?_eq_none (by simpa using hl)] at e; cases e
    have nj := out e1
    have nk := out e2
    rw [List.getElem?_set_ne nj] at e1 z
    rw [List.getElem?_set_ne nk] at e2 ⊢
    exact s.apart j k p q a hn hj hk e1 e2 m1 m2 z
theorem EnvR.wipe (s : EnvR g H F Γ σ ρ) : ∀ vs : List Nat, EnvR g H F Γ (L2.wipe σ vs) (wipeE ρ vs)
  | [] => s
  | i :: vs => by
    unfold L2.wipe wipeE
    exact (EnvR.wipe s vs).wipe1 i
/-- fewer names that alone hold their values: only such that hold none -/
theorem EnvR.less (s : EnvR g H F Γ σ ρ) {Γ' : List Bool} (h : ∀ i, isO Γ' i = true → isO Γ i = true) (h2 : ∀ i p, isO Γ i = true → isO Γ' i = false → ρ[i]? ≠ some (some p)) : EnvR g H F Γ' σ ρ where
  len := s.len
  get := fun j q e => by
    obtain ⟨w, h1, h3⟩ := s.get j q e
    refine ⟨w, h1, ?_⟩
    by_cases hj : isO Γ' j = true
    · rw [if_pos hj]
      rw [if_pos (h j hj)] at h3
      exact h3
    · rw [if_neg hj]
      by_cases hj2 : isO Γ j = true
      · exact absurd e (h2 j q hj2 (by simpa using hj))
      · rw [if_neg hj2] at h3
        exact h3
  apart := fun j k p q a hn hj hk e1 e2 m1 m2 z => s.apart j k p q a hn (h j hj) (h k hk) e1 e2 m1 m2 z
end
def SameE (vs : List Nat) (ρ ρ' : Env) : Prop := ∀ i, i ∉ vs → ρ'[i]? = ρ[i]?
theorem gd_no {α : Type} {c : Prop} {m : M α} (h : ¬ c) : gd c m = stuck := by
  funext Q E
  exact propext ⟨fun x => h x.1, fun x => x.elim⟩
mutual
theorem bindT_fun : ∀ (tg : Tg) (p : PV) (ρ : Env), bindT tg p ρ = stuck ∨ ∃ ρ', bindT tg p ρ = pu ρ' ∧ SameE (tgS tg) ρ ρ'
  | .nm i, p, ρ => .inr ⟨_, rfl, fun j hj => List.getElem?_set_ne fun z => hj (by rw [z]; unfold tgS; exact List.mem_singleton.mpr rfl)⟩
  | .tp ts, p, ρ => by
    cases p with
    | tuple ds =>
      show gd (ts.length = ds.length) (bindTs ts ds ρ) = stuck ∨ ∃ ρ', gd (ts.length = ds.length) (bindTs ts ds ρ) = pu ρ' ∧ SameE (tgS (.tp ts)) ρ ρ'
      by_cases h : ts.length = ds.length
      · rw [gd_yes h]
        exact bindTs_fun ts ds ρ
      · rw [gd_no h]
        exact .inl rfl
    | _ => exact .inl rfl
theorem bindTs_fun : ∀ (ts : List Tg) (ps : List PV) (ρ : Env), bindTs ts ps ρ = stuck ∨ ∃ ρ', bindTs ts ps ρ = pu ρ' ∧ SameE (tgSs ts) ρ ρ'
  | [], ps, ρ => .inr ⟨ρ, by unfold bindTs; rfl, fun _ _ => rfl⟩
  | t :: ts, [], ρ => .inr ⟨ρ, by unfold bindTs; rfl, fun _ _ => rfl⟩
  | t :: ts, p :: ps, ρ => by
    have e : bindTs (t :: ts) (p :: ps) ρ = bd (bindT t p ρ) fun ρ' => bindTs ts ps ρ' := rfl
    rw [e]
    rcases bindT_fun t p ρ with h | ⟨ρ1, h, s1⟩
    · rw [h]; exact .inl rfl
    · rw [h, bd_pu]
      rcases bindTs_fun ts ps ρ1 with h2 | ⟨ρ2, h2, s2⟩
      · exact .inl h2
      · refine .inr ⟨ρ2, h2, fun i hi => ?_⟩
        unfold tgSs at hi
        rw [List.mem_append, not_or] at hi
        exact (s2 i hi.2).trans (s1 i hi.1)
end
theorem bindT_same {tg : Tg} {p : PV} {ρ : Env} {Qd : Env → Prop} {E : PV → Prop} (h : bindT tg p ρ Qd E) : bindT tg p ρ (fun ρ' => Qd ρ' ∧ SameE (tgS tg) ρ ρ') E := by
  rcases bindT_fun tg p ρ with e | ⟨ρ', e, s⟩
  · rw [e] at h; exact h.elim
  · rw [e] at h ⊢
    exact ⟨h, s⟩
theorem wipeE_out {ρ : Env} {i : Nat} : ∀ {vs : List Nat}, i ∉ vs → (wipeE ρ vs)[i]? = ρ[i]? := by
  intro vs h
  induction vs with
  | nil => rfl
  | cons v vs ih =>
    unfold wipeE
    rw [List.mem_cons, not_or] at h
    rw [List.getElem?_set_ne (Ne.symm h.1)]
    exact ih h.2
/-- a target's reading -/
def TGX (g : GC) (Γ : List Bool) (tg : Tg) : TG := fun v σ H Q => ∃ F ρ p Qd E, Sta g H F Γ σ ρ ∧ Rep g H F v p ∧ bindT tg p ρ Qd E ∧ ∀ ρ', Qd ρ' → ∀ σ', Sta g H F Γ σ' ρ' → SameOut (tgS tg) σ σ' → Q σ' H
def TGXs (g : GC) (Γ : List Bool) (ts : List Tg) : TGs := fun vs σ H Q => ∃ F ρ ps Qd E, ts.length = ps.length ∧ Sta g H F Γ σ ρ ∧ Reps g H F vs ps ∧ bindTs ts ps ρ Qd E ∧ ∀ ρ', Qd ρ' → ∀ σ', Sta g H F Γ σ' ρ' → SameOut (tgSs ts) σ σ' → Q σ' H
theorem _root_.L2.PG.imp {X : Cx} {e : Expr} {t u : TG} (h : PG X e t) (i : ∀ v σ H Q, u v σ H Q → t v σ H Q) : PG X e u := ⟨fun pins s σ H v w Q I r q => h.run pins s σ H v w Q I r (i v σ H Q q)⟩
theorem _root_.L2.PGs.imp {X : Cx} {e : List Expr} {t u : TGs} (h : PGs X e t) (i : ∀ v σ H Q, u v σ H Q → t v σ H Q) : PGs X e u := ⟨fun pins s σ H v w Q I r q => h.run pins s σ H v w Q I r (i v σ H Q q)⟩
theorem assignEach_len : ∀ (es : List Expr) (env : PySem.Env), (assignEach es env).length = es.length
  | [], _ => rfl
  | e :: es, env => by
    cases e <;> exact congrArg Nat.succ (assignEach_len es env)
theorem assignEach_plain {e : Expr} {es : List Expr} {env : PySem.Env} (h : plainE e = true) : assignEach (e :: es) env = (false, assign e env) :: assignEach es env := by
  cases e <;> first | rfl | exact no h
theorem assignEach_star : ∀ {es : List Expr} {env : PySem.Env}, (∀ e ∈ es, plainE e = true) → (assignEach es env).findIdx? (·.1) = none
  | [], _, _ => rfl
  | e :: es, env, h => by
    rw [assignEach_plain (h e List.mem_cons_self), List.findIdx?_cons]
    simp [assignEach_star fun e' h' => h e' (List.mem_cons_of_mem _ h')]
section
variable {X : Cx} {c : Cc} {g : GC} {W : WX} {C : Nat → List PV → M PV} {G : List PV} {Γ : List Bool}
theorem chkTgs_plain : ∀ {ts : List Tg} {es : List Expr}, chkTgs c Γ ts es = true → ts.length = es.length ∧ ∀ e ∈ es, plainE e = true
  | [], [], _ => ⟨rfl, fun _ h => by cases h⟩
  | [], _ :: _, h => by unfold chkTgs at h; exact no h
  | _ :: _, [], h => by unfold chkTgs at h; exact no h
  | t :: ts, e :: es, h => by
    unfold chkTgs at h
    obtain ⟨h1, h2⟩ := an h
    obtain ⟨h3, h4⟩ := an h2
    obtain ⟨h5, h6⟩ := chkTgs_plain h4
    refine ⟨congrArg Nat.succ h5, fun e' h' => ?_⟩
    rcases List.mem_cons.mp h' with z | z
    · rw [z]; exact h1
    · exact h6 e' z
theorem loc_of (cx : Cxt X c g W C G) {x : Str} (h : locOk c x = true) : L2.Loc X.env.scope x ∧ (X.fn x = true ∨ X.env.scope.names.lookup x = some .local) := by
  unfold locOk at h
  unfold L2.Loc
  rw [cx.hsc]
  cases hl : c.sc.names.lookup x with
  | none => rw [hl] at h; exact no h
  | some k =>
    rw [hl] at h
    cases k <;> first | exact no h | skip
    · exact ⟨.inl rfl, .inr rfl⟩
    · exact ⟨.inr rfl, .inl (cx.co x (of_decide_eq_true h))⟩
mutual
theorem snd_tg (cx : Cxt X c g W C G) : ∀ (tg : Tg) (e : Expr), chkTg c Γ tg e = true → PG X e (TGX g Γ tg)
  | .nm i, e, h => by
    cases e with
    | Name x pos =>
      obtain ⟨h1, h2⟩ := an h
      obtain ⟨h3, h4⟩ := an h2
      obtain ⟨h5, h6⟩ := loc_of cx h3
      have hN : X.N.Nodup := by rw [cx.hN]; exact cx.nd
      refine (pg_name hN (by rw [cx.hN]; exact of_decide_eq_true h1) h5 h6).imp fun v σ H Q ⟨F, ρ, p, Qd, E, st, r, hb, q⟩ => ?_
      refine q _ hb _ (st.setS (by simpa using h4) r) ⟨List.length_set, fun j hj => List.getElem?_set_ne fun z => hj (by rw [z]; unfold tgS; exact List.mem_singleton.mpr rfl)⟩
    | _ => exact no h
  | .tp ts, e, h => by
    cases e with
    | Tuple es j pos =>
      have h : chkTgs c Γ ts es = true := h
      obtain ⟨hl, hp⟩ := chkTgs_plain h
      refine (pg_tup (n := ts.length) cx.calm (snd_tgs cx ts es h) (by rw [assignEach_len]; exact hl.symm) (assignEach_star hp)).imp fun v σ H Q ⟨F, ρ, p, Qd, E, st, r, hb, q⟩ => ?_
      cases p with
      | tuple ds =>
        obtain ⟨a, xs, e1, h1, rr⟩ := (Rep.any r).tup
        obtain ⟨hlen, hb⟩ := hb
        refine ⟨a, xs, e1, by rw [cx.hK]; exact h1, by rw [rr.length]; exact hlen.symm, F, ρ, ds, Qd, E, hlen, st, rr, hb, q⟩
      | _ => exact False.elim hb
    | _ => exact no h
theorem snd_tgs (cx : Cxt X c g W C G) : ∀ (ts : List Tg) (es : List Expr), chkTgs c Γ ts es = true → PGs X es (TGXs g Γ ts)
  | [], es, h => by
    cases es with
    | nil =>
      refine pgs_nil.imp fun vs σ H Q ⟨F, ρ, ps, Qd, E, hl, st, r, hb, q⟩ => ?_
      cases ps with
      | nil =>
        cases r
        exact ⟨rfl, q _ hb _ st ⟨rfl, fun _ _ => rfl⟩⟩
      | cons => cases hl
    | cons => unfold chkTgs at h; exact no h
  | t :: ts, es, h => by
    cases es with
    | nil => unfold chkTgs at h; exact no h
    | cons e es =>
      unfold chkTgs at h
      obtain ⟨h1, h2⟩ := an h
      obtain ⟨h3, h4⟩ := an h2
      refine (pgs_cons (snd_tg cx t e h3) (snd_tgs cx ts es h4) (by rw [assignEach_plain h1]; rfl)).imp fun vs σ H Q ⟨F, ρ, ps, Qd, E, hl, st, r, hb, q⟩ => ?_
      cases ps with
      | nil => cases hl
      | cons p ps =>
        cases r with
        | cons r1 r2 =>
          refine ⟨_, _, rfl, F, ρ, p, _, E, st, r1, hb, fun ρ' hb' σ' st' so => ?_⟩
          refine ⟨F, ρ', ps, Qd, E, by simpa using hl, st', r2, hb', fun ρ2 hb2 σ2 st2 so2 => ?_⟩
          refine q ρ2 hb2 σ2 st2 ?_
          unfold tgSs
          exact so.trans so2
end
end
/-! ### list comprehensions -/
def ΓW (Γ : List Bool) (vs : List Nat) : List Bool := vs.foldl (fun Γ i => Γ.set i false) Γ
theorem isO_set {Γ : List Bool} {i j : Nat} : isO (Γ.set i false) j = (if i = j then false else isO Γ j) := by
  unfold isO
  by_cases h : i = j
  · subst h
    rw [if_pos rfl, List.getD_eq_getElem?_getD]
    by_cases hl : i < Γ.length
    · rw [List.getElem?_set_self hl]; rfl
    · rw [List.getElem?_eq_none (by simpa using hl)]; rfl
  · rw [if_neg h, List.getD_eq_getElem?_getD, List.getD_eq_getElem?_getD, List.getElem?_set_ne h]
theorem isO_ΓW {vs : List Nat} {Γ : List Bool} {j : Nat} : isO (ΓW Γ vs) j = (if j ∈ vs then false else isO Γ j) := by
  unfold ΓW
  induction vs generalizing Γ with
  | nil => simp
  | cons i vs ih =>
    rw [List.foldl_cons, ih, isO_set]
    by_cases h1 : j ∈ vs
    · simp [h1]
    · by_cases h2 : i = j
      · subst h2; simp
      · simp [h1, h2, Ne.symm h2]
theorem wipeE_get {p : PV} {ρ : Env} {i : Nat} : ∀ {vs : List Nat}, i ∈ vs → (wipeE ρ vs)[i]? ≠ some (some p) := by
  intro vs h
  induction vs with
  | nil => cases h
  | cons v vs ih =>
    unfold wipeE
    intro e
    by_cases hv : v = i
    · subst hv
      by_cases hl : v < (wipeE ρ vs).length
      · rw [List.getElem?_set_self hl] at e; cases e
      · rw [List.getElem?_eq_none (by simpa using hl)] at e; cases e
    · rw [List.getElem?_set_ne hv] at e
      rcases List.mem_cons.mp h with z | z
      · exact hv z.symm
      · exact ih z e
section
variable {g : GC} {H H' H0 : Hp} {F F' F0 : Addr → Prop} {Γ : List Bool} {σ : L2.St} {ρ : Env}
theorem Sta.wipe (s : Sta g H F Γ σ ρ) (vs : List Nat) : Sta g H F (ΓW Γ vs) (L2.wipe σ vs) (wipeE ρ vs) := by
  refine ⟨(s.env.wipe vs).less (fun i h => ?_) (fun i p h1 h2 => ?_), s.cup, s.fca, s.fin⟩
  · rw [isO_ΓW] at h
    split at h
    · cases h
    · exact h
  · rw [isO_ΓW] at h2
    split at h2
    · rename_i hm
      exact wipeE_get hm
    · rw [h1] at h2; cases h2
/-- a new list, told apart, may be written -/
theorem Grow.setD (w : Grow g H F H' F') {D : Addr} {o : HO} (hc : CupOk g.ca H) (n : H D = none) (f : ¬ F' D) : Grow g H F (upd H' D o) F' where
  ext := fun b u e h m => by rw [upd_ne (ne_of_none e n)]; exact w.ext b u e h m
  mono := w.mono
  new := w.new
  cup := by
    obtain ⟨c, d, e, r⟩ := w.cup
    refine ⟨c, d, ?_, r⟩
    rw [upd_ne]
    · exact e
    · intro z
      obtain ⟨c', d', e', _⟩ := hc
      rw [z, n] at e'
      cases e'
  fca := w.fca
  fin := fun a k => by
    obtain ⟨o', e⟩ := w.fin a k
    exact ⟨o', by rw [upd_ne (fun z => f (by rw [← z]; exact k))]; exact e⟩
  there := fun a u e => by
    obtain ⟨o', z⟩ := w.there a u e
    exact ⟨o', by rw [upd_ne (ne_of_none e n)]; exact z⟩
end
theorem Kp.of_grow {k : Kd} {g : GC} {H H' : Hp} {F F' : Addr → Prop} (w : Grow g H F H' F') (hf : ¬ F g.ca) : Kp k g H F H' F' := by
  cases k with
  | shr => exact w.keep hf
  | any => exact w
  | own => exact w
/-- a written list that nothing leans on -/
theorem Keep.setD {g : GC} {H : Hp} {F : Addr → Prop} {D : Addr} {xs ys : List V} (s : St0 g H F) (hd : H D = some (.lst xs)) (f : ¬ F D) (n : D ≠ g.ca) : Keep g H F (upd H D (.lst ys)) F where
  ext := fun b u e h m => by
    rw [upd_ne]
    · exact e
    · intro z
      subst z
      rw [hd] at e
      cases e
      rcases h with h | ⟨_, h⟩ | ⟨_, _, h⟩
      · exact f h
      · cases h
      · cases h
  mono := fun _ h => h
  cup := by
    obtain ⟨c, d, e, r⟩ := s.cup
    exact ⟨c, d, by rw [upd_ne (Ne.symm n)]; exact e, r⟩
  fca := s.fca
  fin := fun a k => by
    obtain ⟨o, e⟩ := s.fin a k
    exact ⟨o, by rw [upd_ne (fun z => f (by rw [← z]; exact k))]; exact e⟩
/-- .. the names' values stay, none of them being that list -/
theorem Sta.setD {g : GC} {H : Hp} {F : Addr → Prop} {Γ : List Bool} {σ : L2.St} {ρ : Env} {D : Addr} {xs ys : List V} (s : Sta g H F Γ σ ρ) (hd : H D = some (.lst xs)) (f : ¬ F D) (n : D ≠ g.ca)
    (no : ∀ i p, isO Γ i = true → ρ[i]? = some (some p) → isMut p = true → σ[i]? ≠ some (some (V.ref D))) : Sta g (upd H D (.lst ys)) F Γ σ ρ := by
  have k := Keep.setD (ys := ys) s.st0 hd f n
  refine ⟨⟨s.env.len, fun i p e => ?_, s.env.apart⟩, k.cup, k.fca, k.fin⟩
  obtain ⟨v, h1, h2⟩ := s.env.get i p e
  refine ⟨v, h1, ?_⟩
  by_cases ho : isO Γ i = true
  · rw [if_pos ho] at h2 ⊢
    unfold Own at h2 ⊢
    by_cases m : isMut p = true
    · rw [if_pos m] at h2 ⊢
      obtain ⟨a, e1, n1, n2, l⟩ := h2
      have ha : a ≠ D := fun z => no i p ho e m (by rw [h1, e1, z])
      refine ⟨a, e1, n1, n2, ?_⟩
      rcases l with ⟨xs', ds, h, r, e'⟩ | ⟨kvs, ds, h, r, e'⟩
      · exact .inl ⟨xs', ds, by rw [upd_ne ha]; exact h, r.keep k, e'⟩
      · exact .inr ⟨kvs, ds, h.map (upd_ne ha) fun _ _ z => k.sqT z, r.keep k, e'⟩
    · rw [if_neg m] at h2 ⊢
      exact h2.keep k
  · rw [if_neg ho] at h2 ⊢
    exact h2.keep k
def W0 : WX := fun _ _ _ _ => False
theorem takes_W0 {X : Cx} : Takes X W0 := fun _ _ ⟨_, _, _, _, _, _, _, _, _, _, _, _, _, _, _, _, z⟩ => z.elim
/-- a comprehension's condition: none, or one -/
inductive CondR (X : Cx) (g : GC) (Γ : List Bool) : List Expr → (Env → M PV) → Prop
  | none : CondR X g Γ [] fun _ => pu (.bool true)
  | one {e : Expr} {m : Env → M PV} : PT X e (TTX g W0 Γ m) → CondR X g Γ [e] m
def tts (g : GC) (Γ : List Bool) (m : Env → M PV) : TT := TTX g W0 Γ m
theorem CondR.pts {X : Cx} {g : GC} {Γ : List Bool} {es : List Expr} {m : Env → M PV} (h : CondR X g Γ es m) : PTs X es (TTX g W0 Γ m) := by
  cases h with
  | none =>
    refine ⟨fun pins s σ H Q I hq => pts_nil.run pins s σ H Q I ?_⟩
    obtain ⟨F, ρ, Qd, E, st, hq, q, _⟩ := hq
    obtain ⟨b, e, qq⟩ := q _ hq
    cases e
    exact qq H F st.self
  | one h => exact pts_one h
section
variable {X : Cx} {c : Cc} {g : GC} {W : WX} {C : Nat → List PV → M PV} {G : List PV} {Γ : List Bool} {k : Kd} {me mi mc : Env → M PV} {elt iter tgE : Expr} {pos p : Pos} {ifs : List Expr} {scope : Scope} {tg : Tg}
/-- one turn of a comprehension -/
def turn1 (tg : Tg) (mc me : Env → M PV) (ρ : Env) (x : PV) : M (Option PV) := bd (bindT tg x (wipeE ρ (tgS tg))) fun ρ' => bd (mc ρ') fun t => asB t fun t => if t then bd (me ρ') fun y => pu (some y) else pu none
def lcM (tg : Tg) (mi : Env → M (List PV)) (mc me : Env → M PV) (ρ : Env) : M PV := noX (bd (mi ρ) fun xs => bd (mfm (turn1 tg mc me ρ) xs) fun ys => pu (.list ys))
theorem mfm_cons (f : PV → M (Option PV)) (x : PV) (xs : List PV) : mfm f (x :: xs) = bd (f x) fun y => bd (mfm f xs) fun ys => pu (match y with | some y => y :: ys | none => ys) := rfl
theorem lc1_read {mi : Env → M (List PV)} {own : List (Str × Nat)} (hown : own.map (·.2) = tgS tg) {σ : L2.St} {H : Hp} {Q : VK} (hq : TX g W Γ .own (lcM tg mi mc me) σ H Q) :
    tLc (IX g W Γ k mi) (TGX g (ΓW Γ (tgS tg)) tg) (TTX g W0 (ΓW Γ (tgS tg)) mc) (TX g W0 (ΓW Γ (tgS tg)) .shr me) (own.map (·.2)) σ H Q := by
  obtain ⟨F, ρ, Qd, E, st, hq, q, ex⟩ := hq
  rw [hown]
  refine ⟨F, ρ, _, fun _ => False, st, hq, fun ds hd hlen J H1 F1 w1 wk D hD => ?_, fun x z => z.elim⟩
  have hD0 : H D = none := by
    cases z : H D with
    | none => rfl
    | some o =>
      obtain ⟨o', z2⟩ := w1.there D o z
      rw [hD] at z2; cases z2
  have hDca : D ≠ g.ca := w1.st0.ne_ca hD
  -- what holds between two turns
  let Inv1 : Nat → Nat → Hp → Prop := fun i m H2 => m = ds.length - i ∧ i ≤ ds.length ∧ ∃ F2 acc ys, Grow g H1 F1 H2 F2 ∧ ¬ F2 D ∧ H2 D = some (.lst acc) ∧ acc.length ≤ i ∧ Reps g H2 F2 acc ys ∧ mfm (turn1 tg mc me ρ) (ds.drop i) (fun r => Qd (.list (ys ++ r))) fun _ => False
  have s1 := w1.st0
  refine ⟨Inv1, ⟨ds.length, by simp, Nat.zero_le _, F1, [], [], s1.upd hD, s1.notF hD, upd_same, Nat.le_refl _, .nil, hd⟩, ?_⟩
  rintro i m H2 ⟨rfl, hi, F2, acc, ys, w2, f2, hD2, hal, rr, hm⟩
  have kp := Kp.of_grow (k := k) w2 s1.fca
  obtain ⟨wk1, wk2⟩ := wk i H2 F2 kp
  by_cases hlt : i < ds.length
  · have hx : ds[i]? = some ds[i] := List.getElem?_eq_getElem hlt
    obtain ⟨hgo, hyl⟩ := wk1 _ hx
    rw [List.drop_eq_getElem_cons hlt] at hm
    have hm : turn1 tg mc me ρ ds[i] (fun y => mfm (turn1 tg mc me ρ) (ds.drop (i + 1)) (fun r => Qd (.list (ys ++ (match y with | some y => y :: r | none => r)))) fun _ => False) (fun _ => False) := hm
    refine .inr ⟨hgo, fun H' => Inv1 (i + 1) (ds.length - (i + 1)) H', fun H' h' => ⟨ds.length - (i + 1), by omega, h'⟩, fun x H3 hy => ?_⟩
    obtain ⟨w3, rx⟩ := hyl x H3 hy
    have st3 := ((st.grow w1).grow w2).grow w3
    refine ⟨F2, _, _, _, _, st3.wipe (tgS tg), rx, hm, fun ρ' hρ σ' st' so => ⟨wipe_same so, ?_⟩⟩
    refine ⟨F2, ρ', _, _, st', hρ, fun t ht => ?_, fun x z => z.elim⟩
    obtain ⟨b, e, hb⟩ := asB_app ht
    refine ⟨b, e, fun H4 F4 w4 => ?_⟩
    have w34 := w3.trans w4
    have hD4 : H4 D = some (.lst acc) := w34.ext.lst hDca hD2
    have f4 : ¬ F4 D := fun z => by
      rcases w34.new D z with z | z
      · exact f2 z
      · rw [hD2] at z; cases z
    cases b with
    | false =>
      exact ⟨rfl, hlt, F4, acc, ys, w2.trans w34, f4, hD4, Nat.le_succ_of_le hal, rr.ext w34.ext w34.mono, hb⟩
    | true =>
      refine ⟨F4, ρ', _, _, st'.grow w4, hb, fun y hy v H5 F5 w5 r5 => ?_, fun x z => z.elim⟩
      have w35 := w34.trans w5
      have hD5 : H5 D = some (.lst acc) := w35.ext.lst hDca hD2
      have f5 : ¬ F5 D := fun z => by
        rcases w35.new D z with z | z
        · exact f2 z
        · rw [hD2] at z; cases z
      have kd := Keep.setD (ys := acc ++ [v]) w35.st0 hD5 f5 hDca
      have r5 : Rep g H5 F5 v y := r5
      refine ⟨acc, hD5, by rw [line_eq]; omega, rfl, hlt, F5, acc ++ [v], ys ++ [y], (w2.trans w35).setD s1.cup hD f5, f5, upd_same, by rw [List.length_append]; simp; omega, ?_, ?_⟩
      · exact ((rr.ext w35.ext w35.mono).append (.cons r5 .nil)).keep kd
      · have hy : mfm (turn1 tg mc me ρ) (ds.drop (i + 1)) (fun r => Qd (.list (ys ++ y :: r))) fun _ => False := hy
        have e : (fun r => Qd (.list (ys ++ y :: r))) = fun r => Qd (.list ((ys ++ [y]) ++ r)) := by
          funext r
          rw [List.append_assoc]; rfl
        rw [e] at hy
        exact hy
  · have e : i = ds.length := by omega
    refine .inl ⟨wk2 e.symm, ?_⟩
    rw [e, List.drop_length] at hm
    have hm : Qd (.list (ys ++ [])) := hm
    rw [List.append_nil] at hm
    refine q _ hm _ H2 F2 (w1.trans w2) ?_
    show New g H H2 F2 (.ref D) (.list ys)
    unfold New
    rw [if_pos (show isMut (.list ys) = true from rfl)]
    exact ⟨D, rfl, f2, hDca, hD0, .inl ⟨acc, ys, hD2, rr, rfl⟩⟩
theorem snd_lc1 (cx : Cxt X c g W C G) {mi : Env → M (List PV)} {own : List (Str × Nat)} (hown : own.map (·.2) = tgS tg) (hi : ∀ W, Takes X W → PI X tgE iter (IX g W Γ k mi)) (ok : BlkOk X.N X.env.scope scope own)
    (hg : ∀ (s : Shared) (H : Hp) (C : Addr) (cl : List (Str × Addr)) (fp : List Addr), PG (X.blk s H scope (compEnvC scope cl C X.env) fp) tgE (TGX g (ΓW Γ (tgS tg)) tg))
    (ht : ∀ (s : Shared) (H : Hp) (C : Addr) (cl : List (Str × Addr)) (fp : List Addr), CondR (X.blk s H scope (compEnvC scope cl C X.env) fp) g (ΓW Γ (tgS tg)) ifs mc)
    (he : ∀ (s : Shared) (H : Hp) (C : Addr) (cl : List (Str × Addr)) (fp : List Addr), PE (X.blk s H scope (compEnvC scope cl C X.env) fp) elt (TX g W0 (ΓW Γ (tgS tg)) .shr me)) (hs : ∀ x, foldedSetIterable iter X.env x = pure x) :
    PE X (.ListComp elt [⟨tgE, iter, ifs, 0⟩] scope pos) (TX g W Γ .own (lcM tg mi mc me)) := by
  have hN : X.N.Nodup := by rw [cx.hN]; exact cx.nd
  exact (pe_lc cx.calm hN (hi W cx.takes) ok hg (fun s H C cl fp => (ht s H C cl fp).pts) he hs).imp fun σ H Q hq => lc1_read hown hq
/-- two clauses -/
def turn2 (tg tg2 : Tg) (mc : Env → M PV) (mi2 : Env → M (List PV)) (mc2 me : Env → M PV) (ρ : Env) (x : PV) (acc : List PV) : M (List PV) :=
  bd (bindT tg x (wipeE ρ (tgS tg ++ tgS tg2))) fun ρ' => bd (mc ρ') fun t => asB t fun t => if t then
    bd (mi2 ρ') fun xs2 => gd (acc.length + xs2.length ≤ LINE) (bd (mfm (turn1 tg2 mc2 me ρ') xs2) fun ys => pu (acc ++ ys)) else pu acc
def lcM2 (tg tg2 : Tg) (mi : Env → M (List PV)) (mc : Env → M PV) (mi2 : Env → M (List PV)) (mc2 me : Env → M PV) (ρ : Env) : M PV :=
  noX (bd (mi ρ) fun xs => bd (mfl (turn2 tg tg2 mc mi2 mc2 me ρ) xs []) fun ys => pu (.list ys))
theorem lc2_read {mi mi2 : Env → M (List PV)} {mc2 : Env → M PV} {tg2 : Tg} {own : List (Str × Nat)} (hown : own.map (·.2) = tgS tg ++ tgS tg2) {σ : L2.St} {H : Hp} {Q : VK} (hq : TX g W Γ .own (lcM2 tg tg2 mi mc mi2 mc2 me) σ H Q) :
    tLc2 (IX g W Γ k mi) (TGX g (ΓW Γ (tgS tg ++ tgS tg2)) tg) (TTX g W0 (ΓW Γ (tgS tg ++ tgS tg2)) mc) (IX g W0 (ΓW Γ (tgS tg ++ tgS tg2)) .shr mi2) (TGX g (ΓW (ΓW Γ (tgS tg ++ tgS tg2)) (tgS tg2)) tg2) (TTX g W0 (ΓW (ΓW Γ (tgS tg ++ tgS tg2)) (tgS tg2)) mc2) (TX g W0 (ΓW (ΓW Γ (tgS tg ++ tgS tg2)) (tgS tg2)) .shr me) (own.map (·.2)) (tgS tg2) σ H Q := by
  obtain ⟨F, ρ, Qd, E, st, hq, q, ex⟩ := hq
  rw [hown]
  refine ⟨F, ρ, _, fun _ => False, st, hq, fun ds hd hlen J H1 F1 w1 wk D hD => ?_, fun x z => z.elim⟩
  have hD0 : H D = none := by
    cases z : H D with
    | none => rfl
    | some o =>
      obtain ⟨o', z2⟩ := w1.there D o z
      rw [hD] at z2; cases z2
  have hDca : D ≠ g.ca := w1.st0.ne_ca hD
  let Inv1 : Nat → Nat → Hp → Prop := fun i m H2 => m = ds.length - i ∧ i ≤ ds.length ∧ ∃ F2 acc ys, Grow g H1 F1 H2 F2 ∧ ¬ F2 D ∧ H2 D = some (.lst acc) ∧ Reps g H2 F2 acc ys ∧ mfl (turn2 tg tg2 mc mi2 mc2 me ρ) (ds.drop i) ys (fun r => Qd (.list r)) fun _ => False
  have s1 := w1.st0
  refine ⟨Inv1, ⟨ds.length, by simp, Nat.zero_le _, F1, [], [], s1.upd hD, s1.notF hD, upd_same, .nil, hd⟩, ?_⟩
  rintro i m H2 ⟨rfl, hi, F2, acc, ys, w2, f2, hD2, rr, hm⟩
  have kp := Kp.of_grow (k := k) w2 s1.fca
  obtain ⟨wk1, wk2⟩ := wk i H2 F2 kp
  by_cases hlt : i < ds.length
  · have hx : ds[i]? = some ds[i] := List.getElem?_eq_getElem hlt
    obtain ⟨hgo, hyl⟩ := wk1 _ hx
    rw [List.drop_eq_getElem_cons hlt] at hm
    have hm : turn2 tg tg2 mc mi2 mc2 me ρ ds[i] ys (fun y => mfl (turn2 tg tg2 mc mi2 mc2 me ρ) (ds.drop (i + 1)) y (fun r => Qd (.list r)) fun _ => False) (fun _ => False) := hm
    refine .inr ⟨hgo, fun H' => Inv1 (i + 1) (ds.length - (i + 1)) H', fun H' h' => ⟨ds.length - (i + 1), by omega, h'⟩, fun x H3 hy => ?_⟩
    obtain ⟨w3, rx⟩ := hyl x H3 hy
    have st3 := ((st.grow w1).grow w2).grow w3
    refine ⟨F2, _, _, _, _, st3.wipe (tgS tg ++ tgS tg2), rx, bindT_same hm, fun ρ' ⟨hρ, soE⟩ σ' st' so => ⟨?_, ?_⟩⟩
    · refine wipe_same ⟨so.1, fun i hi => so.2 i fun z => hi (List.mem_append_left _ z)⟩
    have noD : ∀ i p, isO (ΓW Γ (tgS tg ++ tgS tg2)) i = true → ρ'[i]? = some (some p) → isMut p = true → σ'[i]? ≠ some (some (V.ref D)) := fun i p ho e m z => by
      rw [isO_ΓW] at ho
      by_cases hm : i ∈ tgS tg ++ tgS tg2
      · rw [if_pos hm] at ho; cases ho
      · rw [if_neg hm] at ho
        have hm' : i ∉ tgS tg := fun z => hm (List.mem_append_left _ z)
        rw [soE i hm', wipeE_out hm] at e
        rw [so.2 i hm', wipe_get, if_neg (fun z => hm z.1)] at z
        obtain ⟨v, h1, h2⟩ := st.env.get i p e
        rw [if_pos ho] at h2
        rw [z] at h1
        cases h1
        have h2 := h2.any
        unfold AnyR at h2
        rw [if_pos m] at h2
        obtain ⟨a, e1, _, l⟩ := h2
        cases e1
        obtain ⟨o, e2⟩ := l.there
        rw [hD0] at e2; cases e2
    refine ⟨F2, ρ', _, _, st', hρ, fun t ht => ?_, fun x z => z.elim⟩
    obtain ⟨b, e, hb⟩ := asB_app ht
    refine ⟨b, e, fun H4 F4 w4 => ?_⟩
    have w34 := w3.trans w4
    have hD4 : H4 D = some (.lst acc) := w34.ext.lst hDca hD2
    have f4 : ¬ F4 D := fun z => by
      rcases w34.new D z with z | z
      · exact f2 z
      · rw [hD2] at z; cases z
    cases b with
    | false => exact ⟨rfl, hlt, F4, acc, ys, w2.trans w34, f4, hD4, rr.ext w34.ext w34.mono, hb⟩
    | true =>
      refine ⟨F4, ρ', _, _, st'.grow w4, hb, fun ds2 hd2 hlen2 J2 H5 F5 w5 wk2' => ?_, fun x z => z.elim⟩
      obtain ⟨hgd, hd2⟩ := hd2
      have w35 := w34.trans w5
      have hD5 : H5 D = some (.lst acc) := w35.ext.lst hDca hD2
      have f5 : ¬ F5 D := fun z => by
        rcases w35.new D z with z | z
        · exact f2 z
        · rw [hD2] at z; cases z
      let Inv2 : Nat → Nat → Hp → Prop := fun j m H6 => m = ds2.length - j ∧ j ≤ ds2.length ∧ ∃ F6 acc6 ys6, Grow g H1 F1 H6 F6 ∧ Keep g H5 F5 H6 F6 ∧ Sta g H6 F6 (ΓW Γ (tgS tg ++ tgS tg2)) σ' ρ' ∧ ¬ F6 D ∧ H6 D = some (.lst acc6) ∧ acc6.length ≤ ys.length + j ∧ Reps g H6 F6 acc6 (ys ++ ys6) ∧
        mfm (turn1 tg2 mc2 me ρ') (ds2.drop j) (fun r => mfl (turn2 tg tg2 mc mi2 mc2 me ρ) (ds.drop (i + 1)) (ys ++ (ys6 ++ r)) (fun r => Qd (.list r)) fun _ => False) fun _ => False
      have s5 := w5.st0
      refine ⟨Inv2, ⟨ds2.length, by simp, Nat.zero_le _, F5, acc, [], w2.trans w35, s5.self.keep s5.fca, (st'.grow w4).grow w5, f5, hD5, ?_, ?_, hd2⟩, ?_⟩
      · rw [rr.length]; exact Nat.le_refl _
      · rw [List.append_nil]; exact rr.ext w35.ext w35.mono
      rintro j m H6 ⟨rfl, hj, F6, acc6, ys6, w6, k6, st6, f6, hD6, hal, rr6, hm6⟩
      obtain ⟨wk1, wk2⟩ := wk2' j H6 F6 k6
      by_cases hlt2 : j < ds2.length
      · have hx2 : ds2[j]? = some ds2[j] := List.getElem?_eq_getElem hlt2
        obtain ⟨hgo2, hyl2⟩ := wk1 _ hx2
        rw [List.drop_eq_getElem_cons hlt2] at hm6
        have hm6 : turn1 tg2 mc2 me ρ' ds2[j] (fun y => mfm (turn1 tg2 mc2 me ρ') (ds2.drop (j + 1)) (fun r => mfl (turn2 tg tg2 mc mi2 mc2 me ρ) (ds.drop (i + 1)) (ys ++ (ys6 ++ (match y with | some y => y :: r | none => r))) (fun r => Qd (.list r)) fun _ => False) fun _ => False) (fun _ => False) := hm6
        refine .inr ⟨hgo2, fun H' => Inv2 (j + 1) (ds2.length - (j + 1)) H', fun H' h' => ⟨ds2.length - (j + 1), by omega, h'⟩, fun x2 H7 hy2 => ?_⟩
        obtain ⟨w7, rx2⟩ := hyl2 x2 H7 hy2
        refine ⟨F6, _, _, _, _, (st6.grow w7).wipe (tgS tg2), rx2, hm6, fun ρ2 hρ2 σ2 st2 so2 => ⟨wipe_same so2, ?_⟩⟩
        refine ⟨F6, ρ2, _, _, st2, hρ2, fun t ht => ?_, fun x z => z.elim⟩
        obtain ⟨b2, e2, hb2⟩ := asB_app ht
        refine ⟨b2, e2, fun H8 F8 w8 => ?_⟩
        have w78 := w7.trans w8
        have hD8 : H8 D = some (.lst acc6) := w78.ext.lst hDca hD6
        have f8 : ¬ F8 D := fun z => by
          rcases w78.new D z with z | z
          · exact f6 z
          · rw [hD6] at z; cases z
        have f6c : ¬ F6 g.ca := st6.fca
        cases b2 with
        | false => exact ⟨rfl, hlt2, F8, acc6, ys6, w6.trans w78, k6.trans (w78.keep f6c), st6.grow w78, f8, hD8, by omega, rr6.ext w78.ext w78.mono, hb2⟩
        | true =>
          refine ⟨F8, ρ2, _, _, st2.grow w8, hb2, fun y hy v H9 F9 w9 r9 => ?_, fun x z => z.elim⟩
          have w79 := w78.trans w9
          have hD9 : H9 D = some (.lst acc6) := w79.ext.lst hDca hD6
          have f9 : ¬ F9 D := fun z => by
            rcases w79.new D z with z | z
            · exact f6 z
            · rw [hD6] at z; cases z
          have kd := Keep.setD (ys := acc6 ++ [v]) w79.st0 hD9 f9 hDca
          have r9 : Rep g H9 F9 v y := r9
          have w1D : Grow g H1 F1 (upd H9 D (.lst (acc6 ++ [v]))) F9 := (w6.trans w79).setD s1.cup hD f9
          refine ⟨acc6, hD9, by rw [line_eq]; omega, rfl, hlt2, F9, acc6 ++ [v], ys6 ++ [y], w1D, (k6.trans (w79.keep f6c)).trans kd, ?_, f9, upd_same, by rw [List.length_append]; simp; omega, ?_, ?_⟩
          · exact (st6.grow w79).setD hD9 f9 hDca noD
          · rw [← List.append_assoc]
            exact ((rr6.ext w79.ext w79.mono).append (.cons r9 .nil)).keep kd
          · have hy : mfm (turn1 tg2 mc2 me ρ') (ds2.drop (j + 1)) (fun r => mfl (turn2 tg tg2 mc mi2 mc2 me ρ) (ds.drop (i + 1)) (ys ++ (ys6 ++ (y :: r))) (fun r => Qd (.list r)) fun _ => False) fun _ => False := hy
            have e : (fun r => mfl (turn2 tg tg2 mc mi2 mc2 me ρ) (ds.drop (i + 1)) (ys ++ (ys6 ++ (y :: r))) (fun r => Qd (.list r)) fun _ => False) = fun r => mfl (turn2 tg tg2 mc mi2 mc2 me ρ) (ds.drop (i + 1)) (ys ++ ((ys6 ++ [y]) ++ r)) (fun r => Qd (.list r)) fun _ => False := by
              funext r
              have e2 : ys6 ++ (y :: r) = (ys6 ++ [y]) ++ r := by rw [List.append_assoc]; rfl
              rw [e2]
            rw [e] at hy
            exact hy
      · have e : j = ds2.length := by omega
        refine .inl ⟨wk2 e.symm, ?_⟩
        rw [e, List.drop_length] at hm6
        have hm6 : mfl (turn2 tg tg2 mc mi2 mc2 me ρ) (ds.drop (i + 1)) (ys ++ (ys6 ++ [])) (fun r => Qd (.list r)) fun _ => False := hm6
        rw [List.append_nil] at hm6
        exact ⟨rfl, hlt, F6, acc6, ys ++ ys6, w6, f6, hD6, rr6, hm6⟩
  · have e : i = ds.length := by omega
    refine .inl ⟨wk2 e.symm, ?_⟩
    rw [e, List.drop_length] at hm
    have hm : Qd (.list ys) := hm
    refine q _ hm _ H2 F2 (w1.trans w2) ?_
    show New g H H2 F2 (.ref D) (.list ys)
    unfold New
    rw [if_pos (show isMut (.list ys) = true from rfl)]
    exact ⟨D, rfl, f2, hDca, hD0, .inl ⟨acc, ys, hD2, rr, rfl⟩⟩
theorem snd_lc2 (cx : Cxt X c g W C G) {mi mi2 : Env → M (List PV)} {mc2 : Env → M PV} {tg2 : Tg} {tgE2 iter2 : Expr} {ifs2 : List Expr} {own : List (Str × Nat)} (hown : own.map (·.2) = tgS tg ++ tgS tg2) (hi : ∀ W, Takes X W → PI X tgE iter (IX g W Γ k mi)) (ok : BlkOk X.N X.env.scope scope own)
    (hg : ∀ (s : Shared) (H : Hp) (C : Addr) (cl : List (Str × Addr)) (fp : List Addr), PG (X.blk s H scope (compEnvC scope cl C X.env) fp) tgE (TGX g (ΓW Γ (tgS tg ++ tgS tg2)) tg))
    (ht : ∀ (s : Shared) (H : Hp) (C : Addr) (cl : List (Str × Addr)) (fp : List Addr), CondR (X.blk s H scope (compEnvC scope cl C X.env) fp) g (ΓW Γ (tgS tg ++ tgS tg2)) ifs mc)
    (hi2 : ∀ (s : Shared) (H : Hp) (C : Addr) (cl : List (Str × Addr)) (fp : List Addr), PI (X.blk s H scope (compEnvC scope cl C X.env) fp) tgE2 iter2 (IX g W0 (ΓW Γ (tgS tg ++ tgS tg2)) .shr mi2))
    (hg2 : ∀ (s : Shared) (H : Hp) (C : Addr) (cl : List (Str × Addr)) (fp : List Addr), PG (X.blk s H scope (compEnvC scope cl C X.env) fp) tgE2 (TGX g (ΓW (ΓW Γ (tgS tg ++ tgS tg2)) (tgS tg2)) tg2))
    (ht2 : ∀ (s : Shared) (H : Hp) (C : Addr) (cl : List (Str × Addr)) (fp : List Addr), CondR (X.blk s H scope (compEnvC scope cl C X.env) fp) g (ΓW (ΓW Γ (tgS tg ++ tgS tg2)) (tgS tg2)) ifs2 mc2)
    (he : ∀ (s : Shared) (H : Hp) (C : Addr) (cl : List (Str × Addr)) (fp : List Addr), PE (X.blk s H scope (compEnvC scope cl C X.env) fp) elt (TX g W0 (ΓW (ΓW Γ (tgS tg ++ tgS tg2)) (tgS tg2)) .shr me))
    (hs : ∀ x, foldedSetIterable iter X.env x = pure x) (hs2 : ∀ env x, foldedSetIterable iter2 env x = pure x) :
    PE X (.ListComp elt [⟨tgE, iter, ifs, 0⟩, ⟨tgE2, iter2, ifs2, 0⟩] scope pos) (TX g W Γ .own (lcM2 tg tg2 mi mc mi2 mc2 me)) := by
  have hN : X.N.Nodup := by rw [cx.hN]; exact cx.nd
  exact (pe_lc2 (vs1 := tgS tg2) cx.calm hN (hi W cx.takes) ok (fun i hi => by rw [hown]; exact List.mem_append_right _ hi) hg (fun s H C cl fp => (ht s H C cl fp).pts) hi2 hg2 (fun s H C cl fp => (ht2 s H C cl fp).pts) he hs hs2).imp fun σ H Q hq => lc2_read hown hq
end
end HG
end
section
set_option maxHeartbeats 4000000
/-! HGDc: {k: v for ..}: a dict made of its exact object, turn by turn. -/
namespace HG
open PySem PySem.Spec PyProof.Rows L2
section
variable {X : Cx} {g : GC} {pins : List (Addr × Obj)} {σ : L2.St} {H : Hp} {s : Shared} {a : Addr} {kvs : List (PV × V)} {k : PV} {y v : V} {u : Value} {A : Around} {E : Value → Shared → Prop}
variable (hK : X.K = g.K) (hP : X.prog = g.P) (hW : X.w = g.w)
include hK hP hW
theorem dr_dictSet {rv : Value} {Q : Unit → Shared → Prop} (hu : A.units + 9 < cLine) (I : Inv X pins σ H s) (d : DRep g H a kvs) (hk : kndOk (kvs.map (·.1)) k = true) (dk : DKey g H y k) (hlen : kvs.length < sizeLine) (ry : RelV y u) (rr : RelV v rv)
    (h : ∀ ob s', Inv X pins σ (upd H a ob) s' → DRep g (upd H a ob) a (vput kvs k v) → (∀ ps, ob ≠ .tbl ps) → Q () s') :
    wpAny (model X.prog X.w) A (dictSet a u rv) Q E s := by
  have mu : Mut (H a) ∧ ∀ b ys, SqT X.K H b ys → H b ≠ H a ∨ ∃ o : Obj, X.K.lookup b = some o := by
    cases d with
    | k h0 => rw [h0]; exact ⟨trivial, fun b ys q => by
        rcases q with (q | ⟨o, q⟩) | ⟨o, _, _, q, _⟩
        · exact .inl fun e => by rw [q] at e; cases e
        · exact .inl fun e => by rw [q] at e; cases e
        · exact .inr ⟨o, q⟩⟩
    | t h0 => rw [h0]; exact ⟨trivial, fun b ys q => by
        rcases q with (q | ⟨o, q⟩) | ⟨o, _, _, q, _⟩
        · exact .inl fun e => by rw [q] at e; cases e
        · exact .inl fun e => by rw [q] at e; cases e
        · exact .inr ⟨o, q⟩⟩
  have keep : ∀ ob b ys, SqT X.K H b ys → SqT X.K (upd H a ob) b ys := fun ob b ys q => by
    rcases q with (q | ⟨o, q⟩) | q
    · by_cases e : b = a
      · subst e
        rw [q] at mu
        exact absurd mu.1 id
      · exact .inl (.inl (by rw [upd_ne e]; exact q))
    · by_cases e : b = a
      · subst e
        rw [q] at mu
        exact absurd mu.1 id
      · exact .inl (.inr ⟨o, by rw [upd_ne e]; exact q⟩)
    · exact .inr q
  obtain ⟨hd, z, ⟨kk, ks, vs, e1, e2, e3, rel, dd, nd⟩ | ⟨b, xs, ht, e2, eb, rel, dd, nd⟩⟩ := d.heap hK hP hW I hk y dk
  · subst e1 e2 e3
    rw [List.length_map] at hlen
    have hz : vs.length ≤ sizeLine := by rw [← rel.length]; omega
    have hl : (putK ks kk v).length ≤ sizeLine := by have := length_putK ks kk v; omega
    refine wpAny_dictSet_pairs (hsz := hz) (kyIs_of ry) dd fun h' dd' hs => ?_
    obtain ⟨q, es, ep, hq, h2, h3, h4, h5, h6⟩ := dd'
    refine h (dO a q) _ (d_write I mu.1 hs ⟨q, hq⟩ ⟨hq, ⟨q, hq⟩, fun h1 h2 e1 e2 => e2 _ e1⟩) ?_ (fun _ e => by cases e)
    rw [vput_k kk v ks nd]
    exact .k upd_same h2 h3 (by rw [← hP, ← hW]; exact h4) (by rw [← hP, ← hW]; exact h5) h6 (rel.put kk rr) hl hd
  · subst e2
    cases (show u = Value.ref b from ry)
    have hz : xs.length ≤ sizeLine := by rw [← Paired.length rel]; omega
    have hl : (vput kvs k v).length ≤ sizeLine := by have := length_vput k v kvs; omega
    refine wpAny_dictSet_heap (hsz := hz) (show A.units + 8 < cLine by omega) (key_ofS I ht eb) dd fun h' dd' hs => ?_
    obtain ⟨q, es, ep, hq, h2, h3, h4, _, h5⟩ := dd'
    refine h (dO a q) _ (d_write I mu.1 hs ⟨q, hq⟩ ⟨hq, ⟨q, hq⟩, fun h1 h2 e1 e2 => e2 _ e1⟩) ?_ (fun _ e => by cases e)
    exact .t upd_same h2 h3 (by rw [← hP, ← hW]; exact h4) h5 (by rw [← hK]; exact (rel.put nd ht eb rr).imp (keep _)) hl hd
end
section
variable {X : Cx}
def tDcX (gc : GC) (wi : TI) (g : TG) (tt : TT) (tk tv : TE) (vs : List Nat) : TE := fun σ H Q => wi σ H fun J H1 => ∀ D o, H1 D = none → DRep gc (upd H1 D (dO D o)) D [] → ∃ W : Nat → Nat → Hp → Prop, (∃ m, W 0 m (upd H1 D (dO D o))) ∧ ∀ i m H, W i m H →
  (J.stop i H ∧ Q (.ref D) H) ∨ (J.go i H ∧ ∃ Nx : Hp → Prop, (∀ H', Nx H' → ∃ m', m' < m ∧ W (i + 1) m' H') ∧ ∀ x H', J.yld i H x H' → g x (L2.wipe σ vs) H' fun σ2 H2 => L2.wipe σ2 vs = L2.wipe σ vs ∧ tt σ2 H2 fun b H3 =>
    if b = true then tk σ2 H3 fun y H4 => tv σ2 H4 fun z H5 => ∃ kvs k, DRep gc H5 D kvs ∧ kndOk (kvs.map (·.1)) k = true ∧ DKey gc H5 y k ∧ kvs.length < sizeLine ∧ (∀ ob, DRep gc (upd H5 D ob) D (vput kvs k z) → (∀ ps, ob ≠ .tbl ps) → Nx (upd H5 D ob)) else Nx H3)
theorem dc_coreX {pins : List (Addr × Obj)} {s : Shared} {σ : L2.St} {H : Hp} {Q : VK} {kx vx tg iter : Expr} {ifs : List Expr} {scope : Scope} {own : List (Str × Nat)} {gc : GC} {pos pos' : Pos} {wi : TI} {g : TG} {tt : TT} {tk tv : TE} {use : Option (Value → Sem Unit)} {Qf : Value → Shared → Prop}
    (hK : X.K = gc.K) (hP : X.prog = gc.P) (hW : X.w = gc.w) (hu : X.A.units + 9 < cLine) (hc : X.calm = true) (hN : X.N.Nodup) (I : Inv X pins σ H s) (hi : PI X tg iter wi) (ok : BlkOk X.N X.env.scope scope own)
    (hg : ∀ (s : Shared) (H : Hp) (C : Addr) (cl : List (Str × Addr)) (fp : List Addr), PG (X.blk s H scope (compEnvC scope cl C X.env) fp) tg g) (ht : ∀ (s : Shared) (H : Hp) (C : Addr) (cl : List (Str × Addr)) (fp : List Addr), PTs (X.blk s H scope (compEnvC scope cl C X.env) fp) ifs tt)
    (hk : ∀ (s : Shared) (H : Hp) (C : Addr) (cl : List (Str × Addr)) (fp : List Addr), PE (X.blk s H scope (compEnvC scope cl C X.env) fp) kx tk)
    (he : ∀ (s : Shared) (H : Hp) (C : Addr) (cl : List (Str × Addr)) (fp : List Addr), PE (X.blk s H scope (compEnvC scope cl C X.env) fp) vx tv) (hs : ∀ x, foldedSetIterable iter X.env x = pure x)
    (h : tDcX gc wi g tt tk tv (own.map (·.2)) σ H Q)
    (hRR : ∀ D C s' m H', Inv X pins σ H' s' → Q (.ref D) H' → s'.heap.Ns C m → FpOk X pins H' C → compPost (model X.prog X.w) X.A X.xe use Qf (.ref D) C (.ok .next) s') :
    wpAny (model X.prog X.w) X.A (comprehension (.DictComp kx vx [⟨tg, iter, ifs, 0⟩] scope pos) scope X.env pos' newDict false (eval iter X.env) use) Qf X.xe s := by
  have hfree : ∀ y ∈ scope.names, y.2 = .free → ∃ c, X.env.cells.lookup y.1 = some c := fun y hy e => by
    rcases ok.free y hy e with k | k
    · exact I.ok.has _ (.inl k)
    · exact I.ok.has _ (.inr k)
  refine wpAny_comprehension_free (use := use) rfl hs (closure_ok hfree) ok.kind (fun y hy e => by rw [ok.uniq y hy, e])
    (thn (hi.run pins s σ H _ I h) fun xv s1 hx => thn hx fun itv s2 h2 => ?_)
  obtain ⟨it, fp, tn, J, H2, e, I2, T, st2, f2, q⟩ := h2
  subst e
  refine wpAny_newObj_type (newEnv_comp ?_)
  generalize hD : s2.heap.objs.size = D
  have hDn : H2 D = none := I2.hok.fresh (Nat.le_of_eq hD)
  let ob0 : Obj := { cls := .type "dict", data := .dict #[] }
  have dr0 : DRep gc (upd H2 D (dO D ob0)) D [] := .k (kvs := []) upd_same ⟨rfl, rfl, rfl⟩ rfl (fun e he => by simp at he) .nil List.nodup_nil .nil (Nat.zero_le _) (beq_eq_false_iff_ne.mpr (by rw [← hD]; exact Ne.symm (Nat.ne_of_lt I2.big)))
  obtain ⟨W, ⟨m0, w0⟩, turn⟩ := q D ob0 hDn dr0
  -- the new list
  generalize hs3 : ({ s2 with heap := s2.heap.push { cls := .type "dict", data := .dict #[] } } : Shared) = s3
  have I3 : Inv X pins σ (upd H2 D (dO D ob0)) s3 := by
    rw [← hs3]
    refine I2.laid (t' := s2.toks) (fun b o e => Heap.get?_push_of_some _ e) (Nat.le_of_eq hD) ?_
    rw [← hD]
    exact ⟨Heap.get?_push_size _ rfl, ⟨_, Heap.get?_push_size _ rfl⟩, fun h1 h2 e1 e2 => e2 _ e1⟩
  have h3 : s3.heap = s2.heap.push { cls := .type "dict", data := .dict #[] } := by rw [← hs3]
  have sz : ∀ b ∈ fp, b < s2.heap.objs.size := fun b hb => by
    obtain ⟨o, e, _⟩ := T.obj _ _ st2 b hb
    exact Heap.lt_size e
  have f3 : ∀ b ∈ fp, FpOk X pins (upd H2 D (dO D ob0)) b ∧ b < s3.heap.objs.size := fun b hb => by
    have hlt := sz b hb
    refine ⟨⟨?_, (f2 b hb).2⟩, by rw [h3, Heap.size_push]; exact Nat.lt_succ_of_lt hlt⟩
    rw [upd_ne (by rw [← hD]; exact Nat.ne_of_lt hlt)]
    exact (f2 b hb).1
  have st3 : tn 0 s3.heap := T.keep _ _ _ st2 fun b _ o e => by rw [h3]; exact Heap.get?_push_of_some _ e
  have I4 := block_start I3 ok hN f3
  have pg := hg s3 (upd H2 D (dO D ob0)) s3.heap.objs.size (cellsFrom (s3.heap.objs.size + 1) scope.names (cloFrom X.env.cells scope.names [])) fp
  have pt := ht s3 (upd H2 D (dO D ob0)) s3.heap.objs.size (cellsFrom (s3.heap.objs.size + 1) scope.names (cloFrom X.env.cells scope.names [])) fp
  have pk := hk s3 (upd H2 D (dO D ob0)) s3.heap.objs.size (cellsFrom (s3.heap.objs.size + 1) scope.names (cloFrom X.env.cells scope.names [])) fp
  have pe := he s3 (upd H2 D (dO D ob0)) s3.heap.objs.size (cellsFrom (s3.heap.objs.size + 1) scope.names (cloFrom X.env.cells scope.names [])) fp
  show codeAny _ _ (.compStart (.DictComp kx vx [⟨tg, iter, ifs, 0⟩] scope pos) 0 (.ref it) (.ref D) (compEnvC scope (cellsFrom (s3.heap.objs.size + 1) scope.names (cloFrom X.env.cells scope.names [])) s3.heap.objs.size X.env)) (compPost (model X.prog X.w) X.A X.xe use Qf (.ref D) s3.heap.objs.size) { s3 with heap := pushCells (s3.heap.push { cls := .type "dict", data := .dict #[] }) scope.names }
  have nfp : ∀ b ∈ fp, (upd H2 D (dO D ob0)) b = none := fun b hb => (f3 b hb).1.1
  generalize hce : compEnvC scope (cellsFrom (s3.heap.objs.size + 1) scope.names (cloFrom X.env.cells scope.names [])) s3.heap.objs.size X.env = ce at I4 pg pt pk pe ⊢
  have cL : ce.locals = s3.heap.objs.size := by subst hce; rfl
  generalize hH3 : upd H2 D (dO D ob0) = H3 at I3 I4 pg pt pk pe w0 nfp f3
  generalize hs4 : ({ s3 with heap := pushCells (s3.heap.push { cls := .type "dict", data := .dict #[] }) scope.names } : Shared) = s4 at I4 ⊢
  have st4 : tn 0 s4.heap := T.keep _ _ _ st3 fun b _ o e => by rw [← hs4]; exact pushCells_keeps _ _ _ _ (Heap.get?_push_of_some _ e)
  have stat : ∀ {σ' : L2.St} {H' : Hp} {s' : Shared}, Inv (X.blk s3 H3 scope ce fp) [] σ' H' s' → (∀ b ∈ fp, H' b = none) → ∀ b ∈ fp, FpOk (X.blk s3 H3 scope ce fp) [] H' b := fun {σ' H' s'} I' hn b hb =>
    ⟨hn b hb, (I'.ok.exf b hb).1, I'.ok.exfs b hb, .inl hb, fun x c e => (I'.ok.exf b hb).2 x c e, fun p hp => absurd (show p ∈ ([] : List (Addr × Obj)) ++ [] from hp) (by simp)⟩
  have loop : codeAny (model X.prog X.w) X.A (.compLoop (.DictComp kx vx [⟨tg, iter, ifs, 0⟩] scope pos) 0 (.ref it) (.ref D) ce) (compPost (model X.prog X.w) X.A X.xe use Qf (.ref D) s3.heap.objs.size) s4 := by
    refine compLoop_anyD (fun n s' => ∃ i H', Inv (X.blk s3 H3 scope ce fp) [] (L2.wipe σ (own.map (·.2))) H' s' ∧ tn i s'.heap ∧ (∀ b ∈ fp, H' b = none) ∧ W i n H') ?_ m0 ⟨0, H3, I4, st4, nfp, w0⟩
    rintro n s5 ⟨i, H5, I5, st5, n5, w5⟩
    rcases turn i n H5 w5 with ⟨stop, qq⟩ | ⟨go, Nx, hNx, step⟩
    · have td := T.done (X.blk s3 H3 scope ce fp) rfl rfl rfl hc i [] s5 _ H5 (fun _ _ => False) I5 (stat I5 n5) st5 stop
      refine thnF td fun r s6 ⟨hr, I6⟩ => ?_
      subst hr
      -- back in the def's context
      have I7 : Inv X pins σ H5 s6 := I3.call' (ch := fp) I6.os I6.base I6.hok I6.bare fun b hb => ⟨(f3 b hb).1.2.2.2.1, (f3 b hb).1.2.1, (f3 b hb).1.2.2.2.2.1, (f3 b hb).1.2.2.2.2.2⟩
      have nC : H5 s3.heap.objs.size = none := by
        have z : H5 ce.locals = none := I6.free
        rw [cL] at z
        exact z
      obtain ⟨m, hn, _⟩ := I6.loc
      have hn : s6.heap.Ns ce.locals m := hn
      rw [cL] at hn
      exact hRR D s3.heap.objs.size s6 m H5 I7 qq hn (I3.fpOk (Nat.le_refl _) nC)
    · have ti := T.item (X.blk s3 H3 scope ce fp) rfl rfl rfl hc i [] s5 _ H5 (fun _ _ => False) I5 (stat I5 n5) st5 go
      refine thnF ti fun r s6 ⟨u, hr, h6⟩ => ?_
      subst hr
      refine thnF h6 fun _ s7 ⟨x, H7, I7, r7, y7, st7, n7⟩ => ?_
      have I7' := I7.pinned (stat I7 n7) (T.obj _ _ st7)
      refine thnF (pg.run _ s7 _ H7 x u _ I7' r7 (step x H7 y7)) fun _ s8 ⟨σ8, H8, I8, hw8, q8⟩ => ?_
      refine thnF (pt.run _ s8 σ8 H8 _ I8 q8) fun b s9 ⟨H9, I9, q9⟩ => ?_
      -- the turn's end
      have fin : ∀ {s' : Shared} {H' : Hp}, Inv (X.blk s3 H3 scope ce fp) ([] ++ pinsAt fp s7.heap) σ8 H' s' → Nx H' → ∃ m, m < n ∧ ∃ i H', Inv (X.blk s3 H3 scope ce fp) [] (L2.wipe σ (own.map (·.2))) H' s' ∧ tn i s'.heap ∧ (∀ b ∈ fp, H' b = none) ∧ W i m H' := fun {s' H'} I' nx => by
        obtain ⟨m', hm, w'⟩ := hNx H' nx
        have pin' : ∀ b ∈ fp, ∀ o, s7.heap.get? b = some o → s'.heap.get? b = some o ∧ H' b = none := fun b hb o e =>
          let z := I'.pin (b, o) (List.mem_append_right _ (List.mem_append_right _ (mem_pinsAt hb e)))
          ⟨z.1, z.2.1⟩
        have hl : (L2.wipe σ (own.map (·.2))).length = σ8.length := by rw [← hw8, L2.wipe_length]
        refine ⟨m', hm, i + 1, H', (I'.unpinned (pins := [])).weak hl (fun j v e => ?_), T.keep _ _ _ st7 fun b hb o e => (pin' b hb o e).1, fun b hb => ?_, w'⟩
        · rw [← hw8] at e
          exact (L2.wipe_some e).1
        · obtain ⟨o, e, _⟩ := T.obj _ _ st7 b hb
          exact (pin' b hb o e).2
      cases b with
      | false =>
        simp only [Bool.false_eq_true, if_false] at q9 ⊢
        exact fin I9 q9
      | true =>
        simp only [if_true] at q9 ⊢
        refine thnF (pk.run _ s9 σ8 H9 _ I9 q9) fun z s10 ⟨yk, H10, I10, r10, q10⟩ => ?_
        refine thnF (pe.run _ s10 σ8 H10 _ I10 q10) fun z2 s11 ⟨yv, H11, I11, r11, kvs, k, dr, hk11, dk11, hz11, nx⟩ => ?_
        exact dr_dictSet (X := X.blk s3 H3 scope ce fp) hK hP hW hu I11 dr hk11 dk11 hz11 r10 r11 fun ob s12 I12 d12 nt => fin I12 (nx ob d12 nt)
  exact codeAny_compStart_dict loop (T.self X.A 0 _ _ _ st4 loop)
theorem pe_dcX {kx vx tg iter : Expr} {ifs : List Expr} {scope : Scope} {own : List (Str × Nat)} {gc : GC} {pos : Pos} {wi : TI} {g : TG} {tt : TT} {tk tv : TE} (hK : X.K = gc.K) (hP : X.prog = gc.P) (hW : X.w = gc.w) (hu : X.A.units + 9 < cLine) (hc : X.calm = true) (hN : X.N.Nodup) (hi : PI X tg iter wi) (ok : BlkOk X.N X.env.scope scope own)
    (hg : ∀ (s : Shared) (H : Hp) (C : Addr) (cl : List (Str × Addr)) (fp : List Addr), PG (X.blk s H scope (compEnvC scope cl C X.env) fp) tg g) (ht : ∀ (s : Shared) (H : Hp) (C : Addr) (cl : List (Str × Addr)) (fp : List Addr), PTs (X.blk s H scope (compEnvC scope cl C X.env) fp) ifs tt)
    (hk : ∀ (s : Shared) (H : Hp) (C : Addr) (cl : List (Str × Addr)) (fp : List Addr), PE (X.blk s H scope (compEnvC scope cl C X.env) fp) kx tk)
    (he : ∀ (s : Shared) (H : Hp) (C : Addr) (cl : List (Str × Addr)) (fp : List Addr), PE (X.blk s H scope (compEnvC scope cl C X.env) fp) vx tv) (hs : ∀ x, foldedSetIterable iter X.env x = pure x := by intro _; rfl) :
    PE X (.DictComp kx vx [⟨tg, iter, ifs, 0⟩] scope pos) (tDcX gc wi g tt tk tv (own.map (·.2))) := by
  refine ⟨fun pins s σ H Q I h => ?_⟩
  rw [arm_eval_DictComp]
  refine dc_coreX hK hP hW hu hc hN I hi ok hg ht hk he hs h fun D C s' m H' I' q hn f => ⟨m, hn, fun h'' sb => ?_⟩
  obtain ⟨f0, f1, f2, f3, f4, f5⟩ := f
  exact ⟨.ref D, H', I'.turned (t' := s'.toks) (fun b o hb e => (sb.2 b hb).trans e) f0 f1 f3 f4 f5, rfl, q⟩
/-- y = {k: v for ..}, the name set within the comprehension -/
theorem ps_setDcX {i : Nat} {y : Str} {py : Pos} {kx vx tg iter : Expr} {ifs : List Expr} {scope : Scope} {own : List (Str × Nat)} {gc : GC} {pos spos : Pos} {wi : TI} {g : TG} {tt : TT} {tk tv : TE} (hK : X.K = gc.K) (hP : X.prog = gc.P) (hW : X.w = gc.w) (hu : X.A.units + 9 < cLine) (hc : X.calm = true) (hN : X.N.Nodup) (hy : X.N[i]? = some y) (hyl : X.env.scope.names.lookup y = some .local)
    (hsw : swapsWith (.DictComp kx vx [⟨tg, iter, ifs, 0⟩] scope pos) (some (.Name y py)) spos.line X.env = pure true) (hi : PI X tg iter wi) (ok : BlkOk X.N X.env.scope scope own)
    (hg : ∀ (s : Shared) (H : Hp) (C : Addr) (cl : List (Str × Addr)) (fp : List Addr), PG (X.blk s H scope (compEnvC scope cl C X.env) fp) tg g) (ht : ∀ (s : Shared) (H : Hp) (C : Addr) (cl : List (Str × Addr)) (fp : List Addr), PTs (X.blk s H scope (compEnvC scope cl C X.env) fp) ifs tt)
    (hk : ∀ (s : Shared) (H : Hp) (C : Addr) (cl : List (Str × Addr)) (fp : List Addr), PE (X.blk s H scope (compEnvC scope cl C X.env) fp) kx tk)
    (he : ∀ (s : Shared) (H : Hp) (C : Addr) (cl : List (Str × Addr)) (fp : List Addr), PE (X.blk s H scope (compEnvC scope cl C X.env) fp) vx tv) (hs : ∀ x, foldedSetIterable iter X.env x = pure x) :
    PS X (.Assign [.Name y py] (.DictComp kx vx [⟨tg, iter, ifs, 0⟩] scope pos) spos) (tAsg (tDcX gc wi g tt tk tv (own.map (·.2))) (gName i)) := by
  refine ⟨fun pins s σ H D I h => ?_⟩
  rw [exec_Assign_Name_used _ _ _ _ hsw]
  refine wpAny_bind (wpAny_standAt (wpAny_bind ?_))
  show wpAny _ X.A (do let _ ← comprehension (.DictComp kx vx [⟨tg, iter, ifs, 0⟩] scope pos) scope X.env (firstIterPos [⟨tg, iter, ifs, 0⟩] pos) newDict false (eval iter X.env) (some (assign (.Name y py) X.env))) _ _ s
  have h : tDcX gc wi g tt tk tv (own.map (·.2)) σ H (fun x H1 => gName i x σ H1 D.nx) := h
  refine wpAny_bind (thn (dc_coreX (Qf := fun _ s' => SP X pins D .next s') hK hP hW hu hc hN I hi ok hg ht hk he hs h fun L C s' m H' I' q hn f => ?_) fun _ s' hq => wpAny_pure (wpAny_pure hq))
  show wpAny _ _ (assign (.Name y py) X.env (.ref L)) _ _ _
  refine wpAny_assign_Name (store_ok2 (v := V.ref L) I' hN hy (.inl hyl) rfl (fun s2 I2 ⟨a, sb, ha⟩ => ?_) (.inr hyl))
  obtain ⟨f0, f1, f2, f3, f4, f5⟩ := f
  have haC : C ≠ a := by
    rcases ha with z | z
    · rw [z]; exact f1
    · exact fun e => f4 y a z e.symm
  refine ⟨m, hn.sameBut sb haC, fun h3 sb3 => ?_⟩
  exact ⟨_, H', I2.turned (t' := s2.toks) (fun b o hb e => (sb3.2 b hb).trans e) f0 f1 f3 f4 f5, q⟩
end
theorem Keep.setO {g : GC} {H : Hp} {F : Addr → Prop} {D : Addr} {o u : HO} (s : St0 g H F) (hd : H D = some u) (h1 : ∀ xs, u ≠ .tup xs) (h2 : ∀ ob w, u ≠ .frz ob w) (f : ¬ F D) (n : D ≠ g.ca) : Keep g H F (upd H D o) F where
  ext := fun b u' e h m => by
    rw [upd_ne]
    · exact e
    · intro z
      subst z
      rw [hd] at e
      cases e
      rcases h with h | ⟨_, h⟩ | ⟨_, _, h⟩
      · exact f h
      · exact h1 _ h
      · exact h2 _ _ h
  mono := fun _ h => h
  cup := by
    obtain ⟨c, d, e, r⟩ := s.cup
    exact ⟨c, d, by rw [upd_ne (Ne.symm n)]; exact e, r⟩
  fca := s.fca
  fin := fun a k => by
    obtain ⟨o, e⟩ := s.fin a k
    exact ⟨o, by rw [upd_ne (fun z => f (by rw [← z]; exact k))]; exact e⟩
section
variable {X : Cx} {c : Cc} {g : GC} {W : WX} {C : Nat → List PV → M PV} {G : List PV} {Γ : List Bool} {k : Kd} {mk mv mi mc : Env → M PV} {kx vx iter tgE : Expr} {pos p : Pos} {ifs : List Expr} {scope : Scope} {tg : Tg}
/-- one turn of a dict comprehension -/
def turnD (tg : Tg) (mc mk mv : Env → M PV) (ρ : Env) (x : PV) : M (Option (PV × PV)) := bd (bindT tg x (wipeE ρ (tgS tg))) fun ρ' => bd (mc ρ') fun t => asB t fun t => if t then bd (mk ρ') fun y => bd (mv ρ') fun z => pu (some (y, z)) else pu none
def dcM (tg : Tg) (mi : Env → M (List PV)) (mc mk mv : Env → M PV) (ρ : Env) : M PV := noX (bd (mi ρ) fun xs => bd (mkd (turnD tg mc mk mv ρ) xs []) fun d => pu (.dict d))
def mkS (f : PV → M (Option (PV × PV))) (xs : List PV) (d : KVs) (y : Option (PV × PV)) : M KVs := match y with
  | some (k, v) => gd (kndOk (d.map (·.1)) k = true ∧ d.length < LINE) (mkd f xs (dput d k v))
  | none => mkd f xs d
theorem dc1_read {mi : Env → M (List PV)} {own : List (Str × Nat)} (hown : own.map (·.2) = tgS tg) {σ : L2.St} {H : Hp} {Q : VK} (hq : TX g W Γ .own (dcM tg mi mc mk mv) σ H Q) :
    tDcX g (IX g W Γ k mi) (TGX g (ΓW Γ (tgS tg)) tg) (TTX g W0 (ΓW Γ (tgS tg)) mc) (TX g W0 (ΓW Γ (tgS tg)) .shr mk) (TX g W0 (ΓW Γ (tgS tg)) .shr mv) (own.map (·.2)) σ H Q := by
  obtain ⟨F, ρ, Qd, E, st, hq, q, ex⟩ := hq
  rw [hown]
  refine ⟨F, ρ, _, fun _ => False, st, hq, fun ds hd hlen J H1 F1 w1 wk D o hD dr0 => ?_, fun x z => z.elim⟩
  have hD0 : H D = none := by
    cases z : H D with
    | none => rfl
    | some o =>
      obtain ⟨o', z2⟩ := w1.there D o z
      rw [hD] at z2; cases z2
  have hDca : D ≠ g.ca := w1.st0.ne_ca hD
  let Inv1 : Nat → Nat → Hp → Prop := fun i m H2 => m = ds.length - i ∧ i ≤ ds.length ∧ ∃ F2 kvs vs, Grow g H1 F1 H2 F2 ∧ ¬ F2 D ∧ DRep g H2 D kvs ∧ Reps g H2 F2 (kvs.map (·.2)) vs ∧ plainD (.dict ((kvs.map (·.1)).zip vs)) = true ∧ mkd (turnD tg mc mk mv ρ) (ds.drop i) ((kvs.map (·.1)).zip vs) (fun d => Qd (.dict d)) fun _ => False
  have s1 := w1.st0
  refine ⟨Inv1, ⟨ds.length, by simp, Nat.zero_le _, F1, [], [], s1.upd hD, s1.notF hD, dr0, .nil, rfl, hd⟩, ?_⟩
  rintro i m H2 ⟨rfl, hi, F2, kvs, vs, w2, f2, dr2, rr, pd, hm⟩
  have kp := Kp.of_grow (k := k) w2 s1.fca
  obtain ⟨wk1, wk2⟩ := wk i H2 F2 kp
  obtain ⟨ob2, hD2⟩ := dr2.at_
  by_cases hlt : i < ds.length
  · have hx : ds[i]? = some ds[i] := List.getElem?_eq_getElem hlt
    obtain ⟨hgo, hyl⟩ := wk1 _ hx
    rw [List.drop_eq_getElem_cons hlt] at hm
    have hm : turnD tg mc mk mv ρ ds[i] (fun y => mkS (turnD tg mc mk mv ρ) (ds.drop (i + 1)) ((kvs.map (·.1)).zip vs) y (fun d => Qd (.dict d)) fun _ => False) (fun _ => False) := hm
    refine .inr ⟨hgo, fun H' => Inv1 (i + 1) (ds.length - (i + 1)) H', fun H' h' => ⟨ds.length - (i + 1), by omega, h'⟩, fun x H3 hy => ?_⟩
    obtain ⟨w3, rx⟩ := hyl x H3 hy
    have st3 := ((st.grow w1).grow w2).grow w3
    refine ⟨F2, _, _, _, _, st3.wipe (tgS tg), rx, hm, fun ρ' hρ σ' st' so => ⟨wipe_same so, ?_⟩⟩
    refine ⟨F2, ρ', _, _, st', hρ, fun t ht => ?_, fun x z => z.elim⟩
    obtain ⟨b, e, hb⟩ := asB_app ht
    refine ⟨b, e, fun H4 F4 w4 => ?_⟩
    have w34 := w3.trans w4
    have f4 : ¬ F4 D := fun z => by
      rcases w34.new D z with z | z
      · exact f2 z
      · rw [hD2] at z; cases z
    cases b with
    | false =>
      exact ⟨rfl, hlt, F4, kvs, vs, w2.trans w34, f4, dr2.ext w34.ext hDca, rr.ext w34.ext w34.mono, pd, hb⟩
    | true =>
      refine ⟨F4, ρ', _, _, st'.grow w4, hb, fun y hy v H5 F5 w5 r5 => ?_, fun x z => z.elim⟩
      refine ⟨F5, ρ', _, _, (st'.grow w4).grow w5, hy, fun z hz v2 H6 F6 w6 r6 => ?_, fun x z => z.elim⟩
      have w36 := (w34.trans w5).trans w6
      have dr6 : DRep g H6 D kvs := dr2.ext w36.ext hDca
      obtain ⟨ob6, hD6⟩ := dr6.at_
      have f6 : ¬ F6 D := fun z => by
        rcases w36.new D z with z | z
        · exact f2 z
        · rw [hD2] at z; cases z
      have r5 : Rep g H5 F5 v y := r5
      have r5 : Rep g H6 F6 v y := r5.ext w6.ext w6.mono
      have r6 : Rep g H6 F6 v2 z := r6
      have hz : gd (kndOk (((kvs.map (·.1)).zip vs).map (·.1)) y = true ∧ ((kvs.map (·.1)).zip vs).length < LINE) (mkd (turnD tg mc mk mv ρ) (ds.drop (i + 1)) (dput ((kvs.map (·.1)).zip vs) y z)) (fun d => Qd (.dict d)) fun _ => False := hz
      obtain ⟨⟨hk, hl⟩, hz⟩ := hz
      have ll : kvs.length = vs.length := rr.lenV
      have pd2 := plainD_put (v := z) hk
      rw [zip_fst kvs vs ll] at hk
      have hl : kvs.length < sizeLine := by
        rw [List.length_zip, List.length_map, ← ll, Nat.min_self] at hl
        rw [line_eq]; exact hl
      refine ⟨kvs, y, dr6, hk, AnyR.dkey (Rep.any r5) (kndOk_key hk), hl, fun ob dn nt => ?_⟩
      obtain ⟨ds', e1, e2⟩ := put_keys y v2 z kvs vs ll
      have kd : Keep g H6 F6 (upd H6 D ob) F6 := Keep.setO w36.st0 hD6 (fun xs e => by cases e) (fun a b e => by cases e) f6 hDca
      refine ⟨rfl, hlt, F6, vput kvs y v2, ds', (w2.trans w36).setD s1.cup hD f6, f6, dn, (e2 g H6 F6 r6 (rr.ext w36.ext w36.mono)).keep kd, by rw [← e1]; exact pd2, by rw [← e1]; exact hz⟩
  · have e : i = ds.length := by omega
    refine .inl ⟨wk2 e.symm, ?_⟩
    rw [e, List.drop_length] at hm
    have hm : Qd (.dict ((kvs.map (·.1)).zip vs)) := hm
    refine q _ hm _ H2 F2 (w1.trans w2) ?_
    show New g H H2 F2 (.ref D) (.dict _)
    unfold New
    rw [if_pos (show isMut (.dict ((kvs.map (·.1)).zip vs)) = true from pd)]
    exact ⟨D, rfl, f2, hDca, hD0, .inr ⟨kvs, vs, dr2, rr, rfl⟩⟩
theorem snd_dc1 (cx : Cxt X c g W C G) {mi : Env → M (List PV)} {own : List (Str × Nat)} (hown : own.map (·.2) = tgS tg) (hi : ∀ W, Takes X W → PI X tgE iter (IX g W Γ k mi)) (ok : BlkOk X.N X.env.scope scope own)
    (hg : ∀ (s : Shared) (H : Hp) (C : Addr) (cl : List (Str × Addr)) (fp : List Addr), PG (X.blk s H scope (compEnvC scope cl C X.env) fp) tgE (TGX g (ΓW Γ (tgS tg)) tg))
    (ht : ∀ (s : Shared) (H : Hp) (C : Addr) (cl : List (Str × Addr)) (fp : List Addr), CondR (X.blk s H scope (compEnvC scope cl C X.env) fp) g (ΓW Γ (tgS tg)) ifs mc)
    (hk : ∀ (s : Shared) (H : Hp) (C : Addr) (cl : List (Str × Addr)) (fp : List Addr), PE (X.blk s H scope (compEnvC scope cl C X.env) fp) kx (TX g W0 (ΓW Γ (tgS tg)) .shr mk))
    (he : ∀ (s : Shared) (H : Hp) (C : Addr) (cl : List (Str × Addr)) (fp : List Addr), PE (X.blk s H scope (compEnvC scope cl C X.env) fp) vx (TX g W0 (ΓW Γ (tgS tg)) .shr mv)) (hs : ∀ x, foldedSetIterable iter X.env x = pure x) :
    PE X (.DictComp kx vx [⟨tgE, iter, ifs, 0⟩] scope pos) (TX g W Γ .own (dcM tg mi mc mk mv)) := by
  have hN : X.N.Nodup := by rw [cx.hN]; exact cx.nd
  exact (pe_dcX cx.hK cx.hP cx.hW (by have := cx.hu; omega) cx.calm hN (hi W cx.takes) ok hg (fun s H C cl fp => (ht s H C cl fp).pts) hk he hs).imp fun σ H Q hq => dc1_read hown hq
end
end HG
end
section
set_option maxHeartbeats 4000000
/-! HGItems: for .. in d.items(); {k: v} of one pair. -/
namespace HG
open PySem PySem.Spec PyProof.Rows L2
/-- o.m( .. ) is no super() -/
def baseOk : Expr → Bool
  | .Name _ _ => true
  | .Call _ (_ :: _) _ _ => true
  | _ => false
theorem base_of {o : Expr} {m : Str} {env : PySem.Env} {s : Sem Value} (h : baseOk o = true) : attributeBase o m env s = s := by
  cases o <;> first | (exact absurd (show false = true from h) Bool.false_ne_true) | skip
  · rename_i f as ks p
    cases as with
    | nil => exact absurd (show false = true from h) Bool.false_ne_true
    | cons a as => cases f <;> rfl
  · rfl
/-- a dict's object, its pairs as they lie -/
theorem DRep.objI {g : GC} {H : Hp} {a : Addr} {kvs : List (PV × V)} (d : DRep g H a kvs) : ∃ (o : Obj) (es : Array DictEntry) (ep : Nat) (ps : List (V × V)), H a = some (dO a o) ∧ o.ExactDict ∧ o.data = .dict es ep ∧ Paired (fun (p : V × V) (e : DictEntry) => RelV p.1 e.key ∧ RelV p.2 e.val) ps es.toList ∧ ps.map (·.2) = kvs.map (·.2) ∧ (a == sysModules) = false ∧ kvs.length ≤ sizeLine ∧
    ∀ F, Reps g H F (ps.map (·.1)) (kvs.map (·.1)) := by
  cases d with
  | @k ks vs o es ep g0 g2 g3 g4 g5 g6 rel z hd =>
    refine ⟨o, es, ep, ks.map fun p => (kyV p.1, p.2), g0, g2, g3, ?_, by rw [List.map_map, List.map_map]; rfl, hd, by rw [List.length_map]; exact z, fun F => ?_⟩
    · generalize es.toList = el at g5
      clear g6 z g4 g3 g2 g0
      induction rel generalizing el with
      | nil => cases g5; exact .nil
      | @cons p q ps qs hq t ih =>
        cases g5 with
        | cons k1 k2 k3 =>
          refine .cons ⟨?_, ?_⟩ (ih _ k3)
          · show RelV (kyV p.1) _
            rw [hq.1]
            exact kyIs_rel k1
          · show RelV p.2 _
            first | rw [k2]; exact hq.2 | rw [← k2]; exact hq.2
    · rw [List.map_map, List.map_map]
      have e : ks.map ((fun x : V × V => x.1) ∘ fun p => (kyV p.1, p.2)) = (ks.map (·.1)).map kyV := by rw [List.map_map]; rfl
      have e2 : ks.map ((fun x : PV × V => x.1) ∘ fun p => (kyD p.1, p.2)) = (ks.map (·.1)).map kyD := by rw [List.map_map]; rfl
      rw [e, e2]
      exact reps_keyD _
  | @t _ xs o es ep h h1 h2 h3 h4 h5 h6 h7 =>
    refine ⟨o, es, ep, (kvs.zip xs).map fun p => (V.ref p.2.2.1, p.1.2), h, h1, h2, ?_, ?_, h7, h6, fun F => ?_⟩
    · rw [h3]
      clear h6 h3 h4
      induction h5 with
      | nil => exact .nil
      | @cons p q ps qs hq t ih => exact .cons ⟨rfl, hq.2.2⟩ ih
    · rw [List.map_map]
      clear h6 h3 h4
      induction h5 with
      | nil => rfl
      | @cons p q ps qs hq t ih =>
        rw [List.zip_cons_cons, List.map_cons, List.map_cons, ih]
        rfl
    · rw [List.map_map]
      clear h6 h4 h3
      induction h5 with
      | nil => exact .nil
      | @cons p q ps qs hq t ih => exact .cons (KVal.rep hq.2.1) ih
def ItxI (d : Addr) (o : Obj) (ps : List (V × V)) : It :=
  ⟨fun i H => H d = some (dO d o) ∧ i < ps.length, fun i H x H' => ∃ n k v, ps[i]? = some (k, v) ∧ x = .ref n ∧ H n = none ∧ H' = upd H n (.tup [k, v]), fun i H => H d = some (dO d o) ∧ ps.length ≤ i⟩
theorem turn_itemsX {P : Program} {w : World} {K : PySem.W.Frag} {elts : List Expr} {kk : Nat} {tpos : Pos} {d : Addr} {o : Obj} {es : Array DictEntry} {ep : Nat} {ps : List (V × V)} (it : Addr) (hx : o.ExactDict) (hod : o.data = .dict es ep) (hk : Paired (fun (p : V × V) (e : DictEntry) => RelV p.1 e.key ∧ RelV p.2 e.val) ps es.toList) :
    Turn P w K (.Tuple elts kk tpos) (ItxI d o ps) [it] it (fun i h => ∃ ok ov, IsItemIter h it d i es.size ep ok ov) where
  mem := by simp
  obj := fun i h st b hb => by
    have e : b = it := by simpa using hb
    subst e
    obtain ⟨ok, ov, e⟩ := st
    exact ⟨_, e, fun v z => nomatch z⟩
  keep := fun i h h' st k => let ⟨ok, ov, e⟩ := st; ⟨ok, ov, k it (by simp) _ e⟩
  item := by
    intro X hP hw hK hc i pins s σ H E I hf st hg
    obtain ⟨hd, hi⟩ := hg
    have hgd : s.heap.get? d = some o := (show ObjOk X.prog X.w H s.heap d (dO d o) from I.hok d _ hd).1
    obtain ⟨⟨k, v⟩, hkv⟩ : ∃ p, ps[i]? = some p := ⟨ps[i], List.getElem?_eq_getElem hi⟩
    obtain ⟨en, hen, ren⟩ := paired_get hk hkv
    have hl : ps.length = es.size := by rw [Paired.length hk, Array.length_toList]
    have hsz : i < es.size := by omega
    have een : es[i] = en := by
      rw [Array.getElem?_toList, Array.getElem?_eq_getElem hsz] at hen
      exact Option.some.inj hen
    obtain ⟨ok, ov, he⟩ := st
    have hlt : it < s.heap.objs.size := Heap.lt_size he
    refine wpAny_pyNext_items_item_raw he ⟨o, hgd, hx, hod⟩ hsz fun h' ho hT hz hk => ?_
    refine ⟨_, rfl, wpAny_letOwnedTupleGo_items (s := { s with heap := h' }) ho fun h'' he' sb => ?_⟩
    rw [een] at hT
    have hT2 : h''.get? s.heap.objs.size = some { cls := .type "tuple", data := .seq #[en.key, en.val] } := (sb.2 _ (Nat.ne_of_gt hlt)).trans hT
    have new : ObjOk X.prog X.w (upd H s.heap.objs.size (.tup [k, v])) h'' s.heap.objs.size (.tup [k, v]) :=
      ⟨by show 2 ≤ sizeLine; decide, [en.key, en.val], .cons ren.1 (.cons ren.2 .nil), ⟨_, hT2, rfl, _, rfl⟩⟩
    have I1 : Inv X pins σ (upd H s.heap.objs.size (.tup [k, v])) { s with heap := h'' } :=
      I.turnedNew (t' := s.toks) (ch := [it]) (fun b ob hb e => (sb.2 b (by simpa using hb)).trans (hk b ob (by simpa using hb) e)) hf (Nat.le_refl _) new
    refine ⟨.ref s.heap.objs.size, _, I1, rfl, ⟨_, k, v, hkv, rfl, I.hok.fresh (Nat.le_refl _), rfl⟩, ⟨_, _, he'⟩, fun b hb => ?_⟩
    have e : b = it := by simpa using hb
    rw [e, upd_ne (Nat.ne_of_lt hlt)]
    exact (hf it (by simp)).1
  done := by
    intro X hP hw hK hc i pins s σ H E I hf st hg
    obtain ⟨hd, hi⟩ := hg
    obtain ⟨f0, f1, f2, f3, f4, f5⟩ := hf it (by simp)
    have hgd : s.heap.get? d = some o := (show ObjOk X.prog X.w H s.heap d (dO d o) from I.hok d _ hd).1
    have hl : ps.length = es.size := by rw [Paired.length hk, Array.length_toList]
    obtain ⟨ok, ov, he⟩ := st
    exact wpAny_pyNext_items_end_raw (I.ok.hd hc) he ⟨o, hgd, hx, hod⟩ (by omega) fun h' eb => ⟨rfl, I.turned (t' := s.toks) (fun b ob hb e => eb b ob hb e) f0 f1 f3 f4 f5⟩
  self := fun A i s Q E st h => let ⟨_, _, e⟩ := st; PySem.W.kcp_self e h
def iItemsX (g : GC) (td : TE) : TI := fun σ H R => td σ H fun x H1 => ∃ d kvs, x = .ref d ∧ DRep g H1 d kvs ∧ ∀ o ps, H1 d = some (dO d o) → ps.map (·.2) = kvs.map (·.2) → kvs.length ≤ sizeLine → (∀ F, Reps g H1 F (ps.map (·.1)) (kvs.map (·.1))) → R (ItxI d o ps) H1
theorem pi_itemsX {X : Cx} {g : GC} {e : Expr} {td : TE} {apos cpos : Pos} {elts : List Expr} {kk : Nat} {tpos : Pos} (he : PE X e td) (hbase : attributeBase e "items" X.env (eval e X.env) = eval e X.env) (hline : (apos.endLine == cpos.line) = true) :
    PI X (.Tuple elts kk tpos) (.Call (.Attribute e "items" apos) [] [] cpos) (iItemsX g td) := by
  refine ⟨fun pins s σ H R I h => ?_⟩
  refine wpAny_Call_method (T := "dict") (id := "dict.items") hbase rfl hline F.plainAttrs_dict F.slot_dict_items F.type_dict_items (thn (he.run pins s σ H _ I h) fun u s1 ⟨x, H1, I1, rx, d, kvs, ex, dr, q⟩ => ?_)
  subst ex
  obtain rfl : u = Value.ref d := rx
  obtain ⟨o, es, ep, ps, hd, hx, hod, pk, e2, hs, hz, rk⟩ := dr.objI
  have hgd : s1.heap.get? d = some o := (show ObjOk X.prog X.w H1 s1.heap d (dO d o) from I1.hok d _ hd).1
  have raw : s1.heap.DictRaw d es ep := ⟨o, hgd, hx, hod⟩
  refine ⟨raw.typeIs, (fun b q => by cases q; exact ⟨o, hgd, hx.2.1⟩), ?_⟩
  have I2 : Inv X pins σ H1 { s1 with heap := s1.heap.push { cls := .type "dict_items", data := .fields #[.ref d] } } := I1.kept (t' := s1.toks) fun b ob q => Heap.get?_push_of_some _ q
  have fin : wpAny (model X.prog X.w) X.A (pyIter (.ref s1.heap.objs.size)) (PIE X pins σ (.Tuple elts kk tpos) R) X.xe { s1 with heap := s1.heap.push { cls := .type "dict_items", data := .fields #[.ref d] } } := by
    refine wpAny_pyIter_items_raw (d := d) ⟨_, Heap.get?_push_size _ rfl, rfl, rfl⟩ (raw.at fun ob q => Heap.get?_push_of_some _ q) (pi_one (tk := s1.toks) I2 _ (turn_itemsX _ hx hod pk) ⟨.none, .none, ?_⟩ (q o ps hd e2 hz rk))
    exact Heap.get?_push_size _ rfl
  show wpAny _ _ (callWith cpos (.builtin "dict.items") [.ref d] [] []) _ X.xe s1
  exact method_meetsIn F.slot_dict_items F.entry_dict_items rfl (PySem.evalArgs_none ⟨rfl, raw.typeIs, F.args_dict_items_1 _, _, meets_dict_items_raw d hs, ⟨es, ep, raw⟩, fin⟩)
theorem walks_items {g : GC} {k : Kd} {H : Hp} {F : Addr → Prop} {l : Addr} {o : Obj} {ps : List (V × V)} {ks vs : List PV} (n : l ≠ g.ca) (h : H l = some (dO l o)) (r1 : Reps g H F (ps.map (·.1)) ks) (r2 : Reps g H F (ps.map (·.2)) vs) (hk : k = .shr → F l) : Walks g k H F (ItxI l o ps) ((ks.zip vs).map fun p => .tuple [p.1, p.2]) := by
  intro i H1 F1 w
  have h1 : H1 l = some (dO l o) := by
    cases k with
    | shr => exact Keep.ext w l _ h (.inl (hk rfl)) fun _ z => by cases z
    | any => exact Grow.ext w l _ h (.inl n) fun _ z => by cases z
    | own => exact Grow.ext w l _ h (.inl n) fun _ z => by cases z
  have l1 : ps.length = ks.length := by have := r1.length; rw [List.length_map] at this; exact this
  have l2 : ps.length = vs.length := by have := r2.length; rw [List.length_map] at this; exact this
  refine ⟨fun d hd => ?_, fun e => ⟨h1, by rw [List.length_map, List.length_zip, ← l1, ← l2, Nat.min_self] at e; exact Nat.le_of_eq e⟩⟩
  rw [List.getElem?_map] at hd
  obtain ⟨⟨a, b⟩, e1, e2⟩ := Option.map_eq_some_iff.mp hd
  have e3 := List.getElem?_zip_eq_some.mp e1
  obtain ⟨va, f1, q1⟩ := r1.get e3.1
  obtain ⟨vb, f2, q2⟩ := r2.get e3.2
  rw [List.getElem?_map] at f1 f2
  obtain ⟨p1, g1, g2⟩ := Option.map_eq_some_iff.mp f1
  obtain ⟨p2, g3, g4⟩ := Option.map_eq_some_iff.mp f2
  rw [g1] at g3
  cases g3
  subst g2 g4 e2
  refine ⟨⟨h1, (List.getElem?_eq_some_iff.mp g1).1⟩, fun x H2 ⟨T, ka, va, y1, y2, y3, y4⟩ => ?_⟩
  rw [g1] at y1
  cases y1
  subst y2 y4
  have gg := w.st0.upd (o := .tup [ka, va]) y3
  exact ⟨gg, .tup (.inl (.inl upd_same)) (.cons ((w.reps q1).ext gg.ext gg.mono) (.cons ((w.reps q2).ext gg.ext gg.mono) .nil))⟩
section
variable {X : Cx} {c : Cc} {g : GC} {W : WX} {C : Nat → List PV → M PV} {G : List PV} {Γ : List Bool} {k : Kd} {m mk mv : Env → M PV} {e kx vx : Expr} {pos p2 p3 : Pos}
theorem pi_items' (cx : Cxt X c g W C G) (hk : k ≠ .own) {es : List Expr} {j : Nat} {tp : Pos} (hb : baseOk e = true) (hl : (p2.endLine == p3.line) = true) (ha : PE X e (TX g W Γ k m)) :
    PI X (.Tuple es j tp) (.Call (.Attribute e "items" p2) [] [] p3) (IX g W Γ k fun ρ => bd (bd (m ρ) itemsV) iterV) := by
  refine (pi_itemsX (g := g) ha (base_of hb) hl).imp fun σ H R ⟨F, ρ, Qd, E, st, hq, q, ex⟩ => ?_
  refine ⟨F, ρ, _, E, st, hq, fun pv hpv v H1 F1 w1 r1 => ?_, ex⟩
  have a1 := r1.any_of
  cases pv with
  | dict kvs =>
    have hpv : bd (gd (plainD (.dict kvs) = true) (pu (PyData.list (kvs.map fun p => .tuple [p.1, p.2])))) iterV Qd E := hpv
    obtain ⟨pl, hp⟩ := hpv
    obtain ⟨a, ks, vs, rfl, n, dr, rr, rfl⟩ := a1.dict pl
    refine ⟨a, ks, rfl, dr, fun o ps hd e2 hz rk => ?_⟩
    have e1 : ((ks.map (·.1)).zip vs).map (fun p => PyData.tuple [p.1, p.2]) = ((ks.map (·.1)).zip vs).map fun p => .tuple [p.1, p.2] := rfl
    refine q _ hp (by rw [List.length_map, List.length_zip, List.length_map, ← rr.lenV, Nat.min_self, ← line_eq]; exact hz) _ H1 F1 w1 (walks_items n hd (rk F1) (by rw [e2]; exact rr) fun ek => ?_)
    subst ek
    have r : Rep g H1 F1 (.ref a) (.dict ((ks.map (·.1)).zip vs)) := r1
    obtain ⟨a', e, f, _⟩ := r.mut pl
    cases e
    exact f
  | _ => exact False.elim hpv
/-- a display of one pair -/
def tDisp1 (g : GC) (tk tv : TE) : TE := fun σ H Q => ∀ D o, H D = none → DRep g (upd H D (dO D o)) D [] → tk σ (upd H D (dO D o)) fun y H1 => tv σ H1 fun z H2 => ∃ kvs k, DRep g H2 D kvs ∧ kndOk (kvs.map (·.1)) k = true ∧ DKey g H2 y k ∧ kvs.length < sizeLine ∧ ∀ ob, DRep g (upd H2 D ob) D (vput kvs k z) → (∀ ps, ob ≠ .tbl ps) → Q (.ref D) (upd H2 D ob)
theorem pe_disp1 {tk tv : TE} (hK : X.K = g.K) (hP : X.prog = g.P) (hW : X.w = g.w) (hu : X.A.units + 9 < cLine) (hk : PE X kx tk) (hv : PE X vx tv) : PE X (.Dict [some kx] [vx] pos) (tDisp1 g tk tv) := by
  refine ⟨fun pins s σ H Q I q => ?_⟩
  have hn := I.hok.fresh (Nat.le_refl s.heap.objs.size)
  have I1 := I.laid (a := s.heap.objs.size) (o := dO s.heap.objs.size { cls := .type "dict", data := .dict #[] }) (h' := s.heap.push { cls := .type "dict", data := .dict #[] }) (t' := s.toks) (fun _ _ q => Heap.get?_push_of_some _ q) (Nat.le_refl _)
    ⟨Heap.get?_push_size _ rfl, ⟨_, Heap.get?_push_size _ rfl⟩, fun h1 h2 e1 e2 => e2 _ e1⟩
  have q := q s.heap.objs.size { cls := .type "dict", data := .dict #[] } hn (.k (kvs := []) upd_same ⟨rfl, rfl, rfl⟩ rfl (fun e he => by simp at he) .nil List.nodup_nil .nil (Nat.zero_le _) (beq_eq_false_iff_ne.mpr (Ne.symm (Nat.ne_of_lt I.big))))
  have hp := zip_pairTrees [some kx] [vx] X.env pos rfl rfl
  have hn2 := pairTrees_length [some kx] [vx] X.env pos rfl rfl
  generalize hpt : pairTrees [some kx] [vx] X.env pos = pairs at hp hn2
  rw [arm_eval_Dict, hp, dictDisplay_pairs pairs (by intro e; rw [e] at hn2; cases hn2) (by rw [hn2]; show 1 < 17; decide)]
  refine wpAny_bind (wpAny_standAt (wpAny_bind ?_))
  unfold subDict
  refine wpAny_bind (wpAny_alloc ?_)
  refine wpAny_bind (wpAny_holding ?_)
  rw [if_pos (by rw [hn2]; show 1 ≤ 15; decide), ← hpt]
  refine wpAny_bind ?_
  refine pairTrees_cons_walk (thn (hk.run pins _ σ _ _ I1 q) fun u s1 ⟨y, H1, J1, ry, q1⟩ => thn (hv.run pins s1 σ H1 _ J1 q1) fun w2 s2 ⟨z, H2, J2, rz, kvs, kk, dr, hk2, dk, hz, q2⟩ => pairTrees_nil_walk ?_)
  refine wpAny_holding ?_
  refine wpAny_bind ?_
  rw [List.forIn_cons]
  refine wpAny_bind (wpAny_bind (dr_dictSet hK hP hW hu J2 dr hk2 dk hz ry rz fun ob s' I' d' nt => wpAny_pure ?_))
  show wpAny _ _ (forIn ([] : List (Value × Value)) PUnit.unit _) _ _ _
  rw [List.forIn_nil]
  exact wpAny_pure (wpAny_pure (wpAny_pure (wpAny_pure ⟨.ref s.heap.objs.size, _, I', rfl, q2 ob d' nt⟩)))
theorem snd_disp1 (cx : Cxt X c g W C G) (hk : PE X kx (TX g W Γ .shr mk)) (hv : PE X vx (TX g W Γ .shr mv)) : PE X (.Dict [some kx] [vx] pos) (TX g W Γ .own fun ρ => bd (bd (mk ρ) fun y => bd (pu []) fun ys => pu (y :: ys)) fun ks => bd (bd (mv ρ) fun y => bd (pu []) fun ys => pu (y :: ys)) fun vs => bd (putAll ks vs []) fun d => pu (.dict d)) := by
  refine (pe_disp1 cx.hK cx.hP cx.hW (by have := cx.hu; omega) hk hv).imp fun σ H Q ⟨F, ρ, Qd, E, st, hq, q, ex⟩ => ?_
  intro D o hD dr0
  have w0 := st.st0.upd (o := dO D o) hD
  have hDca : D ≠ g.ca := st.st0.ne_ca hD
  refine ⟨F, ρ, _, E, st.grow w0, hq, fun y hy v H1 F1 w1 r1 => ?_, fun x hx => (ex x hx).grow w0⟩
  refine ⟨F1, ρ, _, E, (st.grow w0).grow w1, hy, fun z hz v2 H2 F2 w2 r2 => ?_, fun x hx => ((ex x hx).grow w0).grow w1⟩
  have r1 : Rep g H1 F1 v y := r1
  have r1 := r1.ext w2.ext w2.mono
  have r2 : Rep g H2 F2 v2 z := r2
  have hz : bd (gd (kndOk [] y = true) (pu (dput [] y z))) (fun d => pu (PyData.dict d)) Qd E := hz
  obtain ⟨hk, hz⟩ := hz
  have w12 := w1.trans w2
  have dr2 : DRep g H2 D [] := dr0.ext w12.ext hDca
  have f0 : ¬ F D := st.st0.notF hD
  have f2 : ¬ F2 D := fun z => by
    rcases w12.new D z with z | z
    · exact f0 z
    · rw [upd_same] at z; cases z
  refine ⟨[], y, dr2, hk, AnyR.dkey (Rep.any r1) (kndOk_key hk), by rw [line_eq]; decide, fun ob dn nt => ?_⟩
  obtain ⟨ds', e1, e2⟩ := put_keys y v2 z [] [] rfl
  obtain ⟨ob2, hD2⟩ := dr2.at_
  have kd : Keep g H2 F2 (upd H2 D ob) F2 := Keep.setO w12.st0 hD2 (fun xs e => by cases e) (fun a b e => by cases e) f2 hDca
  have wg : Grow g H F (upd H2 D ob) F2 := (w0.trans w12).setD st.st0.cup hD f2
  have hz : Qd (.dict [(y, z)]) := hz
  refine q _ hz _ _ F2 wg ?_
  have pd : plainD (.dict [(y, z)]) = true := plainD_cons (kndOk_key hk)
  show New g H (upd H2 D ob) F2 (.ref D) (.dict [(y, z)])
  unfold New
  rw [if_pos (show isMut (.dict [(y, z)]) = true from pd)]
  have rr := (e2 g H2 F2 r2 .nil).keep kd
  exact ⟨D, rfl, f2, hDca, hD, .inr ⟨_, ds', dn, rr, by rw [← e1]; rfl⟩⟩
end
end HG
end
section
set_option maxHeartbeats 4000000
/-! HGStm: the state between statements. -/
namespace HG
open PySem PySem.Spec PyProof.Rows L2
/-- the fixed things of a body: the context, the wish about exceptions, the entry -/
structure BC where
  g : GC
  W : WX
  H0 : Hp
  F0 : Addr → Prop
structure StaS (B : BC) (H : Hp) (F : Addr → Prop) (Γ : List Bool) (σ : L2.St) (ρ : Env) : Prop where
  st : Sta B.g H F Γ σ ρ
  gr : Grow B.g B.H0 B.F0 H F
  nw : ∀ i p a, isO Γ i = true → ρ[i]? = some (some p) → isMut p = true → σ[i]? = some (some (V.ref a)) → B.H0 a = none
def leΓ (Γ' Γ : List Bool) : Prop := ∀ i, isO Γ' i = true → isO Γ i = true
def leB (Γ' Γ : List Bool) : Bool := (List.range Γ'.length).all fun i => !isO Γ' i || isO Γ i
theorem leB_of {Γ' Γ : List Bool} (h : leB Γ' Γ = true) : leΓ Γ' Γ := fun i hi => by
  unfold leB at h
  rw [List.all_eq_true] at h
  by_cases hl : i < Γ'.length
  · have := h i (List.mem_range.mpr hl)
    rw [hi] at this
    simpa using this
  · unfold isO at hi
    rw [List.getD_eq_getElem?_getD, List.getElem?_eq_none (by omega)] at hi
    cases hi
theorem leΓ.refl (Γ : List Bool) : leΓ Γ Γ := fun _ h => h
theorem leΓ.trans {a b c : List Bool} (x : leΓ a b) (y : leΓ b c) : leΓ a c := fun i h => y i (x i h)
theorem isO_put {Γ : List Bool} {i j : Nat} {b : Bool} (hi : b = true → i < Γ.length) : isO (Γ.set i b) j = (if i = j then b else isO Γ j) := by
  cases b with
  | false => exact isO_set
  | true =>
    have hi := hi rfl
    unfold isO
    by_cases h : i = j
    · subst h
      rw [if_pos rfl, List.getD_eq_getElem?_getD, List.getElem?_set_self hi]; rfl
    · rw [if_neg h, List.getD_eq_getElem?_getD, List.getD_eq_getElem?_getD, List.getElem?_set_ne h]
section
variable {B : BC} {H H' : Hp} {F F' : Addr → Prop} {Γ Γ' : List Bool} {σ : L2.St} {ρ : Env}
theorem StaS.grow (s : StaS B H F Γ σ ρ) (w : Grow B.g H F H' F') : StaS B H' F' Γ σ ρ := ⟨s.st.grow w, s.gr.trans w, s.nw⟩
theorem StaS.fca (s : StaS B H F Γ σ ρ) : ¬ F B.g.ca := s.st.fca
theorem StaS.keep (s : StaS B H F Γ σ ρ) : Keep B.g H F H F := s.st.self.keep s.fca
/-- fewer names alone hold their values: the others' values are shared from now on -/
theorem StaS.weaken (s : StaS B H F Γ σ ρ) (h : leΓ Γ' Γ) : ∃ F', StaS B H F' Γ' σ ρ ∧ Keep B.g H F H F' := by
  let Z : Addr → Prop := fun a => ∃ i p, isO Γ i = true ∧ isO Γ' i = false ∧ ρ[i]? = some (some p) ∧ isMut p = true ∧ σ[i]? = some (some (V.ref a))
  have zf : ∀ a, Z a → ∃ p, ¬ F a ∧ a ≠ B.g.ca ∧ Lay B.g H F a p ∧ B.H0 a = none := fun a ⟨i, p, h1, h2, h3, h4, h5⟩ => by
    obtain ⟨v, e, r⟩ := s.st.env.get i p h3
    rw [h5] at e; cases e
    rw [if_pos h1] at r
    unfold Own at r
    rw [if_pos h4] at r
    obtain ⟨a', e, n1, n2, l⟩ := r
    cases e
    exact ⟨p, n1, n2, l, s.nw i p a h1 h3 h4 h5⟩
  have mono : ∀ a, F a → F a ∨ Z a := fun a h => .inl h
  have fca : ¬ (F B.g.ca ∨ Z B.g.ca) := fun z => by
    rcases z with z | z
    · exact s.fca z
    · obtain ⟨_, _, n, _⟩ := zf _ z
      exact n rfl
  have fin : ∀ a, F a ∨ Z a → ∃ o, H a = some o := fun a z => by
    rcases z with z | z
    · exact s.st.fin a z
    · obtain ⟨_, _, _, l, _⟩ := zf _ z
      exact l.there
  refine ⟨fun a => F a ∨ Z a, ⟨⟨⟨s.st.env.len, fun i p e => ?_, fun i j p q a hn hi hj => s.st.env.apart i j p q a hn (h i hi) (h j hj)⟩, s.st.cup, fca, fin⟩, ⟨s.gr.ext, fun a z => .inl (s.gr.mono a z), fun a z => ?_, s.st.cup, fca, fin, s.gr.there⟩, fun i p a hi => s.nw i p a (h i hi)⟩, ⟨fun b o e _ _ => e, mono, s.st.cup, fca, fin⟩⟩
  · obtain ⟨v, e1, r⟩ := s.st.env.get i p e
    refine ⟨v, e1, ?_⟩
    by_cases hi' : isO Γ' i = true
    · rw [if_pos hi']
      rw [if_pos (h i hi')] at r
      unfold Own at r ⊢
      by_cases m : isMut p = true
      · rw [if_pos m] at r ⊢
        obtain ⟨a, e2, n1, n2, l⟩ := r
        refine ⟨a, e2, fun z => ?_, n2, l.ext (Ext.refl H) mono n2⟩
        rcases z with z | ⟨j, q, j1, j2, j3, j4, j5⟩
        · exact n1 z
        · refine s.st.env.apart j i q p a (fun z => ?_) j1 (h i hi') j3 e j4 m j5 (by rw [e1, e2])
          rw [z, hi'] at j2; cases j2
      · rw [if_neg m] at r ⊢
        exact r.ext (Ext.refl H) mono
    · rw [if_neg hi']
      by_cases hi : isO Γ i = true
      · rw [if_pos hi] at r
        unfold Own at r
        by_cases m : isMut p = true
        · rw [if_pos m] at r
          obtain ⟨a, e2, n1, n2, l⟩ := r
          subst e2
          exact (l.ext (Ext.refl H) mono n2).rep m (.inr ⟨i, p, hi, by simpa using hi', e, m, e1⟩) n2
        · rw [if_neg m] at r
          exact r.ext (Ext.refl H) mono
      · rw [if_neg hi] at r
        exact r.ext (Ext.refl H) mono
  · rcases z with z | z
    · exact s.gr.new a z
    · obtain ⟨_, _, _, _, h0⟩ := zf _ z
      exact .inr h0
/-- a value stored -/
theorem StaS.put (s : StaS B H F Γ σ ρ) {i : Nat} {v : V} {p : PV} {b : Bool} (hi : b = true → i < Γ.length) (r : if b = true then Own B.g H F v p else Rep B.g H F v p)
    (ap : b = true → isMut p = true → ∀ a, v = .ref a → B.H0 a = none ∧ ∀ j q, j ≠ i → isO Γ j = true → ρ[j]? = some (some q) → isMut q = true → σ[j]? ≠ some (some (V.ref a))) :
    StaS B H F (Γ.set i b) (σ.set i (some v)) (ρ.set i (some p)) := by
  have at_i : ∀ {q : PV}, (ρ.set i (some p))[i]? = some (some q) → q = p ∧ i < ρ.length := fun {q} e => by
    by_cases hl : i < ρ.length
    · rw [List.getElem?_set_self hl] at e
      cases e
      exact ⟨rfl, hl⟩
    · rw [List.getElem?_eq_none (by simpa using hl)] at e; cases e
  have σi : i < ρ.length → (σ.set i (some v))[i]? = some (some v) := fun hl => List.getElem?_set_self (by rw [← s.st.env.len]; exact hl)
  refine ⟨⟨⟨by rw [List.length_set, List.length_set]; exact s.st.env.len, fun j q e => ?_, fun j k q q' a hn hj hk e1 e2 m1 m2 z1 z2 => ?_⟩, s.st.cup, s.st.fca, s.st.fin⟩, s.gr, fun j q a hj e m z => ?_⟩
  · by_cases hj : i = j
    · subst hj
      obtain ⟨e', hl⟩ := at_i e
      subst e'
      exact ⟨v, σi hl, by rw [isO_put hi, if_pos rfl]; exact r⟩
    · rw [List.getElem?_set_ne hj] at e
      obtain ⟨w, h1, h2⟩ := s.st.env.get j q e
      exact ⟨w, by rw [List.getElem?_set_ne hj]; exact h1, by rw [isO_put hi, if_neg hj]; exact h2⟩
  · rw [isO_put hi] at hj hk
    by_cases h1 : i = j
    · subst h1
      rw [if_pos rfl] at hj
      have h2 : i ≠ k := hn
      rw [if_neg h2] at hk
      obtain ⟨e', hl⟩ := at_i e1
      subst e'
      rw [σi hl] at z1
      cases z1
      rw [List.getElem?_set_ne h2] at e2 z2
      exact (ap hj m1 a rfl).2 k q' (Ne.symm h2) hk e2 m2 z2
    · rw [if_neg h1] at hj
      rw [List.getElem?_set_ne h1] at e1 z1
      by_cases h2 : i = k
      · subst h2
        rw [if_pos rfl] at hk
        obtain ⟨e', hl⟩ := at_i e2
        subst e'
        rw [σi hl] at z2
        cases z2
        exact (ap hk m2 a rfl).2 j q (Ne.symm h1) hj e1 m1 z1
      · rw [if_neg h2] at hk
        rw [List.getElem?_set_ne h2] at e2 z2
        exact s.st.env.apart j k q q' a hn hj hk e1 e2 m1 m2 z1 z2
  · rw [isO_put hi] at hj
    by_cases h1 : i = j
    · subst h1
      rw [if_pos rfl] at hj
      obtain ⟨e', hl⟩ := at_i e
      subst e'
      rw [σi hl] at z
      cases z
      exact (ap hj m a rfl).1
    · rw [if_neg h1] at hj
      rw [List.getElem?_set_ne h1] at e z
      exact s.nw j q a hj e m z
theorem StaS.putS (s : StaS B H F Γ σ ρ) {i : Nat} {v : V} {p : PV} (r : Rep B.g H F v p) : StaS B H F (Γ.set i false) (σ.set i (some v)) (ρ.set i (some p)) :=
  s.put (b := false) (fun z => by cases z) (by rw [if_neg Bool.false_ne_true]; exact r) (fun z => by cases z)
/-- .. made anew -/
theorem StaS.putO (s : StaS B H F Γ σ ρ) {i : Nat} {v : V} {p : PV} (hi : i < Γ.length) (w : Grow B.g H F H' F') (r : New B.g H H' F' v p) : StaS B H' F' (Γ.set i true) (σ.set i (some v)) (ρ.set i (some p)) := by
  refine (s.grow w).put (b := true) (fun _ => hi) ?_ fun _ m a e => ?_
  · rw [if_pos rfl]
    unfold New at r
    unfold Own
    by_cases m : isMut p = true
    · rw [if_pos m] at r ⊢
      obtain ⟨a, e, n1, n2, _, l⟩ := r
      exact ⟨a, e, n1, n2, l⟩
    · rw [if_neg m] at r ⊢
      exact r
  · unfold New at r
    rw [if_pos m] at r
    obtain ⟨a', e', n1, n2, n3, l⟩ := r
    subst e'
    cases e
    refine ⟨?_, fun j q hn hj ej mj z => ?_⟩
    · cases z : B.H0 a with
      | none => rfl
      | some o =>
        obtain ⟨o', z2⟩ := s.gr.there a o z
        rw [n3] at z2; cases z2
    · obtain ⟨u, e1, r1⟩ := s.st.env.get j q ej
      rw [z] at e1; cases e1
      rw [if_pos hj] at r1
      have r1 := r1.any
      unfold AnyR at r1
      rw [if_pos mj] at r1
      obtain ⟨a2, e2, _, l2⟩ := r1
      cases e2
      obtain ⟨o, z2⟩ := l2.there
      rw [n3] at z2; cases z2
/-- what the name x alone holds -/
theorem StaS.own (s : StaS B H F Γ σ ρ) {x : Nat} {p : PV} (ho : isO Γ x = true) (e : ρ[x]? = some (some p)) (m : isMut p = true) : ∃ a, σ[x]? = some (some (V.ref a)) ∧ ¬ F a ∧ a ≠ B.g.ca ∧ B.H0 a = none ∧ Lay B.g H F a p := by
  obtain ⟨v, e1, r⟩ := s.st.env.get x p e
  rw [if_pos ho] at r
  unfold Own at r
  rw [if_pos m] at r
  obtain ⟨a, e2, n1, n2, l⟩ := r
  subst e2
  exact ⟨a, e1, n1, n2, s.nw x p a ho e m e1, l⟩
/-- that thing written -/
theorem StaS.mut (s : StaS B H F Γ σ ρ) {x : Nat} {p p' : PV} {a : Addr} {o : HO} (ho : isO Γ x = true) (e : ρ[x]? = some (some p)) (e2 : σ[x]? = some (some (V.ref a))) (m : isMut p = true) (m' : isMut p' = true)
    (l : Keep B.g H F (upd H a o) F → Lay B.g (upd H a o) F a p') : StaS B (upd H a o) F Γ σ (ρ.set x (some p')) ∧ Keep B.g H F (upd H a o) F := by
  obtain ⟨a', e1, n1, n2, n0, la⟩ := s.own ho e m
  rw [e2] at e1; cases e1
  have lk : ∀ o', H a = some o' → (¬ ∃ xs, o' = .tup xs) ∧ ¬ ∃ ob u, o' = .frz ob u := fun o' h => by
    rcases la with ⟨xs, ds, h1, _⟩ | ⟨kvs, ds, h1, _⟩
    · rw [h1] at h; cases h
      exact ⟨(fun ⟨_, z⟩ => by cases z), (fun ⟨_, _, z⟩ => by cases z)⟩
    · obtain ⟨_, h1⟩ := h1.at_
      rw [h1] at h; cases h; exact ⟨(fun ⟨_, z⟩ => by cases z), (fun ⟨_, _, z⟩ => by cases z)⟩
  have cup : CupOk B.g.ca (upd H a o) := by
    obtain ⟨c, d, h, r⟩ := s.st.cup
    exact ⟨c, d, by rw [upd_ne (Ne.symm n2)]; exact h, r⟩
  have fin : ∀ b, F b → ∃ o', upd H a o b = some o' := fun b k => by
    obtain ⟨o', h⟩ := s.st.fin b k
    exact ⟨o', by rw [upd_ne (fun z => n1 (by rw [← z]; exact k))]; exact h⟩
  have kp : Keep B.g H F (upd H a o) F := by
    refine ⟨fun b u h k _ => ?_, fun _ h => h, cup, s.fca, fin⟩
    rw [upd_ne]
    · exact h
    · intro z
      subst z
      rcases k with k | k | k
      · exact n1 k
      · exact (lk u h).1 k
      · exact (lk u h).2 k
  have l := l kp
  have at_x : ∀ {q : PV}, (ρ.set x (some p'))[x]? = some (some q) → q = p' := fun {q} z => by
    rw [List.getElem?_set_self (List.getElem?_eq_some_iff.mp e).1] at z
    cases z; rfl
  refine ⟨⟨⟨⟨by rw [List.length_set]; exact s.st.env.len, fun j q ej => ?_, fun j k q q' b hn hj hk e1 e3 m1 m2 z1 z2 => ?_⟩, cup, s.fca, fin⟩, ⟨fun b u h k t => ?_, s.gr.mono, s.gr.new, cup, s.fca, fin, fun b u h => ?_⟩, fun j q b hj ej mj z => ?_⟩, kp⟩
  · by_cases hx : x = j
    · subst hx
      have := at_x ej
      subst this
      refine ⟨_, e2, ?_⟩
      rw [if_pos ho]
      unfold Own
      rw [if_pos m']
      exact ⟨a, rfl, n1, n2, l⟩
    · rw [List.getElem?_set_ne hx] at ej
      obtain ⟨v, h1, h2⟩ := s.st.env.get j q ej
      refine ⟨v, h1, ?_⟩
      by_cases hj : isO Γ j = true
      · rw [if_pos hj] at h2 ⊢
        unfold Own at h2 ⊢
        by_cases mj : isMut q = true
        · rw [if_pos mj] at h2 ⊢
          obtain ⟨b, e3, k1, k2, lb⟩ := h2
          subst e3
          have ab : b ≠ a := fun z => s.st.env.apart x j p q a hx ho hj e ej m mj e2 (by rw [h1, z])
          refine ⟨b, rfl, k1, k2, ?_⟩
          rcases lb with ⟨xs, ds, h, r, e4⟩ | ⟨kvs, ds, h, r, e4⟩
          · exact .inl ⟨xs, ds, by rw [upd_ne ab]; exact h, r.keep kp, e4⟩
          · exact .inr ⟨kvs, ds, h.map (upd_ne ab) fun _ _ z => kp.sqT z, r.keep kp, e4⟩
        · rw [if_neg mj] at h2 ⊢
          exact h2.keep kp
      · rw [if_neg hj] at h2 ⊢
        exact h2.keep kp
  · have old : ∀ {i : Nat} {q : PV}, (ρ.set x (some p'))[i]? = some (some q) → isMut q = true → ∃ q', ρ[i]? = some (some q') ∧ isMut q' = true := fun {i q} z mz => by
      by_cases hx : x = i
      · subst hx
        exact ⟨p, e, m⟩
      · rw [List.getElem?_set_ne hx] at z
        exact ⟨q, z, mz⟩
    obtain ⟨u1, y1, y2⟩ := old e1 m1
    obtain ⟨u2, y3, y4⟩ := old e3 m2
    exact s.st.env.apart j k u1 u2 b hn hj hk y1 y3 y2 y4 z1 z2
  · rw [upd_ne (ne_of_none h n0)]
    exact s.gr.ext b u h k t
  · obtain ⟨u', h'⟩ := s.gr.there b u h
    by_cases z : b = a
    · subst z
      exact ⟨o, upd_same⟩
    · exact ⟨u', by rw [upd_ne z]; exact h'⟩
  · by_cases hx : x = j
    · subst hx
      exact s.nw x p b ho e m z
    · rw [List.getElem?_set_ne hx] at ej
      exact s.nw j q b hj ej mj z
end
/-! ### readings -/
def EXS (B : BC) (x : PV) : Prop := ∀ σ cls d H', Ext B.g.ca B.H0 H' → CupOk B.g.ca H' → XRep B.g H' x cls d → B.W cls d σ H'
theorem EXS.at {B : BC} {x : PV} (h : EXS B x) {H : Hp} {F : Addr → Prop} {Γ : List Bool} {σ : L2.St} {ρ : Env} (s : StaS B H F Γ σ ρ) : EXW B.g B.W σ H x := fun cls d H' e c r => h σ cls d H' (s.gr.ext.trans e) c r
/-- a statement's reading -/
def TSX (B : BC) (Γ Γ1 ΓL : List Bool) (m : Env → M Fl) : TS := fun D σ H => ∃ F ρ Qd E, StaS B H F Γ σ ρ ∧ m ρ Qd E ∧
  (∀ ρ', Qd (.nx ρ') → ∀ σ' H' F', Keep B.g H F H' F' → StaS B H' F' Γ1 σ' ρ' → D.nx σ' H') ∧
  (∀ ρ', Qd (.bk ρ') → ∀ σ' H' F', Keep B.g H F H' F' → StaS B H' F' ΓL σ' ρ' → D.bk σ' H') ∧
  (∀ ρ', Qd (.ct ρ') → ∀ σ' H' F', Keep B.g H F H' F' → StaS B H' F' ΓL σ' ρ' → D.ct σ' H') ∧
  (∀ p, Qd (.rt p) → ∀ v H' F', Grow B.g B.H0 B.F0 H' F' → Rep B.g H' F' v p → D.rt v H') ∧ ∀ x, E x → EXS B x
def leO : Option (List Bool) → List Bool → Prop
  | none, _ => True
  | some Γ', Γ1 => leΓ Γ1 Γ'
section
variable {X : Cx} {c : Cc} {B : BC} {C : Nat → List PV → M PV} {G : List PV} {Γ Γ1 Γ2 ΓL : List Bool} {me : Env → M PV} {m m1 m2 : Env → M Fl} {st : Stmt} {sts : List Stmt} {e a b : Expr} {pos p : Pos}
theorem sst_nil (h : leΓ Γ1 Γ) : PSs X [] (TSX B Γ Γ1 ΓL fun ρ => pu (.nx ρ)) := pss_nil.imp fun D σ H ⟨F, ρ, Qd, E, s, hq, qn, _⟩ => by
  obtain ⟨F', s', k⟩ := s.weaken h
  exact qn ρ hq σ H F' k s'
theorem sst_cons (h1 : PS X st (TSX B Γ Γ1 ΓL m1)) (h2 : PSs X sts (TSX B Γ1 Γ2 ΓL m2)) : PSs X (st :: sts) (TSX B Γ Γ2 ΓL fun ρ => thenF (m1 ρ) m2) := by
  refine (pss_cons h1 h2).imp fun D σ H ⟨F, ρ, Qd, E, s, hq, qn, qb, qc, qr, ex⟩ => ?_
  refine ⟨F, ρ, fun f => thenK m2 f Qd E, E, s, hq, fun ρ' hp σ' H' F' k s' => ?_, fun ρ' hp => qb ρ' hp, fun ρ' hp => qc ρ' hp, fun p hp => qr p hp, ex⟩
  exact ⟨F', ρ', Qd, E, s', hp, fun ρ2 hp2 σ2 H2 F2 k2 s2 => qn ρ2 hp2 σ2 H2 F2 (k.trans k2) s2, fun ρ2 hp2 σ2 H2 F2 k2 s2 => qb ρ2 hp2 σ2 H2 F2 (k.trans k2) s2, fun ρ2 hp2 σ2 H2 F2 k2 s2 => qc ρ2 hp2 σ2 H2 F2 (k.trans k2) s2, qr, ex⟩
/-- freeze, in a block -/
theorem sst_frz (h : leΓ Γ1 Γ) (h2 : PSs X sts (TSX B Γ1 Γ2 ΓL m2)) : PSs X sts (TSX B Γ Γ2 ΓL m2) := h2.imp fun D σ H ⟨F, ρ, Qd, E, s, hq, qn, qb, qc, qr, ex⟩ => by
  obtain ⟨F', s', k⟩ := s.weaken h
  exact ⟨F', ρ, Qd, E, s', hq, fun ρ2 hp2 σ2 H2 F2 k2 s2 => qn ρ2 hp2 σ2 H2 F2 (k.trans k2) s2, fun ρ2 hp2 σ2 H2 F2 k2 s2 => qb ρ2 hp2 σ2 H2 F2 (k.trans k2) s2, fun ρ2 hp2 σ2 H2 F2 k2 s2 => qc ρ2 hp2 σ2 H2 F2 (k.trans k2) s2, qr, ex⟩
/-- an end that is met the weaker way -/
theorem sst_end (h : PS X st (TSX B Γ Γ1 ΓL m)) (hl : leΓ Γ2 Γ1) : PS X st (TSX B Γ Γ2 ΓL m) := h.imp fun D σ H ⟨F, ρ, Qd, E, s, hq, qn, qb, qc, qr, ex⟩ =>
  ⟨F, ρ, Qd, E, s, hq, fun ρ2 hp2 σ2 H2 F2 k2 s2 => by
    obtain ⟨F3, s3, k3⟩ := s2.weaken hl
    exact qn ρ2 hp2 σ2 H2 F3 (k2.trans k3) s3, qb, qc, qr, ex⟩
theorem ss_pass (h : leΓ Γ1 Γ) : PS X (.Pass pos) (TSX B Γ Γ1 ΓL fun ρ => pu (.nx ρ)) := ps_pass.imp fun D σ H ⟨F, ρ, Qd, E, s, hq, qn, _⟩ => by
  obtain ⟨F', s', k⟩ := s.weaken h
  exact qn ρ hq σ H F' k s'
theorem ss_doc {x : Str} {j : Nat} (h : leΓ Γ1 Γ) : PS X (.Expr (.Constant (.str x) j p) pos) (TSX B Γ Γ1 ΓL fun ρ => pu (.nx ρ)) := ps_doc.imp fun D σ H ⟨F, ρ, Qd, E, s, hq, qn, _⟩ => by
  obtain ⟨F', s', k⟩ := s.weaken h
  exact qn ρ hq σ H F' k s'
theorem ss_brk (h : leΓ ΓL Γ) : PS X (.Break pos) (TSX B Γ Γ1 ΓL fun ρ => pu (.bk ρ)) := ps_break.imp fun D σ H ⟨F, ρ, Qd, E, s, hq, qn, qb, _⟩ => by
  obtain ⟨F', s', k⟩ := s.weaken h
  exact qb ρ hq σ H F' k s'
theorem ss_cnt (h : leΓ ΓL Γ) : PS X (.Continue pos) (TSX B Γ Γ1 ΓL fun ρ => pu (.ct ρ)) := ps_continue.imp fun D σ H ⟨F, ρ, Qd, E, s, hq, qn, qb, qc, _⟩ => by
  obtain ⟨F', s', k⟩ := s.weaken h
  exact qc ρ hq σ H F' k s'
theorem ss_never : PS X st (TSX B Γ Γ1 ΓL fun _ => stuck) := ps_never.imp fun D σ H ⟨F, ρ, Qd, E, s, hq, _⟩ => hq
theorem ss_ret (he : PE X e (TX B.g B.W Γ .shr me)) : PS X (.Return (some e) pos) (TSX B Γ Γ1 ΓL fun ρ => bd (me ρ) fun v => pu (.rt v)) := (ps_ret he).imp fun D σ H ⟨F, ρ, Qd, E, s, hq, qn, qb, qc, qr, ex⟩ =>
  ⟨F, ρ, _, E, s.st, hq, fun p hp v H' F' w r => qr p hp v H' F' (s.gr.trans w) r, fun x hx => (ex x hx).at s⟩
theorem ss_ex (he : PE X e (TX B.g B.W Γ .any me)) (hs : swapsWith e none pos.line X.env = pure false) (h : leΓ Γ1 Γ) : PS X (.Expr e pos) (TSX B Γ Γ1 ΓL fun ρ => bd (me ρ) fun _ => pu (.nx ρ)) := (ps_expr he hs).imp fun D σ H ⟨F, ρ, Qd, E, s, hq, qn, qb, qc, qr, ex⟩ =>
  ⟨F, ρ, _, E, s.st, hq, fun p hp v H' F' w r => by
    obtain ⟨F2, s2, k2⟩ := (s.grow w).weaken h
    exact qn ρ hp σ H' F2 ((w.keep s.fca).trans k2) s2, fun x hx => (ex x hx).at s⟩
theorem ss_if {t : Expr} {as bs : List Stmt} (ht : PT X t (TTX B.g B.W Γ me)) (ha : PSs X as (TSX B Γ Γ1 ΓL m1)) (hb : PSs X bs (TSX B Γ Γ1 ΓL m2)) :
    PS X (.If t as bs pos) (TSX B Γ Γ1 ΓL fun ρ => bd (me ρ) fun t => asB t fun t => if t then m1 ρ else m2 ρ) := by
  refine (ps_if ht ha hb).imp fun D σ H ⟨F, ρ, Qd, E, s, hq, qn, qb, qc, qr, ex⟩ => ?_
  refine ⟨F, ρ, _, E, s.st, hq, fun p hp => ?_, fun x hx => (ex x hx).at s⟩
  obtain ⟨b, e, hb⟩ := asB_app hp
  refine ⟨b, e, fun H1 F1 w => ?_⟩
  have k := w.keep s.fca
  cases b with
  | true => exact ⟨F1, ρ, Qd, E, s.grow w, hb, fun ρ2 hp2 σ2 H2 F2 k2 s2 => qn ρ2 hp2 σ2 H2 F2 (k.trans k2) s2, fun ρ2 hp2 σ2 H2 F2 k2 s2 => qb ρ2 hp2 σ2 H2 F2 (k.trans k2) s2, fun ρ2 hp2 σ2 H2 F2 k2 s2 => qc ρ2 hp2 σ2 H2 F2 (k.trans k2) s2, qr, ex⟩
  | false => exact ⟨F1, ρ, Qd, E, s.grow w, hb, fun ρ2 hp2 σ2 H2 F2 k2 s2 => qn ρ2 hp2 σ2 H2 F2 (k.trans k2) s2, fun ρ2 hp2 σ2 H2 F2 k2 s2 => qb ρ2 hp2 σ2 H2 F2 (k.trans k2) s2, fun ρ2 hp2 σ2 H2 F2 k2 s2 => qc ρ2 hp2 σ2 H2 F2 (k.trans k2) s2, qr, ex⟩
/-- name = value: what the store asks -/
theorem asg_own {i : Nat} (hi : i < Γ.length) (hl : leΓ Γ1 (Γ.set i true)) {D : Ends} {σ : L2.St} {H : Hp} (hq : TSX B Γ Γ1 ΓL (fun ρ => bd (me ρ) fun v => bd (bindT (.nm i) v ρ) fun ρ' => pu (.nx ρ')) D σ H) :
    TX B.g B.W Γ .own me σ H fun x H1 => gName i x σ H1 D.nx := by
  obtain ⟨F, ρ, Qd, E, s, hq, qn, qb, qc, qr, ex⟩ := hq
  refine ⟨F, ρ, _, E, s.st, hq, fun p hp v H' F' w r => ?_, fun x hx => (ex x hx).at s⟩
  have r : New B.g H H' F' v p := r
  obtain ⟨F2, s2, k2⟩ := (s.putO hi w r).weaken hl
  exact qn _ hp _ _ F2 ((w.keep s.fca).trans k2) s2
theorem asg_shr {i : Nat} (hl : leΓ Γ1 (Γ.set i false)) {D : Ends} {σ : L2.St} {H : Hp} (hq : TSX B Γ Γ1 ΓL (fun ρ => bd (me ρ) fun v => bd (bindT (.nm i) v ρ) fun ρ' => pu (.nx ρ')) D σ H) :
    TX B.g B.W Γ .shr me σ H fun x H1 => gName i x σ H1 D.nx := by
  obtain ⟨F, ρ, Qd, E, s, hq, qn, qb, qc, qr, ex⟩ := hq
  refine ⟨F, ρ, _, E, s.st, hq, fun p hp v H' F' w r => ?_, fun x hx => (ex x hx).at s⟩
  have r : Rep B.g H' F' v p := r
  obtain ⟨F2, s2, k2⟩ := ((s.grow w).putS r).weaken hl
  exact qn _ hp _ _ F2 ((w.keep s.fca).trans k2) s2
end
end HG
end
section
set_option maxHeartbeats 4000000
/-! HGStm2: loops, stores of several names, lists written. -/
namespace HG
open PySem PySem.Spec PyProof.Rows L2
section
variable {X : Cx} {c : Cc} {B : BC} {C : Nat → List PV → M PV} {G : List PV} {Γ Γ1 Γ2 ΓL : List Bool} {me mk : Env → M PV} {mi : Env → M (List PV)} {m m1 m2 mb : Env → M Fl} {st : Stmt} {sts body : List Stmt} {e a b tgE iter : Expr} {pos p : Pos} {tg : Tg}
/-- behind a target's stores -/
theorem StaS.tgt {H : Hp} {F : Addr → Prop} {σ σ' : L2.St} {ρ ρ' : Env} (s : StaS B H F Γ σ ρ) (t : Sta B.g H F Γ σ' ρ') (so : SameOut (tgS tg) σ σ') (se : SameE (tgS tg) ρ ρ') (hn : ∀ i ∈ tgS tg, isO Γ i = false) : StaS B H F Γ σ' ρ' :=
  ⟨t, s.gr, fun i p a ho e m z => by
    have hi : i ∉ tgS tg := fun h => by rw [hn i h] at ho; cases ho
    rw [se i hi] at e
    rw [so.2 i hi] at z
    exact s.nw i p a ho e m z⟩
theorem ss_for (hp : PassesOwn (model X.prog X.w) X.A X.env X.xe) (hc : X.calm = true) (hi : PI X tgE iter (IX B.g B.W Γ .shr mi)) (hg : PG X tgE (TGX B.g Γ tg)) (hn : ∀ i ∈ tgS tg, isO Γ i = false) (hb : PSs X body (TSX B Γ Γ Γ mb)) (hl : leΓ Γ1 Γ)
    (hs : ∀ x, foldedSetIterable iter X.env x = pure x) : PS X (.For tgE iter body [] pos) (TSX B Γ Γ1 ΓL fun ρ => bd (mi ρ) fun xs => forL (fun x ρ => bd (bindT tg x ρ) mb) xs ρ) := by
  refine (ps_for hp hc hi hg hb hs).imp fun D σ H ⟨F, ρ, Qd, E, s, hq, qn, qb, qc, qr, ex⟩ => ?_
  refine ⟨F, ρ, _, E, s.st, hq, fun ds hd hlen J H1 F1 w wk => ?_, fun x hx => (ex x hx).at s⟩
  let fb : PV → Env → M Fl := fun x ρ => bd (bindT tg x ρ) mb
  let W : Nat → Nat → L2.St → Hp → Prop := fun i m σ' H' => m = ds.length - i ∧ i ≤ ds.length ∧ ∃ F' ρ', Keep B.g H1 F1 H' F' ∧ StaS B H' F' Γ σ' ρ' ∧ forL fb (ds.drop i) ρ' Qd E
  have s1 := s.grow w
  have k0 := w.keep s.fca
  refine ⟨W, ⟨ds.length, by simp, Nat.zero_le _, F1, ρ, s1.keep, s1, hd⟩, ?_⟩
  rintro i m σ' H' ⟨rfl, hi', F', ρ', k, s', hm⟩
  obtain ⟨wk1, wk2⟩ := wk i H' F' k
  by_cases hlt : i < ds.length
  · have hx : ds[i]? = some ds[i] := List.getElem?_eq_getElem hlt
    obtain ⟨hgo, hyl⟩ := wk1 _ hx
    rw [List.drop_eq_getElem_cons hlt] at hm
    have hm : bindT tg ds[i] ρ' (fun ρ2 => mb ρ2 (fun f => loopK (forL fb (ds.drop (i + 1))) f Qd E) E) E := hm
    refine .inr ⟨hgo, fun σ' H' => W (i + 1) (ds.length - (i + 1)) σ' H', fun σ' H' h' => ⟨ds.length - (i + 1), by omega, h'⟩, fun x H3 hy => ?_⟩
    obtain ⟨w3, rx⟩ := hyl x H3 hy
    have s3 := s'.grow w3
    have k3 := k.trans (w3.keep s'.fca)
    refine ⟨F', ρ', _, _, _, s3.st, rx, bindT_same hm, fun ρ2 ⟨hρ, soE⟩ σ2 st2 so => ?_⟩
    have s4 := s3.tgt st2 so soE hn
    refine ⟨F', ρ2, _, E, s4, hρ, fun ρ3 h3 σ3 H4 F4 k4 s5 => ?_, fun ρ3 h3 σ3 H4 F4 k4 s5 => ?_, fun ρ3 h3 σ3 H4 F4 k4 s5 => ?_, qr, ex⟩
    · exact ⟨rfl, hlt, F4, ρ3, k3.trans k4, s5, h3⟩
    · obtain ⟨F5, s6, k5⟩ := s5.weaken hl
      exact qn ρ3 h3 σ3 H4 F5 (((k0.trans k3).trans k4).trans k5) s6
    · exact ⟨rfl, hlt, F4, ρ3, k3.trans k4, s5, h3⟩
  · have e : i = ds.length := by omega
    refine .inl ⟨wk2 e.symm, ?_⟩
    rw [e, List.drop_length] at hm
    have hm : Qd (.nx ρ') := hm
    obtain ⟨F5, s6, k5⟩ := s'.weaken hl
    exact qn ρ' hm σ' H' F5 ((k0.trans k).trans k5) s6
theorem ss_while {t : Expr} (hp : PassesOwn (model X.prog X.w) X.A X.env X.xe) (ht : PT X t (TTX B.g B.W Γ me)) (hb : PSs X body (TSX B Γ Γ Γ mb)) (hl : leΓ Γ1 Γ) : PS X (.While t body [] pos) (TSX B Γ Γ1 ΓL fun ρ => whileL me mb ρ) := by
  refine (ps_while hp ht hb).imp fun D σ H ⟨F, ρ, Qd, E, s, hq, qn, qb, qc, qr, ex⟩ => ?_
  obtain ⟨n, hq⟩ := hq
  let W : Nat → L2.St → Hp → Prop := fun m σ' H' => ∃ F' ρ', Keep B.g H F H' F' ∧ StaS B H' F' Γ σ' ρ' ∧ whileN me mb m ρ' Qd E
  refine ⟨W, ⟨n, F, ρ, s.keep, s, hq⟩, ?_⟩
  rintro m σ' H' ⟨F', ρ', k, s', hm⟩
  cases m with
  | zero => exact False.elim hm
  | succ m =>
    refine ⟨F', ρ', _, E, s'.st, hm, fun p hp => ?_, fun x hx => (ex x hx).at s'⟩
    obtain ⟨b, e, hb⟩ := asB_app hp
    refine ⟨b, e, fun H1 F1 w => ?_⟩
    have k1 := k.trans (w.keep s'.fca)
    cases b with
    | true =>
      refine ⟨W m, fun σ' H' h => ⟨m, Nat.lt_succ_self _, h⟩, F1, ρ', fun f => loopK (whileN me mb m) f Qd E, E, s'.grow w, hb, fun ρ3 h3 σ3 H4 F4 k4 s5 => ?_, fun ρ3 h3 σ3 H4 F4 k4 s5 => ?_, fun ρ3 h3 σ3 H4 F4 k4 s5 => ?_, qr, ex⟩
      · exact ⟨F4, ρ3, k1.trans k4, s5, h3⟩
      · obtain ⟨F5, s6, k5⟩ := s5.weaken hl
        exact qn ρ3 h3 σ3 H4 F5 ((k1.trans k4).trans k5) s6
      · exact ⟨F4, ρ3, k1.trans k4, s5, h3⟩
    | false =>
      obtain ⟨F5, s6, k5⟩ := (s'.grow w).weaken hl
      exact qn ρ' hb σ' H1 F5 (k1.trans k5) s6
/-- raise -/
theorem ss_rai {j : Nat} {C : Addr} (hc : X.calm = true) (tk : Takes X B.W) (hC : B.g.ea[j]? = some C) (he : PMk X e fun _ H Q => Q (.ref C) none H) : PS X (.Raise (some e) none pos) (TSX B Γ Γ1 ΓL fun _ => rz (errV j [])) := by
  refine (ps_raise hc tk he).imp fun D σ H ⟨F, ρ, Qd, E, s, hq, qn, qb, qc, qr, ex⟩ => ?_
  exact ex _ hq σ _ _ H s.gr.ext s.st.cup ⟨j, C, rfl, hC, rfl, rfl⟩
/-! ### several names at once -/
/-- values made anew (true), or shared -/
inductive Mix (g : GC) (H0 H : Hp) (F : Addr → Prop) : List Bool → List V → List PV → Prop
  | nil : Mix g H0 H F [] [] []
  | shr {ks : List Bool} {v : V} {vs : List V} {p : PV} {ps : List PV} : Rep g H F v p → Mix g H0 H F ks vs ps → Mix g H0 H F (false :: ks) (v :: vs) (p :: ps)
  | own {ks : List Bool} {v : V} {vs : List V} {p : PV} {ps : List PV} : New g H0 H F v p → (∀ a, v = .ref a → isMut p = true → ∀ (j : Nat) (q : PV), ks[j]? = some true → ps[j]? = some q → isMut q = true → vs[j]? ≠ some (V.ref a)) → Mix g H0 H F ks vs ps → Mix g H0 H F (true :: ks) (v :: vs) (p :: ps)
theorem New.grow {g : GC} {H0 H H' : Hp} {F F' : Addr → Prop} {v : V} {p : PV} (w : Grow g H F H' F') (r : New g H0 H F v p) : New g H0 H' F' v p := by
  unfold New at r ⊢
  by_cases m : isMut p = true
  · rw [if_pos m] at r ⊢
    obtain ⟨a, e, n1, n2, n3, l⟩ := r
    refine ⟨a, e, fun z => ?_, n2, n3, l.ext w.ext w.mono n2⟩
    rcases w.new a z with z | z
    · exact n1 z
    · obtain ⟨o, h⟩ := l.there
      rw [z] at h; cases h
  · rw [if_neg m] at r ⊢
    exact r.ext w.ext w.mono
theorem Mix.older {g : GC} {H0 H1 H : Hp} {F0 F1 F : Addr → Prop} (w : Grow g H0 F0 H1 F1) : ∀ {ks : List Bool} {vs : List V} {ps : List PV}, Mix g H1 H F ks vs ps → Mix g H0 H F ks vs ps
  | _, _, _, .nil => .nil
  | _, _, _, .shr r t => .shr r (Mix.older w t)
  | _, _, _, .own r n t => .own (New.older w r) n (Mix.older w t)
theorem Mix.fresh {g : GC} {H0 H : Hp} {F : Addr → Prop} : ∀ {ks : List Bool} {vs : List V} {ps : List PV}, Mix g H0 H F ks vs ps → ∀ (j : Nat) (q : PV) (a : Addr), ks[j]? = some true → ps[j]? = some q → isMut q = true → vs[j]? = some (V.ref a) → H0 a = none
  | _, _, _, .nil, j, q, a, h, _, _, _ => by simp at h
  | _, _, _, .shr r t, 0, q, a, h, _, _, _ => by simp at h
  | _, _, _, .shr r t, j + 1, q, a, h, hp, m, hv => t.fresh j q a (by simpa using h) (by simpa using hp) m (by simpa using hv)
  | _, _, _, .own r n t, 0, q, a, h, hp, m, hv => by
    simp at hp hv
    subst hp hv
    unfold New at r
    rw [if_pos m] at r
    obtain ⟨a', e, _, _, n3, _⟩ := r
    cases e
    exact n3
  | _, _, _, .own r n t, j + 1, q, a, h, hp, m, hv => t.fresh j q a (by simpa using h) (by simpa using hp) m (by simpa using hv)
def TXm (g : GC) (W : WX) (Γ ks : List Bool) (m : Env → M (List PV)) : TA := fun σ H Q => ∃ F ρ Qd E, Sta g H F Γ σ ρ ∧ m ρ Qd E ∧
  (∀ ps, Qd ps → ∀ vs H' F', Grow g H F H' F' → Mix g H H' F' ks vs ps → Q vs H') ∧ ∀ x, E x → EXW g W σ H x
section
variable {g : GC} {W : WX} {ks : List Bool} {es : List Expr} {ms : Env → M (List PV)}
theorem snm_nil : PA X [] (TXm g W Γ [] fun _ => pu []) := pa_nil.imp fun σ H Q ⟨F, ρ, Qd, E, s, hq, q, _⟩ => q [] hq [] H F s.self .nil
theorem snm_shr (hp : plainE e = true) (he : PE X e (TX g W Γ .shr me)) (hs : PA X es (TXm g W Γ ks ms)) : PA X (e :: es) (TXm g W Γ (false :: ks) fun ρ => bd (me ρ) fun x => bd (ms ρ) fun xs => pu (x :: xs)) := by
  refine (pa_cons he hs (star_plain hp)).imp fun σ H Q ⟨F, ρ, Qd, E, s, hq, q, ex⟩ => ?_
  refine ⟨F, ρ, _, E, s, hq, fun p hp v H1 F1 w1 r1 => ?_, ex⟩
  refine ⟨F1, ρ, _, E, s.grow w1, hp, fun p2 hp2 v2 H2 F2 w2 r2 => ?_, fun x hx => (ex x hx).grow w1⟩
  exact q _ hp2 _ H2 F2 (w1.trans w2) (.shr (Rep.ext w2.ext w2.mono r1) (r2.older w1))
theorem snm_own (hp : plainE e = true) (he : PE X e (TX g W Γ .own me)) (hs : PA X es (TXm g W Γ ks ms)) : PA X (e :: es) (TXm g W Γ (true :: ks) fun ρ => bd (me ρ) fun x => bd (ms ρ) fun xs => pu (x :: xs)) := by
  refine (pa_cons he hs (star_plain hp)).imp fun σ H Q ⟨F, ρ, Qd, E, s, hq, q, ex⟩ => ?_
  refine ⟨F, ρ, _, E, s, hq, fun p hp v H1 F1 w1 r1 => ?_, ex⟩
  refine ⟨F1, ρ, _, E, s.grow w1, hp, fun p2 hp2 v2 H2 F2 w2 r2 => ?_, fun x hx => (ex x hx).grow w1⟩
  have r1 : New g H H1 F1 v p := r1
  refine q _ hp2 _ H2 F2 (w1.trans w2) (.own (r1.grow w2) (fun a e m j q hk hq mq z => ?_) (r2.older w1))
  have h1 := r2.fresh j q a hk hq mq z
  unfold New at r1
  rw [if_pos m] at r1
  obtain ⟨a', e', _, _, _, l⟩ := r1
  subst e'
  cases e
  obtain ⟨o, h⟩ := l.there
  rw [h1] at h; cases h
end
def setV : List Nat → List V → L2.St → L2.St
  | i :: is, v :: vs, σ => (setV is vs σ).set i (some v)
  | _, _, σ => σ
def setΓ : List Nat → List Bool → List Bool → List Bool
  | i :: is, k :: ks, Γ => (setΓ is ks Γ).set i k
  | _, _, Γ => Γ
theorem setΓ_len : ∀ {is : List Nat} {ks Γ : List Bool}, (setΓ is ks Γ).length = Γ.length
  | [], _, _ => by unfold setΓ; rfl
  | _ :: _, [], _ => by unfold setΓ; rfl
  | i :: is, k :: ks, Γ => by unfold setΓ; rw [List.length_set]; exact setΓ_len
/-- whence the things that names alone hold have come -/
def Whence (H : Hp) (Γ : List Bool) (σ : L2.St) (ρ : Env) (ks : List Bool) (vs : List V) (ps : List PV) : Prop :=
  ∀ (j : Nat) (q : PV) (a : Addr), isO Γ j = true → ρ[j]? = some (some q) → isMut q = true → σ[j]? = some (some (V.ref a)) → (∃ o, H a = some o) ∨ ∃ (l : Nat) (q' : PV), ks[l]? = some true ∧ ps[l]? = some q' ∧ isMut q' = true ∧ vs[l]? = some (V.ref a)
theorem StaS.puts {H H' : Hp} {F F' : Addr → Prop} {σ : L2.St} {ρ : Env} (s0 : StaS B H F Γ σ ρ) (w : Grow B.g H F H' F') : ∀ {is : List Nat} {ks : List Bool} {vs : List V} {ps : List PV}, (∀ i ∈ is, i < Γ.length) → is.length = ps.length → Mix B.g H H' F' ks vs ps →
    StaS B H' F' (setΓ is ks Γ) (setV is vs σ) (setL is ps ρ) ∧ Whence H (setΓ is ks Γ) (setV is vs σ) (setL is ps ρ) ks vs ps
  | [], _, _, _, _, hl, mx => by
    cases mx with
    | nil =>
      unfold setΓ setV setL
      refine ⟨s0.grow w, fun j q a ho e m z => .inl ?_⟩
      obtain ⟨a', e1, _, _, _, l⟩ := s0.own ho e m
      rw [z] at e1; cases e1
      exact l.there
    | shr => cases hl
    | own => cases hl
  | i :: is, _, _, _, hi, hl, mx => by
    have wh : ∀ {ks : List Bool} {vs : List V} {ps : List PV} {k : Bool} {v : V} {p : PV}, (k = true → isMut p = true → ∀ a, v = V.ref a → True) → Whence H (setΓ is ks Γ) (setV is vs σ) (setL is ps ρ) ks vs ps → Whence H ((setΓ is ks Γ).set i k) ((setV is vs σ).set i (some v)) ((setL is ps ρ).set i (some p)) (k :: ks) (v :: vs) (p :: ps) := fun {ks vs ps k v p} _ h j q a ho e m z => by
      have hk : k = true → i < (setΓ is ks Γ).length := fun _ => by rw [setΓ_len]; exact hi i List.mem_cons_self
      rw [isO_put hk] at ho
      by_cases hj : i = j
      · subst hj
        rw [if_pos rfl] at ho
        have h1 := List.getElem?_eq_some_iff.mp e
        have h2 := List.getElem?_eq_some_iff.mp z
        obtain ⟨_, h1⟩ := h1
        obtain ⟨_, h2⟩ := h2
        rw [List.getElem_set_self] at h1 h2
        cases h1; cases h2
        exact .inr ⟨0, p, by simp [ho], rfl, m, rfl⟩
      · rw [if_neg hj] at ho
        rw [List.getElem?_set_ne hj] at e z
        rcases h j q a ho e m z with h | ⟨l, q', h1, h2, h3, h4⟩
        · exact .inl h
        · exact .inr ⟨l + 1, q', by simpa using h1, by simpa using h2, h3, by simpa using h4⟩
    cases mx with
    | nil => cases hl
    | @shr ks v vs p ps r t =>
      obtain ⟨s1, w1⟩ := StaS.puts s0 w (is := is) (fun i h => hi i (List.mem_cons_of_mem _ h)) (by simpa using hl) t
      unfold setΓ setV setL
      exact ⟨s1.putS r, wh (fun _ _ _ _ => trivial) w1⟩
    | @own ks v vs p ps r n t =>
      obtain ⟨s1, w1⟩ := StaS.puts s0 w (is := is) (fun i h => hi i (List.mem_cons_of_mem _ h)) (by simpa using hl) t
      unfold setΓ setV setL
      refine ⟨s1.put (b := true) (fun _ => by rw [setΓ_len]; exact hi i List.mem_cons_self) ?_ ?_, wh (fun _ _ _ _ => trivial) w1⟩
      · rw [if_pos rfl]
        unfold New at r
        unfold Own
        by_cases m : isMut p = true
        · rw [if_pos m] at r ⊢
          obtain ⟨a, e, n1, n2, _, l⟩ := r
          exact ⟨a, e, n1, n2, l⟩
        · rw [if_neg m] at r ⊢
          exact r
      · intro _ m a e
        have r' := r
        unfold New at r'
        rw [if_pos m] at r'
        obtain ⟨a', e', _, _, n3, _⟩ := r'
        subst e'
        cases e
        refine ⟨?_, fun j q hn hj ej mj z => ?_⟩
        · cases z : B.H0 a with
          | none => rfl
          | some o =>
            obtain ⟨o', z2⟩ := s0.gr.there a o z
            rw [n3] at z2; cases z2
        · rcases w1 j q a hj ej mj z with ⟨o, h⟩ | ⟨l, q', h1, h2, h3, h4⟩
          · rw [n3] at h; cases h
          · exact n a rfl m l q' h1 h2 h3 h4
/-- stored left to right -/
def setF : List Nat → List V → L2.St → L2.St
  | i :: is, v :: vs, σ => setF is vs (σ.set i (some v))
  | _, _, σ => σ
theorem setV_comm {j : Nat} {u : V} : ∀ {is : List Nat} {vs : List V} {σ : L2.St}, j ∉ is → setV is vs (σ.set j (some u)) = (setV is vs σ).set j (some u)
  | [], _, _, _ => by unfold setV; rfl
  | _ :: _, [], _, _ => by unfold setV; rfl
  | i :: is, v :: vs, σ, h => by
    rw [List.mem_cons, not_or] at h
    unfold setV
    rw [setV_comm h.2, List.set_comm _ _ h.1]
theorem setF_V : ∀ {is : List Nat} {vs : List V} {σ : L2.St}, is.Nodup → setF is vs σ = setV is vs σ
  | [], _, _, _ => by unfold setF setV; rfl
  | _ :: _, [], _, _ => by unfold setF setV; rfl
  | i :: is, v :: vs, σ, h => by
    rw [List.nodup_cons] at h
    unfold setF setV
    rw [setF_V h.2, setV_comm h.1]
def gNames (is : List Nat) : TGs := fun vs σ H Q => vs.length = is.length ∧ Q (setF is vs σ) H
/-- plain names -/
def nmsOk (c : Cc) : List Nat → List Expr → Bool
  | [], [] => true
  | i :: is, .Name x _ :: es => decide (c.N[i]? = some x) && (locOk c x && nmsOk c is es)
  | _, _ => false
theorem sg_names {g : GC} {W : WX} (cx : Cxt X c g W C G) : ∀ {is : List Nat} {es : List Expr}, nmsOk c is es = true → PGs X es (gNames is) ∧ is.length = es.length ∧ ∀ e ∈ es, plainE e = true
  | [], [], _ => ⟨pgs_nil.imp fun vs σ H Q ⟨h1, h2⟩ => by
      have h1 : vs = [] := List.length_eq_zero_iff.mp h1
      subst h1
      unfold setF at h2
      exact ⟨rfl, h2⟩, rfl, fun _ h => by cases h⟩
  | [], _ :: _, h => by unfold nmsOk at h; exact no h
  | _ :: _, [], h => by unfold nmsOk at h; exact no h
  | i :: is, e :: es, h => by
    cases e with
    | Name x pos =>
      unfold nmsOk at h
      obtain ⟨h1, h2⟩ := an h
      obtain ⟨h3, h4⟩ := an h2
      obtain ⟨h5, h6⟩ := loc_of cx h3
      obtain ⟨k1, k2, k3⟩ := sg_names cx h4
      have hN : X.N.Nodup := by rw [cx.hN]; exact cx.nd
      refine ⟨(pgs_cons (pg_name hN (by rw [cx.hN]; exact of_decide_eq_true h1) h5 h6) k1 (by rw [assignEach_plain rfl]; rfl)).imp fun vs σ H Q ⟨q1, q2⟩ => ?_, congrArg Nat.succ k2, fun e' h' => ?_⟩
      · cases vs with
        | nil => cases q1
        | cons v vs =>
          unfold setF at q2
          exact ⟨v, vs, rfl, by simpa using q1, q2⟩
      · rcases List.mem_cons.mp h' with z | z
        · rw [z]; rfl
        · exact k3 e' z
    | _ => unfold nmsOk at h; exact no h
theorem Mix.length {g : GC} {H0 H : Hp} {F : Addr → Prop} : ∀ {ks : List Bool} {vs : List V} {ps : List PV}, Mix g H0 H F ks vs ps → vs.length = ps.length
  | _, _, _, .nil => rfl
  | _, _, _, .shr _ t => congrArg Nat.succ t.length
  | _, _, _, .own _ _ t => congrArg Nat.succ t.length
/-- what the stores ask, by values -/
theorem asgT_end {is : List Nat} {ks : List Bool} {H H1 : Hp} {F F1 : Addr → Prop} {σ : L2.St} {ρ : Env} {ps : List PV} {vs : List V} {Qd : Fl → Prop} {P : L2.St → Hp → Prop} (s : StaS B H F Γ σ ρ) (hi : ∀ i ∈ is, i < Γ.length) (hl : leΓ Γ1 (setΓ is ks Γ))
    (qn : ∀ ρ', Qd (.nx ρ') → ∀ σ' H' F', Keep B.g H F H' F' → StaS B H' F' Γ1 σ' ρ' → P σ' H') (w : Grow B.g H F H1 F1) (mx : Mix B.g H H1 F1 ks vs ps) (hn : is.length = ps.length) (hq : Qd (.nx (setL is ps ρ))) {H2 : Hp} (w2 : Grow B.g H1 F1 H2 F1) : P (setV is vs σ) H2 := by
  obtain ⟨s1, _⟩ := s.puts w hi hn mx
  obtain ⟨F3, s3, k3⟩ := (s1.grow w2).weaken hl
  exact qn _ hq _ _ F3 (((w.keep s.fca).trans (w2.keep w.fca)).trans k3) s3
theorem ss_asgT2 {i j : Nat} {x y : Str} {px py pt : Pos} {kt k2 : Nat} {pt2 : Pos} {ks : List Bool} {ms : Env → M (List PV)} (hlen : ∀ ρ Q E, ms ρ Q E → ms ρ (fun xs => Q xs ∧ xs.length = 2) E) (hc : X.calm = true) (hN : X.N.Nodup) (hi : X.N[i]? = some x) (hj : X.N[j]? = some y) (hij : i ≠ j)
    (hx : X.env.scope.names.lookup x = some .local) (hy : X.env.scope.names.lookup y = some .local) (ha : PA X [a, b] (TXm B.g B.W Γ ks ms)) (hw : swappedStores [.Tuple [.Name x px, .Name y py] kt pt] (.Tuple [a, b] k2 pt2) X.env = pure (some [x, y]))
    (hs : swapsWithSole [.Tuple [.Name x px, .Name y py] kt pt] (.Tuple [a, b] k2 pt2) pos.line X.env = pure false) (hr : ∀ l ∈ [i, j], l < Γ.length) (hl : leΓ Γ1 (setΓ [i, j] ks Γ)) :
    PS X (.Assign [.Tuple [.Name x px, .Name y py] kt pt] (.Tuple [a, b] k2 pt2) pos) (TSX B Γ Γ1 ΓL fun ρ => bd (ms ρ) fun vs => pu (.nx (setL [i, j] vs ρ))) := by
  refine (ps_par hc hN hi hj hij hx hy ha hw hs).imp fun D σ H ⟨F, ρ, Qd, E, s, hq, qn, qb, qc, qr, ex⟩ => ?_
  refine ⟨F, ρ, _, E, s.st, hlen _ _ _ hq, fun ps ⟨hp, hpl⟩ vs H1 F1 w mx => ?_, fun x hx => (ex x hx).at s⟩
  have hv : vs.length = 2 := mx.length.trans hpl
  match vs, hv with
  | [v1, v2], _ =>
    refine ⟨v1, v2, rfl, ?_⟩
    have := asgT_end (P := D.nx) (vs := [v1, v2]) s hr hl qn w mx hpl.symm hp w.st0.self
    have e : setV [i, j] [v1, v2] σ = (σ.set i (some v1)).set j (some v2) := by
      unfold setV setV setV
      exact List.set_comm _ _ (Ne.symm hij)
    rw [e] at this
    exact this
theorem ss_asgT3 {i j l : Nat} {x y z : Str} {d : Expr} {px py pz pt : Pos} {kt k2 : Nat} {pt2 : Pos} {ks : List Bool} {ms : Env → M (List PV)} (hlen : ∀ ρ Q E, ms ρ Q E → ms ρ (fun xs => Q xs ∧ xs.length = 3) E) (hc : X.calm = true) (hN : X.N.Nodup) (hi : X.N[i]? = some x) (hj : X.N[j]? = some y) (hk : X.N[l]? = some z) (hij : i ≠ j) (hil : i ≠ l) (hjl : j ≠ l)
    (hx : X.env.scope.names.lookup x = some .local) (hy : X.env.scope.names.lookup y = some .local) (hz : X.env.scope.names.lookup z = some .local) (ha : PA X [a, b, d] (TXm B.g B.W Γ ks ms)) (hw : swappedStores [.Tuple [.Name x px, .Name y py, .Name z pz] kt pt] (.Tuple [a, b, d] k2 pt2) X.env = pure (some [x, y, z]))
    (hs : swapsWithSole [.Tuple [.Name x px, .Name y py, .Name z pz] kt pt] (.Tuple [a, b, d] k2 pt2) pos.line X.env = pure false) (hr : ∀ u ∈ [i, j, l], u < Γ.length) (hl : leΓ Γ1 (setΓ [i, j, l] ks Γ)) :
    PS X (.Assign [.Tuple [.Name x px, .Name y py, .Name z pz] kt pt] (.Tuple [a, b, d] k2 pt2) pos) (TSX B Γ Γ1 ΓL fun ρ => bd (ms ρ) fun vs => pu (.nx (setL [i, j, l] vs ρ))) := by
  refine (ps_par3 hc hN hi hj hk hij hil hjl hx hy hz ha hw hs).imp fun D σ H ⟨F, ρ, Qd, E, s, hq, qn, qb, qc, qr, ex⟩ => ?_
  refine ⟨F, ρ, _, E, s.st, hlen _ _ _ hq, fun ps ⟨hp, hpl⟩ vs H1 F1 w mx => ?_, fun x hx => (ex x hx).at s⟩
  have hv : vs.length = 3 := mx.length.trans hpl
  match vs, hv with
  | [v1, v2, v3], _ =>
    refine ⟨v1, v2, v3, rfl, ?_⟩
    have := asgT_end (P := D.nx) (vs := [v1, v2, v3]) s hr hl qn w mx hpl.symm hp w.st0.self
    have e : setV [i, j, l] [v1, v2, v3] σ = ((σ.set i (some v1)).set j (some v2)).set l (some v3) := by
      unfold setV setV setV setV
      rw [List.set_comm _ _ (Ne.symm hjl), List.set_comm _ _ (Ne.symm hil), List.set_comm _ _ (Ne.symm hij)]
    rw [e] at this
    exact this
theorem ss_asgTn (cx : Cxt X c B.g B.W C G) {is : List Nat} {ts es : List Expr} {pt : Pos} {kt k2 : Nat} {pt2 : Pos} {ks : List Bool} {ms : Env → M (List PV)} (h : nmsOk c is ts = true) (hd : is.Nodup) (hlen : ∀ ρ Q E, ms ρ Q E → ms ρ (fun xs => Q xs ∧ xs.length = is.length) E) (hb : is.length ≤ 1000)
    (ha : PA X es (TXm B.g B.W Γ ks ms)) (hw : swappedStores [.Tuple ts kt pt] (.Tuple es k2 pt2) X.env = pure none) (hr : ∀ u ∈ is, u < Γ.length) (hl : leΓ Γ1 (setΓ is ks Γ)) :
    PS X (.Assign [.Tuple ts kt pt] (.Tuple es k2 pt2) pos) (TSX B Γ Γ1 ΓL fun ρ => bd (ms ρ) fun vs => pu (.nx (setL is vs ρ))) := by
  obtain ⟨h1, h2, h3⟩ := sg_names cx h
  have hg : PG X (.Tuple ts kt pt) (gTup X.K is.length (gNames is)) := pg_tup cx.calm h1 (by rw [assignEach_len]; exact h2.symm) (assignEach_star h3)
  refine (ps_asg (pe_tup ha) hg (by rfl) hw (by rfl)).imp fun D σ H ⟨F, ρ, Qd, E, s, hq, qn, qb, qc, qr, ex⟩ => ?_
  refine ⟨F, ρ, _, E, s.st, hlen _ _ _ hq, fun ps ⟨hp, hpl⟩ vs H1 F1 w mx => ⟨?_, fun p hf => ?_⟩, fun x hx => (ex x hx).at s⟩
  · rw [mx.length, hpl, line_eq]; show _ ≤ 16777216; omega
  · refine ⟨p, vs, rfl, .inl (.inl upd_same), mx.length.trans hpl, mx.length.trans hpl, ?_⟩
    rw [setF_V hd]
    exact asgT_end (P := D.nx) s hr hl qn w mx hpl.symm hp (w.st0.upd hf)
end
end HG
end
section
set_option maxHeartbeats 4000000
/-! HGChk: which text an expression stands for. -/
namespace HG
open PySem PySem.Spec PyProof.Rows L2
mutual
def namesOf : Expr → List Str
  | .Name x _ => [x]
  | .Tuple es _ _ => namesOfs es
  | _ => []
def namesOfs : List Expr → List Str
  | [] => []
  | e :: es => namesOf e ++ namesOfs es
end
def blkC (c : Cc) (scope : Scope) (own : List (Str × Nat)) : Bool :=
  decide (scope.kind = .function) && ((scope.names.all fun y => decide (scope.names.lookup y.1 = some y.2)) && ((own.all fun p => decide (c.N[p.2]? = some p.1)) &&
    ((scope.names.all fun y => match y.2 with | .free => (match c.sc.names.lookup y.1 with | some .cell => true | some .free => true | _ => false) | _ => true) &&
      (scope.names.all fun y => match y.2 with | .local => decide (y.1 ∈ own.map (·.1)) || !decide (y.1 ∈ c.N) | .cell => decide (y.1 ∈ own.map (·.1)) || !decide (y.1 ∈ c.N) | _ => true))))
def ownOf (tg : Tg) (e : Expr) : List (Str × Nat) := (namesOf e).zip (tgS tg)
def isTupE : Expr → Bool
  | .Tuple _ _ _ => true
  | _ => false
def isSetE : Expr → Bool
  | .Set _ _ _ => true
  | _ => false
def isPair : Ex → Bool
  | .zip _ _ => true
  | .enm _ => true
  | .items _ => true
  | _ => false
def pairOk (e : Ex) (tg : Expr) : Bool := isTupE tg || !isPair e
def isLitNone : Ex → Bool
  | .lit .none => true
  | _ => false
def isLitTrue : Ex → Bool
  | .lit (.bool true) => true
  | _ => false
/-- a test that is no choice -/
def plainT : Expr → Bool
  | .IfExp _ _ _ _ => false
  | _ => true
def isRng : Ex → Bool
  | .rng1 _ => true
  | .rng2 _ _ => true
  | _ => false
/-- these take a range -/
def isRgB : Bi → Bool
  | .list => true
  | .tuple => true
  | _ => false
def metNm : Mt → Str
  | .get1 => "get" | .get2 => "get" | .index => "index" | .count => "count" | .startswith => "startswith" | .join => "join"
def metArity (m : Mt) (es : List Ex) : Bool := match m with
  | .get1 => decide (es.length = 1)
  | .get2 => decide (es.length = 2)
  | _ => false
mutual
/-- the term stands for the text; it: where something is walked -/
def chkE (c : Cc) (Γ : List Bool) (k : Kd) (it : Bool) : Ex → Expr → Bool
  | .lit v, e' => match e' with
    | .Constant x _ _ => litOk v x
    | _ => false
  | .var i, e' => match e' with
    | .Name x _ => varOk c i x && (match k with | .any => true | .shr => !isO Γ i | .own => false)
    | _ => false
  | .glb n, e' => match e' with
    | .Name x _ => glOk c x && (decide (c.Gn[n]? = some x) && (match k with | .own => false | _ => true))
    | _ => false
  | .fnv f, e' => match e' with
    | .Name x _ => glOk c x && decide (c.T[f]? = some x)
    | _ => false
  | .tup es, e' => match e' with
    | .Tuple es' _ _ => decide (es.length ≤ 1000) && chkEs c Γ .shr es es'
    | _ => false
  | .lst es, e' => match e' with
    | .List es' _ => decide (es.length ≤ 1000) && chkEs c Γ .shr es es'
    | _ => false
  | .dct ks vs, e' => match e' with
    | .Dict [] [] _ => ks.isEmpty && vs.isEmpty
    | .Dict [some k'] [v'] _ => chk1 c Γ .shr ks k' && chk1 c Γ .shr vs v'
    | _ => false
  | .bin o a b, e' => match e' with
    | .BinOp a' p b' _ => opB o p && (chkE c Γ .any false a a' && chkE c Γ .any false b b')
    | _ => false
  | .neg a, e' => match e' with
    | .UnaryOp .USub a' _ => chkE c Γ .any false a a'
    | _ => false
  | .nt a, e' => match e' with
    | .UnaryOp .Not a' _ => plainT a' && chkE c Γ .any false a a'
    | _ => false
  | .an a b, e' => match e' with
    | .BoolOp .And (a' :: b' :: r) p => plainT a' && (chkE c Γ .any false a a' && (match r with | [] => plainT b' && chkE c Γ k false b b' | r1 :: r2 => chkE c Γ k false b (.BoolOp .And (b' :: r1 :: r2) p)))
    | _ => false
  | .or_ a b, e' => match e' with
    | .BoolOp .Or (a' :: b' :: r) p => plainT a' && (chkE c Γ .any false a a' && (match r with | [] => plainT b' && chkE c Γ k false b b' | r1 :: r2 => chkE c Γ k false b (.BoolOp .Or (b' :: r1 :: r2) p)))
    | _ => false
  | .cmp o a b, e' => match e' with
    | .Compare a' [p] [b'] _ => decide (p = cop o) && (!behindInMarks p b' && (chkE c Γ .any false a a' && chkE c Γ .any false b b'))
    | _ => false
  | .chn o q a b d, e' => match e' with
    | .Compare a' [p, p'] [b', d'] _ => decide (p = cop o) && (decide (p' = cop q) && (!lastMarks [p, p'] [b', d'] && (chkE c Γ .any false a a' && (chkE c Γ .any false b b' && chkE c Γ .any false d d'))))
    | _ => false
  | .ite t a b, e' => match e' with
    | .IfExp t' a' b' _ => plainT t' && (chkE c Γ .any false t t' && (chkE c Γ k false a a' && chkE c Γ k false b b'))
    | _ => false
  | .idx a i, e' => match e' with
    | .Subscript a' i' _ => plainE i' && ((match k with | .own => false | _ => true) && (chkE c Γ .any false a a' && chkE c Γ .any false i i'))
    | _ => false
  | .slc a lo hi, e' => match e' with
    | .Subscript a' (.Slice lo' hi' none _) _ => chkE c Γ .any false a a' && ((match lo' with | none => isLitNone lo | some e' => chkE c Γ .any false lo e') && (match hi' with | none => isLitNone hi | some e' => chkE c Γ .any false hi e'))
    | _ => false
  | .rvs a, e' => match e' with
    | .Subscript a' (.Slice none none (some (.UnaryOp .USub (.Constant (.int 1) _ _) _)) _) _ => chkE c Γ .any false a a'
    | _ => false
  | .rvf a lo, e' => match e' with
    | .Subscript a' (.Slice (some lo') none (some (.UnaryOp .USub (.Constant (.int 1) _ _) _)) _) _ => chkE c Γ .any false a a' && chkE c Γ .any false lo lo'
    | _ => false
  | .call f es, e' => match e' with
    | .Call (.Name x _) es' [] _ => glOk c x && (decide (c.T[f]? = some x) && ((match k with | .own => false | _ => true) && (!es.isEmpty && chkEs c Γ .shr es es')))
    | _ => false
  | .callv _ _, _ => false
  | .roll e m, e' => match e' with
    | .Call (.Name x _) [a', b'] [] _ => glOk c x && (decide (x = "_law_roll") && (plainE a' && (plainE b' && (chkE c Γ .any false e a' && chkE c Γ .any false m b'))))
    | _ => false
  | .bi b es, e' => match e' with
    | .Call (.Name x _) es' [] _ => glOk c x && (decide (x = Str.ofString (biNm b)) && (biHas b && ((match k with | .own => biOwn b | _ => true) && (!es.isEmpty && (chkEs c Γ .any es es' || (isRgB b && chkR c Γ es es'))))))
    | _ => false
  | .isi a t, e' => match e' with
    | .Call (.Name x _) [a', .Name y _] [] _ => glOk c x && (decide (x = "isinstance") && (glOk c y && (decide (y = Str.ofString (tyNm t)) && (plainE a' && chkE c Γ .any false a a'))))
    | _ => false
  | .met m o es, e' => match e' with
    | .Call (.Attribute o' y p2) es' [] p3 => decide (y = metNm m) && (baseOk o' && ((p2.endLine == p3.line) && ((match k with | .own => false | _ => true) && (chkE c Γ .any false o o' && (metArity m es && chkM c Γ es es')))))
    | _ => false
  | .rng1 b, e' => match e' with
    | .Call (.Name x _) [b'] [] _ => it && (glOk c x && (decide (x = "range") && (plainE b' && chkE c Γ .any false b b')))
    | _ => false
  | .rng2 a b, e' => match e' with
    | .Call (.Name x _) [a', b'] [] _ => it && (glOk c x && (decide (x = "range") && (plainE a' && (plainE b' && (chkE c Γ .any false a a' && chkE c Γ .any false b b')))))
    | _ => false
  | .rngd a b, e' => match e' with
    | .Call (.Name x _) [a', b', .UnaryOp .USub (.Constant (.int 1) _ _) _] [] _ => it && (glOk c x && (decide (x = "range") && (plainE a' && (plainE b' && (chkE c Γ .any false a a' && chkE c Γ .any false b b')))))
    | _ => false
  | .zip a b, e' => match e' with
    | .Call (.Name x _) [a', b'] [] _ => it && (glOk c x && (decide (x = "zip") && (plainE a' && (plainE b' && (chkE c Γ k false a a' && chkE c Γ k false b b')))))
    | _ => false
  | .enm a, e' => match e' with
    | .Call (.Name x _) [a'] [] _ => it && (glOk c x && (decide (x = "enumerate") && (plainE a' && chkE c Γ k false a a')))
    | _ => false
  | .rvd _, _ => false
  | .items a, e' => match e' with
    | .Call (.Attribute a' y p2) [] [] p3 => it && (decide (y = "items") && (baseOk a' && ((p2.endLine == p3.line) && chkE c Γ k false a a')))
    | _ => false
  | .vals _, _ => false
  | .lc1 e tg i cd, e' => match e' with
    | .ListComp elt [⟨tg', i', ifs, 0⟩] scope _ => decide ((ownOf tg tg').map (·.2) = tgS tg) && (blkC c scope (ownOf tg tg') && (!isSetE i' && (pairOk i tg' && (chkE c Γ .any true i i' && (chkTg (c.blk scope) (ΓW Γ (tgS tg)) tg tg' &&
        ((match ifs with | [] => isLitTrue cd | [t] => plainT t && chkE (c.blk scope) (ΓW Γ (tgS tg)) .any false cd t | _ => false) && chkE (c.blk scope) (ΓW Γ (tgS tg)) .shr false e elt))))))
    | _ => false
  | .lc2 e tg i cd tg2 i2 cd2, e' => match e' with
    | .ListComp elt [⟨tg', i', ifs, 0⟩, ⟨tg2', i2', ifs2, 0⟩] scope _ => decide ((ownOf tg tg' ++ ownOf tg2 tg2').map (·.2) = tgS tg ++ tgS tg2) && (blkC c scope (ownOf tg tg' ++ ownOf tg2 tg2') && (!isSetE i' && (!isSetE i2' && (pairOk i tg' && (pairOk i2 tg2' && (chkE c Γ .any true i i' && (chkTg (c.blk scope) (ΓW Γ (tgS tg ++ tgS tg2)) tg tg' &&
        (chkTg (c.blk scope) (ΓW (ΓW Γ (tgS tg ++ tgS tg2)) (tgS tg2)) tg2 tg2' &&
          ((match ifs with | [] => isLitTrue cd | [t] => plainT t && chkE (c.blk scope) (ΓW Γ (tgS tg ++ tgS tg2)) .any false cd t | _ => false) &&
            (chkE (c.blk scope) (ΓW Γ (tgS tg ++ tgS tg2)) .shr true i2 i2' &&
              ((match ifs2 with | [] => isLitTrue cd2 | [t] => plainT t && chkE (c.blk scope) (ΓW (ΓW Γ (tgS tg ++ tgS tg2)) (tgS tg2)) .any false cd2 t | _ => false) &&
                chkE (c.blk scope) (ΓW (ΓW Γ (tgS tg ++ tgS tg2)) (tgS tg2)) .shr false e elt)))))))))))
    | _ => false
  | .dc1 kk w tg i cd, e' => match e' with
    | .DictComp kx vx [⟨tg', i', ifs, 0⟩] scope _ => decide ((ownOf tg tg').map (·.2) = tgS tg) && (blkC c scope (ownOf tg tg') && (!isSetE i' && (pairOk i tg' && (chkE c Γ .any true i i' && (chkTg (c.blk scope) (ΓW Γ (tgS tg)) tg tg' &&
        ((match ifs with | [] => isLitTrue cd | [t] => plainT t && chkE (c.blk scope) (ΓW Γ (tgS tg)) .any false cd t | _ => false) && (chkE (c.blk scope) (ΓW Γ (tgS tg)) .shr false kk kx && chkE (c.blk scope) (ΓW Γ (tgS tg)) .shr false w vx)))))))
    | _ => false
  | .dc2 _ _ _ _ _ _ _ _, _ => false
def chkEs (c : Cc) (Γ : List Bool) (k : Kd) : List Ex → List Expr → Bool
  | [], es' => es'.isEmpty
  | e :: es, es' => match es' with
    | [] => false
    | e' :: r => plainE e' && (chkE c Γ k false e e' && chkEs c Γ k es r)
/-- just one -/
def chk1 (c : Cc) (Γ : List Bool) (k : Kd) : List Ex → Expr → Bool
  | [], _ => false
  | e :: es, e' => es.isEmpty && chkE c Γ k false e e'
/-- a key, and what else there is -/
def chkM (c : Cc) (Γ : List Bool) : List Ex → List Expr → Bool
  | [], es' => es'.isEmpty
  | e :: es, es' => match es' with
    | [] => false
    | e' :: r => plainE e' && (chkE c Γ .any false e e' && chkEs c Γ .shr es r)
/-- one range, as an argument -/
def chkR (c : Cc) (Γ : List Bool) : List Ex → List Expr → Bool
  | [], _ => false
  | e :: es, es' => match es' with
    | [] => false
    | e' :: r => es.isEmpty && (r.isEmpty && (isRng e && (plainE e' && chkE c Γ .any true e e')))
end
end HG
end
section
set_option maxHeartbeats 4000000
/-! HGMet: {}, d.get(k), d.get(k, x). -/
namespace HG
open PySem PySem.Spec PyProof.Rows L2
def tGet1 (g : GC) (td ty : TE) : TE := fun σ H Q => td σ H fun x H1 => ∃ a kvs, x = .ref a ∧ DRep g H1 a kvs ∧ ty σ H1 fun y H2 => ∃ kvs k, DRep g H2 a kvs ∧ kndOk (kvs.map (·.1)) k = true ∧ DKey g H2 y k ∧ Q ((vget kvs k).getD .non) H2
def tGet2 (g : GC) (td ty tx : TE) : TE := fun σ H Q => td σ H fun x H1 => ∃ a kvs, x = .ref a ∧ DRep g H1 a kvs ∧ ty σ H1 fun y H2 => tx σ H2 fun z H3 => ∃ kvs k, DRep g H3 a kvs ∧ kndOk (kvs.map (·.1)) k = true ∧ DKey g H3 y k ∧ Q ((vget kvs k).getD z) H3
theorem DRep.noDict {X : Cx} {g : GC} {pins : List (Addr × Obj)} {σ : L2.St} {H : Hp} {s : Shared} {a : Addr} {kvs : List (PV × V)} (I : Inv X pins σ H s) (d : DRep g H a kvs) : ∀ b, Value.ref a = .ref b → ∃ ob, s.heap.get? b = some ob ∧ ob.dict = none := fun b q => by
  cases q
  obtain ⟨o, es, ep, ks, h1, h2, _⟩ := d.obj
  exact ⟨o, (show ObjOk X.prog X.w H s.heap a (dO a o) from I.hok a _ h1).1, h2.2.1⟩
theorem pe_get1 {X : Cx} {g : GC} {o e : Expr} {apos cpos : Pos} {td ty : TE} (hK : X.K = g.K) (hP : X.prog = g.P) (hW : X.w = g.w) (hu : X.A.units + 9 < cLine) (ho : PE X o td) (he : PE X e ty) (m : M1 X o "get" apos e cpos) : PE X (.Call (.Attribute o "get" apos) [e] [] cpos) (tGet1 g td ty) := by
  refine ⟨fun pins s σ H Q I h => ?_⟩
  refine wpAny_Call_method m.base m.few m.line PySem.F.plainAttrs_dict PySem.F.slot_dict_get PySem.F.type_dict_get (thn (ho.run pins s σ H _ I h) fun u s1 ⟨x, H1, I1, rx, a, kvs, ex, d, q1⟩ => ?_)
  subst ex
  obtain rfl : u = Value.ref a := rx
  refine ⟨d.typeIs I1, d.noDict I1, ?_⟩
  rw [m.trees]
  refine Calls.callWith_builtin rfl (Calls.evalArgs_plain (Calls.spliced_cons (thn (he.run pins s1 σ H1 _ I1 q1) fun iv s2 ⟨y, H2, I2, ry, kvs2, k, d2, kk, dk, q2⟩ => Calls.spliced_nil ?_)))
  exact dr_get1 hK hP hW hu I2 d2 kk dk ry fun w' s4 I4 rw' => ⟨_, H2, I4, rw', q2⟩
theorem pe_get2 {X : Cx} {g : GC} {o e f : Expr} {apos cpos : Pos} {td ty tx : TE} (hK : X.K = g.K) (hP : X.prog = g.P) (hW : X.w = g.w) (hu : X.A.units + 9 < cLine) (ho : PE X o td) (he : PE X e ty) (hf : PE X f tx) (m : M2 X o "get" apos e f cpos) : PE X (.Call (.Attribute o "get" apos) [e, f] [] cpos) (tGet2 g td ty tx) := by
  refine ⟨fun pins s σ H Q I h => ?_⟩
  refine wpAny_Call_method m.base m.few m.line PySem.F.plainAttrs_dict PySem.F.slot_dict_get PySem.F.type_dict_get (thn (ho.run pins s σ H _ I h) fun u s1 ⟨x, H1, I1, rx, a, kvs, ex, d, q1⟩ => ?_)
  subst ex
  obtain rfl : u = Value.ref a := rx
  refine ⟨d.typeIs I1, d.noDict I1, ?_⟩
  rw [m.trees]
  refine Calls.callWith_builtin rfl (Calls.evalArgs_plain (Calls.spliced_cons (thn (he.run pins s1 σ H1 _ I1 q1) fun iv s2 ⟨y, H2, I2, ry, q2⟩ =>
    Calls.spliced_cons (thn (hf.run pins s2 σ H2 _ I2 q2) fun fv s3 ⟨z, H3, I3, rz, kvs2, k, d2, kk, dk, q3⟩ => Calls.spliced_nil ?_))))
  exact dr_get2 hK hP hW hu I3 d2 kk dk ry rz fun w' s4 I4 rw' => ⟨_, H3, I4, rw', q3⟩
section
variable {X : Cx} {c : Cc} {g : GC} {W : WX} {C : Nat → List PV → M PV} {G : List PV} {Γ : List Bool} {k : Kd} {m ma mb mc : Env → M PV} {e a b d o f : Expr} {pos p2 p3 : Pos}
/-- {} -/
theorem snd_dnew : PE X (.Dict [] [] pos) (TX g W Γ k fun _ => pu (.dict [])) := by
  refine PE.of_own k ((pe_dnewO (g := g)).imp fun σ H Q ⟨F, ρ, Qd, E, s, hq, q, _⟩ => ?_)
  intro p o hp dr
  have w := s.st0.upd (o := dO p o) hp
  refine q _ hq _ _ F w ?_
  show New g H _ F _ _
  unfold New
  rw [if_pos (show isMut (.dict []) = true from rfl)]
  exact ⟨p, rfl, s.st0.notF hp, s.st0.ne_ca hp, hp, .inr ⟨[], [], dr, .nil, rfl⟩⟩
/-- a dict whatever grows -/
theorem AnyR.dictG {H H' : Hp} {F F' : Addr → Prop} {ds : KVs} {v : V} (h : AnyR g H F v (.dict ds)) (m : plainD (.dict ds) = true) (w : Grow g H F H' F') : ∃ a kvs vs, v = .ref a ∧ DRep g H a kvs ∧ DRep g H' a kvs ∧ Reps g H' F' (kvs.map (·.2)) vs ∧ ds = (kvs.map (·.1)).zip vs := by
  obtain ⟨a, kvs, vs, e, n, dr, rr, e2⟩ := h.dict m
  exact ⟨a, kvs, vs, e, dr, dr.ext w.ext n, rr.ext w.ext w.mono, e2⟩
theorem rk_of {H H' : Hp} {F' : Addr → Prop} {v : V} {p : PV} (hk : (match k with | .own => false | _ => true) = true) (r : Rep g H' F' v p) : RK k g H H' F' v p := by
  cases k with
  | any => exact r.any
  | shr => exact r
  | own => exact no hk
theorem snd_get1 (cx : Cxt X c g W C G) (hb : baseOk o = true) (hl : (p2.endLine == p3.line) = true) (hk : (match k with | .own => false | _ => true) = true) (hp : plainE e = true) (ho : PE X o (TX g W Γ .any m)) (he : PE X e (TX g W Γ .any ma)) :
    PE X (.Call (.Attribute o "get" p2) [e] [] p3) (TX g W Γ k fun ρ => bd (m ρ) fun x => gd (metOn .get1 x = true) (bd (bd (ma ρ) fun y => bd (pu []) fun ys => pu (y :: ys)) fun vs => pMet .get1 x vs)) := by
  have hst : starEach [e] X.env = [(false, eval e X.env)] := star_plain hp
  refine (pe_get1 cx.hK cx.hP cx.hW (by have := cx.hu; omega) ho he ⟨base_of hb, by rw [hst]; rfl, hl, by rw [hst]; rfl⟩).imp fun σ H Q ⟨F, ρ, Qd, E, s, hq, q, ex⟩ => ?_
  refine ⟨F, ρ, _, E, s, hq, fun p hp v H1 F1 w r => ?_, ex⟩
  obtain ⟨hm, hp⟩ := hp
  cases p <;> first | (exact absurd (show false = true from hm) Bool.false_ne_true) | skip
  rename_i ds
  have r : AnyR g H1 F1 v (.dict ds) := r
  obtain ⟨a, kvs, vs, rfl, n, dr, rr, e2⟩ := r.dict hm
  refine ⟨a, kvs, rfl, dr, F1, ρ, _, E, s.grow w, hp, fun y hy vy H2 F2 w2 ry => ?_, fun x hx => (ex x hx).grow w⟩
  have hy : gd (plainD (.dict ds) = true ∧ kndOk (ds.map (·.1)) y = true) (pu ((dget ds y).getD .none)) Qd E := hy
  obtain ⟨⟨_, kk⟩, hy⟩ := hy
  have ry : AnyR g H2 F2 vy y := ry
  subst e2
  rw [zip_fst _ _ rr.lenV] at kk
  have rr2 := rr.ext w2.ext w2.mono
  refine ⟨kvs, y, dr.ext w2.ext n, kk, ry.dkey (kndOk_key kk), q _ hy _ _ F2 (w.trans w2) (rk_of hk ?_)⟩
  obtain ⟨e1, e2⟩ := get_rep (k := y) rr2
  cases h : dget ((kvs.map (·.1)).zip vs) y with
  | none =>
    rw [h] at e1
    cases h2 : vget kvs y with
    | none => exact .non
    | some v => rw [h2] at e1; cases e1
  | some d =>
    obtain ⟨v1, h2, r2⟩ := e2 d h
    rw [h2]
    exact r2
theorem snd_get2 (cx : Cxt X c g W C G) (hb : baseOk o = true) (hl : (p2.endLine == p3.line) = true) (hk : (match k with | .own => false | _ => true) = true) (hp : plainE e = true) (hp2 : plainE f = true) (ho : PE X o (TX g W Γ .any m)) (he : PE X e (TX g W Γ .any ma)) (hf : PE X f (TX g W Γ .shr mb)) :
    PE X (.Call (.Attribute o "get" p2) [e, f] [] p3) (TX g W Γ k fun ρ => bd (m ρ) fun x => gd (metOn .get2 x = true) (bd (bd (ma ρ) fun y => bd (bd (mb ρ) fun z => bd (pu []) fun zs => pu (z :: zs)) fun ys => pu (y :: ys)) fun vs => pMet .get2 x vs)) := by
  have hst : starEach [e, f] X.env = [(false, eval e X.env), (false, eval f X.env)] := (star_plain hp).trans (congrArg _ (star_plain hp2))
  refine (pe_get2 cx.hK cx.hP cx.hW (by have := cx.hu; omega) ho he hf ⟨base_of hb, by rw [hst]; rfl, hl, by rw [hst]; rfl⟩).imp fun σ H Q ⟨F, ρ, Qd, E, s, hq, q, ex⟩ => ?_
  refine ⟨F, ρ, _, E, s, hq, fun p hp v H1 F1 w r => ?_, ex⟩
  obtain ⟨hm, hp⟩ := hp
  cases p <;> first | (exact absurd (show false = true from hm) Bool.false_ne_true) | skip
  rename_i ds
  have r : AnyR g H1 F1 v (.dict ds) := r
  obtain ⟨a, kvs, vs, rfl, n, dr, rr, e2⟩ := r.dict hm
  refine ⟨a, kvs, rfl, dr, F1, ρ, _, E, s.grow w, hp, fun y hy vy H2 F2 w2 ry => ?_, fun x hx => (ex x hx).grow w⟩
  refine ⟨F2, ρ, _, E, (s.grow w).grow w2, hy, fun z hz vz H3 F3 w3 rz => ?_, fun x hx => (ex x hx).grow (w.trans w2)⟩
  have hz : gd (plainD (.dict ds) = true ∧ kndOk (ds.map (·.1)) y = true) (pu ((dget ds y).getD z)) Qd E := hz
  obtain ⟨⟨_, kk⟩, hz⟩ := hz
  have ry : AnyR g H2 F2 vy y := ry
  have ry3 : AnyR g H3 F3 vy y := ry.ext w3.ext w3.mono
  have rz : Rep g H3 F3 vz z := rz
  subst e2
  rw [zip_fst _ _ rr.lenV] at kk
  have w23 := w2.trans w3
  have rr2 := rr.ext w23.ext w23.mono
  refine ⟨kvs, y, dr.ext w23.ext n, kk, ry3.dkey (kndOk_key kk), q _ hz _ _ F3 (w.trans w23) (rk_of hk ?_)⟩
  obtain ⟨e1, e2⟩ := get_rep (k := y) rr2
  cases h : dget ((kvs.map (·.1)).zip vs) y with
  | none =>
    rw [h] at e1
    cases h2 : vget kvs y with
    | none => exact rz
    | some v => rw [h2] at e1; cases e1
  | some d =>
    obtain ⟨v1, h2, r2⟩ := e2 d h
    rw [h2]
    exact r2
end
end HG
end
section
set_option maxHeartbeats 4000000
/-! HGMono: a denotation asks no more where less is wanted. -/
namespace HG
open PySem
def Mono {α : Type} (m : M α) : Prop := ∀ (Q Q' : α → Prop) (E E' : PV → Prop), (∀ a, Q a → Q' a) → (∀ x, E x → E' x) → m Q E → m Q' E'
section
variable {α β : Type}
theorem mono_pu (a : α) : Mono (pu a) := fun _ _ _ _ h _ q => h a q
theorem mono_stuck : Mono (stuck : M α) := fun _ _ _ _ _ _ q => q
theorem mono_rz (x : PV) : Mono (rz x : M α) := fun _ _ _ _ _ h q => h x q
theorem mono_bd {m : M α} {f : α → M β} (hm : Mono m) (hf : ∀ a, Mono (f a)) : Mono (bd m f) := fun Q Q' E E' h1 h2 q => hm _ _ E E' (fun a qa => hf a Q Q' E E' h1 h2 qa) h2 q
theorem mono_gd {c : Prop} {m : M α} (hm : Mono m) : Mono (gd c m) := fun Q Q' E E' h1 h2 q => ⟨q.1, hm Q Q' E E' h1 h2 q.2⟩
theorem mono_noX {m : M α} (hm : Mono m) : Mono (noX m) := fun Q Q' E E' h1 h2 q => hm Q Q' _ _ h1 (fun _ z => z) q
theorem mono_rl (n : Int) : Mono (rl n) := fun Q Q' E E' h1 h2 q => ⟨q.1, fun r h0 hn => h1 _ (q.2 r h0 hn)⟩
theorem mono_asB (v : PV) {k : Bool → M α} (hk : ∀ b, Mono (k b)) : Mono (asB v k) := by unfold asB; split; exact hk _; exact mono_stuck
theorem mono_asI (v : PV) {k : Int → M α} (hk : ∀ b, Mono (k b)) : Mono (asI v k) := by unfold asI; split; exact hk _; exact mono_stuck
theorem mono_ofO (o : Option α) : Mono (ofO o) := by cases o; exact mono_stuck; exact mono_pu _
theorem mono_getV (ρ : Env) (i : Nat) : Mono (getV ρ i) := by unfold getV; split; exact mono_pu _; exact mono_stuck
theorem mono_ite {c : Prop} [Decidable c] {a b : M α} (ha : Mono a) (hb : Mono b) : Mono (if c then a else b) := by split; exact ha; exact hb
end
theorem mono_pBin (o : Bop) (x y : PV) : Mono (pBin o x y) := by
  unfold pBin
  split <;> first | exact mono_pu _ | exact mono_gd (mono_pu _) | exact mono_stuck
theorem mono_pNeg (x : PV) : Mono (pNeg x) := by unfold pNeg; split <;> first | exact mono_pu _ | exact mono_stuck
theorem mono_pIn (x y : PV) : Mono (pIn x y) := by unfold pIn; split <;> first | exact mono_pu _ | exact mono_gd (mono_pu _) | exact mono_stuck | (split <;> first | exact mono_pu _ | exact mono_stuck)
theorem mono_pIs (x y : PV) : Mono (pIs x y) := by unfold pIs; split <;> first | exact mono_pu _ | exact mono_gd (mono_pu _) | exact mono_stuck
theorem mono_nB {m : M PV} (h : Mono m) : Mono (nB m) := mono_bd h fun v => mono_asB v fun b => mono_pu _
theorem mono_pEq (x y : PV) : Mono (pEq x y) := by unfold pEq; split <;> first | exact mono_pu _ | exact mono_gd (mono_pu _) | exact mono_stuck
theorem mono_pCmp (o : Cop) (x y : PV) : Mono (pCmp o x y) := by
  cases o
  · exact mono_pEq x y
  · exact mono_nB (mono_pEq x y)
  · exact mono_gd (mono_pu _)
  · exact mono_gd (mono_pu _)
  · exact mono_gd (mono_pu _)
  · exact mono_gd (mono_pu _)
  · exact mono_pIn x y
  · exact mono_nB (mono_pIn x y)
  · exact mono_pIs x y
  · exact mono_nB (mono_pIs x y)
theorem mono_pIdx (x y : PV) : Mono (pIdx x y) := by unfold pIdx; split <;> first | exact mono_ofO _ | exact mono_gd (mono_ofO _) | exact mono_stuck
theorem mono_pSlc (x l h : PV) : Mono (pSlc x l h) := by
  unfold pSlc
  split <;> first | exact mono_stuck | exact mono_bd (mono_ofO _) fun _ => mono_bd (mono_ofO _) fun _ => mono_pu _ | exact mono_bd (mono_ofO _) fun _ => mono_bd (mono_ofO _) fun _ => mono_gd (mono_pu _)
theorem mono_pRev (x : PV) : Mono (pRev x) := by unfold pRev; split <;> first | exact mono_pu _ | exact mono_gd (mono_pu _) | exact mono_stuck
theorem mono_pRvf (x l : PV) : Mono (pRvf x l) := by unfold pRvf; split <;> first | exact mono_pu _ | exact mono_stuck
theorem mono_iterV (x : PV) : Mono (iterV x) := by unfold iterV; split <;> first | exact mono_pu _ | exact mono_gd (mono_pu _) | exact mono_stuck
theorem mono_seqV (x : PV) : Mono (seqV x) := by unfold seqV; split <;> first | exact mono_pu _ | exact mono_stuck
theorem mono_pMet (m : Mt) (o : PV) (vs : List PV) : Mono (pMet m o vs) := by unfold pMet; split <;> first | exact mono_pu _ | exact mono_gd (mono_pu _) | exact mono_stuck
theorem mono_pZip (x y : PV) : Mono (pZip x y) := by unfold pZip; split <;> first | exact mono_pu _ | exact mono_stuck
theorem mono_pEnm (x : PV) : Mono (pEnm x) := by unfold pEnm; split <;> first | exact mono_pu _ | exact mono_stuck
theorem mono_pMin2 (x y : PV) : Mono (pMin2 x y) := by unfold pMin2; split <;> first | exact mono_pu _ | exact mono_gd (mono_pu _) | exact mono_stuck
theorem mono_pBi (b : Bi) (vs : List PV) : Mono (pBi b vs) := by
  unfold pBi
  split <;> first
    | exact mono_pu _ | exact mono_gd (mono_pu _) | exact mono_stuck | exact mono_pMin2 _ _
    | exact mono_bd (mono_ofO _) fun _ => mono_pu _
    | exact mono_bd (mono_ofO _) fun _ => mono_gd (mono_pu _)
    | exact mono_bd (mono_seqV _) fun _ => mono_gd (mono_pu _)
    | exact mono_bd (mono_iterV _) fun _ => mono_gd (mono_pu _)
    | (refine mono_bd (mono_seqV _) fun _ => ?_; split <;> first | exact mono_stuck | exact mono_gd (mono_pu _))
mutual
theorem mono_bindT : ∀ (tg : Tg) (v : PV) (ρ : Env), Mono (bindT tg v ρ)
  | .nm i, v, ρ => mono_pu _
  | .tp ts, v, ρ => by
    cases v <;> first | exact mono_stuck | exact mono_gd (mono_bindTs ts _ ρ)
theorem mono_bindTs : ∀ (ts : List Tg) (vs : List PV) (ρ : Env), Mono (bindTs ts vs ρ)
  | [], vs, ρ => by unfold bindTs; exact mono_pu _
  | t :: ts, [], ρ => by unfold bindTs; exact mono_pu _
  | t :: ts, v :: vs, ρ => mono_bd (mono_bindT t v ρ) fun ρ' => mono_bindTs ts vs ρ'
end
theorem mono_mfm {f : PV → M (Option PV)} (h : ∀ x, Mono (f x)) : ∀ xs, Mono (mfm f xs)
  | [] => mono_pu _
  | x :: xs => mono_bd (h x) fun y => mono_bd (mono_mfm h xs) fun ys => mono_pu _
theorem mono_mfl {f : PV → List PV → M (List PV)} (h : ∀ x a, Mono (f x a)) : ∀ xs a, Mono (mfl f xs a)
  | [], a => mono_pu _
  | x :: xs, a => mono_bd (h x a) fun y => mono_mfl h xs y
theorem mono_itemsV (d : PV) : Mono (itemsV d) := by unfold itemsV; split <;> first | exact mono_gd (mono_pu _) | exact mono_stuck
theorem mono_mkd {f : PV → M (Option (PV × PV))} (h : ∀ x, Mono (f x)) : ∀ xs d, Mono (mkd f xs d)
  | [], d => mono_pu _
  | x :: xs, d => mono_bd (h x) fun y => by
    cases y with
    | none => exact mono_mkd h xs d
    | some p => exact mono_gd (mono_mkd h xs _)
theorem mono_mkdl {f : PV → KVs → M KVs} (h : ∀ x a, Mono (f x a)) : ∀ xs a, Mono (mkdl f xs a)
  | [], a => mono_pu _
  | x :: xs, a => mono_bd (h x a) fun y => mono_mkdl h xs y
theorem mono_putAll : ∀ ks vs d, Mono (putAll ks vs d)
  | [], [], d => mono_pu _
  | [], _ :: _, d => mono_stuck
  | _ :: _, [], d => mono_stuck
  | k :: ks, v :: vs, d => mono_gd (mono_putAll ks vs _)
section
variable {C : Nat → List PV → M PV} {G : List PV}
mutual
theorem mono_denE (hC : ∀ f vs, Mono (C f vs)) : ∀ (e : Ex) (ρ : Env), Mono (denE C G e ρ)
  | .lit v, _ => mono_pu _
  | .var i, ρ => mono_getV ρ i
  | .glb g, _ => mono_ofO _
  | .fnv f, _ => mono_pu _
  | .tup es, ρ => mono_bd (mono_denEs hC es ρ) fun vs => mono_pu _
  | .lst es, ρ => mono_bd (mono_denEs hC es ρ) fun vs => mono_pu _
  | .dct ks vs, ρ => mono_bd (mono_denEs hC ks ρ) fun ks => mono_bd (mono_denEs hC vs ρ) fun vs => mono_bd (mono_putAll _ _ _) fun d => mono_pu _
  | .bin o a b, ρ => mono_bd (mono_denE hC a ρ) fun x => mono_bd (mono_denE hC b ρ) fun y => mono_pBin o x y
  | .neg a, ρ => mono_bd (mono_denE hC a ρ) mono_pNeg
  | .nt a, ρ => mono_bd (mono_denE hC a ρ) fun x => mono_asB x fun b => mono_pu _
  | .an a b, ρ => mono_bd (mono_denE hC a ρ) fun x => mono_asB x fun c => mono_ite (mono_denE hC b ρ) (mono_pu _)
  | .or_ a b, ρ => mono_bd (mono_denE hC a ρ) fun x => mono_asB x fun c => mono_ite (mono_pu _) (mono_denE hC b ρ)
  | .cmp o a b, ρ => mono_bd (mono_denE hC a ρ) fun x => mono_bd (mono_denE hC b ρ) fun y => mono_pCmp o x y
  | .chn o p a b c, ρ => mono_bd (mono_denE hC a ρ) fun x => mono_bd (mono_denE hC b ρ) fun y => mono_bd (mono_pCmp o x y) fun t => mono_asB t fun t => mono_ite (mono_bd (mono_denE hC c ρ) fun z => mono_pCmp p y z) (mono_pu _)
  | .ite c a b, ρ => mono_bd (mono_denE hC c ρ) fun x => mono_asB x fun t => mono_ite (mono_denE hC a ρ) (mono_denE hC b ρ)
  | .idx a i, ρ => mono_bd (mono_denE hC a ρ) fun x => mono_bd (mono_denE hC i ρ) fun y => mono_pIdx x y
  | .slc a lo hi, ρ => mono_bd (mono_denE hC a ρ) fun x => mono_bd (mono_denE hC lo ρ) fun l => mono_gd (mono_bd (mono_denE hC hi ρ) fun h => mono_gd (mono_pSlc x l h))
  | .rvs a, ρ => mono_bd (mono_denE hC a ρ) mono_pRev
  | .rvf a lo, ρ => mono_bd (mono_denE hC a ρ) fun x => mono_bd (mono_denE hC lo ρ) fun l => mono_gd (mono_pRvf x l)
  | .call f es, ρ => mono_bd (mono_denEs hC es ρ) fun vs => hC f vs
  | .callv g es, ρ => mono_bd (mono_denE hC g ρ) fun x => mono_bd (mono_denEs hC es ρ) fun vs => by split; exact hC _ _; exact mono_stuck
  | .roll c m, ρ => mono_bd (mono_denE hC c ρ) fun x => mono_bd (mono_denE hC m ρ) fun y => mono_asI y fun n => mono_ite (mono_rl n) mono_stuck
  | .bi b es, ρ => mono_bd (mono_denEs hC es ρ) fun vs => mono_pBi b vs
  | .isi a t, ρ => mono_bd (mono_denE hC a ρ) fun x => mono_gd (mono_pu _)
  | .met m o es, ρ => mono_bd (mono_denE hC o ρ) fun x => mono_gd (mono_bd (mono_denEs hC es ρ) fun vs => mono_pMet _ _ _)
  | .rng1 b, ρ => mono_bd (mono_denE hC b ρ) fun y => mono_asI y fun n => mono_gd (mono_pu _)
  | .rng2 a b, ρ => mono_bd (mono_denE hC a ρ) fun x => mono_bd (mono_denE hC b ρ) fun y => mono_asI x fun m => mono_asI y fun n => mono_gd (mono_pu _)
  | .rngd a b, ρ => mono_bd (mono_denE hC a ρ) fun x => mono_bd (mono_denE hC b ρ) fun y => mono_asI x fun m => mono_asI y fun n => mono_gd (mono_pu _)
  | .zip a b, ρ => mono_bd (mono_denE hC a ρ) fun x => mono_bd (mono_denE hC b ρ) fun y => mono_pZip x y
  | .enm a, ρ => mono_bd (mono_denE hC a ρ) fun x => mono_pEnm x
  | .rvd a, ρ => mono_bd (mono_denE hC a ρ) fun x => mono_bd (mono_seqV x) fun xs => mono_pu _
  | .items a, ρ => mono_bd (mono_denE hC a ρ) fun x => mono_itemsV x
  | .vals _, _ => mono_stuck
  | .lc1 e tg it c, ρ => mono_noX (mono_bd (mono_denE hC it ρ) fun v => mono_bd (mono_iterV v) fun xs => mono_bd (mono_mfm (fun x => mono_bd (mono_bindT _ _ _) fun ρ' => mono_bd (mono_denE hC c ρ') fun t => mono_asB t fun t => mono_ite (mono_bd (mono_denE hC e ρ') fun y => mono_pu _) (mono_pu _)) xs) fun ys => mono_pu _)
  | .lc2 e tg it c tg2 it2 c2, ρ => mono_noX (mono_bd (mono_denE hC it ρ) fun v => mono_bd (mono_iterV v) fun xs => mono_bd (mono_mfl (fun x acc => mono_bd (mono_bindT _ _ _) fun ρ' => mono_bd (mono_denE hC c ρ') fun t => mono_asB t fun t => mono_ite
      (mono_bd (mono_bd (mono_denE hC it2 ρ') fun v => mono_iterV v) fun xs2 => mono_gd (mono_bd (mono_mfm (fun x2 => mono_bd (mono_bindT _ _ _) fun ρ2 => mono_bd (mono_denE hC c2 ρ2) fun t => mono_asB t fun t => mono_ite (mono_bd (mono_denE hC e ρ2) fun y => mono_pu _) (mono_pu _)) xs2) fun ys => mono_pu _)) (mono_pu _)) xs []) fun ys => mono_pu _)
  | .dc1 k w tg it c, ρ => mono_noX (mono_bd (mono_denE hC it ρ) fun v => mono_bd (mono_iterV v) fun xs => mono_bd (mono_mkd (fun x => mono_bd (mono_bindT _ _ _) fun ρ' => mono_bd (mono_denE hC c ρ') fun t => mono_asB t fun t => mono_ite (mono_bd (mono_denE hC k ρ') fun y => mono_bd (mono_denE hC w ρ') fun z => mono_pu _) (mono_pu _)) xs []) fun d => mono_pu _)
  | .dc2 k w tg it c tg2 it2 c2, ρ => mono_noX (mono_bd (mono_denE hC it ρ) fun v => mono_bd (mono_iterV v) fun xs => mono_bd (mono_mkdl (fun x d => mono_bd (mono_bindT _ _ _) fun ρ' => mono_bd (mono_denE hC c ρ') fun t => mono_asB t fun t => mono_ite
      (mono_bd (mono_bd (mono_denE hC it2 ρ') fun v => mono_iterV v) fun xs2 => mono_mkd (fun x2 => mono_bd (mono_bindT _ _ _) fun ρ2 => mono_bd (mono_denE hC c2 ρ2) fun t => mono_asB t fun t => mono_ite (mono_bd (mono_denE hC k ρ2) fun y => mono_bd (mono_denE hC w ρ2) fun z => mono_pu _) (mono_pu _)) xs2 d) (mono_pu _)) xs []) fun d => mono_gd (mono_pu _))
theorem mono_denEs (hC : ∀ f vs, Mono (C f vs)) : ∀ (es : List Ex) (ρ : Env), Mono (denEs C G es ρ)
  | [], _ => mono_pu _
  | e :: es, ρ => mono_bd (mono_denE hC e ρ) fun x => mono_bd (mono_denEs hC es ρ) fun xs => mono_pu _
end
theorem mono_thenF {m : M Fl} {k : Env → M Fl} (hm : Mono m) (hk : ∀ ρ, Mono (k ρ)) : Mono (thenF m k) := mono_bd hm fun f => by cases f <;> first | exact hk _ | exact mono_pu _
theorem mono_loopK {k : Env → M Fl} (hk : ∀ ρ, Mono (k ρ)) (f : Fl) : Mono (loopK k f) := by cases f <;> first | exact hk _ | exact mono_pu _
theorem mono_forL {b : PV → Env → M Fl} (hb : ∀ x ρ, Mono (b x ρ)) : ∀ xs ρ, Mono (forL b xs ρ)
  | [], ρ => mono_pu _
  | x :: xs, ρ => mono_bd (hb x ρ) (mono_loopK (mono_forL hb xs))
theorem mono_whileN {c : Env → M PV} {b : Env → M Fl} (hc : ∀ ρ, Mono (c ρ)) (hb : ∀ ρ, Mono (b ρ)) : ∀ n ρ, Mono (whileN c b n ρ)
  | 0, ρ => mono_stuck
  | n + 1, ρ => mono_bd (hc ρ) fun t => mono_asB t fun t => mono_ite (mono_bd (hb ρ) (mono_loopK (mono_whileN hc hb n))) (mono_pu _)
theorem mono_whileL {c : Env → M PV} {b : Env → M Fl} (hc : ∀ ρ, Mono (c ρ)) (hb : ∀ ρ, Mono (b ρ)) (ρ : Env) : Mono (whileL c b ρ) := fun Q Q' E E' h1 h2 ⟨n, q⟩ => ⟨n, mono_whileN hc hb n ρ Q Q' E E' h1 h2 q⟩
theorem mono_pSet (o i v : PV) : Mono (pSet o i v) := by
  unfold pSet
  split
  · exact mono_ite (mono_pu _) (mono_ite (mono_pu _) mono_stuck)
  · exact mono_gd (mono_pu _)
  · exact mono_stuck
theorem mono_pApp (o v : PV) : Mono (pApp o v) := by unfold pApp; split <;> first | exact mono_gd (mono_pu _) | exact mono_stuck
theorem mono_pPop (o : PV) {k : PV → PV → M Fl} (hk : ∀ a b, Mono (k a b)) : Mono (pPop o k) := by unfold pPop; split <;> first | exact mono_bd (mono_ofO _) fun v => hk _ _ | exact mono_stuck
theorem mono_pExt (o v : PV) : Mono (pExt o v) := by unfold pExt; split <;> first | exact mono_gd (mono_pu _) | exact mono_stuck
theorem mono_pPopi (o i : PV) {k : PV → PV → M Fl} (hk : ∀ a b, Mono (k a b)) : Mono (pPopi o i k) := by unfold pPopi; split <;> first | exact mono_gd (mono_bd (mono_ofO _) fun v => hk _ _) | exact mono_stuck
theorem mono_pUpd (o d : PV) : Mono (pUpd o d) := by unfold pUpd; split <;> first | exact mono_gd (mono_pu _) | exact mono_stuck
theorem mono_setU (hC : ∀ f vs, Mono (C f vs)) : ∀ (ts : List Tu) (vs : List PV) (ρ : Env), Mono (setU C G ts vs ρ)
  | [], [], ρ => mono_pu _
  | [], _ :: _, ρ => mono_stuck
  | .nm i :: ts, [], ρ => mono_stuck
  | .st x i :: ts, [], ρ => mono_stuck
  | .nm i :: ts, v :: vs, ρ => mono_setU hC ts vs _
  | .st x i :: ts, v :: vs, ρ => mono_bd (mono_bd (mono_getV ρ x) fun o => mono_bd (mono_denE hC i ρ) fun k => mono_bd (mono_pSet _ _ _) fun o' => mono_pu _) fun ρ' => mono_setU hC ts vs ρ'
mutual
theorem mono_denS (hC : ∀ f vs, Mono (C f vs)) : ∀ (s : St) (ρ : Env), Mono (denS C G s ρ)
  | .asg tg e, ρ => by unfold denS; exact mono_bd (mono_denE hC e ρ) fun v => mono_bd (mono_bindT _ _ _) fun ρ' => mono_pu _
  | .own i e, ρ => by unfold denS; exact mono_bd (mono_denE hC e ρ) fun v => mono_bd (mono_bindT _ _ _) fun ρ' => mono_pu _
  | .asgT is _ es, ρ => by unfold denS; exact mono_bd (mono_denEs hC es ρ) fun vs => mono_pu _
  | .asgU ts es, ρ => by unfold denS; exact mono_bd (mono_denEs hC es ρ) fun vs => mono_bd (mono_setU hC ts vs ρ) fun _ => mono_pu _
  | .seti x i e, ρ => by unfold denS; exact mono_bd (mono_denE hC e ρ) fun v => mono_bd (mono_setU hC [.st x i] [v] ρ) fun _ => mono_pu _
  | .app x e, ρ => by unfold denS; exact mono_bd (mono_getV ρ x) fun o => mono_gd (mono_bd (mono_denE hC e ρ) fun v => mono_bd (mono_pApp _ _) fun o' => mono_pu _)
  | .pop y x, ρ => by unfold denS; exact mono_bd (mono_getV ρ x) fun o => mono_pPop o fun v o' => mono_pu _
  | .popi y x i, ρ => by unfold denS; exact mono_bd (mono_getV ρ x) fun o => mono_gd (mono_bd (mono_denE hC i ρ) fun k => mono_pPopi o k fun v o' => mono_pu _)
  | .appPop y x i, ρ => by unfold denS; exact mono_bd (mono_getV ρ y) fun p => mono_gd (mono_bd (mono_getV ρ x) fun o => mono_gd (mono_bd (mono_denE hC i ρ) fun k => mono_pPopi o k fun v o' => mono_bd (mono_pApp _ _) fun p' => mono_pu _))
  | .upd x e, ρ => by unfold denS; exact mono_bd (mono_getV ρ x) fun o => mono_gd (mono_bd (mono_denE hC e ρ) fun d => mono_bd (mono_pUpd _ _) fun o' => mono_pu _)
  | .aug x e, ρ => by unfold denS; exact mono_bd (mono_getV ρ x) fun o => mono_gd (mono_bd (mono_denE hC e ρ) fun v => mono_bd (mono_pExt _ _) fun o' => mono_pu _)
  | .augi x i e, ρ => by unfold denS; exact mono_bd (mono_getV ρ x) fun o => mono_bd (mono_denE hC i ρ) fun k => mono_bd (mono_pIdx _ _) fun u => mono_bd (mono_denE hC e ρ) fun v => mono_bd (mono_pBin _ _ _) fun z => mono_bd (mono_pSet _ _ _) fun o' => mono_pu _
  | .ex e, ρ => by unfold denS; exact mono_bd (mono_denE hC e ρ) fun _ => mono_pu _
  | .ret e, ρ => by unfold denS; exact mono_bd (mono_denE hC e ρ) fun v => mono_pu _
  | .ite c a b, ρ => by unfold denS; exact mono_bd (mono_denE hC c ρ) fun t => mono_asB t fun t => mono_ite (mono_denB hC a ρ) (mono_denB hC b ρ)
  | .whl c b, ρ => by unfold denS; exact mono_whileL (mono_denE hC c) (mono_denB hC b) ρ
  | .for_ tg it b, ρ => by unfold denS; exact mono_bd (mono_denE hC it ρ) fun v => mono_bd (mono_iterV v) fun xs => mono_forL (fun x ρ => mono_bd (mono_bindT _ _ _) fun ρ' => mono_denB hC b ρ') xs ρ
  | .brk, ρ => by unfold denS; exact mono_pu _
  | .cnt, ρ => by unfold denS; exact mono_pu _
  | .pass, ρ => by unfold denS; exact mono_pu _
  | .rai c es, ρ => by unfold denS; exact mono_bd (mono_denEs hC es ρ) fun vs => mono_rz _
  | .never, _ => by unfold denS; exact mono_stuck
  | .frz _, ρ => by unfold denS; exact mono_pu _
theorem mono_denB (hC : ∀ f vs, Mono (C f vs)) : ∀ (s : List St) (ρ : Env), Mono (denB C G s ρ)
  | [], ρ => mono_pu _
  | s :: r, ρ => mono_thenF (mono_denS hC s ρ) fun ρ' => mono_denB hC r ρ'
end
end
theorem mono_endF {m : M Fl} (h : Mono m) : Mono (endF m) := mono_bd h fun f => by cases f <;> first | exact mono_pu _ | exact mono_stuck
theorem mono_call (D : List Fd) (G : List PV) : ∀ d f vs, Mono (call D G d f vs)
  | 0, f, vs => mono_stuck
  | d + 1, f, vs => by
    unfold call
    split
    · exact mono_gd (mono_endF (mono_denB (mono_call D G d) _ _))
    · exact mono_stuck
end HG
end
section
set_option maxHeartbeats 8000000
/-! HGSnd: the checked text does what the term denotes. -/
namespace HG
open PySem PySem.Spec PyProof.Rows L2
theorem blkC_of {c : Cc} {scope : Scope} {own : List (Str × Nat)} {X : Cx} (hN : X.N = c.N) (hsc : X.env.scope = c.sc) (h : blkC c scope own = true) : BlkOk X.N X.env.scope scope own := by
  unfold blkC at h
  obtain ⟨h1, h⟩ := an h
  obtain ⟨h2, h⟩ := an h
  obtain ⟨h3, h⟩ := an h
  obtain ⟨h4, h5⟩ := an h
  rw [List.all_eq_true] at h2 h3 h4 h5
  refine ⟨of_decide_eq_true h1, fun y hy => of_decide_eq_true (h2 y hy), fun p hp => by rw [hN]; exact of_decide_eq_true (h3 p hp), fun y hy e => ?_, fun y hy e => ?_⟩
  · have := h4 y hy
    rw [e] at this
    rw [hsc]
    cases hl : c.sc.names.lookup y.1 with
    | none => rw [hl] at this; exact no this
    | some k =>
      rw [hl] at this
      cases k <;> first | exact no this | exact .inl rfl | exact .inr rfl
  · have := h5 y hy
    rw [hN]
    rcases e with e | e
    · rw [e] at this
      rcases Bool.or_eq_true_iff.mp this with h | h
      · exact .inl (of_decide_eq_true h)
      · exact .inr (by simpa using h)
    · rw [e] at this
      rcases Bool.or_eq_true_iff.mp this with h | h
      · exact .inl (of_decide_eq_true h)
      · exact .inr (by simpa using h)
theorem Cxt.blk {X : Cx} {c : Cc} {g : GC} {W : WX} {C : Nat → List PV → M PV} {G : List PV} (cx : Cxt X c g W C G) {scope : Scope} {own : List (Str × Nat)} (ok : BlkOk X.N X.env.scope scope own) (s : Shared) (H : Hp) (Cl : Addr) (cl : List (Str × Addr)) (fp : List Addr) :
    Cxt (X.blk s H scope (compEnvC scope cl Cl X.env) fp) (c.blk scope) g W0 C G where
  hK := cx.hK
  hP := cx.hP
  hW := cx.hW
  hN := cx.hN
  hsc := by
    show relS scope X.env.scope = relS scope c.sc
    rw [cx.hsc]
  nd := cx.nd
  calm := cx.calm
  takes := takes_W0
  hu := cx.hu
  fns := cx.fns
  gls := cx.gls
  blt := cx.blt
  roll := cx.roll
  co := fun x hx => by
    obtain ⟨y, hy, e⟩ := List.mem_map.mp hx
    obtain ⟨h1, h2⟩ := List.mem_filter.mp hy
    show (scope.names.lookup x == some .cell) = true
    have h3 := ok.uniq y h1
    rw [← e, h3]
    cases hk : y.2 <;> rw [hk] at h2 <;> first | exact no h2 | rfl
section
variable {C : Nat → List PV → M PV} {G : List PV}
/-- what a range is: its ends -/
def RGX (g : GC) (W : WX) (Γ : List Bool) (m : Env → M PV) : L2.St → Hp → (Int → Int → Hp → Prop) → Prop := fun σ H Q => ∃ F ρ Qd E, Sta g H F Γ σ ρ ∧ m ρ Qd E ∧
  (∀ a b, Qd (.list (rng a b)) → RB a → RB b → ∀ H' F', Grow g H F H' F' → Q a b H') ∧ ∀ x, E x → EXW g W σ H x
/-- what is shown of a term -/
structure PA4 (C : Nat → List PV → M PV) (G : List PV) (e : Ex) : Prop where
  ex : ∀ {X : Cx} {c : Cc} {g : GC} {W : WX} {Γ : List Bool} {k : Kd} {e' : Expr}, Cxt X c g W C G → chkE c Γ k false e e' = true → PE X e' (TX g W Γ k (denE C G e))
  ts : ∀ {X : Cx} {c : Cc} {g : GC} {W : WX} {Γ : List Bool} {e' : Expr}, Cxt X c g W C G → plainT e' = true → chkE c Γ .any false e e' = true → PT X e' (TTX g W Γ (denE C G e))
  pw : ∀ {X : Cx} {c : Cc} {g : GC} {W : WX} {Γ : List Bool} {op : BoolOp} {es : List Expr} {pos : Pos}, Cxt X c g W C G → chkE c Γ .any false e (.BoolOp op es pos) = true → PW X (.BoolOp op es pos) (TTX g W Γ (denE C G e))
  it : ∀ {X : Cx} {c : Cc} {g : GC} {W : WX} {Γ : List Bool} {k : Kd} {tg e' : Expr}, Cxt X c g W C G → k ≠ .own → pairOk e tg = true → chkE c Γ k true e e' = true → PI X tg e' (IX g W Γ k fun ρ => bd (denE C G e ρ) iterV)
  rg : ∀ {X : Cx} {c : Cc} {g : GC} {W : WX} {Γ : List Bool} {e' : Expr}, Cxt X c g W C G → isRng e = true → chkE c Γ .any true e e' = true → PRg X e' (RGX g W Γ (denE C G e))
/-- a term without a rule of its own where a test or an iterator stands -/
theorem pa4 {e : Ex} (hit : ∀ c Γ k e', chkE c Γ k true e e' = chkE c Γ k false e e') (hpw : ∀ c Γ op es pos, chkE c Γ .any false e (.BoolOp op es pos) = false)
    (hex : ∀ {X : Cx} {c : Cc} {g : GC} {W : WX} {Γ : List Bool} {k : Kd} {e' : Expr}, Cxt X c g W C G → chkE c Γ k false e e' = true → PE X e' (TX g W Γ k (denE C G e)))
    (hts : ∀ c Γ e', chkE c Γ .any false e e' = true → plainT e' = true → ∀ env whole, isTrue e' env whole = (do let v ← whole; standAt e'.pos; holding [v] (truthy v))) (hr : isRng e = false := by rfl) : PA4 C G e :=
  ⟨hex, fun {X c g W Γ e'} cx hp h => snd_pt (hex cx h) (hts c Γ e' h hp X.env), fun {X c g W Γ op es pos} cx h => by rw [hpw] at h; exact no h,
    fun {X c g W Γ k tg e'} cx hk hp h => by rw [hit] at h; exact pi_val cx hk (hex cx h), fun cx h => by rw [hr] at h; exact no h⟩
theorem chkEs_plain {c : Cc} {Γ : List Bool} {k : Kd} : ∀ {es : List Ex} {es' : List Expr}, chkEs c Γ k es es' = true → es.length = es'.length ∧ ∀ e ∈ es', plainE e = true
  | [], [], _ => ⟨rfl, fun _ h => by cases h⟩
  | [], _ :: _, h => no h
  | _ :: _, [], h => no h
  | e :: es, e' :: es', h => by
    obtain ⟨h1, h2⟩ := an (show (plainE e' && (chkE c Γ k false e e' && chkEs c Γ k es es')) = true from h)
    obtain ⟨h3, h4⟩ := an h2
    obtain ⟨h5, h6⟩ := chkEs_plain h4
    refine ⟨congrArg Nat.succ h5, fun e2 h' => ?_⟩
    rcases List.mem_cons.mp h' with z | z
    · rw [z]; exact h1
    · exact h6 e2 z
theorem denEs_len (hC : ∀ f vs, Mono (C f vs)) : ∀ (es : List Ex) (ρ : Env) (Q : List PV → Prop) (E : PV → Prop), denEs C G es ρ Q E → denEs C G es ρ (fun xs => Q xs ∧ xs.length = es.length) E
  | [], ρ, Q, E, h => ⟨h, rfl⟩
  | e :: es, ρ, Q, E, h => by
    have h : denE C G e ρ (fun x => denEs C G es ρ (fun xs => Q (x :: xs)) E) E := h
    show denE C G e ρ (fun x => denEs C G es ρ (fun xs => Q (x :: xs) ∧ (x :: xs).length = (e :: es).length) E) E
    refine mono_denE hC e ρ _ _ _ _ (fun x hx => ?_) (fun _ z => z) h
    exact mono_denEs hC es ρ _ _ _ _ (fun xs hq => ⟨hq.1, congrArg Nat.succ hq.2⟩) (fun _ z => z) (denEs_len hC es ρ _ E hx)
/-- lists of operands -/
structure PL4 (C : Nat → List PV → M PV) (G : List PV) (es : List Ex) : Prop where
  shr : ∀ {X : Cx} {c : Cc} {g : GC} {W : WX} {Γ : List Bool} {es' : List Expr}, Cxt X c g W C G → chkEs c Γ .shr es es' = true → PA X es' (TXs g W Γ (denEs C G es))
  any : ∀ {X : Cx} {c : Cc} {g : GC} {W : WX} {Γ : List Bool} {es' : List Expr}, Cxt X c g W C G → chkEs c Γ .any es es' = true → PA X es' (TXa g W Γ (denEs C G es))
  h1 : ∀ {e : Ex} {r : List Ex} {X : Cx} {c : Cc} {g : GC} {W : WX} {Γ : List Bool} {k : Kd} {e' : Expr}, es = e :: r → Cxt X c g W C G → chkE c Γ k false e e' = true → PE X e' (TX g W Γ k (denE C G e))
  h2 : ∀ {e f : Ex} {r : List Ex} {X : Cx} {c : Cc} {g : GC} {W : WX} {Γ : List Bool} {k : Kd} {e' : Expr}, es = e :: f :: r → Cxt X c g W C G → chkE c Γ k false f e' = true → PE X e' (TX g W Γ k (denE C G f))
theorem Cxt.wish {X : Cx} {c : Cc} {g : GC} {W W' : WX} (cx : Cxt X c g W C G) (t : Takes X W') : Cxt X c g W' C G :=
  ⟨cx.hK, cx.hP, cx.hW, cx.hN, cx.hsc, cx.nd, cx.calm, t, cx.hu, cx.fns, cx.gls, cx.blt, cx.roll, cx.co⟩
theorem isLitNone_of {e : Ex} (h : isLitNone e = true) : e = .lit .none := by
  unfold isLitNone at h
  split at h
  · rfl
  · exact no h
theorem isLitTrue_of {e : Ex} (h : isLitTrue e = true) : e = .lit (.bool true) := by
  unfold isLitTrue at h
  split at h
  · rfl
  · exact no h
theorem notSet_of {e : Expr} (h : (!isSetE e) = true) (env : PySem.Env) (x : Value) : foldedSetIterable e env x = pure x := by
  cases e <;> first | rfl | exact no h
section
variable {X : Cx} {c : Cc} {g : GC} {W : WX} {Γ : List Bool} {k : Kd} {m ma mb : Env → M PV} {e a b : Expr} {pos p p2 : Pos}
theorem pe_one1 {op : BoolOp} {t : TE} (h : PE X e t) : PE X (.BoolOp op [e] pos) t := ⟨fun pins s σ H Q I q => by
  have := h.run pins s σ H Q I q
  unfold eval
  exact this⟩
end
section
variable {X : Cx} {c : Cc} {g : GC} {W : WX} {Γ : List Bool} {k : Kd} {m ma mb : Env → M PV} {e a b : Expr} {pos p p2 : Pos}
theorem rgV_reps {H : Hp} {F : Addr → Prop} (a b : Int) : Reps g H F (rgV a b) (rng a b) := by
  refine Reps.of_get ?_ fun i x u h1 h2 => ?_
  · rw [rng_len, rgV_length]
  · obtain ⟨h3, h4⟩ := rng_get h2
    subst h4
    unfold rgV at h1
    rw [List.getElem?_map] at h1
    obtain ⟨j, h5, h6⟩ := Option.map_eq_some_iff.mp h1
    have h7 := (List.getElem?_eq_some_iff.mp h5)
    obtain ⟨h7, h8⟩ := h7
    simp only [List.getElem_range] at h8
    subst h8
    rw [← h6]
    exact .int _
theorem rb_ok {a b : Int} (h1 : RB a) (h2 : RB b) : RgOk a b := by
  unfold RB at h1 h2
  unfold RgOk
  omega
theorem snd_rgc (cx : Cxt X c g W C G) {bi : Bi} {x : Str} (hb : isRgB bi = true) (h : glOk c x = true) (hx : x = Str.ofString (biNm bi)) (hp : plainE e = true) (he : PRg X e (RGX g W Γ m)) :
    PE X (.Call (.Name x p) [e] [] pos) (TX g W Γ k fun ρ => bd (bd (m ρ) fun x => bd (pu []) fun xs => pu (x :: xs)) fun vs => pBi bi vs) := by
  refine PE.of_own k ?_
  subst hx
  obtain ⟨h8, h9⟩ := gl_of cx h
  cases bi <;> first | exact no hb | skip
  · refine (pe_listRg cx.calm h8 (cx.blt _ (by decide +kernel)) he (star_plain hp)).imp fun σ H Q ⟨F, ρ, Qd, E, s, hq, q, ex⟩ => ?_
    exact ⟨F, ρ, fun v => pBi .list [v] Qd E, E, s, hq, fun a b hv ra rb H' F' w => ⟨rb_ok ra rb, (out_of w q).newL w.st0 hv.2 (rgV_reps a b)⟩, ex⟩
  · refine (pe_tupRg cx.calm h8 (cx.blt _ (by decide +kernel)) he (star_plain hp)).imp fun σ H Q ⟨F, ρ, Qd, E, s, hq, q, ex⟩ => ?_
    exact ⟨F, ρ, fun v => pBi .tuple [v] Qd E, E, s, hq, fun a b hv ra rb H' F' w => ⟨rb_ok ra rb, (out_of w q).newT w.st0 hv.2 (rgV_reps a b)⟩, ex⟩
theorem rg1 (cx : Cxt X c g W C G) {x : Str} (h : glOk c x = true) (hx : x = "range") (hp : plainE a = true) (ha : PE X a (TX g W Γ .any ma)) : PRg X (.Call (.Name x p) [a] [] pos) (RGX g W Γ fun ρ => bd (ma ρ) fun y => asI y fun n => gd (RB n) (pu (.list (rng 0 n)))) := by
  subst hx
  obtain ⟨h8, h9⟩ := gl_of cx h
  intro pins s σ H Q I ⟨F, ρ, Qd, E, st, hq, q, ex⟩
  refine prg_1 h8 (cx.blt _ (by decide +kernel)) ha (star_plain hp) pins s σ H Q I ⟨F, ρ, _, E, st, hq, fun pv hpv v H1 F1 w1 r1 => ?_, ex⟩
  cases pv with
  | int n =>
    have r1 : AnyR g H1 F1 v (.int n) := r1
    obtain ⟨hb, hv⟩ := hpv
    exact ⟨n, r1.int, q 0 n hv ⟨by decide, by decide⟩ hb H1 F1 w1⟩
  | _ => exact False.elim hpv
theorem rg2 (cx : Cxt X c g W C G) {x : Str} (h : glOk c x = true) (hx : x = "range") (hp : plainE a = true) (hp2 : plainE b = true) (ha : PE X a (TX g W Γ .any ma)) (hb : PE X b (TX g W Γ .any mb)) : PRg X (.Call (.Name x p) [a, b] [] pos) (RGX g W Γ fun ρ => bd (ma ρ) fun x => bd (mb ρ) fun y => asI x fun m => asI y fun n => gd (RB m ∧ RB n) (pu (.list (rng m n)))) := by
  subst hx
  obtain ⟨h8, h9⟩ := gl_of cx h
  intro pins s σ H Q I ⟨F, ρ, Qd, E, st, hq, q, ex⟩
  refine prg_2 h8 (cx.blt _ (by decide +kernel)) ha hb (star_plain hp) (star_plain hp2) (by rw [star_plain hp2]; rfl) pins s σ H Q I ⟨F, ρ, _, E, st, hq, fun pv hpv v H1 F1 w1 r1 => ?_, ex⟩
  refine ⟨F1, ρ, _, E, st.grow w1, hpv, fun pv2 hpv2 v2 H2 F2 w2 r2 => ?_, fun x hx => (ex x hx).grow w1⟩
  cases pv with
  | int m =>
    cases pv2 with
    | int n =>
      have r1 : AnyR g H1 F1 v (.int m) := r1
      have r2 : AnyR g H2 F2 v2 (.int n) := r2
      obtain ⟨⟨hb1, hb2⟩, hv⟩ := hpv2
      exact ⟨m, n, r1.int, r2.int, q m n hv hb1 hb2 H2 F2 (w1.trans w2)⟩
    | _ => exact False.elim hpv2
  | _ => exact False.elim hpv2
end
theorem cndR {c : Cc} {g : GC} {X : Cx} {W : WX} {Γ : List Bool} {cd : Ex} {ifs : List Expr} (cx : Cxt X c g W0 C G) (hcd : PA4 C G cd) (h : (match ifs with | [] => isLitTrue cd | [t] => plainT t && chkE c Γ .any false cd t | _ => false) = true) : CondR X g Γ ifs (denE C G cd) := by
  cases ifs with
  | nil =>
    have e := isLitTrue_of h
    subst e
    exact .none
  | cons t r =>
    cases r with
    | nil =>
      obtain ⟨h1, h2⟩ := an h
      exact .one (hcd.ts cx h1 h2)
    | cons => exact no h
section
variable {X : Cx} {c : Cc} {g : GC} {W : WX} {Γ : List Bool}
theorem snd_lc1c (cx : Cxt X c g W C G) {e i cd : Ex} {tg : Tg} {elt tg' i' : Expr} {ifs : List Expr} {scope : Scope} {pos : Pos} (pe : PA4 C G e) (pi : PA4 C G i) (pc : PA4 C G cd)
    (h : (decide ((ownOf tg tg').map (·.2) = tgS tg) && (blkC c scope (ownOf tg tg') && (!isSetE i' && (pairOk i tg' && (chkE c Γ .any true i i' && (chkTg (c.blk scope) (ΓW Γ (tgS tg)) tg tg' &&
        ((match ifs with | [] => isLitTrue cd | [t] => plainT t && chkE (c.blk scope) (ΓW Γ (tgS tg)) .any false cd t | _ => false) && chkE (c.blk scope) (ΓW Γ (tgS tg)) .shr false e elt))))))) = true) :
    PE X (.ListComp elt [⟨tg', i', ifs, 0⟩] scope pos) (TX g W Γ .own (denE C G (.lc1 e tg i cd))) := by
  obtain ⟨h1, h⟩ := an h
  obtain ⟨h2, h⟩ := an h
  obtain ⟨h3, h⟩ := an h
  obtain ⟨h4, h⟩ := an h
  obtain ⟨h5, h⟩ := an h
  obtain ⟨h6, h⟩ := an h
  obtain ⟨h7, h8⟩ := an h
  have ok := blkC_of cx.hN cx.hsc h2
  exact snd_lc1 cx (of_decide_eq_true h1) (fun W' t => pi.it (cx.wish t) (by decide) h4 h5) ok (fun s H Cl cl fp => snd_tg (cx.blk ok s H Cl cl fp) tg tg' h6) (fun s H Cl cl fp => cndR (W := W0) (cx.blk ok s H Cl cl fp) pc h7) (fun s H Cl cl fp => pe.ex (cx.blk ok s H Cl cl fp) h8) (fun x => notSet_of h3 X.env x)
theorem snd_dc1c (cx : Cxt X c g W C G) {kk w i cd : Ex} {tg : Tg} {kx vx tg' i' : Expr} {ifs : List Expr} {scope : Scope} {pos : Pos} (pk : PA4 C G kk) (pv : PA4 C G w) (pi : PA4 C G i) (pc : PA4 C G cd)
    (h : (decide ((ownOf tg tg').map (·.2) = tgS tg) && (blkC c scope (ownOf tg tg') && (!isSetE i' && (pairOk i tg' && (chkE c Γ .any true i i' && (chkTg (c.blk scope) (ΓW Γ (tgS tg)) tg tg' &&
        ((match ifs with | [] => isLitTrue cd | [t] => plainT t && chkE (c.blk scope) (ΓW Γ (tgS tg)) .any false cd t | _ => false) && (chkE (c.blk scope) (ΓW Γ (tgS tg)) .shr false kk kx && chkE (c.blk scope) (ΓW Γ (tgS tg)) .shr false w vx)))))))) = true) :
    PE X (.DictComp kx vx [⟨tg', i', ifs, 0⟩] scope pos) (TX g W Γ .own (denE C G (.dc1 kk w tg i cd))) := by
  obtain ⟨h1, h⟩ := an h
  obtain ⟨h2, h⟩ := an h
  obtain ⟨h3, h⟩ := an h
  obtain ⟨h4, h⟩ := an h
  obtain ⟨h5, h⟩ := an h
  obtain ⟨h6, h⟩ := an h
  obtain ⟨h7, h⟩ := an h
  obtain ⟨h8, h9⟩ := an h
  have ok := blkC_of cx.hN cx.hsc h2
  exact snd_dc1 cx (of_decide_eq_true h1) (fun W' t => pi.it (cx.wish t) (by decide) h4 h5) ok (fun s H Cl cl fp => snd_tg (cx.blk ok s H Cl cl fp) tg tg' h6) (fun s H Cl cl fp => cndR (W := W0) (cx.blk ok s H Cl cl fp) pc h7) (fun s H Cl cl fp => pk.ex (cx.blk ok s H Cl cl fp) h8) (fun s H Cl cl fp => pv.ex (cx.blk ok s H Cl cl fp) h9) (fun x => notSet_of h3 X.env x)
theorem snd_lc2c (cx : Cxt X c g W C G) {e i cd i2 cd2 : Ex} {tg tg2 : Tg} {elt tg' i' tg2' i2' : Expr} {ifs ifs2 : List Expr} {scope : Scope} {pos : Pos} (pe : PA4 C G e) (pi : PA4 C G i) (pc : PA4 C G cd) (pi2 : PA4 C G i2) (pc2 : PA4 C G cd2)
    (h : (decide ((ownOf tg tg' ++ ownOf tg2 tg2').map (·.2) = tgS tg ++ tgS tg2) && (blkC c scope (ownOf tg tg' ++ ownOf tg2 tg2') && (!isSetE i' && (!isSetE i2' && (pairOk i tg' && (pairOk i2 tg2' && (chkE c Γ .any true i i' && (chkTg (c.blk scope) (ΓW Γ (tgS tg ++ tgS tg2)) tg tg' &&
        (chkTg (c.blk scope) (ΓW (ΓW Γ (tgS tg ++ tgS tg2)) (tgS tg2)) tg2 tg2' &&
          ((match ifs with | [] => isLitTrue cd | [t] => plainT t && chkE (c.blk scope) (ΓW Γ (tgS tg ++ tgS tg2)) .any false cd t | _ => false) &&
            (chkE (c.blk scope) (ΓW Γ (tgS tg ++ tgS tg2)) .shr true i2 i2' &&
              ((match ifs2 with | [] => isLitTrue cd2 | [t] => plainT t && chkE (c.blk scope) (ΓW (ΓW Γ (tgS tg ++ tgS tg2)) (tgS tg2)) .any false cd2 t | _ => false) &&
                chkE (c.blk scope) (ΓW (ΓW Γ (tgS tg ++ tgS tg2)) (tgS tg2)) .shr false e elt)))))))))))) = true) :
    PE X (.ListComp elt [⟨tg', i', ifs, 0⟩, ⟨tg2', i2', ifs2, 0⟩] scope pos) (TX g W Γ .own (denE C G (.lc2 e tg i cd tg2 i2 cd2))) := by
  obtain ⟨h1, h⟩ := an h
  obtain ⟨h2, h⟩ := an h
  obtain ⟨h3, h⟩ := an h
  obtain ⟨h4, h⟩ := an h
  obtain ⟨h5, h⟩ := an h
  obtain ⟨h6, h⟩ := an h
  obtain ⟨h7, h⟩ := an h
  obtain ⟨h8, h⟩ := an h
  obtain ⟨h9, h⟩ := an h
  obtain ⟨h10, h⟩ := an h
  obtain ⟨h11, h⟩ := an h
  obtain ⟨h12, h13⟩ := an h
  have ok := blkC_of cx.hN cx.hsc h2
  exact snd_lc2 cx (of_decide_eq_true h1) (fun W' t => pi.it (cx.wish t) (by decide) h5 h7) ok (fun s H Cl cl fp => snd_tg (cx.blk ok s H Cl cl fp) tg tg' h8) (fun s H Cl cl fp => cndR (W := W0) (cx.blk ok s H Cl cl fp) pc h10)
    (fun s H Cl cl fp => pi2.it (cx.blk ok s H Cl cl fp) (by decide) h6 h11) (fun s H Cl cl fp => snd_tg (cx.blk ok s H Cl cl fp) tg2 tg2' h9) (fun s H Cl cl fp => cndR (W := W0) (cx.blk ok s H Cl cl fp) pc2 h12)
    (fun s H Cl cl fp => pe.ex (cx.blk ok s H Cl cl fp) h13) (fun x => notSet_of h3 X.env x) (fun env x => notSet_of h4 env x)
end
mutual
theorem sndA (hC : ∀ f vs, Mono (C f vs)) : ∀ e : Ex, PA4 C G e
  | .lit v => pa4 (fun _ _ _ _ => rfl) (fun _ _ _ _ _ => rfl) (fun {X c g W Γ k e'} cx h => by
      cases e' <;> first | exact no h | skip
      exact snd_lit h) (fun c Γ e' h hp env whole => by cases e' <;> first | exact no h | rfl)
  | .var i => pa4 (fun _ _ _ _ => rfl) (fun _ _ _ _ _ => rfl) (fun {X c g W Γ k e'} cx h => by
      cases e' <;> first | exact no h | skip
      obtain ⟨h1, h2⟩ := an h
      exact snd_var cx h1 h2) (fun c Γ e' h hp env whole => by cases e' <;> first | exact no h | rfl)
  | .glb n => pa4 (fun _ _ _ _ => rfl) (fun _ _ _ _ _ => rfl) (fun {X c g W Γ k e'} cx h => by
      cases e' <;> first | exact no h | skip
      obtain ⟨h1, h2⟩ := an h
      obtain ⟨h2, h3⟩ := an h2
      exact snd_glb cx h1 (of_decide_eq_true h2) h3) (fun c Γ e' h hp env whole => by cases e' <;> first | exact no h | rfl)
  | .fnv f => pa4 (fun _ _ _ _ => rfl) (fun _ _ _ _ _ => rfl) (fun {X c g W Γ k e'} cx h => by
      cases e' <;> first | exact no h | skip
      obtain ⟨h1, h2⟩ := an h
      exact snd_fnv cx h1 (of_decide_eq_true h2)) (fun c Γ e' h hp env whole => by cases e' <;> first | exact no h | rfl)
  | .tup es => pa4 (fun _ _ _ _ => rfl) (fun _ _ _ _ _ => rfl) (fun {X c g W Γ k e'} cx h => by
      cases e' <;> first | exact no h | skip
      obtain ⟨h1, h2⟩ := an h
      exact snd_tup (of_decide_eq_true h1) (fun ρ Q E q => denEs_len hC es ρ Q E q) ((sndL hC es).shr cx h2)) (fun c Γ e' h hp env whole => by cases e' <;> first | exact no h | rfl)
  | .lst es => pa4 (fun _ _ _ _ => rfl) (fun _ _ _ _ _ => rfl) (fun {X c g W Γ k e'} cx h => by
      cases e' <;> first | exact no h | skip
      obtain ⟨h1, h2⟩ := an h
      exact snd_lst (of_decide_eq_true h1) (fun ρ Q E q => denEs_len hC es ρ Q E q) ((sndL hC es).shr cx h2)) (fun c Γ e' h hp env whole => by cases e' <;> first | exact no h | rfl)
  | .dct ks vs => pa4 (fun _ _ _ _ => rfl) (fun _ _ _ _ _ => rfl) (fun {X c g W Γ k e'} cx h => by
      unfold chkE at h
      split at h
      · obtain ⟨h1, h2⟩ := an h
        have h1 := List.isEmpty_iff.mp h1
        have h2 := List.isEmpty_iff.mp h2
        subst h1 h2
        exact snd_dnew
      · obtain ⟨h1, h2⟩ := an h
        have pk := @(sndL hC ks).h1
        have pv := @(sndL hC vs).h1
        rcases ks with _ | ⟨kx, _ | _⟩
        · exact no h1
        · rcases vs with _ | ⟨vx, _ | _⟩
          · exact no h2
          · obtain ⟨_, h1⟩ := an (show (([] : List Ex).isEmpty && chkE c Γ .shr false kx _) = true from h1)
            obtain ⟨_, h2⟩ := an (show (([] : List Ex).isEmpty && chkE c Γ .shr false vx _) = true from h2)
            exact PE.of_own k (snd_disp1 cx (pk rfl cx h1) (pv rfl cx h2))
          · exact no h2
        · exact no h1
      · exact no h) (fun c Γ e' h hp env whole => by cases e' <;> first | exact no h | rfl)
  | .bin o a b => pa4 (fun _ _ _ _ => rfl) (fun _ _ _ _ _ => rfl) (fun {X c g W Γ k e'} cx h => by
      cases e' <;> first | exact no h | skip
      obtain ⟨h1, h2⟩ := an h
      obtain ⟨h2, h3⟩ := an h2
      exact snd_bin cx h1 ((sndA hC a).ex cx h2) ((sndA hC b).ex cx h3)) (fun c Γ e' h hp env whole => by cases e' <;> first | exact no h | rfl)
  | .neg a => pa4 (fun _ _ _ _ => rfl) (fun _ _ _ _ _ => rfl) (fun {X c g W Γ k e'} cx h => by
      cases e' <;> first | exact no h | skip
      rename_i op a' p
      cases op <;> first | exact no h | skip
      exact snd_neg ((sndA hC a).ex cx h)) (fun c Γ e' h hp env whole => by
        cases e' <;> first | exact no h | skip
        rename_i op a' p
        cases op <;> first | exact no h | rfl)
  | .nt a => by
    have hex : ∀ {X : Cx} {c : Cc} {g : GC} {W : WX} {Γ : List Bool} {k : Kd} {e' : Expr}, Cxt X c g W C G → chkE c Γ k false (.nt a) e' = true → PE X e' (TX g W Γ k (denE C G (.nt a))) := fun {X c g W Γ k e'} cx h => by
      cases e' <;> first | exact no h | skip
      rename_i op a' p
      cases op <;> first | exact no h | skip
      exact snd_nt ((sndA hC a).ex cx (an h).2)
    refine ⟨hex, fun {X c g W Γ e'} cx hp h => ?_, fun cx h => no h, fun {X c g W Γ k tg e'} cx hk hp h => pi_val cx hk (hex cx (show chkE c Γ k false (.nt a) e' = true from h)), fun cx h => no h⟩
    cases e' <;> first | exact no h | skip
    rename_i op a' p
    cases op <;> first | exact no h | skip
    exact snt_nt ((sndA hC a).ts cx (an h).1 (an h).2)
  | .an a b => by
    have hex : ∀ {X : Cx} {c : Cc} {g : GC} {W : WX} {Γ : List Bool} {k : Kd} {e' : Expr}, Cxt X c g W C G → chkE c Γ k false (.an a b) e' = true → PE X e' (TX g W Γ k (denE C G (.an a b))) := fun {X c g W Γ k e'} cx h => by
      cases e' <;> first | exact no h | skip
      rename_i op es p
      cases op <;> first | exact no h | skip
      rcases es with _ | ⟨a', _ | ⟨b', _ | ⟨r1, r2⟩⟩⟩ <;> first | exact no h | skip
      · obtain ⟨h1, h⟩ := an h
        obtain ⟨h2, h⟩ := an h
        obtain ⟨h3, h4⟩ := an h
        exact snd_an ((sndA hC a).ex cx h2) (pe_one1 ((sndA hC b).ex cx h4))
      · obtain ⟨h1, h⟩ := an h
        obtain ⟨h2, h⟩ := an h
        exact snd_an ((sndA hC a).ex cx h2) ((sndA hC b).ex cx h)
    have hpw : ∀ {X : Cx} {c : Cc} {g : GC} {W : WX} {Γ : List Bool} {op : BoolOp} {es : List Expr} {pos : Pos}, Cxt X c g W C G → chkE c Γ .any false (.an a b) (.BoolOp op es pos) = true → PW X (.BoolOp op es pos) (TTX g W Γ (denE C G (.an a b))) := fun {X c g W Γ op es pos} cx h => by
      cases op <;> first | exact no h | skip
      rcases es with _ | ⟨a', _ | ⟨b', _ | ⟨r1, r2⟩⟩⟩ <;> first | exact no h | skip
      · obtain ⟨h1, h⟩ := an h
        obtain ⟨h2, h⟩ := an h
        obtain ⟨h3, h4⟩ := an h
        exact snt_an ((sndA hC a).ts cx h1 h2) (snt_one ((sndA hC b).ts cx h3 h4))
      · obtain ⟨h1, h⟩ := an h
        obtain ⟨h2, h⟩ := an h
        exact snt_an ((sndA hC a).ts cx h1 h2) ((sndA hC b).pw cx h)
    refine ⟨hex, fun {X c g W Γ e'} cx hp h => ?_, hpw, fun {X c g W Γ k tg e'} cx hk hp h => pi_val cx hk (hex cx (show chkE c Γ k false (.an a b) e' = true from h)), fun cx h => no h⟩
    cases e' <;> first | exact no h | skip
    exact (hpw cx h).pt
  | .or_ a b => by
    have hex : ∀ {X : Cx} {c : Cc} {g : GC} {W : WX} {Γ : List Bool} {k : Kd} {e' : Expr}, Cxt X c g W C G → chkE c Γ k false (.or_ a b) e' = true → PE X e' (TX g W Γ k (denE C G (.or_ a b))) := fun {X c g W Γ k e'} cx h => by
      cases e' <;> first | exact no h | skip
      rename_i op es p
      cases op <;> first | exact no h | skip
      rcases es with _ | ⟨a', _ | ⟨b', _ | ⟨r1, r2⟩⟩⟩ <;> first | exact no h | skip
      · obtain ⟨h1, h⟩ := an h
        obtain ⟨h2, h⟩ := an h
        obtain ⟨h3, h4⟩ := an h
        exact snd_or ((sndA hC a).ex cx h2) (pe_one1 ((sndA hC b).ex cx h4))
      · obtain ⟨h1, h⟩ := an h
        obtain ⟨h2, h⟩ := an h
        exact snd_or ((sndA hC a).ex cx h2) ((sndA hC b).ex cx h)
    have hpw : ∀ {X : Cx} {c : Cc} {g : GC} {W : WX} {Γ : List Bool} {op : BoolOp} {es : List Expr} {pos : Pos}, Cxt X c g W C G → chkE c Γ .any false (.or_ a b) (.BoolOp op es pos) = true → PW X (.BoolOp op es pos) (TTX g W Γ (denE C G (.or_ a b))) := fun {X c g W Γ op es pos} cx h => by
      cases op <;> first | exact no h | skip
      rcases es with _ | ⟨a', _ | ⟨b', _ | ⟨r1, r2⟩⟩⟩ <;> first | exact no h | skip
      · obtain ⟨h1, h⟩ := an h
        obtain ⟨h2, h⟩ := an h
        obtain ⟨h3, h4⟩ := an h
        exact snt_or ((sndA hC a).ts cx h1 h2) (snt_one ((sndA hC b).ts cx h3 h4))
      · obtain ⟨h1, h⟩ := an h
        obtain ⟨h2, h⟩ := an h
        exact snt_or ((sndA hC a).ts cx h1 h2) ((sndA hC b).pw cx h)
    refine ⟨hex, fun {X c g W Γ e'} cx hp h => ?_, hpw, fun {X c g W Γ k tg e'} cx hk hp h => pi_val cx hk (hex cx (show chkE c Γ k false (.or_ a b) e' = true from h)), fun cx h => no h⟩
    cases e' <;> first | exact no h | skip
    exact (hpw cx h).pt
  | .cmp o a b => by
    have hex : ∀ {X : Cx} {c : Cc} {g : GC} {W : WX} {Γ : List Bool} {k : Kd} {e' : Expr}, Cxt X c g W C G → chkE c Γ k false (.cmp o a b) e' = true → PE X e' (TX g W Γ k (denE C G (.cmp o a b))) := fun {X c g W Γ k e'} cx h => by
      cases e' <;> first | exact no h | skip
      rename_i l ops cs p
      rcases ops with _ | ⟨op, _ | ⟨op2, ops⟩⟩ <;> rcases cs with _ | ⟨b', _ | ⟨b2, cs⟩⟩ <;> first | exact no h | skip
      obtain ⟨h1, h2⟩ := an h
      obtain ⟨h2, h3⟩ := an h2
      obtain ⟨h3, h4⟩ := an h3
      exact snd_cmp cx (of_decide_eq_true h1) (by simpa using h2) ((sndA hC a).ex cx h3) ((sndA hC b).ex cx h4)
    refine ⟨hex, fun {X c g W Γ e'} cx hp h => ?_, fun cx h => no h, fun {X c g W Γ k tg e'} cx hk hp h => pi_val cx hk (hex cx (show chkE c Γ k false (.cmp o a b) e' = true from h)), fun cx h => no h⟩
    cases e' <;> first | exact no h | skip
    rename_i l ops cs p
    rcases ops with _ | ⟨op, _ | ⟨op2, ops⟩⟩ <;> rcases cs with _ | ⟨b', _ | ⟨b2, cs⟩⟩ <;> first | exact no h | skip
    obtain ⟨h1, h2⟩ := an h
    obtain ⟨h2, h3⟩ := an h2
    obtain ⟨h3, h4⟩ := an h3
    exact snt_cmp cx (of_decide_eq_true h1) (by simpa using h2) ((sndA hC a).ex cx h3) ((sndA hC b).ex cx h4)
  | .chn o q a b d => by
    have hex : ∀ {X : Cx} {c : Cc} {g : GC} {W : WX} {Γ : List Bool} {k : Kd} {e' : Expr}, Cxt X c g W C G → chkE c Γ k false (.chn o q a b d) e' = true → PE X e' (TX g W Γ k (denE C G (.chn o q a b d))) := fun {X c g W Γ k e'} cx h => by
      cases e' <;> first | exact no h | skip
      rename_i l ops cs p
      rcases ops with _ | ⟨op, _ | ⟨op2, _ | ⟨op3, ops⟩⟩⟩ <;> rcases cs with _ | ⟨b', _ | ⟨b2, _ | ⟨b3, cs⟩⟩⟩ <;> first | exact no h | skip
      obtain ⟨h1, h⟩ := an h
      obtain ⟨h2, h⟩ := an h
      obtain ⟨h3, h⟩ := an h
      obtain ⟨h4, h⟩ := an h
      obtain ⟨h5, h6⟩ := an h
      exact snd_chn cx (of_decide_eq_true h1) (of_decide_eq_true h2) (by simpa using h3) ((sndA hC a).ex cx h4) ((sndA hC b).ex cx h5) ((sndA hC d).ex cx h6)
    refine ⟨hex, fun {X c g W Γ e'} cx hp h => ?_, fun cx h => no h, fun {X c g W Γ k tg e'} cx hk hp h => pi_val cx hk (hex cx (show chkE c Γ k false (.chn o q a b d) e' = true from h)), fun cx h => no h⟩
    cases e' <;> first | exact no h | skip
    rename_i l ops cs p
    rcases ops with _ | ⟨op, _ | ⟨op2, _ | ⟨op3, ops⟩⟩⟩ <;> rcases cs with _ | ⟨b', _ | ⟨b2, _ | ⟨b3, cs⟩⟩⟩ <;> first | exact no h | skip
    obtain ⟨h1, h⟩ := an h
    obtain ⟨h2, h⟩ := an h
    obtain ⟨h3, h⟩ := an h
    obtain ⟨h4, h⟩ := an h
    obtain ⟨h5, h6⟩ := an h
    exact snt_chn cx (of_decide_eq_true h1) (of_decide_eq_true h2) (by simpa using h3) ((sndA hC a).ex cx h4) ((sndA hC b).ex cx h5) ((sndA hC d).ex cx h6)
  | .ite t a b => pa4 (fun _ _ _ _ => rfl) (fun _ _ _ _ _ => rfl) (fun {X c g W Γ k e'} cx h => by
      cases e' <;> first | exact no h | skip
      obtain ⟨h1, h⟩ := an h
      obtain ⟨h2, h⟩ := an h
      obtain ⟨h3, h4⟩ := an h
      exact snd_ite ((sndA hC t).ts cx h1 h2) ((sndA hC a).ex cx h3) ((sndA hC b).ex cx h4)) (fun c Γ e' h hp env whole => by cases e' <;> first | exact no h | exact no hp)
  | .idx a i => pa4 (fun _ _ _ _ => rfl) (fun _ _ _ _ _ => rfl) (fun {X c g W Γ k e'} cx h => by
      cases e' <;> first | exact no h | skip
      obtain ⟨h1, h⟩ := an h
      obtain ⟨h2, h⟩ := an h
      obtain ⟨h3, h4⟩ := an h
      exact snd_idx cx h1 h2 ((sndA hC a).ex cx h3) ((sndA hC i).ex cx h4)) (fun c Γ e' h hp env whole => by cases e' <;> first | exact no h | rfl)
  | .slc a lo hi => pa4 (fun _ _ _ _ => rfl) (fun _ _ _ _ _ => rfl) (fun {X c g W Γ k e'} cx h => by
      cases e' <;> first | exact no h | skip
      rename_i a' sl p
      cases sl <;> first | exact no h | skip
      rename_i lo' hi' st' p'
      cases st' <;> first | exact no h | skip
      obtain ⟨h1, h⟩ := an h
      obtain ⟨h2, h3⟩ := an h
      refine snd_slc cx ((sndA hC a).ex cx h1) ?_ ?_
      · cases lo' with
        | none =>
          have e := isLitNone_of h2
          subst e
          exact sno_none
        | some l => exact sno_some ((sndA hC lo).ex cx h2)
      · cases hi' with
        | none =>
          have e := isLitNone_of h3
          subst e
          exact sno_none
        | some l => exact sno_some ((sndA hC hi).ex cx h3)) (fun c Γ e' h hp env whole => by cases e' <;> first | exact no h | rfl)
  | .rvs a => pa4 (fun _ _ _ _ => rfl) (fun _ _ _ _ _ => rfl) (fun {X c g W Γ k e'} cx h => by
      unfold chkE at h
      split at h
      · exact snd_rvs cx ((sndA hC a).ex cx h)
      · exact no h) (fun c Γ e' h hp env whole => by cases e' <;> first | exact no h | rfl)
  | .rvf a lo => pa4 (fun _ _ _ _ => rfl) (fun _ _ _ _ _ => rfl) (fun {X c g W Γ k e'} cx h => by
      unfold chkE at h
      split at h
      · obtain ⟨h1, h2⟩ := an h
        exact snd_rvf cx ((sndA hC a).ex cx h1) ((sndA hC lo).ex cx h2)
      · exact no h) (fun c Γ e' h hp env whole => by cases e' <;> first | exact no h | rfl)
  | .call f es => pa4 (fun _ _ _ _ => rfl) (fun _ _ _ _ _ => rfl) (fun {X c g W Γ k e'} cx h => by
      unfold chkE at h
      split at h
      · rename_i es' _
        obtain ⟨h1, h⟩ := an h
        obtain ⟨h2, h⟩ := an h
        obtain ⟨h3, h⟩ := an h
        obtain ⟨h4, h5⟩ := an h
        obtain ⟨h6, h7⟩ := chkEs_plain h5
        cases es' with
        | nil =>
          cases es with
          | nil => exact no h4
          | cons => cases h6
        | cons e1 es1 => exact snd_call cx h1 (of_decide_eq_true h2) h3 h7 ((sndL hC es).shr cx h5)
      · exact no h) (fun c Γ e' h hp env whole => by cases e' <;> first | exact no h | rfl)
  | .callv g es => pa4 (fun _ _ _ _ => rfl) (fun _ _ _ _ _ => rfl) (fun {X c g W Γ k e'} cx h => no h) (fun c Γ e' h hp env whole => no h)
  | .roll a m => pa4 (fun _ _ _ _ => rfl) (fun _ _ _ _ _ => rfl) (fun {X c g W Γ k e'} cx h => by
      unfold chkE at h
      split at h
      · obtain ⟨h1, h⟩ := an h
        obtain ⟨h2, h⟩ := an h
        obtain ⟨h3, h⟩ := an h
        obtain ⟨h4, h⟩ := an h
        obtain ⟨h5, h6⟩ := an h
        exact snd_roll cx h1 (of_decide_eq_true h2) h3 h4 ((sndA hC a).ex cx h5) ((sndA hC m).ex cx h6)
      · exact no h) (fun c Γ e' h hp env whole => by cases e' <;> first | exact no h | rfl)
  | .bi b es => pa4 (fun _ _ _ _ => rfl) (fun _ _ _ _ _ => rfl) (fun {X c g W Γ k e'} cx h => by
      unfold chkE at h
      split at h
      · rename_i es' _
        obtain ⟨h1, h⟩ := an h
        obtain ⟨h2, h⟩ := an h
        obtain ⟨h3, h⟩ := an h
        obtain ⟨h4, h⟩ := an h
        obtain ⟨h5, h6⟩ := an h
        rcases Bool.or_eq_true_iff.mp h6 with h6 | h6
        · obtain ⟨h7, h8⟩ := chkEs_plain h6
          cases es' with
          | nil =>
            cases es with
            | nil => exact no h5
            | cons => cases h7
          | cons e1 es1 => exact snd_bi cx h1 (of_decide_eq_true h2) h3 h4 h8 ((sndL hC es).any cx h6)
        · obtain ⟨h7, h8⟩ := an h6
          rcases es with _ | ⟨e1, es⟩
          · exact no h8
          rcases es' with _ | ⟨e1', es'⟩
          · exact no h8
          obtain ⟨k1, h8⟩ := an (show (es.isEmpty && (es'.isEmpty && (isRng e1 && (plainE e1' && chkE c Γ .any true e1 e1')))) = true from h8)
          obtain ⟨k2, h8⟩ := an h8
          obtain ⟨k3, h8⟩ := an h8
          obtain ⟨k4, k5⟩ := an h8
          have k1 := List.isEmpty_iff.mp k1
          have k2 := List.isEmpty_iff.mp k2
          subst k1 k2
          exact snd_rgc cx h7 h1 (of_decide_eq_true h2) k4 ((sndA hC e1).rg cx k3 k5)
      · exact no h) (fun c Γ e' h hp env whole => by cases e' <;> first | exact no h | rfl)
  | .isi a t => pa4 (fun _ _ _ _ => rfl) (fun _ _ _ _ _ => rfl) (fun {X c g W Γ k e'} cx h => by
      unfold chkE at h
      split at h
      · obtain ⟨h1, h⟩ := an h
        obtain ⟨h2, h⟩ := an h
        obtain ⟨h3, h⟩ := an h
        obtain ⟨h4, h⟩ := an h
        obtain ⟨h5, h6⟩ := an h
        exact snd_isi cx h1 (of_decide_eq_true h2) h3 (of_decide_eq_true h4) h5 ((sndA hC a).ex cx h6)
      · exact no h) (fun c Γ e' h hp env whole => by cases e' <;> first | exact no h | rfl)
  | .met m o es => pa4 (fun _ _ _ _ => rfl) (fun _ _ _ _ _ => rfl) (fun {X c g W Γ k e'} cx h => by
      unfold chkE at h
      split at h
      · rename_i o' y p2 es' p3
        obtain ⟨h1, h⟩ := an h
        obtain ⟨h2, h⟩ := an h
        obtain ⟨h3, h⟩ := an h
        obtain ⟨h4, h⟩ := an h
        obtain ⟨h5, h⟩ := an h
        obtain ⟨h6, h7⟩ := an h
        have h1 := of_decide_eq_true h1
        subst h1
        have ho := (sndA hC o).ex (W := W) cx h5
        have hl := sndL hC es
        cases m <;> first | exact no h6 | skip
        · have h6 := of_decide_eq_true h6
          rcases es with _ | ⟨e, _ | ⟨f, r⟩⟩ <;> first | (simp at h6; done) | skip
          rcases es' with _ | ⟨e', r'⟩
          · exact no h7
          obtain ⟨h8, h7⟩ := an (show (plainE e' && (chkE c Γ .any false e e' && chkEs c Γ .shr [] r')) = true from h7)
          obtain ⟨h9, h10⟩ := an h7
          have h10 := List.isEmpty_iff.mp (show r'.isEmpty = true from h10)
          subst h10
          exact snd_get1 cx h2 h3 h4 h8 ho (hl.h1 rfl cx h9)
        · have h6 := of_decide_eq_true h6
          rcases es with _ | ⟨e, _ | ⟨f, _ | ⟨f2, r⟩⟩⟩ <;> first | (simp at h6; done) | skip
          rcases es' with _ | ⟨e', r'⟩
          · exact no h7
          obtain ⟨h8, h7⟩ := an (show (plainE e' && (chkE c Γ .any false e e' && chkEs c Γ .shr [f] r')) = true from h7)
          obtain ⟨h9, h10⟩ := an h7
          rcases r' with _ | ⟨f', r2⟩
          · exact no h10
          obtain ⟨h11, h10⟩ := an (show (plainE f' && (chkE c Γ .shr false f f' && chkEs c Γ .shr [] r2)) = true from h10)
          obtain ⟨h12, h13⟩ := an h10
          have h13 := List.isEmpty_iff.mp (show r2.isEmpty = true from h13)
          subst h13
          exact snd_get2 cx h2 h3 h4 h8 h11 ho (hl.h1 rfl cx h9) (hl.h2 rfl cx h12)
      · exact no h) (fun c Γ e' h hp env whole => by cases e' <;> first | exact no h | rfl)
  | .rng1 b => ⟨fun {X c g W Γ k e'} cx h => by
      unfold chkE at h
      split at h
      · exact no (an h).1
      · exact no h, fun {X c g W Γ e'} cx hp h => by
      unfold chkE at h
      split at h
      · exact no (an h).1
      · exact no h, fun cx h => no h, fun {X c g W Γ k tg e'} cx hk hp h => by
      unfold chkE at h
      split at h
      · obtain ⟨_, h⟩ := an h
        obtain ⟨h1, h⟩ := an h
        obtain ⟨h2, h⟩ := an h
        obtain ⟨h3, h4⟩ := an h
        exact pi_rng1 cx h1 (of_decide_eq_true h2) h3 ((sndA hC b).ex cx h4)
      · exact no h, fun {X c g W Γ e'} cx hr h => by
      unfold chkE at h
      split at h
      · obtain ⟨_, h⟩ := an h
        obtain ⟨h1, h⟩ := an h
        obtain ⟨h2, h⟩ := an h
        obtain ⟨h3, h4⟩ := an h
        exact rg1 cx h1 (of_decide_eq_true h2) h3 ((sndA hC b).ex cx h4)
      · exact no h⟩
  | .rng2 a b => ⟨fun {X c g W Γ k e'} cx h => by
      unfold chkE at h
      split at h
      · exact no (an h).1
      · exact no h, fun {X c g W Γ e'} cx hp h => by
      unfold chkE at h
      split at h
      · exact no (an h).1
      · exact no h, fun cx h => no h, fun {X c g W Γ k tg e'} cx hk hp h => by
      unfold chkE at h
      split at h
      · obtain ⟨_, h⟩ := an h
        obtain ⟨h1, h⟩ := an h
        obtain ⟨h2, h⟩ := an h
        obtain ⟨h3, h⟩ := an h
        obtain ⟨h4, h⟩ := an h
        obtain ⟨h5, h6⟩ := an h
        exact pi_rng2 cx h1 (of_decide_eq_true h2) h3 h4 ((sndA hC a).ex cx h5) ((sndA hC b).ex cx h6)
      · exact no h, fun {X c g W Γ e'} cx hr h => by
      unfold chkE at h
      split at h
      · obtain ⟨_, h⟩ := an h
        obtain ⟨h1, h⟩ := an h
        obtain ⟨h2, h⟩ := an h
        obtain ⟨h3, h⟩ := an h
        obtain ⟨h4, h⟩ := an h
        obtain ⟨h5, h6⟩ := an h
        exact rg2 cx h1 (of_decide_eq_true h2) h3 h4 ((sndA hC a).ex cx h5) ((sndA hC b).ex cx h6)
      · exact no h⟩
  | .rngd a b => ⟨fun {X c g W Γ k e'} cx h => by
      unfold chkE at h
      split at h
      · exact no (an h).1
      · exact no h, fun {X c g W Γ e'} cx hp h => by
      unfold chkE at h
      split at h
      · exact no (an h).1
      · exact no h, fun cx h => no h, fun {X c g W Γ k tg e'} cx hk hp h => by
      unfold chkE at h
      split at h
      · obtain ⟨_, h⟩ := an h
        obtain ⟨h1, h⟩ := an h
        obtain ⟨h2, h⟩ := an h
        obtain ⟨h3, h⟩ := an h
        obtain ⟨h4, h⟩ := an h
        obtain ⟨h5, h6⟩ := an h
        exact pi_rngd cx h1 (of_decide_eq_true h2) h3 h4 ((sndA hC a).ex cx h5) ((sndA hC b).ex cx h6)
      · exact no h, fun cx h => no h⟩
  | .zip a b => ⟨fun {X c g W Γ k e'} cx h => by
      unfold chkE at h
      split at h
      · exact no (an h).1
      · exact no h, fun {X c g W Γ e'} cx hp h => by
      unfold chkE at h
      split at h
      · exact no (an h).1
      · exact no h, fun cx h => no h, fun {X c g W Γ k tg e'} cx hk hp h => by
      unfold chkE at h
      split at h
      · obtain ⟨_, h⟩ := an h
        obtain ⟨h1, h⟩ := an h
        obtain ⟨h2, h⟩ := an h
        obtain ⟨h3, h⟩ := an h
        obtain ⟨h4, h⟩ := an h
        obtain ⟨h5, h6⟩ := an h
        cases tg <;> first | exact no hp | skip
        exact pi_zip2 cx hk h1 (of_decide_eq_true h2) h3 h4 ((sndA hC a).ex cx h5) ((sndA hC b).ex cx h6)
      · exact no h, fun cx h => no h⟩
  | .enm a => ⟨fun {X c g W Γ k e'} cx h => by
      unfold chkE at h
      split at h
      · exact no (an h).1
      · exact no h, fun {X c g W Γ e'} cx hp h => by
      unfold chkE at h
      split at h
      · exact no (an h).1
      · exact no h, fun cx h => no h, fun {X c g W Γ k tg e'} cx hk hp h => by
      unfold chkE at h
      split at h
      · obtain ⟨_, h⟩ := an h
        obtain ⟨h1, h⟩ := an h
        obtain ⟨h2, h⟩ := an h
        obtain ⟨h3, h4⟩ := an h
        cases tg <;> first | exact no hp | skip
        exact pi_enm cx hk h1 (of_decide_eq_true h2) h3 ((sndA hC a).ex cx h4)
      · exact no h, fun cx h => no h⟩
  | .rvd _ => pa4 (fun _ _ _ _ => rfl) (fun _ _ _ _ _ => rfl) (fun {X c g W Γ k e'} cx h => no h) (fun c Γ e' h hp env whole => no h)
  | .items a => ⟨fun {X c g W Γ k e'} cx h => by
      unfold chkE at h
      split at h
      · exact no (an h).1
      · exact no h, fun {X c g W Γ e'} cx hp h => by
      unfold chkE at h
      split at h
      · exact no (an h).1
      · exact no h, fun cx h => no h, fun {X c g W Γ k tg e'} cx hk hp h => by
      unfold chkE at h
      split at h
      · obtain ⟨_, h⟩ := an h
        obtain ⟨h1, h⟩ := an h
        obtain ⟨h2, h⟩ := an h
        obtain ⟨h3, h4⟩ := an h
        cases of_decide_eq_true h1
        cases tg <;> first | exact no hp | skip
        exact pi_items' cx hk h2 h3 ((sndA hC a).ex cx h4)
      · exact no h, fun cx h => no h⟩
  | .vals _ => pa4 (fun _ _ _ _ => rfl) (fun _ _ _ _ _ => rfl) (fun {X c g W Γ k e'} cx h => no h) (fun c Γ e' h hp env whole => no h)
  | .lc1 e tg i cd => pa4 (fun _ _ _ _ => rfl) (fun _ _ _ _ _ => rfl) (fun {X c g W Γ k e'} cx h => by
      unfold chkE at h
      split at h
      · exact PE.of_own k (snd_lc1c cx (sndA hC e) (sndA hC i) (sndA hC cd) h)
      · exact no h) (fun c Γ e' h hp env whole => by cases e' <;> first | exact no h | rfl)
  | .lc2 e tg i cd tg2 i2 cd2 => pa4 (fun _ _ _ _ => rfl) (fun _ _ _ _ _ => rfl) (fun {X c g W Γ k e'} cx h => by
      unfold chkE at h
      split at h
      · exact PE.of_own k (snd_lc2c cx (sndA hC e) (sndA hC i) (sndA hC cd) (sndA hC i2) (sndA hC cd2) h)
      · exact no h) (fun c Γ e' h hp env whole => by cases e' <;> first | exact no h | rfl)
  | .dc1 kk w tg i cd => pa4 (fun _ _ _ _ => rfl) (fun _ _ _ _ _ => rfl) (fun {X c g W Γ k e'} cx h => by
      unfold chkE at h
      split at h
      · exact PE.of_own k (snd_dc1c cx (sndA hC kk) (sndA hC w) (sndA hC i) (sndA hC cd) h)
      · exact no h) (fun c Γ e' h hp env whole => by cases e' <;> first | exact no h | rfl)
  | .dc2 _ _ _ _ _ _ _ _ => pa4 (fun _ _ _ _ => rfl) (fun _ _ _ _ _ => rfl) (fun {X c g W Γ k e'} cx h => no h) (fun c Γ e' h hp env whole => no h)
theorem sndL (hC : ∀ f vs, Mono (C f vs)) : ∀ es : List Ex, PL4 C G es
  | [] => ⟨fun {X c g W Γ es'} cx h => by cases es' with | nil => exact sns_nil | cons => exact no h, fun {X c g W Γ es'} cx h => by cases es' with | nil => exact sna_nil | cons => exact no h, (fun h => by cases h), (fun h => by cases h)⟩
  | e :: es => ⟨fun {X c g W Γ es'} cx h => by
      cases es' with
      | nil => exact no h
      | cons e' r =>
        obtain ⟨h1, h2⟩ := an (show (plainE e' && (chkE c Γ .shr false e e' && chkEs c Γ .shr es r)) = true from h)
        obtain ⟨h2, h3⟩ := an h2
        exact sns_cons h1 ((sndA hC e).ex cx h2) ((sndL hC es).shr cx h3), fun {X c g W Γ es'} cx h => by
      cases es' with
      | nil => exact no h
      | cons e' r =>
        obtain ⟨h1, h2⟩ := an (show (plainE e' && (chkE c Γ .any false e e' && chkEs c Γ .any es r)) = true from h)
        obtain ⟨h2, h3⟩ := an h2
        exact sna_cons h1 ((sndA hC e).ex cx h2) ((sndL hC es).any cx h3), (fun q cx h => by
        cases q
        exact (sndA hC e).ex cx h), (fun q cx h => (sndL hC es).h1 (List.cons.inj q).2 cx h)⟩
end
end
end HG
end
section
set_option maxHeartbeats 4000000
/-! HGStm3: lists that a name alone holds are written. -/
namespace HG
open PySem PySem.Spec PyProof.Rows L2
section
variable {B : BC} {H H' : Hp} {F F' : Addr → Prop} {Γ Γ' : List Bool} {σ : L2.St} {ρ : Env}
theorem Γ_same {Γ : List Bool} {i : Nat} (h : isO Γ i = false) : Γ.set i false = Γ := by
  refine List.ext_getElem? fun j => ?_
  by_cases hj : i = j
  · subst hj
    rw [List.getElem?_set]
    unfold isO at h
    rw [List.getD_eq_getElem?_getD] at h
    by_cases hl : i < Γ.length
    · rw [if_pos rfl, if_pos hl]
      rw [List.getElem?_eq_getElem hl] at h ⊢
      exact congrArg some h.symm
    · rw [if_pos rfl, if_neg hl, List.getElem?_eq_none (by omega)]
  · rw [List.getElem?_set_ne hj]
/-- the list that x alone holds -/
theorem StaS.ownL (s : StaS B H F Γ σ ρ) {x : Nat} {ds : List PV} (ho : isO Γ x = true) (e : ρ[x]? = some (some (.list ds))) : ∃ a xs, σ[x]? = some (some (V.ref a)) ∧ a ≠ B.g.ca ∧ H a = some (.lst xs) ∧ Reps B.g H F xs ds := by
  obtain ⟨a, e1, n1, n2, n3, l⟩ := s.own ho e rfl
  rcases l with ⟨xs, ds', h1, r, e2⟩ | ⟨kvs, ds', _, _, e2⟩
  · cases e2
    exact ⟨a, xs, e1, n2, h1, r⟩
  · cases e2
theorem StaS.setL (s : StaS B H F Γ σ ρ) {x : Nat} {ds ds' : List PV} {xs' : List V} {a : Addr} (ho : isO Γ x = true) (e : ρ[x]? = some (some (.list ds))) (e2 : σ[x]? = some (some (V.ref a)))
    (r : ∀ H2, Keep B.g H F H2 F → Reps B.g H2 F xs' ds') : StaS B (upd H a (.lst xs')) F Γ σ (ρ.set x (some (.list ds'))) ∧ Keep B.g H F (upd H a (.lst xs')) F :=
  s.mut (p' := .list ds') ho e e2 rfl rfl fun kp => .inl ⟨xs', ds', upd_same, r _ kp, rfl⟩
end
theorem ix_of {n : Nat} {k : Int} : (0 ≤ k ∧ k < n → ixN n k = some k.toNat) ∧ (-(n : Int) ≤ k ∧ k < 0 → ixN n k = some (k + n).toNat) := by
  unfold ixN
  refine ⟨fun ⟨h1, h2⟩ => by rw [if_pos h1, if_pos h2], fun ⟨h1, h2⟩ => by rw [if_neg (by omega), if_pos h1]⟩
section
variable {X : Cx} {c : Cc} {B : BC} {C : Nat → List PV → M PV} {G : List PV} {Γ Γ1 Γ2 ΓL : List Bool} {me : Env → M PV} {m : Env → M Fl} {st : Stmt} {sts : List Stmt} {e : Expr} {pos p1 p2 p3 : Pos}
/-- the name's value, as it lies -/
theorem pe_nm (cx : Cxt X c B.g B.W C G) {i : Nat} {x : Str} (h : varOk c i x = true) : PE X (.Name x pos) fun σ H Q => ∃ v, σ[i]? = some (some v) ∧ Q v H := by
  obtain ⟨h1, h2⟩ := an h
  obtain ⟨h3, h4⟩ := an h2
  obtain ⟨h5, h6⟩ := nameOk_of h4
  exact pe_var (i := i) (by rw [cx.hN]; exact of_decide_eq_true h1) (by rw [cx.hsc]; exact vis_of h3) h5 h6
theorem pApp_app {ds : List PV} {p : PV} {Q : PV → Prop} {E : PV → Prop} (h : pApp (.list ds) p Q E) : ds.length < LINE ∧ Q (.list (ds ++ [p])) := h
/-- x.append(e) -/
theorem ss_app (cx : Cxt X c B.g B.W C G) {i : Nat} {x : Str} (hx : varOk c i x = true) (ho : isO Γ i = true) (hp : plainE e = true) (hline : (p2.endLine == p3.line) = true) (he : PE X e (TX B.g B.W Γ .shr me)) (hl : leΓ Γ1 Γ) :
    PS X (.Expr (.Call (.Attribute (.Name x p1) "append" p2) [e] [] p3) pos) (TSX B Γ Γ1 ΓL fun ρ => bd (getV ρ i) fun o => gd (isL o = true) (bd (me ρ) fun v => bd (pApp o v) fun o' => pu (.nx (ρ.set i (some o'))))) := by
  have hst : starEach [e] X.env = [(false, eval e X.env)] := star_plain hp
  refine (ps_expr (pe_bm PySem.F.plainAttrs_list PySem.F.slot_list_append PySem.F.type_list_append mt_append (pe_nm cx hx) (pa_cons he pa_nil hst) (by rfl) (by rw [hst]; rfl) hline (by rw [hst]; rfl) (by rfl)) (by rfl)).imp fun D σ H ⟨F, ρ, Qd, E, s, hq, qn, qb, qc, qr, ex⟩ => ?_
  obtain ⟨p, e1, hq⟩ := getV_app hq
  obtain ⟨hL, hq⟩ := hq
  cases p <;> first | (cases hL; done) | skip
  rename_i ds
  obtain ⟨a, xs, s1, n1, h1, r1⟩ := s.ownL ho e1
  refine ⟨_, s1, .inl ⟨rfl, xs, SqL.of h1⟩, F, ρ, _, E, s.st, hq, fun p hp v H1 F1 w r => ?_, fun x hx => (ex x hx).at s⟩
  obtain ⟨hlen, hp⟩ := pApp_app hp
  have sg := s.grow w
  have h2 : H1 a = some (.lst xs) := w.ext.lst n1 h1
  obtain ⟨a', xs', s2, n2, h3, r3⟩ := sg.ownL ho e1
  rw [s1] at s2
  cases s2
  rw [h2] at h3
  cases h3
  have r : Rep B.g H1 F1 v p := r
  have hlen2 := r3.length
  refine ⟨a, xs, v, rfl, rfl, h2, by rw [line_eq, hlen2]; exact hlen, ?_⟩
  obtain ⟨s4, k4⟩ := sg.setL (ds' := ds ++ [p]) (xs' := xs ++ [v]) ho e1 s1 fun H2 kp => (r3.keep kp).append (.cons (r.keep kp) .nil)
  obtain ⟨F5, s5, k5⟩ := s4.weaken hl
  exact qn _ hp σ _ F5 (((w.keep s.fca).trans k4).trans k5) s5
/-- one target among several -/
def GU (B : BC) (Γ : List Bool) (m : PV → Env → M Env) : TG := fun v σ H Q => ∃ F ρ p Qd E, StaS B H F Γ σ ρ ∧ Rep B.g H F v p ∧ m p ρ Qd E ∧
  (∀ ρ', Qd ρ' → ∀ σ' H' F', Keep B.g H F H' F' → StaS B H' F' Γ σ' ρ' → Q σ' H') ∧ ∀ x, E x → EXS B x
def stM (C : Nat → List PV → M PV) (G : List PV) (x : Nat) (i : Ex) (v : PV) (ρ : Env) : M Env := bd (getV ρ x) fun o => bd (denE C G i ρ) fun k => bd (pSet o k v) fun o' => pu (ρ.set x (some o'))
/-- x[i] = .. -/
theorem pg_st (cx : Cxt X c B.g B.W C G) {x : Nat} {nm : Str} {i : Ex} {i' : Expr} (hpi : plainE i' = true) (hx : varOk c x nm = true) (ho : isO Γ x = true) (hi : PE X i' (TX B.g B.W Γ .any (denE C G i))) :
    PG X (.Subscript (.Name nm p1) i' p2) (GU B Γ (stM C G x i)) := by
  refine (pg_sub (pe_nm cx hx) hi (set_any cx.hK cx.hP cx.hW (by have := cx.hu; omega)) (by intro u; cases i' <;> first | rfl | exact no hpi)).imp fun v σ H Q ⟨F, ρ, p, Qd, E, s, r, hq, qn, ex⟩ => ?_
  obtain ⟨o, e1, hq⟩ := getV_app hq
  obtain ⟨w0, s1, r0⟩ := s.st.env.get x o e1
  refine ⟨w0, s1, F, ρ, _, E, s.st, hq, fun k hk vk H1 F1 w rk => ?_, fun x hx => (ex x hx).at s⟩
  replace rk : AnyR B.g H1 F1 vk k := rk
  have dict : ∀ ds : KVs, o = .dict ds → rSetA B.g w0 vk v H1 fun H3 => Q σ H3 := fun ds e => by
    subst e
    have hk : gd (plainD (.dict ds) = true ∧ kndOk (ds.map (·.1)) k = true ∧ ds.length < LINE) (pu (PyData.dict (dput ds k p))) (fun o' => Qd (ρ.set x (some o'))) E := hk
    obtain ⟨⟨pl, kk, hlen⟩, hk⟩ := hk
    have sg := s.grow w
    obtain ⟨a, s2, n0, n1, n3, l⟩ := sg.own ho e1 pl
    rw [s1] at s2
    cases s2
    rcases l with ⟨xs, ds', h1, r1, e2⟩ | ⟨kvs, ds', dr, rr, e2⟩
    · cases e2
    cases e2
    have kk2 := kk
    rw [zip_fst _ _ rr.lenV] at kk2
    have el : ((kvs.map (·.1)).zip ds').length = kvs.length := by
      rw [List.length_zip, List.length_map, ← rr.lenV, Nat.min_self]
    rw [el] at hlen
    have r' : Rep B.g H1 F1 v p := r.ext w.ext w.mono
    refine .inr ⟨a, kvs, k, rfl, dr, kk2, rk.dkey (kndOk_key kk), by rw [line_eq]; exact hlen, fun ob d2 nt => ?_⟩
    obtain ⟨ds2, e3, e4⟩ := put_keys k v p kvs ds' rr.lenV
    have m2 : isMut (.dict (dput ((kvs.map (·.1)).zip ds') k p)) = true := plainD_put kk
    obtain ⟨s4, k4⟩ := sg.mut (p' := .dict (dput ((kvs.map (·.1)).zip ds') k p)) ho e1 s1 pl m2 fun kp => .inr ⟨_, ds2, d2, e4 _ _ _ (r'.keep kp) (rr.keep kp), by rw [e3]⟩
    exact qn _ hk σ _ F1 ((w.keep s.fca).trans k4) s4
  cases o <;> try exact dict _ rfl
  all_goals cases k <;> try exact False.elim hk
  rename_i ds j
  have ek := rk.int
  subst ek
  obtain ⟨a, xs, s2, n1, h1, r1⟩ := s.ownL ho e1
  rw [s1] at s2
  cases s2
  have sg := s.grow w
  have h2 : H1 a = some (.lst xs) := w.ext.lst n1 h1
  obtain ⟨a', xs', s3, n2, h3, r3⟩ := sg.ownL ho e1
  rw [s1] at s3
  cases s3
  rw [h2] at h3
  cases h3
  have hn := r3.length
  have r' : Rep B.g H1 F1 v p := r.ext w.ext w.mono
  have fin : ∀ l : Nat, ixN xs.length j = some l → Qd (ρ.set x (some (.list (ds.set l p)))) → rSetA B.g (.ref a) (.int j) v H1 fun H3 => Q σ H3 := fun l hl hd => by
    refine .inl ⟨a, xs, j, l, rfl, rfl, h2, hl, ?_⟩
    obtain ⟨s4, k4⟩ := sg.setL (ds' := ds.set l p) (xs' := xs.set l v) ho e1 s1 fun H2 kp => (r3.keep kp).set (r'.keep kp) l
    exact qn _ hd σ _ F1 ((w.keep s.fca).trans k4) s4
  have hk : (if 0 ≤ j ∧ j < ds.length then pu (PyData.list (ds.set j.toNat p)) else if -(ds.length : Int) ≤ j ∧ j < 0 then pu (PyData.list (ds.set (j + ds.length).toNat p)) else stuck) (fun o' => Qd (ρ.set x (some o'))) E := hk
  split at hk
  · rename_i c1
    exact fin _ ((ix_of).1 (by rw [hn]; exact c1)) hk
  · split at hk
    · rename_i c2
      exact fin _ ((ix_of).2 (by rw [hn]; exact c2)) (by rw [hn]; exact hk)
    · exact False.elim hk
/-- x[i] = e -/
theorem ss_seti (cx : Cxt X c B.g B.W C G) {x : Nat} {nm : Str} {i : Ex} {i' : Expr} (hpi : plainE i' = true) (hx : varOk c x nm = true) (ho : isO Γ x = true) (hi : PE X i' (TX B.g B.W Γ .any (denE C G i))) (he : PE X e (TX B.g B.W Γ .shr me)) (hs : swapsWithSole [.Subscript (.Name nm p1) i' p2] e pos.line X.env = pure false) (hl : leΓ Γ1 Γ) :
    PS X (.Assign [.Subscript (.Name nm p1) i' p2] e pos) (TSX B Γ Γ1 ΓL fun ρ => bd (me ρ) fun v => bd (setU C G [.st x i] [v] ρ) fun ρ' => pu (.nx ρ')) := by
  refine (ps_asg he (pg_st cx hpi hx ho hi) hs (by rfl) (by rfl)).imp fun D σ H ⟨F, ρ, Qd, E, s, hq, qn, qb, qc, qr, ex⟩ => ?_
  refine ⟨F, ρ, _, E, s.st, hq, fun p hp v H1 F1 w r => ?_, fun x hx => (ex x hx).at s⟩
  refine ⟨F1, ρ, p, fun ρ' => Qd (.nx ρ'), E, s.grow w, r, hp, fun ρ' hd σ' H' F' k s' => ?_, ex⟩
  obtain ⟨F5, s5, k5⟩ := s'.weaken hl
  exact qn _ hd σ' H' F5 (((w.keep s.fca).trans k).trans k5) s5
/-- targets one by one -/
def GUs (B : BC) (C : Nat → List PV → M PV) (G : List PV) (Γ : List Bool) (ts : List Tu) : TGs := fun vs σ H Q => ∃ F ρ ps Qd E, StaS B H F Γ σ ρ ∧ Reps B.g H F vs ps ∧ setU C G ts ps ρ Qd E ∧
  (∀ ρ', Qd ρ' → ∀ σ' H' F', Keep B.g H F H' F' → StaS B H' F' Γ σ' ρ' → Q σ' H') ∧ ∀ x, E x → EXS B x
def chkU (c : Cc) (Γ : List Bool) : List Tu → List Expr → Bool
  | [], [] => true
  | .nm i :: ts, .Name x _ :: es => decide (c.N[i]? = some x) && (locOk c x && (!isO Γ i && chkU c Γ ts es))
  | .st x i :: ts, .Subscript (.Name y _) i' _ :: es => varOk c x y && (isO Γ x && (plainE i' && (chkE c Γ .any false i i' && chkU c Γ ts es)))
  | _, _ => false
theorem sg_U (hC : ∀ f vs, Mono (C f vs)) (cx : Cxt X c B.g B.W C G) : ∀ {ts : List Tu} {es : List Expr}, chkU c Γ ts es = true → PGs X es (GUs B C G Γ ts) ∧ ts.length = es.length ∧ ∀ e ∈ es, plainE e = true
  | [], [], _ => ⟨pgs_nil.imp fun vs σ H Q ⟨F, ρ, ps, Qd, E, s, r, hq, qn, _⟩ => by
      cases r with
      | nil => exact ⟨rfl, qn ρ hq σ H F s.keep s⟩
      | cons => exact False.elim hq, rfl, fun _ h => by cases h⟩
  | [], _ :: _, h => by unfold chkU at h; exact no h
  | .nm _ :: _, [], h => by unfold chkU at h; exact no h
  | .st _ _ :: _, [], h => by unfold chkU at h; exact no h
  | .nm i :: ts, e :: es, h => by
    cases e with
    | Name x pos =>
      unfold chkU at h
      obtain ⟨h1, h⟩ := an h
      obtain ⟨h3, h⟩ := an h
      obtain ⟨h2, h4⟩ := an h
      have h2 : isO Γ i = false := by simpa using h2
      obtain ⟨h5, h6⟩ := loc_of cx h3
      obtain ⟨k1, k2, k3⟩ := sg_U hC cx h4
      have hN : X.N.Nodup := by rw [cx.hN]; exact cx.nd
      refine ⟨(pgs_cons (pg_name hN (by rw [cx.hN]; exact of_decide_eq_true h1) h5 h6) k1 (by rw [assignEach_plain rfl]; rfl)).imp fun vs σ H Q ⟨F, ρ, ps, Qd, E, s, r, hq, qn, ex⟩ => ?_, congrArg Nat.succ k2, fun e' h' => ?_⟩
      · cases r with
        | nil => exact False.elim hq
        | @cons v vs p ps r0 rr =>
          have s2 := s.putS (i := i) r0
          rw [Γ_same h2] at s2
          exact ⟨v, vs, rfl, F, ρ.set i (some p), ps, Qd, E, s2, rr, hq, qn, ex⟩
      · rcases List.mem_cons.mp h' with z | z
        · rw [z]; rfl
        · exact k3 e' z
    | _ => unfold chkU at h; exact no h
  | .st x i :: ts, e :: es, h => by
    cases e with
    | Subscript o i' pos =>
      cases o with
      | Name y p =>
        unfold chkU at h
        obtain ⟨h1, h⟩ := an h
        obtain ⟨h2, h⟩ := an h
        obtain ⟨h3, h⟩ := an h
        obtain ⟨h4, h5⟩ := an h
        obtain ⟨k1, k2, k3⟩ := sg_U hC cx h5
        refine ⟨(pgs_cons (pg_st cx h3 h1 h2 ((sndA hC i).ex cx h4)) k1 (by rw [assignEach_plain rfl]; rfl)).imp fun vs σ H Q ⟨F, ρ, ps, Qd, E, s, r, hq, qn, ex⟩ => ?_, congrArg Nat.succ k2, fun e' h' => ?_⟩
        · cases r with
          | nil => exact False.elim hq
          | @cons v vs p ps r0 rr =>
            refine ⟨v, vs, rfl, F, ρ, p, _, E, s, r0, hq, fun ρ' hd σ' H' F' k s' => ?_, ex⟩
            exact ⟨F', ρ', ps, Qd, E, s', rr.keep k, hd, fun ρ2 hd2 σ2 H2 F2 k2 s2 => qn ρ2 hd2 σ2 H2 F2 (k.trans k2) s2, ex⟩
        · rcases List.mem_cons.mp h' with z | z
          · rw [z]; rfl
          · exact k3 e' z
      | _ => unfold chkU at h; exact no h
    | _ => unfold chkU at h; exact no h
/-- targets, x[i] among them = values -/
theorem ss_asgUs (hC : ∀ f vs, Mono (C f vs)) (cx : Cxt X c B.g B.W C G) {us : List Tu} {es : List Ex} {ts es' : List Expr} {pt : Pos} {kt k2 : Nat} {pt2 : Pos} (h : chkU c Γ us ts = true) (hn : us.length = es.length) (hb : us.length ≤ 1000)
    (ha : chkEs c Γ .shr es es' = true) (hw : swappedStores [.Tuple ts kt pt] (.Tuple es' k2 pt2) X.env = pure none) (hl : leΓ Γ1 Γ) :
    PS X (.Assign [.Tuple ts kt pt] (.Tuple es' k2 pt2) pos) (TSX B Γ Γ1 ΓL fun ρ => bd (denEs C G es ρ) fun vs => bd (setU C G us vs ρ) fun ρ' => pu (.nx ρ')) := by
  obtain ⟨h1, h2, h3⟩ := sg_U hC cx h
  have hg : PG X (.Tuple ts kt pt) (gTup X.K us.length (GUs B C G Γ us)) := pg_tup cx.calm h1 (by rw [assignEach_len]; exact h2.symm) (assignEach_star h3)
  have hes := (sndL hC es).shr cx ha
  refine (ps_asg (pe_tup hes) hg (by rfl) hw (by rfl)).imp fun D σ H ⟨F, ρ, Qd, E, s, hq, qn, qb, qc, qr, ex⟩ => ?_
  refine ⟨F, ρ, _, E, s.st, denEs_len hC es ρ _ _ hq, fun ps ⟨hp, hpl⟩ vs H1 F1 w rs => ⟨?_, fun p hf => ?_⟩, fun x hx => (ex x hx).at s⟩
  · rw [rs.length, hpl, ← hn, line_eq]; show _ ≤ 16777216; omega
  · have w2 := w.st0.upd (o := .tup vs) hf
    have sg := (s.grow w).grow w2
    refine ⟨p, vs, rfl, .inl (.inl upd_same), by rw [rs.length, hpl, hn], F1, ρ, ps, fun ρ' => Qd (.nx ρ'), E, sg, rs.ext w2.ext w2.mono, hp, fun ρ' hd σ' H' F' k s' => ?_, ex⟩
    obtain ⟨F5, s5, k5⟩ := s'.weaken hl
    exact qn _ hd σ' H' F5 ((((w.keep s.fca).trans (w2.keep w.fca)).trans k).trans k5) s5
end
end HG
end
section
set_option maxHeartbeats 4000000
/-! HGStm4: items taken out of lists that a name alone holds; such lists grown by +=. -/
namespace HG
open PySem PySem.Spec PyProof.Rows L2
theorem Reps.dropLast {g : GC} {H : Hp} {F : Addr → Prop} {xs : List V} {ds : List PV} (r : Reps g H F xs ds) : Reps g H F xs.dropLast ds.dropLast := by
  rw [List.dropLast_eq_take, List.dropLast_eq_take, r.length]
  exact r.take _
section
variable {X : Cx} {c : Cc} {B : BC} {C : Nat → List PV → M PV} {G : List PV} {Γ Γ1 Γ2 ΓL : List Bool} {me : Env → M PV} {m : Env → M Fl} {st : Stmt} {sts : List Stmt} {e : Expr} {pos p1 p2 p3 p4 p5 px : Pos}
theorem isL_of {p : PV} (h : isL p = true) : ∃ xs, p = .list xs := by
  cases p <;> first | exact ⟨_, rfl⟩ | (cases h; done)
/-- y = x.pop() -/
theorem ss_pop (cx : Cxt X c B.g B.W C G) {i j : Nat} {x y : Str} (hx : varOk c i x = true) (ho : isO Γ i = true) (hj : c.N[j]? = some y) (hy : locOk c y = true) (hline : (p2.endLine == p3.line) = true) (hl : leΓ Γ1 (Γ.set j false)) :
    PS X (.Assign [.Name y px] (.Call (.Attribute (.Name x p1) "pop" p2) [] [] p3) pos) (TSX B Γ Γ1 ΓL fun ρ => bd (getV ρ i) fun o => pPop o fun v o' => pu (.nx ((ρ.set i (some o')).set j (some v)))) := by
  obtain ⟨h5, h6⟩ := loc_of cx hy
  have hN : X.N.Nodup := by rw [cx.hN]; exact cx.nd
  refine (ps_set hN (by rw [cx.hN]; exact hj) h5 (pe_bm0 PySem.F.plainAttrs_list PySem.F.slot_list_pop PySem.F.type_list_pop mt_pop (pe_nm cx hx) (by rfl) hline) (by rfl) h6).imp fun D σ H ⟨F, ρ, Qd, E, s, hq, qn, qb, qc, qr, ex⟩ => ?_
  obtain ⟨p, e1, hq⟩ := getV_app hq
  cases p <;> try exact False.elim hq
  rename_i ds
  have hq : bd (ofO ds.getLast?) (fun v => pu (Fl.nx ((ρ.set i (some (.list ds.dropLast))).set j (some v)))) Qd E := hq
  obtain ⟨d, hd, hq⟩ := ofO_app hq
  have hq : Qd (Fl.nx ((ρ.set i (some (.list ds.dropLast))).set j (some d))) := hq
  obtain ⟨a, xs, s1, n1, h1, r1⟩ := s.ownL ho e1
  rw [List.getLast?_eq_getElem?, ← r1.length] at hd
  obtain ⟨v, hv, rv⟩ := r1.get hd
  refine ⟨_, s1, .inl ⟨rfl, xs, SqL.of h1⟩, a, xs, v, rfl, rfl, h1, hv, ?_⟩
  obtain ⟨s4, k4⟩ := s.setL (ds' := ds.dropLast) (xs' := xs.dropLast) ho e1 s1 fun H2 kp => (r1.keep kp).dropLast
  obtain ⟨F5, s5, k5⟩ := (s4.putS (i := j) (rv.keep k4)).weaken hl
  exact qn _ hq _ _ F5 (k4.trans k5) s5
theorem pPopi_app {ds : List PV} {k : Int} {f : PV → PV → M Fl} {Q : Fl → Prop} {E : PV → Prop} (h : pPopi (.list ds) (.int k) f Q E) : ((0 ≤ k ∧ k < ds.length) ∧ ds.length ≤ LINE) ∧ ∃ v, ds[k.toNat]? = some v ∧ f v (.list (ds.eraseIdx k.toNat)) Q E := by
  have h : gd ((0 ≤ k ∧ k < ds.length) ∧ ds.length ≤ LINE) (bd (ofO ds[k.toNat]?) fun v => f v (.list (ds.eraseIdx k.toNat))) Q E := h
  obtain ⟨h1, h2⟩ := h
  obtain ⟨v, hv, h3⟩ := ofO_app h2
  exact ⟨h1, v, hv, h3⟩
theorem seqIndex_of {n : Nat} {k : Int} (h0 : 0 ≤ k) (h1 : k < n) : seqIndex? k n = some k.toNat := by
  unfold seqIndex?
  first
    | rw [if_pos (by omega), if_pos (by omega)]
    | simp [h0, h1]; omega
/-- y = x.pop(i) -/
theorem ss_popi (cx : Cxt X c B.g B.W C G) {i j : Nat} {x y : Str} (hx : varOk c i x = true) (ho : isO Γ i = true) (hj : c.N[j]? = some y) (hy : locOk c y = true) (hp : plainE e = true) (hline : (p2.endLine == p3.line) = true) (he : PE X e (TX B.g B.W Γ .any me)) (hl : leΓ Γ1 (Γ.set j false)) :
    PS X (.Assign [.Name y px] (.Call (.Attribute (.Name x p1) "pop" p2) [e] [] p3) pos) (TSX B Γ Γ1 ΓL fun ρ => bd (getV ρ i) fun o => gd (isL o = true) (bd (me ρ) fun k => pPopi o k fun v o' => pu (.nx ((ρ.set i (some o')).set j (some v))))) := by
  obtain ⟨h5, h6⟩ := loc_of cx hy
  have hN : X.N.Nodup := by rw [cx.hN]; exact cx.nd
  have hst : starEach [e] X.env = [(false, eval e X.env)] := star_plain hp
  refine (ps_set hN (by rw [cx.hN]; exact hj) h5 (pe_bm PySem.F.plainAttrs_list PySem.F.slot_list_pop PySem.F.type_list_pop mt_popAt (pe_nm cx hx) (pa_cons he pa_nil hst) (by rfl) (by rw [hst]; rfl) hline (by rw [hst]; rfl) (by rfl)) (by rfl) h6).imp fun D σ H ⟨F, ρ, Qd, E, s, hq, qn, qb, qc, qr, ex⟩ => ?_
  obtain ⟨p, e1, hq⟩ := getV_app hq
  obtain ⟨hL, hq⟩ := hq
  cases p <;> first | (cases hL; done) | skip
  rename_i ds
  obtain ⟨a, xs, s1, n1, h1, r1⟩ := s.ownL ho e1
  refine ⟨_, s1, .inl ⟨rfl, xs, SqL.of h1⟩, F, ρ, _, E, s.st, hq, fun k hk v H1 F1 w rk => ?_, fun x hx => (ex x hx).at s⟩
  replace rk : AnyR B.g H1 F1 v k := rk
  cases k <;> try exact False.elim hk
  rename_i k
  have ek := rk.int
  subst ek
  obtain ⟨⟨⟨k0, k1⟩, kl⟩, d, hd, hk⟩ := pPopi_app hk
  have sg := s.grow w
  have h2 : H1 a = some (.lst xs) := w.ext.lst n1 h1
  obtain ⟨a', xs', s2, n2, h3, r3⟩ := sg.ownL ho e1
  rw [s1] at s2
  cases s2
  rw [h2] at h3
  cases h3
  have hn := r3.length
  obtain ⟨u, hu, ru⟩ := r3.get hd
  refine ⟨a, xs, k, k.toNat, u, rfl, rfl, h2, by omega, ?_, seqIndex_of k0 (by rw [hn]; exact k1), hu, ?_⟩
  · have kl : ds.length ≤ 16777216 := kl
    omega
  · obtain ⟨s4, k4⟩ := sg.setL (ds' := ds.eraseIdx k.toNat) (xs' := xs.eraseIdx k.toNat) ho e1 s1 fun H2 kp => (r3.keep kp).eraseIdx _
    obtain ⟨F5, s5, k5⟩ := (s4.putS (i := j) (ru.keep k4)).weaken hl
    exact qn _ hk _ _ F5 (((w.keep s.fca).trans k4).trans k5) s5
/-- y.append(x.pop(i)) -/
theorem ss_appPop (cx : Cxt X c B.g B.W C G) {i j : Nat} {x y : Str} (hij : i ≠ j) (hx : varOk c i x = true) (ho : isO Γ i = true) (hy : varOk c j y = true) (hoj : isO Γ j = true) (hp : plainE e = true) (hline : (p2.endLine == p3.line) = true) (hline2 : (p4.endLine == p5.line) = true) (he : PE X e (TX B.g B.W Γ .any me)) (hl : leΓ Γ1 Γ) :
    PS X (.Expr (.Call (.Attribute (.Name y px) "append" p4) [.Call (.Attribute (.Name x p1) "pop" p2) [e] [] p3] [] p5) pos) (TSX B Γ Γ1 ΓL fun ρ => bd (getV ρ j) fun p => gd (isL p = true) (bd (getV ρ i) fun o => gd (isL o = true) (bd (me ρ) fun k => pPopi o k fun v o' => bd (pApp p v) fun p' => pu (.nx ((ρ.set i (some o')).set j (some p')))))) := by
  have hst : starEach [e] X.env = [(false, eval e X.env)] := star_plain hp
  have pp : PE X (.Call (.Attribute (.Name x p1) "pop" p2) [e] [] p3) _ := pe_bm PySem.F.plainAttrs_list PySem.F.slot_list_pop PySem.F.type_list_pop mt_popAt (pe_nm cx hx) (pa_cons he pa_nil hst) (by rfl) (by rw [hst]; rfl) hline (by rw [hst]; rfl) (by rfl)
  refine (ps_expr (pe_bm PySem.F.plainAttrs_list PySem.F.slot_list_append PySem.F.type_list_append mt_append (pe_nm cx hy) (pa_cons pp pa_nil rfl) (by rfl) (by rfl) hline2 (by rfl) (by rfl)) (by rfl)).imp fun D σ H ⟨F, ρ, Qd, E, s, hq, qn, qb, qc, qr, ex⟩ => ?_
  obtain ⟨p, e2, hq⟩ := getV_app hq
  obtain ⟨hL2, hq⟩ := hq
  obtain ⟨o, e1, hq⟩ := getV_app hq
  obtain ⟨hL, hq⟩ := hq
  obtain ⟨es, rfl⟩ := isL_of hL2
  obtain ⟨ds, rfl⟩ := isL_of hL
  obtain ⟨b, ys, t1, m1, g1, r2⟩ := s.ownL hoj e2
  obtain ⟨a, xs, s1, n1, h1, r1⟩ := s.ownL ho e1
  refine ⟨_, t1, .inl ⟨rfl, ys, SqL.of g1⟩, _, s1, .inl ⟨rfl, xs, SqL.of h1⟩, F, ρ, _, E, s.st, hq, fun k hk v H1 F1 w rk => ?_, fun x hx => (ex x hx).at s⟩
  replace rk : AnyR B.g H1 F1 v k := rk
  cases k <;> try exact False.elim hk
  rename_i k
  have ek := rk.int
  subst ek
  obtain ⟨⟨⟨k0, k1⟩, kl⟩, d, hd, hk⟩ := pPopi_app hk
  obtain ⟨hlen, hk⟩ := pApp_app hk
  have sg := s.grow w
  have h2 : H1 a = some (.lst xs) := w.ext.lst n1 h1
  obtain ⟨a', xs', s2, n2, h3, r3⟩ := sg.ownL ho e1
  rw [s1] at s2
  cases s2
  rw [h2] at h3
  cases h3
  have hn := r3.length
  obtain ⟨u, hu, ru⟩ := r3.get hd
  refine ⟨a, xs, k, k.toNat, u, rfl, rfl, h2, by omega, ?_, seqIndex_of k0 (by rw [hn]; exact k1), hu, ?_⟩
  · have kl : ds.length ≤ 16777216 := kl
    omega
  · obtain ⟨s4, k4⟩ := sg.setL (ds' := ds.eraseIdx k.toNat) (xs' := xs.eraseIdx k.toNat) ho e1 s1 fun H2 kp => (r3.keep kp).eraseIdx _
    have e3 : (ρ.set i (some (.list (ds.eraseIdx k.toNat))))[j]? = some (some (.list es)) := by rw [List.getElem?_set_ne hij]; exact e2
    obtain ⟨b', ys', t2, m2, g2, r4⟩ := s4.ownL hoj e3
    rw [t1] at t2
    cases t2
    have hlen2 := r4.length
    refine ⟨b, ys', u, rfl, rfl, g2, by rw [line_eq, hlen2]; exact hlen, ?_⟩
    obtain ⟨s6, k6⟩ := s4.setL (ds' := es ++ [d]) (xs' := ys' ++ [u]) hoj e3 t1 fun H2 kp => (r4.keep kp).append (.cons ((ru.keep k4).keep kp) .nil)
    obtain ⟨F5, s5, k5⟩ := s6.weaken hl
    exact qn _ hk σ _ F5 ((((w.keep s.fca).trans k4).trans k6).trans k5) s5
theorem pExt_app {ds : List PV} {p : PV} {Q : PV → Prop} {E : PV → Prop} (h : pExt (.list ds) p Q E) : ∃ es, p = .list es ∧ ds.length + es.length ≤ LINE ∧ Q (.list (ds ++ es)) := by
  cases p <;> try exact False.elim h
  rename_i es
  exact ⟨es, rfl, h.1, h.2⟩
theorem set_self {σ : L2.St} {i : Nat} {v : Option V} (h : σ[i]? = some v) : σ.set i v = σ := by
  refine List.ext_getElem? fun j => ?_
  rw [List.getElem?_set]
  split
  · rename_i e
    subst e
    rw [if_pos (List.getElem?_eq_some_iff.mp h).1, h]
  · rfl
/-- x += e, of lists -/
theorem ss_aug (cx : Cxt X c B.g B.W C G) {i : Nat} {x : Str} (hi : c.N[i]? = some x) (hx : locOk c x = true) (ho : isO Γ i = true) (he : PE X e (TX B.g B.W Γ .any me)) (hl : leΓ Γ1 Γ) :
    PS X (.AugAssign (.Name x p1) .Add e pos) (TSX B Γ Γ1 ΓL fun ρ => bd (getV ρ i) fun o => gd (isL o = true) (bd (me ρ) fun v => bd (pExt o v) fun o' => pu (.nx (ρ.set i (some o'))))) := by
  obtain ⟨h5, h6⟩ := loc_of cx hx
  have hN : X.N.Nodup := by rw [cx.hN]; exact cx.nd
  refine (ps_aug hN (by rw [cx.hN]; exact hi) h5 he (iop_ext : PIp X .Add rExt2) h6).imp fun D σ H ⟨F, ρ, Qd, E, s, hq, qn, qb, qc, qr, ex⟩ => ?_
  obtain ⟨p, e1, hq⟩ := getV_app hq
  obtain ⟨hL, hq⟩ := hq
  cases p <;> first | (cases hL; done) | skip
  rename_i ds
  obtain ⟨a, xs, s1, n1, h1, r1⟩ := s.ownL ho e1
  refine ⟨_, s1, F, ρ, _, E, s.st, hq, fun k hk v H1 F1 w rk => ?_, fun x hx => (ex x hx).at s⟩
  replace rk : AnyR B.g H1 F1 v k := rk
  obtain ⟨es, rfl, hlen, hk⟩ := pExt_app hk
  obtain ⟨b, zs, rfl, nb, hb, rz⟩ := rk.lst
  have sg := s.grow w
  have h2 : H1 a = some (.lst xs) := w.ext.lst n1 h1
  obtain ⟨a', xs', s2, n2, h3, r3⟩ := sg.ownL ho e1
  rw [s1] at s2
  cases s2
  rw [h2] at h3
  cases h3
  refine ⟨a, b, xs, zs, rfl, rfl, h2, hb, by rw [line_eq, r3.length, rz.length]; exact hlen, ?_⟩
  obtain ⟨s4, k4⟩ := sg.setL (ds' := ds ++ es) (xs' := xs ++ zs) ho e1 s1 fun H2 kp => (r3.keep kp).append (rz.keep kp)
  obtain ⟨F5, s5, k5⟩ := s4.weaken hl
  rw [set_self s1]
  exact qn _ hk σ _ F5 (((w.keep s.fca).trans k4).trans k5) s5
end
end HG
end
section
set_option maxHeartbeats 4000000
/-! HGUpd: d.update(d2). -/
namespace HG
open PySem PySem.Spec PyProof.Rows L2
section
variable {X : Cx} {g : GC} {pins : List (Addr × Obj)} {σ : L2.St} {H : Hp} {s : Shared} {a b : Addr} {kvs ms : List (PV × V)} {A : Around} {E : Value → Shared → Prop}
theorem DRep.asT (hK : X.K = g.K) (hP : X.prog = g.P) (hW : X.w = g.w) (I : Inv X pins σ H s) (d : DRep g H a kvs) (hk : ∀ p ∈ kvs, tkey p.1 = true) : (a == sysModules) = false ∧ ∃ xs, KTS X.K H kvs xs ∧ s.heap.DictOfH (nestedKind X.prog X.w) a xs ∧ (xs.map (·.1)).Nodup := by
  cases d with
  | @k ks vs o es ep g0 g2 g3 g4 g5 g6 rel z hd =>
    have g1 : s.heap.get? a = some o := (show ObjOk X.prog X.w H s.heap a (dO a o) from I.hok a _ g0).1
    rw [← hP, ← hW] at g4 g5
    have e : ks = [] := by
      cases ks with
      | nil => rfl
      | cons p r =>
        have h := hk (kyD p.1, p.2) (by rw [List.map_cons]; exact List.mem_cons_self)
        obtain ⟨p1, p2⟩ := p
        cases p1 <;> exact absurd (show false = true from h) Bool.false_ne_true
    subst e
    cases rel
    refine ⟨hd, [], .nil, ⟨o, es, ep, g1, g2, g3, ?_, fun x hx => (nomatch hx), List.nodup_nil⟩, List.nodup_nil⟩
    generalize es.toList = el at g5
    cases g5
    rfl
  | @t _ xs o es ep h h1 h2 h3 h4 h5 h6 h7 =>
    have hget : s.heap.get? a = some o := (show ObjOk X.prog X.w H s.heap a (dO a o) from I.hok a _ h).1
    exact ⟨h7, xs, by rw [hK]; exact h5, ⟨o, es, ep, hget, h1, h2, by rw [hP, hW]; exact h3, KTS.are hK I h5, h4⟩, h4⟩
theorem DRep.asK (hK : X.K = g.K) (hP : X.prog = g.P) (hW : X.w = g.w) (I : Inv X pins σ H s) (d : DRep g H a kvs) (hk : ∀ p ∈ kvs, skey p.1 = true) : (a == sysModules) = false ∧ ∃ (ks : List (Ky × V)) (vs : List (Ky × Value)), kvs = ks.map (fun p => (kyD p.1, p.2)) ∧ KV ks vs ∧ s.heap.DictOf (kyKind X.prog X.w) a vs ∧ (ks.map (·.1)).Nodup := by
  cases d with
  | @k ks vs o es ep g0 g2 g3 g4 g5 g6 rel z hd =>
    have g1 : s.heap.get? a = some o := (show ObjOk X.prog X.w H s.heap a (dO a o) from I.hok a _ g0).1
    rw [← hP, ← hW] at g4 g5
    exact ⟨hd, ks, vs, rfl, rel, ⟨o, es, ep, g1, g2, g3, g4, g5, g6⟩, by rw [rel.keys]; exact g6⟩
  | @t _ xs o es ep h h1 h2 h3 h4 h5 h6 h7 =>
    have hget : s.heap.get? a = some o := (show ObjOk X.prog X.w H s.heap a (dO a o) from I.hok a _ h).1
    have e : kvs = [] := by
      cases kvs with
      | nil => rfl
      | cons p r =>
        have hk := hk p List.mem_cons_self
        cases h5 with
        | cons q1 q2 =>
          have q := q1.1.1
          obtain ⟨p1, p2⟩ := p
          cases p1 <;> first | exact absurd (show false = true from q) Bool.false_ne_true | exact absurd (show false = true from hk) Bool.false_ne_true
    subst e
    cases h5
    have e0 : es = #[] := by
      have : es.toList = [] := h3
      simpa using this
    subst e0
    refine ⟨h7, [], [], rfl, .nil, ⟨o, #[], ep, hget, h1, h2, ?_, .nil, List.nodup_nil⟩, List.nodup_nil⟩
    intro e he
    simp at he
variable (hK : X.K = g.K) (hP : X.prog = g.P) (hW : X.w = g.w)
include hK hP hW
theorem dr_update {Q : Value → Shared → Prop} (hu : A.units + 9 < cLine) (I : Inv X pins σ H s) (d : DRep g H a kvs) (e : DRep g H b ms) (hab : a ≠ b)
    (hk : (∀ p ∈ kvs ++ ms, skey p.1 = true) ∨ ((∀ p ∈ kvs ++ ms, tkey p.1 = true) ∧ (kvs = [] → ∀ w : World, (ms.map fun p => (nk p.1).hash w).Nodup))) (hlen : kvs.length + ms.length ≤ sizeLine)
    (h : ∀ ob s', Inv X pins σ (upd H a ob) s' → DRep g (upd H a ob) a (putAllV kvs ms) → (∀ ps, ob ≠ .tbl ps) → Q .none s') :
    wpAny (model X.prog X.w) A (PySem.call (.builtin "dict.update") [.ref a, .ref b]) Q E s := by
  have mu : Mut (H a) ∧ ∀ b ys, SqT X.K H b ys → H b ≠ H a ∨ ∃ o : Obj, X.K.lookup b = some o := by
    cases d with
    | k h0 => rw [h0]; exact ⟨trivial, fun b ys q => by
        rcases q with (q | ⟨o, q⟩) | ⟨o, _, _, q, _⟩
        · exact .inl fun e => by rw [q] at e; cases e
        · exact .inl fun e => by rw [q] at e; cases e
        · exact .inr ⟨o, q⟩⟩
    | t h0 => rw [h0]; exact ⟨trivial, fun b ys q => by
        rcases q with (q | ⟨o, q⟩) | ⟨o, _, _, q, _⟩
        · exact .inl fun e => by rw [q] at e; cases e
        · exact .inl fun e => by rw [q] at e; cases e
        · exact .inr ⟨o, q⟩⟩
  have keep : ∀ ob b ys, SqT X.K H b ys → SqT X.K (upd H a ob) b ys := fun ob b ys q => by
    rcases q with (q | ⟨o, q⟩) | q
    · by_cases e : b = a
      · subst e
        rw [q] at mu
        exact absurd mu.1 id
      · exact .inl (.inl (by rw [upd_ne e]; exact q))
    · by_cases e : b = a
      · subst e
        rw [q] at mu
        exact absurd mu.1 id
      · exact .inl (.inr ⟨o, by rw [upd_ne e]; exact q⟩)
    · exact .inr q
  have small : (putAllV kvs ms).length ≤ sizeLine := Nat.le_trans (putAllV_len ms kvs) hlen
  rcases hk with hk | ⟨hk, hap⟩
  · obtain ⟨hd, ks, vs, e1, rel, dd, nd⟩ := d.asK hK hP hW I fun p hp => hk p (List.mem_append_left _ hp)
    obtain ⟨he, ks2, vs2, e2, rel2, dd2, nd2⟩ := e.asK hK hP hW I fun p hp => hk p (List.mem_append_right _ hp)
    refine call_meetsIn PySem.F.slot_dict_update dd.typeIs PySem.F.entry_dict_update (PySem.F.args_dict_update_2 _ _) (meets_dict_update (kyKind X.prog X.w) a b hab he) ⟨vs, vs2, dd, dd2, ?_, fun h' dd' _ hs => ?_⟩
    · rw [e1, e2, List.length_map, List.length_map, rel.length, rel2.length] at hlen
      exact hlen
    · obtain ⟨q, es, ep, hq, h2, h3, h4, h5, h6⟩ := dd'
      refine h (dO a q) _ (d_write I mu.1 hs ⟨q, hq⟩ ⟨hq, ⟨q, hq⟩, fun h1 h2 e1 e2 => e2 _ e1⟩) ?_ (fun _ e => by cases e)
      rw [e1, e2, putAllKy_eq nd] at small ⊢
      rw [List.length_map] at small
      exact .k upd_same h2 h3 (by rw [← hP, ← hW]; exact h4) (by rw [← hP, ← hW]; exact h5) h6 (KV.mergeY rel2 rel) small hd
  · obtain ⟨hd, xs, rel, dd, nd⟩ := d.asT hK hP hW I fun p hp => hk p (List.mem_append_left _ hp)
    obtain ⟨he, ys, rel2, dd2, nd2⟩ := e.asT hK hP hW I fun p hp => hk p (List.mem_append_right _ hp)
    have l1 : kvs.length = xs.length := Paired.length rel
    have l2 : ms.length = ys.length := Paired.length rel2
    refine call_update_dictH (show A.units + 1 + 8 < cLine by omega) hab he dd dd2 ?_ (by rw [← l1, ← l2]; exact hlen) fun h' dd' _ hs => ?_
    · by_cases hz : kvs = []
      · refine .inr ⟨keyed_apart nestedKind_stays dd2, ?_⟩
        have q := hap hz X.w
        have eh : (ys.map fun x => (nestedKind X.prog X.w).hash x.1) = ms.map fun p => (nk p.1).hash X.w := by
          clear hap q hk hlen small dd2 nd2 he l2 e h
          induction rel2 with
          | nil => rfl
          | @cons p q ps qs hq t ih =>
            rw [List.map_cons, List.map_cons, ih, hq.1.2]
            rfl
        rw [eh]
        exact q
      · left
        intro z
        rw [z] at l1
        exact hz (List.length_eq_zero_iff.mp l1)
    · obtain ⟨q, es, ep, hq, h2, h3, h4, _, h5⟩ := dd'
      refine h (dO a q) _ (d_write I mu.1 hs ⟨q, hq⟩ ⟨hq, ⟨q, hq⟩, fun h1 h2 e1 e2 => e2 _ e1⟩) ?_ (fun _ e => by cases e)
      exact .t upd_same h2 h3 (by rw [← hP, ← hW]; exact h4) h5 (by rw [← hK]; exact (KTS.putAll rel2 rel nd).imp (keep _)) small hd
end
/-- d.update(e), over the heap -/
def tUpd (g : GC) (td te : TE) : TE := fun σ H Q => td σ H fun x H1 => ∃ a kvs, x = .ref a ∧ DRep g H1 a kvs ∧ te σ H1 fun y H2 => ∃ b kvs ms, y = .ref b ∧ a ≠ b ∧ DRep g H2 a kvs ∧ DRep g H2 b ms ∧
  ((∀ p ∈ kvs ++ ms, skey p.1 = true) ∨ ((∀ p ∈ kvs ++ ms, tkey p.1 = true) ∧ (kvs = [] → ∀ w : World, (ms.map fun p => (nk p.1).hash w).Nodup))) ∧ kvs.length + ms.length ≤ sizeLine ∧
  ∀ ob, DRep g (upd H2 a ob) a (putAllV kvs ms) → (∀ ps, ob ≠ .tbl ps) → Q .non (upd H2 a ob)
theorem pe_upd {X : Cx} {g : GC} {o e : Expr} {apos cpos : Pos} {td te : TE} (hK : X.K = g.K) (hP : X.prog = g.P) (hW : X.w = g.w) (hu : X.A.units + 9 < cLine) (ho : PE X o td) (he : PE X e te) (m : M1 X o "update" apos e cpos) : PE X (.Call (.Attribute o "update" apos) [e] [] cpos) (tUpd g td te) := by
  refine ⟨fun pins s σ H Q I h => ?_⟩
  refine wpAny_Call_method m.base m.few m.line PySem.F.plainAttrs_dict PySem.F.slot_dict_update PySem.F.type_dict_update (thn (ho.run pins s σ H _ I h) fun u s1 ⟨x, H1, I1, rx, a, kvs, ex, d, q1⟩ => ?_)
  subst ex
  obtain rfl : u = Value.ref a := rx
  refine ⟨d.typeIs I1, d.noDict I1, ?_⟩
  rw [m.trees]
  refine Calls.callWith_builtin rfl (Calls.evalArgs_plain (Calls.spliced_cons (thn (he.run pins s1 σ H1 _ I1 q1) fun iv s2 ⟨y, H2, I2, ry, b, kvs2, ms, ey, hab, d2, e2, hk, hl, q2⟩ => Calls.spliced_nil ?_)))
  subst ey
  obtain rfl : iv = Value.ref b := ry
  exact dr_update hK hP hW hu I2 d2 e2 hab hk hl fun ob s' I' d' nt => ⟨.non, _, I', rfl, q2 ob d' nt⟩
section
variable {X : Cx} {c : Cc} {B : BC} {C : Nat → List PV → M PV} {G : List PV} {Γ Γ1 Γ2 ΓL : List Bool} {me : Env → M PV} {e : Expr} {pos p1 p2 p3 : Pos}
theorem pUpd_app {kvs : KVs} {p : PV} {Q : PV → Prop} {E : PV → Prop} (h : pUpd (.dict kvs) p Q E) : ∃ ws, p = .dict ws ∧ (plainD (.dict ws) = true ∧ updOk kvs ws) ∧ Q (.dict (dputs kvs ws)) := by
  cases p <;> try exact False.elim h
  exact ⟨_, rfl, h.1, h.2⟩
theorem zip_all {q : PV → Prop} {kvs : List (PV × V)} {ds : List PV} (hl : kvs.length = ds.length) (h : ∀ p ∈ (kvs.map (·.1)).zip ds, q p.1) : ∀ p ∈ kvs, q p.1 := by
  intro p hp
  have e := zip_fst kvs ds hl
  have : p.1 ∈ ((kvs.map (·.1)).zip ds).map (·.1) := by rw [e]; exact List.mem_map_of_mem hp
  obtain ⟨r, hr, e2⟩ := List.mem_map.mp this
  rw [← e2]
  exact h r hr
/-- x.update(e) -/
theorem ss_upd (cx : Cxt X c B.g B.W C G) {i : Nat} {x : Str} (hx : varOk c i x = true) (ho : isO Γ i = true) (hp : plainE e = true) (hline : (p2.endLine == p3.line) = true) (he : PE X e (TX B.g B.W Γ .shr me)) (hl : leΓ Γ1 Γ) :
    PS X (.Expr (.Call (.Attribute (.Name x p1) "update" p2) [e] [] p3) pos) (TSX B Γ Γ1 ΓL fun ρ => bd (getV ρ i) fun o => gd (plainD o = true) (bd (me ρ) fun d => bd (pUpd o d) fun o' => pu (.nx (ρ.set i (some o'))))) := by
  have hst : starEach [e] X.env = [(false, eval e X.env)] := star_plain hp
  have m : M1 X (.Name x p1) "update" p2 e p3 := ⟨by rfl, by rw [hst]; rfl, hline, by rw [hst]; rfl⟩
  refine (ps_expr (pe_upd cx.hK cx.hP cx.hW (by have := cx.hu; omega) (pe_nm cx hx) he m) (by rfl)).imp fun D σ H ⟨F, ρ, Qd, E, s, hq, qn, qb, qc, qr, ex⟩ => ?_
  obtain ⟨p, e1, hq⟩ := getV_app hq
  obtain ⟨pl, hq⟩ := hq
  cases p <;> first | (cases pl; done) | skip
  rename_i ds
  obtain ⟨a, s1, n0, n1, n3, l⟩ := s.own ho e1 pl
  rcases l with ⟨xs, ds', h1, r1, e2⟩ | ⟨kvs, ds', dr, rr, e2⟩
  · cases e2
  refine ⟨_, s1, a, kvs, rfl, dr, F, ρ, _, E, s.st, hq, fun p hp v H1 F1 w r => ?_, fun x hx => (ex x hx).at s⟩
  replace r : Rep B.g H1 F1 v p := r
  obtain ⟨ws, rfl, ⟨pw, uo⟩, hp⟩ := pUpd_app hp
  have sg := s.grow w
  obtain ⟨a', s2, n0', n1', n3', l'⟩ := sg.own ho e1 pl
  rw [s1] at s2
  cases s2
  rcases l' with ⟨xs, ds2, h1, r1, e3⟩ | ⟨kvs2, ds2, dr2, rr2, e3⟩
  · cases e3
  cases e3
  obtain ⟨b, rb, fb, nb, lb⟩ := r.mut pw
  subst rb
  rcases lb with ⟨xs, ds3, h1, r1, e4⟩ | ⟨ms, ds3, dr3, rr3, e4⟩
  · cases e4
  cases e4
  have hab : a ≠ b := fun z => n0' (by rw [z]; exact fb)
  obtain ⟨kk, hlen⟩ := uo
  have hl1 := rr2.lenV
  have hl3 := rr3.lenV
  have el1 : ((kvs2.map (·.1)).zip ds2).length = kvs2.length := by rw [List.length_zip, List.length_map, ← hl1, Nat.min_self]
  have el3 : ((ms.map (·.1)).zip ds3).length = ms.length := by rw [List.length_zip, List.length_map, ← hl3, Nat.min_self]
  rw [el1, el3] at hlen
  have both : ∀ q : PV → Prop, (∀ p ∈ (kvs2.map (·.1)).zip ds2 ++ (ms.map (·.1)).zip ds3, q p.1) → ∀ p ∈ kvs2 ++ ms, q p.1 := fun q h p hp => by
    rcases List.mem_append.mp hp with hp | hp
    · exact zip_all hl1 (fun r hr => h r (List.mem_append_left _ hr)) p hp
    · exact zip_all hl3 (fun r hr => h r (List.mem_append_right _ hr)) p hp
  refine ⟨b, kvs2, ms, rfl, hab, dr2, dr3, ?_, by rw [line_eq]; exact hlen, fun ob d2 nt => ?_⟩
  · rcases kk with kk | ⟨kk, ap⟩
    · exact .inl (both (fun x => skey x = true) kk)
    · refine .inr ⟨both (fun x => tkey x = true) kk, fun z w => ?_⟩
      have q := ap (by rw [z]; rfl) w
      have e5 : (((ms.map (·.1)).zip ds3).map fun p => (nk p.1).hash w) = ms.map fun p => (nk p.1).hash w := by
        have e6 := congrArg (fun l => l.map fun x => (nk x).hash w) (zip_fst ms ds3 hl3)
        rw [List.map_map, List.map_map] at e6
        exact e6
      rw [e5] at q
      exact q
  · obtain ⟨ds4, e5, r5⟩ := puts_rep (L := ms) (ps := (ms.map (·.1)).zip ds3) (acc := kvs2) (ds := ds2) (zip_fst ms ds3 hl3) (by
      have e6 : ((ms.map (·.1)).zip ds3).map (·.2) = ds3 := by
        rw [List.map_snd_zip]
        rw [List.length_map, hl3]
        exact Nat.le_refl _
      rw [e6]; exact rr3) rr2
    have m2 : isMut (.dict (dputs ((kvs2.map (·.1)).zip ds2) ((ms.map (·.1)).zip ds3))) = true := by
      rw [e5]
      show plainD (.dict (((putAllV kvs2 ms).map (·.1)).zip ds4)) = true
      have all : ∀ x ∈ (putAllV kvs2 ms).map (·.1), skey x = true ∨ tkey x = true := by
        have all0 : ∀ p ∈ kvs2 ++ ms, skey p.1 = true ∨ tkey p.1 = true := by
          rcases kk with kk | ⟨kk, ap⟩
          · exact fun p hp => .inl (both (fun x => skey x = true) kk p hp)
          · exact fun p hp => .inr (both (fun x => tkey x = true) kk p hp)
        refine putAllV_all (q := fun x => skey x = true ∨ tkey x = true) (fun p hp => all0 p (List.mem_append_right _ hp)) fun x hx => ?_
        obtain ⟨p, hp, rfl⟩ := List.mem_map.mp hx
        exact all0 p (List.mem_append_left _ hp)
      generalize (putAllV kvs2 ms).map (·.1) = L at all
      cases L with
      | nil => rfl
      | cons x L =>
        cases ds4 with
        | nil => rfl
        | cons y ds4 => exact plainD_cons (all x List.mem_cons_self)
    obtain ⟨s4, k4⟩ := sg.mut (p' := .dict (dputs ((kvs2.map (·.1)).zip ds2) ((ms.map (·.1)).zip ds3))) ho e1 s1 pl m2 fun kp => by
      obtain ⟨ds6, e7, r7⟩ := puts_rep (L := ms) (ps := (ms.map (·.1)).zip ds3) (acc := kvs2) (ds := ds2) (zip_fst ms ds3 hl3) (by
        have e6 : ((ms.map (·.1)).zip ds3).map (·.2) = ds3 := by
          rw [List.map_snd_zip]
          rw [List.length_map, hl3]
          exact Nat.le_refl _
        rw [e6]; exact rr3.keep kp) (rr2.keep kp)
      exact .inr ⟨_, ds6, d2, r7, by rw [e7]⟩
    obtain ⟨F5, s5, k5⟩ := s4.weaken hl
    exact qn _ hp σ _ F5 (((w.keep s.fca).trans k4).trans k5) s5
end
end HG
end
section
set_option maxHeartbeats 8000000
/-! HGBody: which text a body stands for; its soundness. -/
namespace HG
open PySem PySem.Spec PyProof.Rows L2
def isCompE : Expr → Bool
  | .ListComp _ _ _ _ => true
  | .SetComp _ _ _ _ => true
  | .DictComp _ _ _ _ _ => true
  | _ => false
def isSDC : Expr → Bool
  | .SetComp _ _ _ _ => true
  | _ => false
/-- name = [..]: is the name stored within the comprehension -/
def swV (c : Cc) (x : Str) (px : Pos) : Expr → Bool
  | .ListComp _ _ scope pos => decide (c.sc.names.lookup x = some .local) && ((px.line == pos.line) && !(scope.names.any fun (n, k) => n == x && (k == .local || k == .cell)))
  | .DictComp _ _ _ scope pos => decide (c.sc.names.lookup x = some .local) && ((px.line == pos.line) && !(scope.names.any fun (n, k) => n == x && (k == .local || k == .cell)))
  | _ => false
def swO (sc : Scope) (ts vs : List Expr) : Option (Option (List Str)) :=
  if !(ts.length == 2 || ts.length == 3) || vs.length != ts.length then some none
  else if vs.any fun | .Starred .. => true | _ => false then some none
  else
    let line := (ts.head?.map (·.pos.line)).getD 0
    let names := ts.filterMap fun
      | .Name id pos => if sc.names.lookup id == some .local && pos.line == line then some id else none
      | _ => none
    if names.length != ts.length || names.eraseDups.length != names.length then some none
    else if vs.all (foldedForSure 8) then some none
    else if vs.all (constantsAlone 8) then none
    else some (some names)
theorem swO_of {sc : Scope} {ts vs : List Expr} {r : Option (List Str)} {env : PySem.Env} {k k2 : Nat} {p p2 : Pos} (he : env.scope = sc) (hk : sc.kind = .function) (h : swO sc ts vs = some r) :
    swappedStores [.Tuple ts k p] (.Tuple vs k2 p2) env = pure r := by
  have hb : env.blockKind = .function := by unfold PySem.Env.blockKind; rw [he, hk]; rfl
  have kk : ∀ x, env.kindOf x = sc.names.lookup x := fun x => by rw [← he]; rfl
  unfold swO at h
  unfold swappedStores
  simp only [hb, kk]
  by_cases h1 : (!(ts.length == 2 || ts.length == 3) || vs.length != ts.length) = true
  · rw [if_pos h1] at h
    cases h
    rw [if_pos (by rw [h1]; rfl)]
  · rw [if_neg h1] at h
    rw [if_neg (by simpa using h1)]
    split at h
    · cases h
      rename_i h2
      split
      · rfl
      · rename_i h2'
        exact absurd h2 h2'
    · rename_i h2
      split
      · rename_i h2'
        exact absurd h2' h2
      dsimp only at h ⊢
      split at h
      · cases h
        rename_i h3
        split
        · rfl
        · rename_i h3'
          exact absurd h3 h3'
      · rename_i h3
        split
        · rename_i h3'
          exact absurd h3' h3
        split at h
        · cases h
          rename_i h4
          rw [if_pos h4]
        · rename_i h4
          rw [if_neg h4]
          split at h
          · cases h
          · cases h
            rename_i h5
            rw [if_neg h5]
            rfl
def meetΓ (a b : List Bool) : List Bool := List.zipWith (· && ·) a b
def joinO : Option (List Bool) → Option (List Bool) → Option (List Bool)
  | none, r => r
  | r, none => r
  | some a, some b => some (meetΓ a b)
def leOB : Option (List Bool) → List Bool → Bool
  | none, _ => true
  | some a, b => leB b a
def frzΓ (Γ : List Bool) (is : List Nat) : List Bool := is.foldl (fun Γ i => Γ.set i false) Γ
def nodupB (is : List Nat) : Bool := decide is.Nodup
/-- the values of a store of several names: made anew (true), or shared -/
def chkKs (c : Cc) (Γ : List Bool) : List Bool → List Ex → List Expr → Bool
  | [], [], [] => true
  | k :: ks, e :: es, e' :: es' => plainE e' && ((if k then chkE c Γ .own false e e' else chkE c Γ .shr false e e') && chkKs c Γ ks es es')
  | _, _, _ => false
def allLocal (c : Cc) : List Expr → Bool
  | [] => true
  | .Name x _ :: es => decide (c.sc.names.lookup x = some .local) && allLocal c es
  | _ => false
def req (b : Bool) (r : Option (Option (List Bool))) : Option (Option (List Bool)) := if b then r else none
def frzO : St → Option (List Nat)
  | .frz is => some is
  | _ => none
mutual
def chkS (c : Cc) (Γ ΓL : List Bool) : St → Stmt → Option (Option (List Bool))
  | .asg tg e, s' => match s' with
    | .Assign [tg'] e' _ => match tg with
      | .nm i => match tg' with
        | .Name x px => req (decide (c.N[i]? = some x) && (locOk c x && (!isSDC e' && chkE c Γ .shr false e e'))) (some (some (Γ.set i false)))
        | _ => none
      | .tp ts => req (isTupE tg' && (!isTupE e' && (chkTg c Γ (.tp ts) tg' && chkE c Γ .shr false e e'))) (some (some Γ))
    | _ => none
  | .own i e, s' => match s' with
    | .Assign [.Name x px] e' _ => req (decide (c.N[i]? = some x) && (locOk c x && (decide (i < Γ.length) && (!isSDC e' && chkE c Γ .own false e e')))) (some (some (Γ.set i true)))
    | _ => none
  | .asgT is ks es, s' => match s' with
    | .Assign [.Tuple ts _ _] (.Tuple es' _ _) _ => req (nmsOk c is ts && (nodupB is && (decide (is.length = es.length) && (decide (is.length ≤ 1000) && ((is.all fun i => decide (i < Γ.length)) && (chkKs c Γ ks es es' &&
        (match swO c.sc ts es' with | none => false | some none => true | some (some ns) => decide (ns = namesOfs ts) && (allLocal c ts && (decide (ts.length = 2) || decide (ts.length = 3)))))))))) (some (some (setΓ is ks Γ)))
    | _ => none
  | .asgU ts es, s' => match s' with
    | .Assign [.Tuple ts' _ _] (.Tuple es' _ _) _ => req (chkU c Γ ts ts' && (decide (ts.length = es.length) && (decide (ts.length ≤ 1000) && (chkEs c Γ .shr es es' && (match swO c.sc ts' es' with | some none => true | _ => false))))) (some (some Γ))
    | _ => none
  | .seti x i e, s' => match s' with
    | .Assign [.Subscript (.Name y _) i' _] e' _ => req (plainE i' && (varOk c x y && (isO Γ x && (!isCompE e' && (chkE c Γ .any false i i' && chkE c Γ .shr false e e'))))) (some (some Γ))
    | _ => none
  | .app x e, s' => match s' with
    | .Expr (.Call (.Attribute (.Name y _) m p2) [e'] [] p3) _ => req (decide (m = "append") && (varOk c x y && (isO Γ x && (plainE e' && ((p2.endLine == p3.line) && chkE c Γ .shr false e e'))))) (some (some Γ))
    | _ => none
  | .pop y x, s' => match s' with
    | .Assign [.Name y' _] (.Call (.Attribute (.Name x' _) m p2) [] [] p3) _ => req (decide (m = "pop") && (varOk c x x' && (isO Γ x && (decide (c.N[y]? = some y') && (locOk c y' && (p2.endLine == p3.line)))))) (some (some (Γ.set y false)))
    | _ => none
  | .popi y x i, s' => match s' with
    | .Assign [.Name y' _] (.Call (.Attribute (.Name x' _) m p2) [i'] [] p3) _ => req (decide (m = "pop") && (varOk c x x' && (isO Γ x && (decide (c.N[y]? = some y') && (locOk c y' && (plainE i' && ((p2.endLine == p3.line) && chkE c Γ .any false i i'))))))) (some (some (Γ.set y false)))
    | _ => none
  | .appPop y x i, s' => match s' with
    | .Expr (.Call (.Attribute (.Name y' _) m p4) [.Call (.Attribute (.Name x' _) m2 p2) [i'] [] p3] [] p5) _ => req (decide (m = "append") && (decide (m2 = "pop") && (decide (x ≠ y) && (varOk c x x' && (isO Γ x && (varOk c y y' && (isO Γ y && (plainE i' && ((p2.endLine == p3.line) && ((p4.endLine == p5.line) && chkE c Γ .any false i i')))))))))) (some (some Γ))
    | _ => none
  | .upd x e, s' => match s' with
    | .Expr (.Call (.Attribute (.Name y _) m p2) [e'] [] p3) _ => req (decide (m = "update") && (varOk c x y && (isO Γ x && (plainE e' && ((p2.endLine == p3.line) && chkE c Γ .shr false e e'))))) (some (some Γ))
    | _ => none
  | .aug x e, s' => match s' with
    | .AugAssign (.Name y _) .Add e' _ => req (decide (c.N[x]? = some y) && (locOk c y && (isO Γ x && chkE c Γ .any false e e'))) (some (some Γ))
    | _ => none
  | .augi _ _ _, _ => none
  | .ex e, s' => match s' with
    | .Expr e' _ => req (!isCompE e' && chkE c Γ .any false e e') (some (some Γ))
    | _ => none
  | .ret e, s' => match s' with
    | .Return (some e') _ => req (chkE c Γ .shr false e e') (some none)
    | _ => none
  | .ite t a b, s' => match s' with
    | .If t' as bs _ => match chkB c Γ ΓL a as, chkB c Γ ΓL b bs with
      | some ra, some rb => req (plainT t' && chkE c Γ .any false t t') (some (joinO ra rb))
      | _, _ => none
    | _ => none
  | .whl t b, s' => match s' with
    | .While t' bs [] _ => match chkB c Γ Γ b bs with
      | some r => req (leOB r Γ && (plainT t' && chkE c Γ .any false t t')) (some (some Γ))
      | none => none
    | _ => none
  | .for_ tg it b, s' => match s' with
    | .For tg' it' bs [] _ => match chkB c Γ Γ b bs with
      | some r => req (leOB r Γ && (pairOk it tg' && (chkTg c Γ tg tg' && ((tgS tg).all (fun i => !isO Γ i) && (!isSetE it' && chkE c Γ .shr true it it'))))) (some (some Γ))
      | none => none
    | _ => none
  | .brk, s' => match s' with
    | .Break _ => req (leB ΓL Γ) (some none)
    | _ => none
  | .cnt, s' => match s' with
    | .Continue _ => req (leB ΓL Γ) (some none)
    | _ => none
  | .pass, s' => match s' with
    | .Pass _ => some (some Γ)
    | .Expr (.Constant (.str _) _ _) _ => some (some Γ)
    | _ => none
  | .rai j es, s' => match s' with
    | .Raise (some (.Call (.Name x _) [.Constant (.str _) _ _] [] _)) none _ => req (es.isEmpty && (glOk c x && decide (c.En[j]? = some x))) (some none)
    | _ => none
  | .never, _ => some none
  | .frz _, _ => none
def chkB (c : Cc) (Γ ΓL : List Bool) : List St → List Stmt → Option (Option (List Bool))
  | [], ss => req ss.isEmpty (some (some Γ))
  | s :: r, ss => match frzO s with
    | some is => chkB c (frzΓ Γ is) ΓL r ss
    | none => match ss with
      | [] => none
      | s' :: r' => match chkS c Γ ΓL s s' with
        | none => none
        | some none => req (r.isEmpty && r'.isEmpty) (some none)
        | some (some Γ1) => chkB c Γ1 ΓL r r'
end
theorem req_of {b : Bool} {r : Option (Option (List Bool))} {x : Option (List Bool)} (h : req b r = some x) : b = true ∧ r = some x := by
  unfold req at h
  split at h
  · rename_i hb
    exact ⟨hb, h⟩
  · cases h
theorem isO_meet {a b : List Bool} {i : Nat} (h : isO (meetΓ a b) i = true) : isO a i = true ∧ isO b i = true := by
  unfold isO meetΓ at *
  rw [List.getD_eq_getElem?_getD, List.getElem?_zipWith] at h
  rw [List.getD_eq_getElem?_getD, List.getD_eq_getElem?_getD]
  cases ha : a[i]? with
  | none => rw [ha] at h; cases h
  | some x =>
    cases hb : b[i]? with
    | none => rw [ha, hb] at h; cases h
    | some y =>
      rw [ha, hb] at h
      exact Bool.and_eq_true_iff.mp h
theorem leO_join {ra rb : Option (List Bool)} {Γ1 : List Bool} (h : leO (joinO ra rb) Γ1) : leO ra Γ1 ∧ leO rb Γ1 := by
  cases ra with
  | none => exact ⟨trivial, h⟩
  | some a =>
    cases rb with
    | none => exact ⟨h, trivial⟩
    | some b => exact ⟨fun i hi => (isO_meet (h i hi)).1, fun i hi => (isO_meet (h i hi)).2⟩
theorem leOB_of {r : Option (List Bool)} {Γ : List Bool} (h : leOB r Γ = true) : leO r Γ := by
  cases r with
  | none => trivial
  | some a => exact leB_of h
theorem leΓ_frz {is : List Nat} {Γ : List Bool} : leΓ (frzΓ Γ is) Γ := by
  unfold frzΓ
  induction is generalizing Γ with
  | nil => exact leΓ.refl Γ
  | cons i is ih =>
    rw [List.foldl_cons]
    refine ih.trans fun j hj => ?_
    rw [isO_set] at hj
    split at hj
    · cases hj
    · exact hj
/-- the place where a body is run -/
structure CxS (X : Cx) (c : Cc) (B : BC) (C : Nat → List PV → M PV) (G : List PV) : Prop where
  cx : Cxt X c B.g B.W C G
  own : PassesOwn (model X.prog X.w) X.A X.env X.xe
  kind : c.sc.kind = .function
  exc : ∀ (j : Nat) (x : Str), c.En[j]? = some x → ∃ K, B.g.ea[j]? = some K ∧ ∀ (m : Str) (i : Nat) (p p2 pos : Pos), Gl X x → PMk X (.Call (.Name x p) [.Constant (.str m) i p2] [] pos) fun _ H Q => Q (.ref K) none H
section
variable {X : Cx} {c : Cc} {B : BC} {C : Nat → List PV → M PV} {G : List PV} {Γ Γ1 Γ2 ΓL : List Bool} {me : Env → M PV} {m : Env → M Fl} {e' : Expr} {pos px : Pos}
theorem swV_of (cs : CxS X c B C G) {x : Str} {l : Nat} (h : isSDC e' = false) (hl : l = e'.pos.line ∨ True) : swapsWith e' (some (.Name x px)) l X.env = pure (swV c x px e') := by
  have hb : X.env.blockKind = .function := by unfold PySem.Env.blockKind; rw [cs.cx.hsc, cs.kind]; rfl
  have kk : ∀ x, X.env.kindOf x = c.sc.names.lookup x := fun x => by rw [← cs.cx.hsc]; rfl
  cases e' <;> first | (cases h; done) | rfl | skip
  all_goals
    unfold swapsWith swV
    simp only [hb, kk]
    cases hl : c.sc.names.lookup x with
    | none => rfl
    | some k => cases k <;> rfl
/-- name = value -/
theorem ss_set (cs : CxS X c B C G) {i : Nat} {x : Str} {k : Kd} (hi : c.N[i]? = some x) (hx : locOk c x = true) (he : PE X e' (TX B.g B.W Γ k me)) (hs : swapsWith e' (some (.Name x px)) pos.line X.env = pure false)
    (rd : ∀ D σ H, TSX B Γ Γ1 ΓL m D σ H → TX B.g B.W Γ k me σ H fun y H1 => gName i y σ H1 D.nx) : PS X (.Assign [.Name x px] e' pos) (TSX B Γ Γ1 ΓL m) := by
  obtain ⟨h5, h6⟩ := loc_of cs.cx hx
  have hN : X.N.Nodup := by rw [cs.cx.hN]; exact cs.cx.nd
  exact (ps_set hN (by rw [cs.cx.hN]; exact hi) h5 he hs h6).imp fun D σ H hq => rd D σ H hq
theorem ss_setL1 (cs : CxS X c B C G) {i : Nat} {x : Str} {e it cd : Ex} {tg : Tg} {elt tg' i' : Expr} {ifs : List Expr} {scope : Scope} {pos2 : Pos} (pe : PA4 C G e) (pi : PA4 C G it) (pc : PA4 C G cd) (hi : c.N[i]? = some x)
    (hx : c.sc.names.lookup x = some .local) (hsw : swapsWith (.ListComp elt [⟨tg', i', ifs, 0⟩] scope pos2) (some (.Name x px)) pos.line X.env = pure true)
    (h : (decide ((ownOf tg tg').map (·.2) = tgS tg) && (blkC c scope (ownOf tg tg') && (!isSetE i' && (pairOk it tg' && (chkE c Γ .any true it i' && (chkTg (c.blk scope) (ΓW Γ (tgS tg)) tg tg' &&
        ((match (generalizing := false) ifs with | [] => isLitTrue cd | [t] => plainT t && chkE (c.blk scope) (ΓW Γ (tgS tg)) .any false cd t | _ => false) && chkE (c.blk scope) (ΓW Γ (tgS tg)) .shr false e elt))))))) = true)
    (rd : ∀ D σ H, TSX B Γ Γ1 ΓL m D σ H → TX B.g B.W Γ .own (denE C G (.lc1 e tg it cd)) σ H fun y H1 => gName i y σ H1 D.nx) :
    PS X (.Assign [.Name x px] (.ListComp elt [⟨tg', i', ifs, 0⟩] scope pos2) pos) (TSX B Γ Γ1 ΓL m) := by
  obtain ⟨h1, h⟩ := an h
  obtain ⟨h2, h⟩ := an h
  obtain ⟨h3, h⟩ := an h
  obtain ⟨h4, h⟩ := an h
  obtain ⟨h5, h⟩ := an h
  obtain ⟨h6, h⟩ := an h
  obtain ⟨h7, h8⟩ := an h
  have cx := cs.cx
  have ok := blkC_of cx.hN cx.hsc h2
  have hN : X.N.Nodup := by rw [cx.hN]; exact cx.nd
  exact (ps_setLc cx.calm hN (by rw [cx.hN]; exact hi) (by rw [cx.hsc]; exact hx) hsw (pi.it (W := B.W) (k := .any) cx (by decide) h4 h5) ok (fun s H Cl cl fp => snd_tg (cx.blk ok s H Cl cl fp) tg tg' h6) (fun s H Cl cl fp => (cndR (W := W0) (cx.blk ok s H Cl cl fp) pc h7).pts)
    (fun s H Cl cl fp => pe.ex (cx.blk ok s H Cl cl fp) h8) (fun x => notSet_of h3 X.env x)).imp fun D σ H hq => lc1_read (of_decide_eq_true h1) (rd D σ H hq)
theorem ss_setD1 (cs : CxS X c B C G) {i : Nat} {x : Str} {kk w it cd : Ex} {tg : Tg} {kx vx tg' i' : Expr} {ifs : List Expr} {scope : Scope} {pos2 : Pos} (pk : PA4 C G kk) (pv : PA4 C G w) (pi : PA4 C G it) (pc : PA4 C G cd) (hi : c.N[i]? = some x)
    (hx : c.sc.names.lookup x = some .local) (hsw : swapsWith (.DictComp kx vx [⟨tg', i', ifs, 0⟩] scope pos2) (some (.Name x px)) pos.line X.env = pure true)
    (h : (decide ((ownOf tg tg').map (·.2) = tgS tg) && (blkC c scope (ownOf tg tg') && (!isSetE i' && (pairOk it tg' && (chkE c Γ .any true it i' && (chkTg (c.blk scope) (ΓW Γ (tgS tg)) tg tg' &&
        ((match (generalizing := false) ifs with | [] => isLitTrue cd | [t] => plainT t && chkE (c.blk scope) (ΓW Γ (tgS tg)) .any false cd t | _ => false) && (chkE (c.blk scope) (ΓW Γ (tgS tg)) .shr false kk kx && chkE (c.blk scope) (ΓW Γ (tgS tg)) .shr false w vx)))))))) = true)
    (rd : ∀ D σ H, TSX B Γ Γ1 ΓL m D σ H → TX B.g B.W Γ .own (denE C G (.dc1 kk w tg it cd)) σ H fun y H1 => gName i y σ H1 D.nx) :
    PS X (.Assign [.Name x px] (.DictComp kx vx [⟨tg', i', ifs, 0⟩] scope pos2) pos) (TSX B Γ Γ1 ΓL m) := by
  obtain ⟨h1, h⟩ := an h
  obtain ⟨h2, h⟩ := an h
  obtain ⟨h3, h⟩ := an h
  obtain ⟨h4, h⟩ := an h
  obtain ⟨h5, h⟩ := an h
  obtain ⟨h6, h⟩ := an h
  obtain ⟨h7, h⟩ := an h
  obtain ⟨h8, h9⟩ := an h
  have cx := cs.cx
  have ok := blkC_of cx.hN cx.hsc h2
  have hN : X.N.Nodup := by rw [cx.hN]; exact cx.nd
  exact (ps_setDcX cx.hK cx.hP cx.hW (by have := cx.hu; omega) cx.calm hN (by rw [cx.hN]; exact hi) (by rw [cx.hsc]; exact hx) hsw (pi.it (W := B.W) (k := .any) cx (by decide) h4 h5) ok (fun s H Cl cl fp => snd_tg (cx.blk ok s H Cl cl fp) tg tg' h6) (fun s H Cl cl fp => (cndR (W := W0) (cx.blk ok s H Cl cl fp) pc h7).pts)
    (fun s H Cl cl fp => pk.ex (cx.blk ok s H Cl cl fp) h8) (fun s H Cl cl fp => pv.ex (cx.blk ok s H Cl cl fp) h9) (fun x => notSet_of h3 X.env x)).imp fun D σ H hq => dc1_read (of_decide_eq_true h1) (rd D σ H hq)
theorem ss_setL2 (cs : CxS X c B C G) {i : Nat} {x : Str} {e it cd i2 cd2 : Ex} {tg tg2 : Tg} {elt tg' i' tg2' i2' : Expr} {ifs ifs2 : List Expr} {scope : Scope} {pos2 : Pos} (pe : PA4 C G e) (pi : PA4 C G it) (pc : PA4 C G cd) (pi2 : PA4 C G i2) (pc2 : PA4 C G cd2) (hi : c.N[i]? = some x)
    (hx : c.sc.names.lookup x = some .local) (hsw : swapsWith (.ListComp elt [⟨tg', i', ifs, 0⟩, ⟨tg2', i2', ifs2, 0⟩] scope pos2) (some (.Name x px)) pos.line X.env = pure true)
    (h : (decide ((ownOf tg tg' ++ ownOf tg2 tg2').map (·.2) = tgS tg ++ tgS tg2) && (blkC c scope (ownOf tg tg' ++ ownOf tg2 tg2') && (!isSetE i' && (!isSetE i2' && (pairOk it tg' && (pairOk i2 tg2' && (chkE c Γ .any true it i' && (chkTg (c.blk scope) (ΓW Γ (tgS tg ++ tgS tg2)) tg tg' &&
        (chkTg (c.blk scope) (ΓW (ΓW Γ (tgS tg ++ tgS tg2)) (tgS tg2)) tg2 tg2' &&
          ((match (generalizing := false) ifs with | [] => isLitTrue cd | [t] => plainT t && chkE (c.blk scope) (ΓW Γ (tgS tg ++ tgS tg2)) .any false cd t | _ => false) &&
            (chkE (c.blk scope) (ΓW Γ (tgS tg ++ tgS tg2)) .shr true i2 i2' &&
              ((match (generalizing := false) ifs2 with | [] => isLitTrue cd2 | [t] => plainT t && chkE (c.blk scope) (ΓW (ΓW Γ (tgS tg ++ tgS tg2)) (tgS tg2)) .any false cd2 t | _ => false) &&
                chkE (c.blk scope) (ΓW (ΓW Γ (tgS tg ++ tgS tg2)) (tgS tg2)) .shr false e elt)))))))))))) = true)
    (rd : ∀ D σ H, TSX B Γ Γ1 ΓL m D σ H → TX B.g B.W Γ .own (denE C G (.lc2 e tg it cd tg2 i2 cd2)) σ H fun y H1 => gName i y σ H1 D.nx) :
    PS X (.Assign [.Name x px] (.ListComp elt [⟨tg', i', ifs, 0⟩, ⟨tg2', i2', ifs2, 0⟩] scope pos2) pos) (TSX B Γ Γ1 ΓL m) := by
  obtain ⟨h1, h⟩ := an h
  obtain ⟨h2, h⟩ := an h
  obtain ⟨h3, h⟩ := an h
  obtain ⟨h4, h⟩ := an h
  obtain ⟨h5, h⟩ := an h
  obtain ⟨h6, h⟩ := an h
  obtain ⟨h7, h⟩ := an h
  obtain ⟨h8, h⟩ := an h
  obtain ⟨h9, h⟩ := an h
  obtain ⟨h10, h⟩ := an h
  obtain ⟨h11, h⟩ := an h
  obtain ⟨h12, h13⟩ := an h
  have cx := cs.cx
  have ok := blkC_of cx.hN cx.hsc h2
  have hN : X.N.Nodup := by rw [cx.hN]; exact cx.nd
  have hown := of_decide_eq_true h1
  exact (ps_setLc2 (vs1 := tgS tg2) cx.calm hN (by rw [cx.hN]; exact hi) (by rw [cx.hsc]; exact hx) hsw (pi.it (W := B.W) (k := .any) cx (by decide) h5 h7) ok (fun i hi => by rw [hown]; exact List.mem_append_right _ hi) (fun s H Cl cl fp => snd_tg (cx.blk ok s H Cl cl fp) tg tg' h8) (fun s H Cl cl fp => (cndR (W := W0) (cx.blk ok s H Cl cl fp) pc h10).pts)
    (fun s H Cl cl fp => pi2.it (cx.blk ok s H Cl cl fp) (by decide) h6 h11) (fun s H Cl cl fp => snd_tg (cx.blk ok s H Cl cl fp) tg2 tg2' h9) (fun s H Cl cl fp => (cndR (W := W0) (cx.blk ok s H Cl cl fp) pc2 h12).pts)
    (fun s H Cl cl fp => pe.ex (cx.blk ok s H Cl cl fp) h13) (fun x => notSet_of h3 X.env x) (fun env x => notSet_of h4 env x)).imp fun D σ H hq => lc2_read hown (rd D σ H hq)
/-- name = value, any checked value -/
theorem ss_asg1 (cs : CxS X c B C G) (hC : ∀ f vs, Mono (C f vs)) {i : Nat} {x : Str} {k : Kd} {e : Ex} (hk : k = .own ∨ k = .shr) (hi : c.N[i]? = some x) (hx : locOk c x = true) (hsd : (!isSDC e') = true) (h : chkE c Γ k false e e' = true)
    (rd : ∀ D σ H, TSX B Γ Γ1 ΓL m D σ H → TX B.g B.W Γ k (denE C G e) σ H fun y H1 => gName i y σ H1 D.nx) : PS X (.Assign [.Name x px] e' pos) (TSX B Γ Γ1 ΓL m) := by
  have hsw := swV_of (px := px) (l := pos.line) cs (x := x) (e' := e') (by simpa using hsd) (.inr trivial)
  cases hv : swV c x px e' with
  | false =>
    rw [hv] at hsw
    exact ss_set cs hi hx ((sndA hC e).ex cs.cx h) hsw rd
  | true =>
    rw [hv] at hsw
    have rd' : ∀ D σ H, TSX B Γ Γ1 ΓL m D σ H → TX B.g B.W Γ .own (denE C G e) σ H fun y H1 => gName i y σ H1 D.nx := fun D σ H hq => by
      rcases hk with hk | hk
      · subst hk; exact rd D σ H hq
      · subst hk; exact (rd D σ H hq).shr_of_own
    cases e' <;> first | exact no hv | skip
    · have hl : c.sc.names.lookup x = some .local := of_decide_eq_true (an hv).1
      cases e <;> first | exact no h | skip
      · unfold chkE at h
        split at h
        · rename_i heq
          cases heq
          exact ss_setL1 cs (sndA hC _) (sndA hC _) (sndA hC _) hi hl hsw h rd'
        · exact no h
      · unfold chkE at h
        split at h
        · rename_i heq
          cases heq
          exact ss_setL2 cs (sndA hC _) (sndA hC _) (sndA hC _) (sndA hC _) (sndA hC _) hi hl hsw h rd'
        · exact no h
    · have hl : c.sc.names.lookup x = some .local := of_decide_eq_true (an hv).1
      cases e <;> first | exact no h | skip
      unfold chkE at h
      split at h
      · rename_i heq
        cases heq
        exact ss_setD1 cs (sndA hC _) (sndA hC _) (sndA hC _) (sndA hC _) hi hl hsw h rd'
      · exact no h
/-- a, b = value -/
theorem ss_asgU (cs : CxS X c B C G) {tg : Tg} {tgE : Expr} {ts : List Expr} {j : Nat} {pt : Pos} (he' : (!isTupE e') = true) (ht : tgE = .Tuple ts j pt) (he : PE X e' (TX B.g B.W Γ .shr me)) (hg : PG X tgE (TGX B.g Γ tg)) (hn : ∀ i ∈ tgS tg, isO Γ i = false) (hl : leΓ Γ1 Γ) :
    PS X (.Assign [tgE] e' pos) (TSX B Γ Γ1 ΓL fun ρ => bd (me ρ) fun v => bd (bindT tg v ρ) fun ρ' => pu (.nx ρ')) := by
  subst ht
  refine (ps_asg he hg (by cases e' <;> first | rfl | exact no he') (by cases e' <;> first | rfl | exact no he') (by rfl)).imp fun D σ H ⟨F, ρ, Qd, E, s, hq, qn, qb, qc, qr, ex⟩ => ?_
  refine ⟨F, ρ, _, E, s.st, hq, fun p hp v H1 F1 w r => ?_, fun x hx => (ex x hx).at s⟩
  have s1 := s.grow w
  refine ⟨F1, ρ, p, _, _, s1.st, r, bindT_same hp, fun ρ' ⟨hρ, se⟩ σ' st' so => ?_⟩
  obtain ⟨F2, s2, k2⟩ := (s1.tgt st' so se hn).weaken hl
  exact qn ρ' hρ σ' H1 F2 ((w.keep s.fca).trans k2) s2
mutual
theorem chkTg_no : ∀ {tg : Tg} {e : Expr}, chkTg c Γ tg e = true → ∀ i ∈ tgS tg, isO Γ i = false
  | .nm i, e, h => by
    cases e <;> first | exact no h | skip
    obtain ⟨_, h⟩ := an h
    obtain ⟨_, h⟩ := an h
    intro j hj
    unfold tgS at hj
    rw [List.mem_singleton] at hj
    subst hj
    simpa using h
  | .tp ts, e, h => by
    cases e <;> first | exact no h | skip
    intro j hj
    exact chkTgs_no (show chkTgs c Γ ts _ = true from h) j hj
theorem chkTgs_no : ∀ {ts : List Tg} {es : List Expr}, chkTgs c Γ ts es = true → ∀ i ∈ tgSs ts, isO Γ i = false
  | [], es, h => fun i hi => by cases hi
  | t :: ts, [], h => by unfold chkTgs at h; exact no h
  | t :: ts, e :: es, h => by
    unfold chkTgs at h
    obtain ⟨_, h⟩ := an h
    obtain ⟨h1, h2⟩ := an h
    intro i hi
    unfold tgSs at hi
    rcases List.mem_append.mp hi with z | z
    · exact chkTg_no h1 i z
    · exact chkTgs_no h2 i z
end
theorem snm (cx : Cxt X c B.g B.W C G) (hC : ∀ f vs, Mono (C f vs)) : ∀ {ks : List Bool} {es : List Ex} {es' : List Expr}, chkKs c Γ ks es es' = true → PA X es' (TXm B.g B.W Γ ks (denEs C G es)) ∧ es.length = es'.length
  | [], [], [], _ => ⟨snm_nil, rfl⟩
  | [], [], _ :: _, h => no h
  | [], _ :: _, _, h => no h
  | _ :: _, [], _, h => no h
  | _ :: _, _ :: _, [], h => no h
  | k :: ks, e :: es, e' :: es', h => by
    obtain ⟨h1, h⟩ := an (show (plainE e' && ((if k then chkE c Γ .own false e e' else chkE c Γ .shr false e e') && chkKs c Γ ks es es')) = true from h)
    obtain ⟨h2, h3⟩ := an h
    obtain ⟨h4, h5⟩ := snm cx hC h3
    cases k with
    | true => exact ⟨snm_own h1 ((sndA hC e).ex cx h2) h4, congrArg Nat.succ h5⟩
    | false => exact ⟨snm_shr h1 ((sndA hC e).ex cx h2) h4, congrArg Nat.succ h5⟩
theorem leO_some {Γ' : List Bool} {r : Option (List Bool)} (e : r = some Γ') (h : leO r Γ1) : leΓ Γ1 Γ' := by subst e; exact h
theorem len2 {α : Type} {l : List α} (h : l.length = 2) : ∃ a b, l = [a, b] := by
  match l, h with
  | [a, b], _ => exact ⟨a, b, rfl⟩
theorem len3 {α : Type} {l : List α} (h : l.length = 3) : ∃ a b d, l = [a, b, d] := by
  match l, h with
  | [a, b, d], _ => exact ⟨a, b, d, rfl⟩
theorem ss_asgTc (cs : CxS X c B C G) (hC : ∀ f vs, Mono (C f vs)) {is : List Nat} {ks : List Bool} {es : List Ex} {ts es' : List Expr} {kt k2 : Nat} {pt pt2 : Pos}
    (h : (nmsOk c is ts && (nodupB is && (decide (is.length = es.length) && (decide (is.length ≤ 1000) && ((is.all fun i => decide (i < Γ.length)) && (chkKs c Γ ks es es' &&
        (match swO c.sc ts es' with | none => false | some none => true | some (some ns) => decide (ns = namesOfs ts) && (allLocal c ts && (decide (ts.length = 2) || decide (ts.length = 3)))))))))) = true) (hl : leΓ Γ1 (setΓ is ks Γ)) :
    PS X (.Assign [.Tuple ts kt pt] (.Tuple es' k2 pt2) pos) (TSX B Γ Γ1 ΓL fun ρ => bd (denEs C G es ρ) fun vs => pu (.nx (setL is vs ρ))) := by
  obtain ⟨h1, h⟩ := an h
  obtain ⟨h2, h⟩ := an h
  obtain ⟨h3, h⟩ := an h
  obtain ⟨h4, h⟩ := an h
  obtain ⟨h5, h⟩ := an h
  obtain ⟨h6, h⟩ := an h
  have cx := cs.cx
  have hd : is.Nodup := of_decide_eq_true h2
  have h3 := of_decide_eq_true h3
  have hr : ∀ u ∈ is, u < Γ.length := fun u hu => of_decide_eq_true (List.all_eq_true.mp h5 u hu)
  obtain ⟨ha, hle⟩ := snm cx hC h6
  have hlen : ∀ ρ Q E, denEs C G es ρ Q E → denEs C G es ρ (fun xs => Q xs ∧ xs.length = is.length) E := fun ρ Q E q => by
    rw [h3]; exact denEs_len hC es ρ Q E q
  have hN : X.N.Nodup := by rw [cx.hN]; exact cx.nd
  cases hw : swO c.sc ts es' with
  | none => rw [hw] at h; exact no h
  | some r =>
    have hsw := swO_of (k := kt) (k2 := k2) (p := pt) (p2 := pt2) cx.hsc cs.kind hw
    rw [hw] at h
    cases r with
    | none => exact ss_asgTn cx h1 hd hlen (of_decide_eq_true h4) ha hsw hr hl
    | some ns =>
      obtain ⟨k1, h⟩ := an h
      obtain ⟨k2', h⟩ := an h
      have k1 := of_decide_eq_true k1
      rcases Bool.or_eq_true_iff.mp h with h | h
      · have lt := of_decide_eq_true h
        have hl2 := (sg_names cx h1).2.1
        have le : es'.length = 2 := by rw [← hle, ← h3, hl2, lt]
        obtain ⟨i, j, rfl⟩ := len2 (hl2.trans lt)
        obtain ⟨t1, t2, rfl⟩ := len2 lt
        obtain ⟨a, b, rfl⟩ := len2 le
        cases t1 <;> first | (unfold nmsOk at h1; exact no h1) | skip
        obtain ⟨g1, g2⟩ := an h1
        obtain ⟨g3, g4⟩ := an g2
        cases t2 <;> first | (unfold nmsOk at g4; exact no g4) | skip
        obtain ⟨g5, g6⟩ := an g4
        obtain ⟨m1, m2⟩ := an k2'
        obtain ⟨m3, _⟩ := an m2
        subst k1
        refine ss_asgT2 hlen cx.calm hN (by rw [cx.hN]; exact of_decide_eq_true g1) (by rw [cx.hN]; exact of_decide_eq_true g5) (fun z => ?_) (by rw [cx.hsc]; exact of_decide_eq_true m1) (by rw [cx.hsc]; exact of_decide_eq_true m3) ha hsw (by rfl) hr hl
        subst z
        simp at hd
      · have lt := of_decide_eq_true h
        have hl2 := (sg_names cx h1).2.1
        have le : es'.length = 3 := by rw [← hle, ← h3, hl2, lt]
        obtain ⟨i, j, l, rfl⟩ := len3 (hl2.trans lt)
        obtain ⟨t1, t2, t3, rfl⟩ := len3 lt
        obtain ⟨a, b, d, rfl⟩ := len3 le
        cases t1 <;> first | (unfold nmsOk at h1; exact no h1) | skip
        obtain ⟨g1, g2⟩ := an h1
        obtain ⟨g3, g4⟩ := an g2
        cases t2 <;> first | (unfold nmsOk at g4; exact no g4) | skip
        obtain ⟨g5, g6⟩ := an g4
        obtain ⟨g7, g8⟩ := an g6
        cases t3 <;> first | (unfold nmsOk at g8; exact no g8) | skip
        obtain ⟨g9, g10⟩ := an g8
        obtain ⟨m1, m2⟩ := an k2'
        obtain ⟨m3, m4⟩ := an m2
        obtain ⟨m5, _⟩ := an m4
        subst k1
        simp at hd
        exact ss_asgT3 hlen cx.calm hN (by rw [cx.hN]; exact of_decide_eq_true g1) (by rw [cx.hN]; exact of_decide_eq_true g5) (by rw [cx.hN]; exact of_decide_eq_true g9) (fun z => hd.1.1 z) (fun z => hd.1.2 z) (fun z => hd.2 z) (by rw [cx.hsc]; exact of_decide_eq_true m1) (by rw [cx.hsc]; exact of_decide_eq_true m3) (by rw [cx.hsc]; exact of_decide_eq_true m5) ha hsw (by rfl) hr hl
end
end HG
end
section
set_option maxHeartbeats 8000000
/-! HGBody2: soundness of bodies. -/
namespace HG
open PySem PySem.Spec PyProof.Rows L2
section
variable {X : Cx} {c : Cc} {B : BC} {C : Nat → List PV → M PV} {G : List PV}
theorem some_inj {α : Type} {a b : α} (h : some a = some b) : a = b := Option.some.inj h
theorem isTupE_of {e : Expr} (h : isTupE e = true) : ∃ es j p, e = .Tuple es j p := by
  cases e <;> first | exact no h | exact ⟨_, _, _, rfl⟩
theorem frzO_of {s : St} {is : List Nat} (h : frzO s = some is) : s = .frz is := by
  cases s <;> first | cases h | skip
  rfl
mutual
theorem sndS (hC : ∀ f vs, Mono (C f vs)) (cs : CxS X c B C G) : ∀ (s : St) {s' : Stmt} {Γ ΓL Γ1 : List Bool} {r : Option (List Bool)}, chkS c Γ ΓL s s' = some r → leO r Γ1 → PS X s' (TSX B Γ Γ1 ΓL (denS C G s))
  | .asg tg e, s', Γ, ΓL, Γ1, r, h, hl => by
    unfold chkS at h
    split at h
    · split at h
      · split at h
        · obtain ⟨hb9, e9⟩ := req_of h
          have e9 := some_inj e9
          subst e9
          replace h := hb9
          obtain ⟨h1, h⟩ := an h
          obtain ⟨h2, h⟩ := an h
          obtain ⟨h3, h4⟩ := an h
          exact ss_asg1 cs hC (.inr rfl) (of_decide_eq_true h1) h2 h3 h4 fun D σ H hq => asg_shr hl hq
        · cases h
      · obtain ⟨hb9, e9⟩ := req_of h
        have e9 := some_inj e9
        subst e9
        replace h := hb9
        obtain ⟨h1, h⟩ := an h
        obtain ⟨h2, h⟩ := an h
        obtain ⟨h3, h4⟩ := an h
        obtain ⟨ts2, j2, p2, e2⟩ := isTupE_of h1
        exact ss_asgU cs h2 e2 ((sndA hC e).ex cs.cx h4) (snd_tg cs.cx _ _ h3) (chkTg_no h3) hl
    · cases h
  | .own i e, s', Γ, ΓL, Γ1, r, h, hl => by
    unfold chkS at h
    split at h
    · obtain ⟨hb9, e9⟩ := req_of h
      have e9 := some_inj e9
      subst e9
      replace h := hb9
      obtain ⟨h1, h⟩ := an h
      obtain ⟨h2, h⟩ := an h
      obtain ⟨h3, h⟩ := an h
      obtain ⟨h4, h5⟩ := an h
      exact ss_asg1 cs hC (.inl rfl) (of_decide_eq_true h1) h2 h4 h5 fun D σ H hq => asg_own (of_decide_eq_true h3) hl hq
    · cases h
  | .asgT is ks es, s', Γ, ΓL, Γ1, r, h, hl => by
    unfold chkS at h
    split at h
    · obtain ⟨hb9, e9⟩ := req_of h
      have e9 := some_inj e9
      subst e9
      replace h := hb9
      exact ss_asgTc cs hC h hl
    · cases h
  | .asgU ts es, s', Γ, ΓL, Γ1, r, h, hl => by
    unfold chkS at h
    split at h
    · obtain ⟨hb9, e9⟩ := req_of h
      have e9 := some_inj e9
      subst e9
      replace h := hb9
      obtain ⟨h1, h⟩ := an h
      obtain ⟨h2, h⟩ := an h
      obtain ⟨h3, h⟩ := an h
      obtain ⟨h4, h5⟩ := an h
      split at h5
      · rename_i hsw
        exact ss_asgUs hC cs.cx h1 (of_decide_eq_true h2) (of_decide_eq_true h3) h4 (swO_of cs.cx.hsc cs.kind hsw) hl
      · exact no h5
    · cases h
  | .seti x i e, s', Γ, ΓL, Γ1, r, h, hl => by
    unfold chkS at h
    split at h
    · obtain ⟨hb9, e9⟩ := req_of h
      have e9 := some_inj e9
      subst e9
      replace h := hb9
      obtain ⟨h1, h⟩ := an h
      obtain ⟨h2, h⟩ := an h
      obtain ⟨h3, h⟩ := an h
      obtain ⟨h4, h⟩ := an h
      obtain ⟨h5, h6⟩ := an h
      rename_i e2 _ _ _ _ _
      exact ss_seti cs.cx h1 h2 h3 ((sndA hC i).ex cs.cx h5) ((sndA hC e).ex cs.cx h6) (by cases e2 <;> first | rfl | exact no h4) hl
    · cases h
  | .app x e, s', Γ, ΓL, Γ1, r, h, hl => by
    unfold chkS at h
    split at h
    · obtain ⟨hb9, e9⟩ := req_of h
      have e9 := some_inj e9
      subst e9
      replace h := hb9
      obtain ⟨h1, h⟩ := an h
      obtain ⟨h2, h⟩ := an h
      obtain ⟨h3, h⟩ := an h
      obtain ⟨h4, h⟩ := an h
      obtain ⟨h5, h6⟩ := an h
      have h1 := of_decide_eq_true h1
      subst h1
      exact ss_app cs.cx h2 h3 h4 h5 ((sndA hC e).ex cs.cx h6) hl
    · cases h
  | .pop y x, s', Γ, ΓL, Γ1, r, h, hl => by
    unfold chkS at h
    split at h
    · obtain ⟨hb9, e9⟩ := req_of h
      have e9 := some_inj e9
      subst e9
      replace h := hb9
      obtain ⟨h1, h⟩ := an h
      obtain ⟨h2, h⟩ := an h
      obtain ⟨h3, h⟩ := an h
      obtain ⟨h4, h⟩ := an h
      obtain ⟨h5, h6⟩ := an h
      have h1 := of_decide_eq_true h1
      subst h1
      exact ss_pop cs.cx h2 h3 (of_decide_eq_true h4) h5 h6 hl
    · cases h
  | .popi y x i, s', Γ, ΓL, Γ1, r, h, hl => by
    unfold chkS at h
    split at h
    · obtain ⟨hb9, e9⟩ := req_of h
      have e9 := some_inj e9
      subst e9
      replace h := hb9
      obtain ⟨h1, h⟩ := an h
      obtain ⟨h2, h⟩ := an h
      obtain ⟨h3, h⟩ := an h
      obtain ⟨h4, h⟩ := an h
      obtain ⟨h5, h⟩ := an h
      obtain ⟨h6, h⟩ := an h
      obtain ⟨h7, h8⟩ := an h
      have h1 := of_decide_eq_true h1
      subst h1
      exact ss_popi cs.cx h2 h3 (of_decide_eq_true h4) h5 h6 h7 ((sndA hC i).ex cs.cx h8) hl
    · cases h
  | .appPop y x i, s', Γ, ΓL, Γ1, r, h, hl => by
    unfold chkS at h
    split at h
    · obtain ⟨hb9, e9⟩ := req_of h
      have e9 := some_inj e9
      subst e9
      replace h := hb9
      obtain ⟨h1, h⟩ := an h
      obtain ⟨g1, h⟩ := an h
      obtain ⟨g2, h⟩ := an h
      obtain ⟨h2, h⟩ := an h
      obtain ⟨h3, h⟩ := an h
      obtain ⟨h4, h⟩ := an h
      obtain ⟨h5, h⟩ := an h
      obtain ⟨h6, h⟩ := an h
      obtain ⟨h7, h⟩ := an h
      obtain ⟨h8, h9⟩ := an h
      have h1 := of_decide_eq_true h1
      subst h1
      have g1 := of_decide_eq_true g1
      subst g1
      exact ss_appPop cs.cx (of_decide_eq_true g2) h2 h3 h4 h5 h6 h7 h8 ((sndA hC i).ex cs.cx h9) hl
    · cases h
  | .upd x e, s', Γ, ΓL, Γ1, r, h, hl => by
    unfold chkS at h
    split at h
    · obtain ⟨hb9, e9⟩ := req_of h
      have e9 := some_inj e9
      subst e9
      replace h := hb9
      obtain ⟨h1, h⟩ := an h
      obtain ⟨h2, h⟩ := an h
      obtain ⟨h3, h⟩ := an h
      obtain ⟨h4, h⟩ := an h
      obtain ⟨h5, h6⟩ := an h
      have h1 := of_decide_eq_true h1
      subst h1
      exact ss_upd cs.cx h2 h3 h4 h5 ((sndA hC e).ex cs.cx h6) hl
    · cases h
  | .aug x e, s', Γ, ΓL, Γ1, r, h, hl => by
    unfold chkS at h
    split at h
    · obtain ⟨hb9, e9⟩ := req_of h
      have e9 := some_inj e9
      subst e9
      replace h := hb9
      obtain ⟨h1, h⟩ := an h
      obtain ⟨h2, h⟩ := an h
      obtain ⟨h3, h4⟩ := an h
      exact ss_aug cs.cx (of_decide_eq_true h1) h2 h3 ((sndA hC e).ex cs.cx h4) hl
    · cases h
  | .augi _ _ _, s', Γ, ΓL, Γ1, r, h, hl => by cases h
  | .ex e, s', Γ, ΓL, Γ1, r, h, hl => by
    unfold chkS at h
    split at h
    · obtain ⟨hb9, e9⟩ := req_of h
      have e9 := some_inj e9
      subst e9
      replace h := hb9
      obtain ⟨h1, h2⟩ := an h
      rename_i e2 pos
      exact ss_ex ((sndA hC e).ex cs.cx h2) (by cases e2 <;> first | rfl | exact no h1) hl
    · cases h
  | .ret e, s', Γ, ΓL, Γ1, r, h, hl => by
    unfold chkS at h
    split at h
    · obtain ⟨h, e'⟩ := req_of h
      exact ss_ret ((sndA hC e).ex cs.cx h)
    · cases h
  | .ite t a b, s', Γ, ΓL, Γ1, r, h, hl => by
    unfold chkS at h
    split at h
    · split at h
      · rename_i ra rb ha hb
        obtain ⟨hb9, e9⟩ := req_of h
        have e9 := some_inj e9
        subst e9
        replace h := hb9
        obtain ⟨l1, l2⟩ := leO_join hl
        obtain ⟨h1, h2⟩ := an h
        exact ss_if ((sndA hC t).ts cs.cx h1 h2) (sndB hC cs a ha l1) (sndB hC cs b hb l2)
      · cases h
    · cases h
  | .whl t b, s', Γ, ΓL, Γ1, r, h, hl => by
    unfold chkS at h
    split at h
    · split at h
      · rename_i rb hb
        obtain ⟨hb9, e9⟩ := req_of h
        have e9 := some_inj e9
        subst e9
        replace h := hb9
        obtain ⟨h0, h⟩ := an h
        obtain ⟨h1, h2⟩ := an h
        exact ss_while cs.own ((sndA hC t).ts cs.cx h1 h2) (sndB hC cs b hb (leOB_of h0)) hl
      · cases h
    · cases h
  | .for_ tg it b, s', Γ, ΓL, Γ1, r, h, hl => by
    unfold chkS at h
    split at h
    · split at h
      · rename_i rb hb
        obtain ⟨hb9, e9⟩ := req_of h
        have e9 := some_inj e9
        subst e9
        replace h := hb9
        obtain ⟨h0, h⟩ := an h
        obtain ⟨h1, h⟩ := an h
        obtain ⟨h2, h⟩ := an h
        obtain ⟨h3, h⟩ := an h
        obtain ⟨h4, h5⟩ := an h
        exact ss_for cs.own cs.cx.calm ((sndA hC it).it (k := .shr) cs.cx (by decide) h1 h5) (snd_tg cs.cx _ _ h2) (chkTg_no h2) (sndB hC cs b hb (leOB_of h0)) hl (fun x => notSet_of h4 X.env x)
      · cases h
    · cases h
  | .brk, s', Γ, ΓL, Γ1, r, h, hl => by
    unfold chkS at h
    split at h
    · obtain ⟨h, _⟩ := req_of h
      exact ss_brk (leB_of h)
    · cases h
  | .cnt, s', Γ, ΓL, Γ1, r, h, hl => by
    unfold chkS at h
    split at h
    · obtain ⟨h, _⟩ := req_of h
      exact ss_cnt (leB_of h)
    · cases h
  | .pass, s', Γ, ΓL, Γ1, r, h, hl => by
    unfold chkS at h
    split at h
    · have h := some_inj h
      subst h
      exact ss_pass hl
    · have h := some_inj h
      subst h
      exact ss_doc hl
    · cases h
  | .rai j es, s', Γ, ΓL, Γ1, r, h, hl => by
    unfold chkS at h
    split at h
    · obtain ⟨h, _⟩ := req_of h
      obtain ⟨h0, h⟩ := an h
      obtain ⟨h1, h2⟩ := an h
      obtain ⟨K, k1, k2⟩ := cs.exc j _ (of_decide_eq_true h2)
      cases es with
      | nil => exact ss_rai cs.cx.calm cs.cx.takes k1 (k2 _ _ _ _ _ (gl_of cs.cx h1).1)
      | cons => exact no h0
    · cases h
  | .never, s', Γ, ΓL, Γ1, r, h, hl => ss_never
  | .frz _, s', Γ, ΓL, Γ1, r, h, hl => by cases h
theorem sndB (hC : ∀ f vs, Mono (C f vs)) (cs : CxS X c B C G) : ∀ (s : List St) {ss : List Stmt} {Γ ΓL Γ1 : List Bool} {r : Option (List Bool)}, chkB c Γ ΓL s ss = some r → leO r Γ1 → PSs X ss (TSX B Γ Γ1 ΓL (denB C G s))
  | [], ss, Γ, ΓL, Γ1, r, h, hl => by
    obtain ⟨h1, e1⟩ := req_of (show req ss.isEmpty (some (some Γ)) = some r from h)
    have e1 := some_inj e1
    subst e1
    have h1 := List.isEmpty_iff.mp h1
    subst h1
    exact sst_nil hl
  | s :: rs, ss, Γ, ΓL, Γ1, r, h, hl => by
    unfold chkB at h
    split at h
    · rename_i is hf
      have hf := frzO_of hf
      subst hf
      exact sst_frz leΓ_frz (sndB hC cs rs h hl)
    · rename_i hf
      cases ss with
      | nil => cases h
      | cons s' r' =>
        dsimp only at h
        cases hs : chkS c Γ ΓL s s' with
        | none => rw [hs] at h; cases h
        | some o =>
          rw [hs] at h
          cases o with
          | none =>
            obtain ⟨h, _⟩ := req_of h
            obtain ⟨h1, h2⟩ := an h
            have h1 := List.isEmpty_iff.mp h1
            have h2 := List.isEmpty_iff.mp h2
            subst h1 h2
            exact sst_cons (sndS (Γ1 := Γ1) hC cs s hs trivial) (sst_nil (leΓ.refl _))
          | some Γ2 => exact sst_cons (sndS (Γ1 := Γ2) hC cs s hs (leΓ.refl _)) (sndB hC cs rs h hl)
end
end
end HG
end
section
set_option maxHeartbeats 8000000
/-! HGDef: defs: what is checked of each, and that each does what the denotation says. -/
namespace HG
open PySem PySem.Spec PyProof.Rows L2
/-- a def: its name, parameters, slots, text, term -/
structure Df where
  name : Str
  ps : List Str
  N : List Str
  params : Arguments
  body : List Stmt
  scope : Scope
  code : List St
def Df.fd (d : Df) : Fd := ⟨d.ps.length, d.N.length, d.code⟩
def scopeOk (N ps : List Str) (sc : Scope) : Bool :=
  decide (sc.kind = .function) && (!sc.isCoroutine && (!sc.isGenerator && (decide N.Nodup && (decide (N.take ps.length = ps) && ((ps.all fun x => decide (sc.names.lookup x = some .local) || decide (sc.names.lookup x = some .cell)) && sc.names.all fun y => !decide (y.2 = .free))))))
theorem scopeOk_of {N ps : List Str} {sc : Scope} (h : scopeOk N ps sc = true) : FnScope N ps sc := by
  unfold scopeOk at h
  obtain ⟨h1, h⟩ := an h
  obtain ⟨h2, h⟩ := an h
  obtain ⟨h3, h⟩ := an h
  obtain ⟨h4, h⟩ := an h
  obtain ⟨h5, h⟩ := an h
  obtain ⟨h6, h7⟩ := an h
  refine ⟨of_decide_eq_true h1, by simpa using h2, by simpa using h3, of_decide_eq_true h4, of_decide_eq_true h5, fun x hx => ?_, fun y hy => ?_⟩
  · rcases Bool.or_eq_true_iff.mp (List.all_eq_true.mp h6 x hx) with z | z
    · exact .inl (of_decide_eq_true z)
    · exact .inr (of_decide_eq_true z)
  · have := List.all_eq_true.mp h7 y hy
    simpa using this
def cellsOf (sc : Scope) : List Str := (sc.names.filter fun p => match p.2 with | .cell => true | _ => false).map (·.1)
def Df.cc (d : Df) (T Gn En : List Str) : Cc := ⟨d.N, d.scope, T, Gn, En, cellsOf d.scope⟩
def Df.Γ (d : Df) : List Bool := List.replicate d.N.length false
def chkD (T Gn En : List Str) (d : Df) : Bool := scopeOk d.N d.ps d.scope && (chkB (d.cc T Gn En) d.Γ d.Γ d.code d.body).isSome
/-- what is known of the program behind its top -/
structure ProgF (P : Program) (w : World) (K : PySem.W.Frag) (mg : Str → Option Value) (base : Heap) (g : GC) (ds : List Df) (Gn : List Str) (G : List PV) (En : List Str) : Prop where
  hK : K = g.K
  hP : P = g.P
  hW : w = g.w
  defs : ∀ (i : Nat) (d : Df), ds[i]? = some d → ∃ (f : Addr) (fd : FuncData), g.fa[i]? = some f ∧ mg d.name = some (.ref f) ∧ FunD K d.name d.name d.params d.body d.scope [] [] f fd ∧ Binds K fd d.ps []
  gls : ∀ (i : Nat) (x : Str), Gn[i]? = some x → ∃ (u : Value) (v : V) (d : PV), mg x = some u ∧ RelV v u ∧ G[i]? = some d ∧ ∀ H F, Rep g H F v d
  blt : ∀ x ∈ (["len", "abs", "int", "str", "max", "min", "sum", "all", "any", "sorted", "list", "tuple", "dict", "set", "range", "zip", "enumerate", "reversed", "isinstance", "bool"] : List Str), mg x = none
  roll : ∃ (f : Addr) (fd : FuncData) (ps : List Str), mg "_law_roll" = some (.ref f) ∧ PySem.W.keepIn K (.ref f) = true ∧ Binds K fd ps [] ∧ FnOk P w K mg base (L2.CX P w) 2 f fd ps (spRoll g)
  exc : ∀ (j : Nat) (x : Str), En[j]? = some x → ∃ (B newId initId : String) (bmB : List Value) (C : Addr), ExcBaseFacts B newId initId bmB ∧ PySem.W.excIn K C bmB newId = true ∧ g.ea[j]? = some C ∧ mg x = some (.ref C) ∧ PySem.W.keepIn K (.ref C) = true ∧
    PySem.W.subIn K (.ref C) (.type "BaseException") = some true ∧ PySem.W.typeIn K (.ref C) = some (.type "type") ∧ (x == ("__debug__" : Str)) = false
section
variable {P : Program} {w : World} {K : PySem.W.Frag} {mg : Str → Option Value} {base : Heap} {g : GC} {ds : List Df} {Gn : List Str} {G : List PV} {En : List Str}
def fdsOf (ds : List Df) : List Fd := ds.map Df.fd
def namesT (ds : List Df) : List Str := ds.map (·.name)
theorem call_len (D : List Fd) (G : List PV) {d i : Nat} {fd : Fd} (h : D[i]? = some fd) {vs : List PV} {Q E : PV → Prop} (q : call D G d i vs Q E) : vs.length = fd.np := by
  cases d with
  | zero => exact False.elim q
  | succ d =>
    unfold call at q
    rw [h] at q
    exact q.1
/-- the entry's environment -/
theorem start_env {H : Hp} {F : Addr → Prop} {N : List Str} {vs : List V} {ps : List PV} (r : Reps g H F vs ps) (n : Nat) (hn : n = N.length) : EnvR g H F (List.replicate n false) (L2.start N vs) (startE n ps) := by
  have iso : ∀ i, isO (List.replicate n false) i = false := fun i => by
    unfold isO
    rw [List.getD_eq_getElem?_getD, List.getElem?_replicate]
    split <;> rfl
  refine ⟨?_, fun i p e => ?_, fun i j p q a _ hi => by rw [iso] at hi; cases hi⟩
  · unfold startE L2.start
    rw [List.length_append, List.length_append, List.length_map, List.length_map, List.length_replicate, List.length_replicate, r.length, hn]
  · unfold startE at e
    unfold L2.start
    by_cases hl : i < ps.length
    · rw [List.getElem?_append_left (by rw [List.length_map]; exact hl), List.getElem?_map] at e
      obtain ⟨p', h1, h2⟩ := Option.map_eq_some_iff.mp e
      cases h2
      obtain ⟨v, h3, h4⟩ := r.get h1
      refine ⟨v, ?_, by rw [iso]; rw [if_neg Bool.false_ne_true]; exact h4⟩
      rw [List.getElem?_append_left (by rw [List.length_map, r.length]; exact hl), List.getElem?_map, h3]
      rfl
    · rw [List.getElem?_append_right (by rw [List.length_map]; omega), List.getElem?_replicate] at e
      split at e <;> cases e
/-- the place of a body -/
theorem cxs_of (PF : ProgF P w K mg base g ds Gn G En) {C : Nat → List PV → M PV} {N ps : List Str} {qual : Str} {scope : Scope} {f : Addr} {cdv : Value} {A : Around} {outer : List PySem.Env} {s : Shared} {H H0 : Hp} {F0 : Addr → Prop} {E : XK} {k : Nat}
    (hr : Room k (A.deeper (envOfC qual scope s.heap.objs.size f cdv))) (hk : 2 ≤ k) (S : FnScope N ps scope)
    (fns : ∀ (i : Nat) (d : Df) (f : Addr) (fd : FuncData), ds[i]? = some d → g.fa[i]? = some f → FunD K d.name d.name d.params d.body d.scope [] [] f fd → (∀ vs Q E, C i vs Q E → vs.length = d.ps.length) ∧ FnOk P w K mg base (L2.CX P w) k f fd d.ps (spF g d.ps.length (C i))) :
    CxS (cxOf (L2.CX P w) P w K mg base N qual scope f cdv A outer s H E) ⟨N, scope, namesT ds, Gn, En, cellsOf scope⟩ ⟨g, fun cls d _ H' => E cls d H', H0, F0⟩ C G where
  cx := {
    hK := PF.hK
    hP := PF.hP
    hW := PF.hW
    hN := rfl
    hsc := rfl
    nd := S.nd
    calm := rfl
    takes := takes_of rfl rfl rfl rfl
    hu := by
      have h1 := hr.un
      show (A.deeper (envOfC qual scope s.heap.objs.size f cdv)).units + 70 < cLine
      omega
    fns := fun i x h => by
      unfold namesT at h
      rw [List.getElem?_map] at h
      obtain ⟨d, h1, h2⟩ := Option.map_eq_some_iff.mp h
      obtain ⟨f, fd, h3, h4, h5, h6⟩ := PF.defs i d h1
      obtain ⟨h7, h8⟩ := fns i d f fd h1 h3 h5
      exact ⟨d.ps.length, f, h3, h7, k, f, fd, d.ps, fun b e => by cases e; rfl, by rw [← h2]; exact h4, h5.kp, h6, h8, hr⟩
    gls := PF.gls
    blt := PF.blt
    roll := by
      obtain ⟨f, fd, ps, h1, h2, h3, h4⟩ := PF.roll
      exact ⟨2, f, fd, ps, (fun b e => by cases e), h1, h2, h3, h4, hr.mono hk⟩
    co := fun x hx => rfl }
  own := passes_of rfl
  kind := S.kind
  exc := fun j x h => by
    obtain ⟨B, newId, initId, bmB, C, h1, h2, h3, h4, h5, h6, h7, h8⟩ := PF.exc j x h
    exact ⟨C, h3, fun m i p p2 pos hg => pmk_own h1 h2 h4 h5 (raises_own h6 h7) hg h8⟩
theorem chkB_some {c : Cc} {Γ ΓL : List Bool} {b : List St} {ss : List Stmt} (h : (chkB c Γ ΓL b ss).isSome = true) : ∃ r, chkB c Γ ΓL b ss = some r := Option.isSome_iff_exists.mp h
/-- a body's run, from its entry -/
theorem body_run {B : BC} {C : Nat → List PV → M PV} {Γ ΓL Γ1 : List Bool} {code : List St} {H : Hp} {F : Addr → Prop} {σ : L2.St} {ρ : Env} {Qd Ed : PV → Prop} {Q : VK} (s : StaS B H F Γ σ ρ) (hq : endF (denB C G code ρ) Qd Ed)
    (hp : ∀ p, Qd p → ∀ v H' F', Grow B.g B.H0 B.F0 H' F' → Rep B.g H' F' v p → Q v H') (hx : ∀ x, Ed x → EXS B x) : TSX B Γ Γ1 ΓL (denB C G code) { nx := fun _ H' => Q .non H', rt := Q } σ H :=
  ⟨F, ρ, _, Ed, s, hq, fun ρ' h σ' H' F' k s' => hp _ h .non H' F' s'.gr .non, fun ρ' h => False.elim h, fun ρ' h => False.elim h, fun p h v H' F' w r => hp p h v H' F' w r, hx⟩
/-- every def does what the denotation says -/
theorem fn_ok (PF : ProgF P w K mg base g ds Gn G En) (hc : ∀ d ∈ ds, chkD (namesT ds) Gn En d = true) : ∀ (n i : Nat) (d : Df) (f : Addr) (fd : FuncData), ds[i]? = some d → g.fa[i]? = some f → FunD K d.name d.name d.params d.body d.scope [] [] f fd →
    (∀ vs Q E, call (fdsOf ds) G n i vs Q E → vs.length = d.ps.length) ∧ FnOk P w K mg base (L2.CX P w) (n + 2) f fd d.ps (spF g d.ps.length (call (fdsOf ds) G n i))
  | n, i, d, f, fd, hd, hf, F => by
    have hfd : (fdsOf ds)[i]? = some d.fd := by
      unfold fdsOf
      rw [List.getElem?_map, hd]
      rfl
    have hlen : ∀ vs Q E, call (fdsOf ds) G n i vs Q E → vs.length = d.ps.length := fun vs Q E q => call_len _ _ hfd q
    refine ⟨hlen, ?_⟩
    cases n with
    | zero => exact ⟨fun vs H Q E ⟨F, ps, Qd, Ed, h, _⟩ => h, fun A outer s H args us vs Q E hr he hb hv ⟨F, ps, Qd, Ed, _, _, _, q, _⟩ => False.elim q⟩
    | succ n =>
      obtain ⟨h1, h2⟩ := an (hc d (List.mem_of_getElem? hd))
      have S := scopeOk_of h1
      obtain ⟨r, h2⟩ := chkB_some h2
      refine F.ok (k := n + 2) S (fun vs H Q E ⟨F, ps, Qd, Ed, h, _⟩ => h) fun cdv A outer s H vs Q E hr ⟨F', ps, Qd, Ed, hvl, st, rr, hq, hp, hx⟩ => ?_
      have cs := cxs_of (H := H) (H0 := H) (F0 := F') (E := E) (outer := outer) (C := call (fdsOf ds) G n) PF hr (by omega) S fun i d f fd hd hf F => fn_ok PF hc n i d f fd hd hf F
      have bd := sndB (fun f vs => mono_call (fdsOf ds) G n f vs) cs d.code (Γ1 := r.getD d.Γ) h2 (by cases r with | none => trivial | some a => exact leΓ.refl a)
      refine ⟨_, bd, ?_⟩
      unfold call at hq
      rw [hfd] at hq
      obtain ⟨_, hq⟩ := hq
      have e0 : EnvR g H F' d.Γ (L2.start d.N vs) (startE d.N.length ps) := start_env rr _ rfl
      have s0 : StaS ⟨g, fun cls d _ H' => E cls d H', H, F'⟩ H F' d.Γ (L2.start d.N vs) (startE d.N.length ps) := by
        refine ⟨⟨e0, st.cup, st.fca, st.fin⟩, st.self, fun i p a ho => ?_⟩
        have : isO d.Γ i = false := by
          unfold isO Df.Γ
          rw [List.getD_eq_getElem?_getD, List.getElem?_replicate]
          split <;> rfl
        rw [this] at ho; cases ho
      exact body_run s0 hq (fun p h v H' F2 w r => hp p h v H' F2 w r) fun x h σ cls dd H' e c r => hx x h cls dd H' e c r
end
end HG
end
section
set_option maxHeartbeats 8000000
/-! HGCup: the cup is filled from the script, and numbers are drawn from it. -/
namespace HG
open PySem PySem.Spec PyProof.Rows L2
/-- whole numbers of the names and the cup -/
inductive IE where
  | var (i : Nat) | cst (n : Int) | cup (i : Nat) | bin (o : Bop) (a b : IE) | int (a : IE)
def ichk (c : Cc) : IE → Expr → Bool
  | .var i, e => match e with
    | .Name x _ => varOk c i x
    | _ => false
  | .cst n, e => match e with
    | .Constant (.int m) _ _ => decide (n = m)
    | _ => false
  | .cup i, e => match e with
    | .Subscript (.Name x _) (.Constant (.int m) _ _) _ => varOk c 0 x && decide (m = (i : Int))
    | _ => false
  | .bin o a b, e => match e with
    | .BinOp a' p b' _ => opB o p && (ichk c a a' && ichk c b b')
    | _ => false
  | .int a, e => match e with
    | .Call (.Name x _) [a'] [] _ => glOk c x && (decide (x = "int") && (plainE a' && ichk c a a'))
    | _ => false
def ib (o : Bop) (x y : Int) (K : Int → Prop) : Prop := match o with
  | .add => K (x + y)
  | .sub => K (x - y)
  | .mul => CMul x y ∧ K (x * y)
  | .div => CDivW x y ∧ K (x / y)
  | .mod => 0 < y ∧ K (x % y)
  | .pow => CPow x y ∧ K (x ^ y.toNat)
def iev (σ : L2.St) (H : Hp) : IE → (Int → Prop) → Prop
  | .var i, K => ∃ n, σ[i]? = some (some (.int n)) ∧ K n
  | .cst n, K => K n
  | .cup i, K => ∃ a xs n, σ[0]? = some (some (.ref a)) ∧ H a = some (.lst xs) ∧ xs[i]? = some (.int n) ∧ K n
  | .bin o a b, K => iev σ H a fun x => iev σ H b fun y => ib o x y K
  | .int a, K => iev σ H a K
abbrev tI (e : IE) : TE := fun σ H Q => iev σ H e fun n => Q (.int n) H
/-- the little that such texts need of their place -/
structure CxI (X : Cx) (c : Cc) : Prop where
  hN : X.N = c.N
  hsc : X.env.scope = c.sc
  nd : c.N.Nodup
  calm : X.calm = true
  hu : X.A.units + 70 < cLine
  blt : ∀ x ∈ (["abs", "int", "list"] : List Str), X.mg x = none
  fn : ∀ x, X.fn x = true
section
variable {X : Cx} {c : Cc} {e e' a b : Expr} {pos p : Pos}
theorem CxI.gl (cx : CxI X c) {x : Str} (h : glOk c x = true) : Gl X x ∧ (x == ("__debug__" : Str)) = false := by
  obtain ⟨h1, h2⟩ := an h
  refine ⟨?_, (nameOk_of h2).1⟩
  show X.env.scope.names.lookup x = _
  rw [cx.hsc]
  exact of_decide_eq_true h1
theorem CxI.var (cx : CxI X c) {i : Nat} {x : Str} (h : varOk c i x = true) : PE X (.Name x pos) (tVar i) := by
  obtain ⟨h1, h2⟩ := an h
  obtain ⟨h3, h4⟩ := an h2
  obtain ⟨h5, h6⟩ := nameOk_of h4
  exact pe_var (i := i) (by rw [cx.hN]; exact of_decide_eq_true h1) (by rw [cx.hsc]; exact vis_of h3) h5 h6
theorem CxI.loc (cx : CxI X c) {x : Str} (h : locOk c x = true) : L2.Loc X.env.scope x := by
  unfold locOk at h
  unfold L2.Loc
  rw [cx.hsc]
  cases hl : c.sc.names.lookup x with
  | none => rw [hl] at h; exact no h
  | some k =>
    rw [hl] at h
    cases k <;> first | exact no h | skip
    · exact .inl rfl
    · exact .inr rfl
theorem at_nat {xs : List V} {i : Nat} {n : V} (h : xs[i]? = some n) : atI xs (i : Int) = some n := by
  have hl := (List.getElem?_eq_some_iff.mp h).1
  unfold atI ixN
  rw [if_pos (by omega), if_pos (by omega)]
  simpa using h
theorem mono_iev {σ : L2.St} {H : Hp} : ∀ {e : IE} {K K' : Int → Prop}, (∀ n, K n → K' n) → iev σ H e K → iev σ H e K'
  | .var i, _, _, h, ⟨n, h1, h2⟩ => ⟨n, h1, h n h2⟩
  | .cst n, _, _, h, q => h n q
  | .cup i, _, _, h, ⟨a, xs, n, h1, h2, h3, h4⟩ => ⟨a, xs, n, h1, h2, h3, h n h4⟩
  | .bin o a b, K, K', h, q => mono_iev (e := a) (fun x q => mono_iev (e := b) (fun y q => by
      cases o with
      | add => exact h _ q
      | sub => exact h _ q
      | mul => exact ⟨q.1, h _ q.2⟩
      | div => exact ⟨q.1, h _ q.2⟩
      | mod => exact ⟨q.1, h _ q.2⟩
      | pow => exact ⟨q.1, h _ q.2⟩) q) q
  | .int a, _, _, h, q => mono_iev (e := a) h q
theorem snd_ie (cx : CxI X c) : ∀ {ie : IE} {e : Expr}, ichk c ie e = true → PE X e (tI ie)
  | .var i, e, h => by
    cases e <;> first | exact no h | skip
    exact (cx.var h).imp fun σ H Q ⟨n, h1, h2⟩ => ⟨_, h1, h2⟩
  | .cst n, e, h => by
    unfold ichk at h
    split at h
    · have e := of_decide_eq_true h
      subst e
      exact pe_int
    · exact no h
  | .cup i, e, h => by
    unfold ichk at h
    split at h
    · obtain ⟨h1, h2⟩ := an h
      have e := of_decide_eq_true h2
      subst e
      exact (pe_ix ix_list (cx.var h1) pe_int (plainIx_of rfl)).imp fun σ H Q ⟨a, xs, n, h1, h2, h3, h4⟩ => ⟨_, h1, _, _, _, _, rfl, rfl, SqL.of h2, at_nat h3, h4⟩
    · exact no h
  | .bin o a b, e, h => by
    unfold ichk at h
    split at h
    · obtain ⟨h1, h⟩ := an h
      obtain ⟨h2, h3⟩ := an h
      have e := opB_of h1
      subst e
      have ha := snd_ie cx h2
      have hb := snd_ie cx h3
      cases o with
      | add => exact (pe_op op_add ha hb).imp fun σ H Q q => mono_iev (fun x q => mono_iev (fun y q => ⟨_, _, rfl, rfl, q⟩) q) q
      | sub => exact (pe_op op_sub ha hb).imp fun σ H Q q => mono_iev (fun x q => mono_iev (fun y q => ⟨_, _, rfl, rfl, q⟩) q) q
      | mul => exact (pe_op op_mul ha hb).imp fun σ H Q q => mono_iev (fun x q => mono_iev (fun y q => ⟨_, _, rfl, rfl, q.1, q.2⟩) q) q
      | div => exact (pe_op op_fdivW ha hb).imp fun σ H Q q => mono_iev (fun x q => mono_iev (fun y q => ⟨_, _, rfl, rfl, q.1, q.2⟩) q) q
      | mod => exact (pe_op op_mod ha hb).imp fun σ H Q q => mono_iev (fun x q => mono_iev (fun y q => ⟨_, _, rfl, rfl, q.1, q.2⟩) q) q
      | pow => exact (pe_op op_pow ha hb).imp fun σ H Q q => mono_iev (fun x q => mono_iev (fun y q => ⟨_, _, rfl, rfl, q.1, q.2⟩) q) q
    · exact no h
  | .int a, e, h => by
    unfold ichk at h
    split at h
    · obtain ⟨h1, h⟩ := an h
      obtain ⟨h2, h⟩ := an h
      obtain ⟨h3, h4⟩ := an h
      have e := of_decide_eq_true h2
      subst e
      obtain ⟨h5, h6⟩ := cx.gl h1
      refine (pe_callTy call_int1 h5 (cx.blt _ (by decide +kernel)) (by decide +kernel) (pa_cons (snd_ie cx h4) pa_nil (star_plain h3)) (by decide +kernel) h6 (star_plain h3) (by rfl)).imp fun σ H Q q => mono_iev (fun x q => .inl ⟨_, rfl, q⟩) q
    · exact no h
theorem ichk_comp {ie : IE} (h : ichk c ie e = true) : isCompE e = false := by
  cases e <;> first | rfl | skip
  all_goals cases ie <;> first | exact no h
theorem swaps_no {t : Option Expr} {l : Nat} {env : PySem.Env} (h : isCompE e = false) : swapsWith e t l env = pure false := by
  cases e <;> first | rfl | cases h
theorem behind_cst {n : Int} {op : CmpOp} (h : ichk c (.cst n) e = true) : behindInMarks op e = false := by
  cases e <;> first | rfl | exact no h
/-- the constants of a cup -/
structure CupK where
  k0 : Int
  k1 : Int
  k2 : Int
  m0 : Int
  k3 : Int
  r1 : Int
  r2 : Int
  m1 : Int
  r3 : Int
  m2 : Int
  r4 : Int
def CupK.ok (k : CupK) : Bool := decide (0 < k.k0 ∧ k.k0 < 1073741824 ∧ -(2 ^ 64) < k.k1 ∧ k.k1 < 2 ^ 64 ∧ 0 < k.m0 ∧ 0 ≤ k.k3 ∧ k.m0 + k.k3 ≤ 2 ^ 62 ∧ -(2 ^ 64) < k.r1 ∧ k.r1 < 2 ^ 64 ∧ 0 < k.m1 ∧ k.m1 ≤ 2 ^ 62 ∧ 0 < k.m2 ∧ 0 < k.r4 ∧ k.r4 < 1073741824)
def eFound : IE := .bin .mod (.int (.cup 0)) (.var 1)
def eNext : IE := .bin .div (.cup 0) (.var 1)
def eTurn (k : CupK) : IE := .bin .mod (.int (.bin .add (.bin .mul (.cup 1) (.cst k.r1)) (.cst k.r2))) (.cst k.m1)
def eDeep (k : CupK) : IE := .bin .mod (.int (.bin .mul (.cup 1) (.bin .add (.cup 1) (.cst k.r3)))) (.cst k.m2)
def eLast (k : CupK) : IE := .bin .mod (.int (.bin .div (.var 3) (.cst k.r4))) (.var 1)
def stOk (c : Cc) (i : Nat) (x : Str) : Bool := decide (c.N[i]? = some x) && locOk c x
/-- the text of _law_roll -/
def rollC (k : CupK) (c : Cc) : List Stmt → Bool
  | [.If (.Compare a0 [.Gt] [b0] _) [.Assign [.Name x1 _] f1 _, .Assign [.Subscript (.Name x2 _) (.Constant (.int i2) _ _) _] f2 _, .Return (some (.Name x3 _)) _] [] _, .Assign [.Subscript (.Name x4 _) (.Constant (.int i4) _ _) _] f4 _, .Assign [.Name x5 _] f5 _, .Return (some f6) _] =>
    ichk c (.cup 0) a0 && (ichk c (.cst 0) b0 && (stOk c 2 x1 && (ichk c eFound f1 && (varOk c 0 x2 && (decide (i2 = 0) && (ichk c eNext f2 && (varOk c 2 x3 && (varOk c 0 x4 && (decide (i4 = 1) && (ichk c (eTurn k) f4 && (stOk c 3 x5 && (ichk c (eDeep k) f5 && ichk c (eLast k) f6))))))))))))
  | _ => false
def tSet (i : Int) (ie : IE) : TS := tAsg (tI ie) (gSub (tVar 0) (tC (.int i)) rSetL)
theorem st_set (cx : CxI X c) {i : Int} {ie : IE} {x : Str} {p1 p2 p3 : Pos} {j : Nat} (hv : varOk c 0 x = true) (h : ichk c ie e = true) : PS X (.Assign [.Subscript (.Name x p1) (.Constant (.int i) j p2) p3] e pos) (tSet i ie) :=
  ps_asg (snd_ie cx h) (pg_sub (cx.var hv) pe_int set_list) (show swapsWith e (some (.Subscript (.Name x p1) (.Constant (.int i) j p2) p3)) pos.line X.env = pure false from swaps_no (ichk_comp h)) (by cases e <;> rfl) (by rfl)
theorem st_nm (cx : CxI X c) {i : Nat} {ie : IE} {x : Str} {p1 : Pos} (hv : stOk c i x = true) (h : ichk c ie e = true) : PS X (.Assign [.Name x p1] e pos) (tAsg (tI ie) (gName i)) := by
  obtain ⟨h1, h2⟩ := an hv
  exact ps_set (by rw [cx.hN]; exact cx.nd) (by rw [cx.hN]; exact of_decide_eq_true h1) (cx.loc h2) (snd_ie cx h) (swaps_no (ichk_comp h)) (.inl (cx.fn x))
def rGt : R2 := rI0 fun i j => .bl (decide (j < i))
def tRoll (k : CupK) : TS := tSeq (tIfS (tTest (tOp rGt (tI (.cup 0)) (tI (.cst 0)))) (tSeq (tAsg (tI eFound) (gName 2)) (tSeq (tSet 0 eNext) (tRet (tVar 2)))) tNext) (tSeq (tSet 1 (eTurn k)) (tSeq (tAsg (tI (eDeep k)) (gName 3)) (tRet (tI (eLast k)))))
theorem roll_text (cx : CxI X c) {k : CupK} {body : List Stmt} (h : rollC k c body = true) : PSs X body (tRoll k) := by
  unfold rollC at h
  split at h
  · obtain ⟨h1, h⟩ := an h
    obtain ⟨h2, h⟩ := an h
    obtain ⟨h3, h⟩ := an h
    obtain ⟨h4, h⟩ := an h
    obtain ⟨h5, h⟩ := an h
    obtain ⟨h6, h⟩ := an h
    obtain ⟨h7, h⟩ := an h
    obtain ⟨h8, h⟩ := an h
    obtain ⟨h9, h⟩ := an h
    obtain ⟨h10, h⟩ := an h
    obtain ⟨h11, h⟩ := an h
    obtain ⟨h12, h⟩ := an h
    obtain ⟨h13, h14⟩ := an h
    have e6 := of_decide_eq_true h6
    have e10 := of_decide_eq_true h10
    subst e6 e10
    refine pss_cons (ps_if (pt_cmpR op_gt (snd_ie cx h1) (snd_ie cx h2) (behind_cst h2)) (pss_cons (st_nm cx h3 h4) (pss_cons (st_set cx h5 h7) (pss_one (ps_ret (cx.var h8))))) pss_nil) (pss_cons (st_set cx h9 h11) (pss_cons (st_nm cx h12 h13) (pss_one (ps_ret (snd_ie cx h14)))))
  · exact no h
theorem emod_pos {a b : Int} (h : 0 < b) : 0 ≤ a % b ∧ a % b < b := ⟨Int.emod_nonneg a (by omega), Int.emod_lt_of_pos a h⟩
/-- what a draw does -/
theorem roll_does {g : GC} {k : CupK} (hk : k.ok = true) (vs : List V) (H : Hp) (Q : VK) (E : XK) (h : spRoll g vs H Q E) : tRoll k { nx := fun _ H' => Q .non H', rt := Q } (L2.start ["cup", "many", "found", "deep"] vs) H := by
  obtain ⟨F, n, rfl, st, hn, hn2, q⟩ := h
  obtain ⟨c, d, hH, c0, d0, d1⟩ := st.cup
  obtain ⟨_, _, _, _, _, _, _, g1, g2, g3, g4, g5, g6, g7⟩ := of_decide_eq_true hk
  have nca : ∀ {o : HO}, CupOk g.ca (upd H g.ca o) → Grow g H F (upd H g.ca o) F := fun {o} hc => by
    refine ⟨fun b u e z _ => ?_, fun _ h => h, fun _ h => .inl h, hc, st.fca, fun a ha => ?_, fun a u e => ?_⟩
    · by_cases hb : b = g.ca
      · subst hb
        rw [hH] at e
        cases e
        rcases z with z | ⟨_, z⟩ | ⟨_, _, z⟩
        · exact absurd rfl z
        · cases z
        · cases z
      · rw [upd_ne hb]; exact e
    · obtain ⟨u, e⟩ := st.fin a ha
      exact ⟨u, by rw [upd_ne (fun z => st.fca (by rw [← z]; exact ha))]; exact e⟩
    · by_cases hb : a = g.ca
      · exact ⟨o, by rw [hb]; exact upd_same⟩
      · exact ⟨u, by rw [upd_ne hb]; exact e⟩
  have s0 : (L2.start ["cup", "many", "found", "deep"] [V.ref g.ca, .int n]) = [some (.ref g.ca), some (.int n), none, none] := rfl
  rw [s0]
  show tTest (tOp rGt (tI (.cup 0)) (tI (.cst 0))) [some (.ref g.ca), some (.int n), none, none] H _
  refine ⟨g.ca, _, c, rfl, hH, rfl, c, 0, rfl, rfl, decide (0 < c), rfl, ?_⟩
  show if decide (0 < c) = true then _ else _
  by_cases hc : 0 < c
  · rw [if_pos (decide_eq_true hc)]
    have m := emod_pos (a := c) hn
    refine ⟨g.ca, _, c, rfl, hH, rfl, n, rfl, hn, ?_⟩
    refine ⟨g.ca, _, c, rfl, hH, rfl, n, rfl, wide_div (b := 62) hn (by omega) (by decide) (by decide), ?_⟩
    refine ⟨_, rfl, g.ca, [.int c, .int d], 0, 0, rfl, rfl, hH, rfl, ?_⟩
    refine ⟨_, rfl, ?_⟩
    exact q (c % n) m.1 m.2 _ (nca ⟨c / n, d, upd_same, Int.ediv_nonneg c0 (by omega), d0, d1⟩)
  · rw [if_neg (by simpa using hc)]
    refine ⟨g.ca, _, d, rfl, hH, rfl, ?_⟩
    refine ⟨.inr ⟨g1, g2⟩, g3, ?_⟩
    refine ⟨_, rfl, g.ca, [.int c, .int d], 1, 1, rfl, rfl, hH, rfl, ?_⟩
    have m := emod_pos (a := d * k.r1 + k.r2) g3
    generalize (d * k.r1 + k.r2) % k.m1 = d' at m
    refine ⟨g.ca, _, d', rfl, upd_same, rfl, g.ca, _, d', rfl, upd_same, rfl, ?_⟩
    refine ⟨.inl ⟨by omega, by omega⟩, g5, ?_⟩
    have m2 := emod_pos (a := d' * (d' + k.r3)) g5
    generalize d' * (d' + k.r3) % k.m2 = e at m2
    refine ⟨e, rfl, wide_div (b := 62) g6 (by omega) (by decide) (by decide), n, rfl, hn, ?_⟩
    have m3 := emod_pos (a := e / k.r4) hn
    exact q _ m3.1 m3.2 _ (nca ⟨c, d', upd_same, c0, m.1, by omega⟩)
/-- the place of _law_cup's, _law_roll's body -/
theorem cxi_of {P : Program} {w : World} {K : PySem.W.Frag} {mg : Str → Option Value} {base : Heap} {N ps : List Str} {qual : Str} {scope : Scope} {f : Addr} {cdv : Value} {A : Around} {outer : List PySem.Env} {s : Shared} {H : Hp} {E : XK} {k : Nat}
    (hr : Room k (A.deeper (envOfC qual scope s.heap.objs.size f cdv))) (S : FnScope N ps scope) (blt : ∀ x ∈ (["abs", "int", "list"] : List Str), mg x = none) {T Gn En co : List Str} :
    CxI (cxOf (L2.CX P w) P w K mg base N qual scope f cdv A outer s H E) ⟨N, scope, T, Gn, En, co⟩ where
  hN := rfl
  hsc := rfl
  nd := S.nd
  calm := rfl
  hu := by
    have h1 := hr.un
    show (A.deeper (envOfC qual scope s.heap.objs.size f cdv)).units + 70 < cLine
    omega
  blt := blt
  fn := fun _ => rfl
def rollN : List Str := ["cup", "many", "found", "deep"]
def rollOk (k : CupK) (scope : Scope) (body : List Stmt) : Bool := k.ok && (scopeOk rollN ["cup", "many"] scope && rollC k ⟨rollN, scope, [], [], [], []⟩ body)
theorem roll_ok {P : Program} {w : World} {K : PySem.W.Frag} {mg : Str → Option Value} {base : Heap} {g : GC} {qual : Str} {params : Arguments} {body : List Stmt} {scope : Scope} {f : Addr} {fd : FuncData} {k : CupK} (F : FunD K "_law_roll" qual params body scope [] [] f fd) (h : rollOk k scope body = true)
    (blt : ∀ x ∈ (["abs", "int", "list"] : List Str), mg x = none) : FnOk P w K mg base (L2.CX P w) 2 f fd ["cup", "many"] (spRoll g) := by
  obtain ⟨h1, h⟩ := an h
  obtain ⟨h2, h3⟩ := an h
  have S := scopeOk_of h2
  refine F.ok (k := 1) S (fun vs H Q E ⟨F, n, e, _⟩ => by rw [e]; rfl) fun cdv A outer s H vs Q E hr hsp => ⟨_, roll_text (cxi_of hr S blt) h3, roll_does h1 vs H Q E hsp⟩
/-! ### the cup -/
def eC1 (k : CupK) : IE := .bin .div (.var 1) (.cst k.k0)
def eC2 (k : CupK) : IE := .bin .add (.bin .mod (.int (.bin .add (.bin .mul (.var 1) (.cst k.k1)) (.cst k.k2))) (.cst k.m0)) (.cst k.k3)
/-- the text of _law_cup -/
def cupC (k : CupK) (c : Cc) : List Stmt → Bool
  | [.Assign [.Name x0 _] (.Call (.Name x1 _) [.Subscript (.BinOp (.Call (.Name x2 _) [.Name x3 _] [] _) .Add (.List [.Constant (.int z0) _ _] _) _) (.Constant (.int z1) _ _) _] [] _) _, .Return (some (.List [.IfExp (.Compare a1 [.GtE] [.BinOp (.Constant (.int t) _ _) .Pow (.Constant (.int u) _ _) _] _) a2 a3 _, a4] _)) _] =>
    stOk c 1 x0 && (glOk c x1 && (decide (x1 = "abs") && (glOk c x2 && (decide (x2 = "list") && (varOk c 0 x3 && (decide (z0 = 0) && (decide (z1 = 0) && (ichk c (.var 1) a1 && (decide (t = 10) && (decide (u = 18) && (ichk c (eC1 k) a2 && (ichk c (.cst 0) a3 && (plainE a4 && ichk c (eC2 k) a4)))))))))))))
  | _ => false
def spCup (K : PySem.W.Frag) : Sp := fun vs H Q _ => ∃ (a : Addr) (ns : List Int), vs = [.ref a] ∧ SqL K H a (ns.map V.int) ∧ ns.length ≤ 1000 ∧ ∀ (H' : Hp) (q : Addr) (c d : Int), 0 ≤ c → 0 ≤ d → d < 2 ^ 62 → H' q = some (.lst [.int c, .int d]) → Q (.ref q) H'
theorem cup_run (cx : CxI X c) {k : CupK} (hk : k.ok = true) {body : List Stmt} (h : cupC k c body = true) : ∃ t, PSs X body t ∧ ∀ vs H Q E, spCup X.K vs H Q E → t { nx := fun _ H' => Q .non H', rt := Q } (L2.start ["script", "cell"] vs) H := by
  unfold cupC at h
  split at h
  · obtain ⟨h1, h⟩ := an h
    obtain ⟨h2, h⟩ := an h
    obtain ⟨h3, h⟩ := an h
    obtain ⟨h4, h⟩ := an h
    obtain ⟨h5, h⟩ := an h
    obtain ⟨h6, h⟩ := an h
    obtain ⟨h7, h⟩ := an h
    obtain ⟨h8, h⟩ := an h
    obtain ⟨h9, h⟩ := an h
    obtain ⟨h10, h⟩ := an h
    obtain ⟨h11, h⟩ := an h
    obtain ⟨h12, h⟩ := an h
    obtain ⟨h13, h⟩ := an h
    obtain ⟨h14, h15⟩ := an h
    have e3 := of_decide_eq_true h3
    have e5 := of_decide_eq_true h5
    have e7 := of_decide_eq_true h7
    have e8 := of_decide_eq_true h8
    have e10 := of_decide_eq_true h10
    have e11 := of_decide_eq_true h11
    subst e3 e5 e7 e8 e10 e11
    obtain ⟨s1, s2⟩ := an h1
    obtain ⟨g1, g2⟩ := cx.gl h2
    obtain ⟨g3, g4⟩ := cx.gl h4
    refine ⟨_, pss_cons (ps_set (by rw [cx.hN]; exact cx.nd) (by rw [cx.hN]; exact of_decide_eq_true s1) (cx.loc s2) (pe_callB call_abs g1 (cx.blt _ (by decide +kernel)) (by decide +kernel) (pa_cons (pe_ix ix_list (pe_op op_cat
      (pe_callTy call_list_of g3 (cx.blt _ (by decide +kernel)) (by decide +kernel) (pa_cons (cx.var h6) pa_nil (by rfl)) (by decide +kernel) g4 (by rfl) (by rfl)) (pe_lst (pa_cons pe_int pa_nil (by rfl)))) pe_int (plainIx_of rfl)) pa_nil (by rfl)) (by decide +kernel) g2 (by rfl) (by rfl)) (by rfl) (.inl (cx.fn _)))
      (pss_one (ps_ret (pe_lst (pa_cons (pe_ifExp (pt_cmpR op_ge (snd_ie cx h9) (pe_op op_pow pe_int pe_int) (by rfl)) (snd_ie cx h12) (snd_ie cx h13)) (pa_cons (snd_ie cx h15) pa_nil (star_plain h14)) (by rfl))))), fun vs H Q E hsp => ?_⟩
    obtain ⟨a, ns, rfl, hS, hn, q⟩ := hsp
    have s0 : (L2.start ["script", "cell"] [V.ref a]) = [some (.ref a), none] := rfl
    rw [s0]
    refine ⟨_, rfl, a, ns.map V.int, rfl, .inl hS, fun p hp => ?_⟩
    refine ⟨by rw [line_eq]; decide, fun p2 hp2 => ?_⟩
    have hne : p2 ≠ p := fun e => by rw [e, upd_same] at hp2; cases hp2
    refine ⟨p, p2, ns.map V.int, [.int 0], rfl, rfl, by rw [upd_ne (Ne.symm hne)]; exact upd_same, upd_same, by rw [List.length_map, line_eq]; show ns.length + 1 ≤ 16777216; omega, fun p3 hp3 => ?_⟩
    obtain ⟨z, hz⟩ : ∃ z : Int, (ns.map V.int ++ [V.int 0])[0]? = some (.int z) := by
      cases ns with
      | nil => exact ⟨0, rfl⟩
      | cons n ns => exact ⟨n, rfl⟩
    refine ⟨p3, _, 0, .int z, rfl, rfl, SqL.of upd_same, at_nat hz, ?_⟩
    refine ⟨z, rfl, ?_⟩
    obtain ⟨w, hw, w0⟩ : ∃ w : Int, (if z < 0 then -z else z) = w ∧ 0 ≤ w := ⟨_, rfl, by split <;> omega⟩
    rw [hw]
    obtain ⟨f1, f2, f3, f4, f5, f6, f7, _⟩ := of_decide_eq_true hk
    refine ⟨w, rfl, 10, 18, rfl, rfl, ⟨by decide, by decide, by decide⟩, w, (10 : Int) ^ (18 : Int).toNat, rfl, rfl, decide ((10 : Int) ^ (18 : Int).toNat ≤ w), rfl, ?_⟩
    have fin : ∀ c : Int, 0 ≤ c → iev [some (V.ref a), some (V.int w)] (upd (upd (upd H p (HO.lst (ns.map V.int))) p2 (HO.lst [V.int 0])) p3 (HO.lst (ns.map V.int ++ [V.int 0]))) (eC2 k) (fun d => [V.int c, V.int d].length ≤ sizeLine ∧ ∀ p4, upd (upd (upd H p (HO.lst (ns.map V.int))) p2 (HO.lst [V.int 0])) p3 (HO.lst (ns.map V.int ++ [V.int 0])) p4 = none → Q (.ref p4) (upd (upd (upd (upd H p (HO.lst (ns.map V.int))) p2 (HO.lst [V.int 0])) p3 (HO.lst (ns.map V.int ++ [V.int 0]))) p4 (HO.lst [V.int c, V.int d]))) := fun c hc => by
      refine ⟨w, rfl, .inr ⟨f3, f4⟩, f5, ?_⟩
      have m := emod_pos (a := w * k.k1 + k.k2) f5
      refine ⟨by rw [line_eq]; show 2 ≤ 16777216; decide, fun p4 _ => q _ p4 c _ hc ?_ ?_ upd_same⟩
      · show 0 ≤ (w * k.k1 + k.k2) % k.m0 + k.k3; omega
      · show (w * k.k1 + k.k2) % k.m0 + k.k3 < 2 ^ 62; omega
    show if decide ((10 : Int) ^ (18 : Int).toNat ≤ w) = true then _ else _
    split
    · exact ⟨w, rfl, wide_div (b := 30) f1 (by omega) (by decide) (by decide), fin _ (Int.ediv_nonneg w0 (by omega))⟩
    · exact fin 0 (by decide)
  · exact no h
def cupN : List Str := ["script", "cell"]
def cupOk (k : CupK) (scope : Scope) (body : List Stmt) : Bool := k.ok && (scopeOk cupN ["script"] scope && cupC k ⟨cupN, scope, [], [], [], []⟩ body)
theorem cup_ok {P : Program} {w : World} {K : PySem.W.Frag} {mg : Str → Option Value} {base : Heap} {qual : Str} {params : Arguments} {body : List Stmt} {scope : Scope} {f : Addr} {fd : FuncData} {k : CupK} (F : FunD K "_law_cup" qual params body scope [] [] f fd) (h : cupOk k scope body = true)
    (blt : ∀ x ∈ (["abs", "int", "list"] : List Str), mg x = none) : FnOk P w K mg base (L2.CX P w) 2 f fd ["script"] (spCup K) := by
  obtain ⟨h1, h⟩ := an h
  obtain ⟨h2, h3⟩ := an h
  have S := scopeOk_of h2
  refine F.ok (k := 1) S (fun vs H Q E ⟨a, ns, e, _⟩ => by rw [e]; rfl) fun cdv A outer s H vs Q E hr hsp => ?_
  obtain ⟨t, ht, hd⟩ := cup_run (cxi_of (P := P) (w := w) (K := K) (base := base) (E := E) (H := H) (outer := outer) hr S blt) h1 h3
  exact ⟨t, ht, hd vs H Q E hsp⟩
/-! ### the law -/
/-- its first statement -/
def cupS (c : Cc) (i : Nat) : Stmt → Bool
  | .Assign [.Name x _] (.Call (.Name f _) [.Name z _] [] _) _ => stOk c i x && (glOk c f && (decide (f = "_law_cup") && varOk c 0 z))
  | _ => false
def Df.cupAt (d : Df) : Nat := d.N.idxOf ("cup" : Str)
/-- the law's text: its first statement, then what the term says -/
def lawOk (T Gn En : List Str) (d : Df) (body : List Stmt) : Bool := match body with
  | s :: r => cupS (d.cc T Gn En) d.cupAt s && (scopeOk d.N ["script"] d.scope && (decide (0 < d.cupAt) && (chkB (d.cc T Gn En) d.Γ d.Γ d.code r).isSome))
  | [] => false
def lawE (d : Df) : Env := (List.replicate d.N.length none).set d.cupAt (some cupV)
def spLaw (K : PySem.W.Frag) : Sp := fun vs H Q _ => ∃ (a : Addr) (ns : List Int), vs = [.ref a] ∧ SqL K H a (ns.map V.int) ∧ ns.length ≤ 1000 ∧ ∀ H', Q (.bl true) H'
theorem pss_ex {α : Type} {X : Cx} {ss : List Stmt} {t : α → TS} (h : ∀ a, PSs X ss (t a)) : PSs X ss (fun D σ H => ∃ a, t a D σ H) := ⟨fun pins s σ H D I ⟨a, q⟩ => (h a).run pins s σ H D I q⟩
/-- what is known behind the top, but the cup's place -/
structure ProgL (P : Program) (w : World) (K : PySem.W.Frag) (mg : Str → Option Value) (base : Heap) (fa ea : List Addr) (ds : List Df) (Gn : List Str) (G : List PV) (En : List Str) : Prop where
  pf : ∀ ca, ProgF P w K mg base ⟨P, w, K, ca, fa, ea⟩ ds Gn G En
  cup : ∃ (f : Addr) (fd : FuncData), mg "_law_cup" = some (.ref f) ∧ PySem.W.keepIn K (.ref f) = true ∧ Binds K fd ["script"] [] ∧ FnOk P w K mg base (L2.CX P w) 2 f fd ["script"] (spCup K)
theorem law_ok {P : Program} {w : World} {K : PySem.W.Frag} {mg : Str → Option Value} {base : Heap} {fa ea : List Addr} {ds : List Df} {Gn : List Str} {G : List PV} {En : List Str} (PL : ProgL P w K mg base fa ea ds Gn G En)
    (hc : ∀ d ∈ ds, chkD (namesT ds) Gn En d = true) (n : Nat) {d : Df} {body : List Stmt} {params : Arguments} {qual name : Str} {f : Addr} {fd : FuncData} (F : FunD K name qual params body d.scope [] [] f fd) (hl : lawOk (namesT ds) Gn En d body = true)
    (hlaw : endF (denB (call (fdsOf ds) G n) G d.code (lawE d)) (fun p => p = .bool true) fun _ => False) : FnOk P w K mg base (L2.CX P w) (n + 3) f fd ["script"] (spLaw K) := by
  unfold lawOk at hl
  cases body with
  | nil => exact no hl
  | cons s0 rest =>
    obtain ⟨h1, hl⟩ := an hl
    obtain ⟨h2, hl⟩ := an hl
    obtain ⟨h3, h4⟩ := an hl
    have h3 := of_decide_eq_true h3
    have S := scopeOk_of h2
    obtain ⟨r, h4⟩ := chkB_some h4
    refine F.ok (k := n + 2) S (fun vs H Q E ⟨a, ns, e, _⟩ => by rw [e]; rfl) fun cdv A outer s H vs Q E hr hsp => ?_
    let g : Addr → GC := fun ca => ⟨P, w, K, ca, fa, ea⟩
    have cs := fun (x : Addr × Hp) => cxs_of (H := H) (H0 := x.2) (F0 := fun _ => False) (E := E) (outer := outer) (C := call (fdsOf ds) G n) (PL.pf x.1) hr (by omega) S fun i d f fd hd hf F => fn_ok (PL.pf x.1) hc n i d f fd hd hf F
    have bd := fun (x : Addr × Hp) => sndB (fun f vs => mono_call (fdsOf ds) G n f vs) (cs x) d.code (Γ1 := r.getD d.Γ) h4 (by cases r with | none => trivial | some a => exact leΓ.refl a)
    have cxi := cxi_of (P := P) (w := w) (K := K) (base := base) (E := E) (H := H) (outer := outer) (T := namesT ds) (Gn := Gn) (En := En) (co := cellsOf d.scope) hr S (fun x hx => (PL.pf 0).blt x (by
      rcases List.mem_cons.mp hx with z | hx
      · rw [z]; decide +kernel
      · rcases List.mem_cons.mp hx with z | hx
        · rw [z]; decide +kernel
        · rcases List.mem_cons.mp hx with z | hx
          · rw [z]; decide +kernel
          · cases hx))
    unfold cupS at h1
    split at h1
    · obtain ⟨k1, h1⟩ := an h1
      obtain ⟨k2, h1⟩ := an h1
      obtain ⟨k3, k4⟩ := an h1
      have k3 := of_decide_eq_true k3
      subst k3
      obtain ⟨m1, m2⟩ := an k1
      have m1 := of_decide_eq_true m1
      obtain ⟨fc, fdc, c1, c2, c3, c4⟩ := PL.cup
      obtain ⟨g1, g2⟩ := cxi.gl k2
      have tk := (cs (0, H)).cx.takes
      refine ⟨_, pss_cons (ps_set cxi.nd m1 (cxi.loc m2) (pe_callS c4 (hr.mono (by omega)) g1 c1 c2 c3 (fun σ => passAt tk σ) (pa_cons (cxi.var k4) pa_nil (by rfl)) g2 (by rfl) (by rfl)) (by rfl) (.inl (cxi.fn _))) (pss_ex bd), ?_⟩
      obtain ⟨a, ns, rfl, hS, hn, q⟩ := hsp
      refine ⟨.ref a, rfl, a, ns, rfl, hS, hn, fun H' qa cc dd h0 h1 h2 hH => ⟨(qa, H'), ?_⟩⟩
      have hci := List.getElem?_eq_some_iff.mp m1
      obtain ⟨hci, _⟩ := hci
      have hci : d.cupAt < d.N.length := hci
      have iso : ∀ i, isO d.Γ i = false := fun i => by
        unfold isO Df.Γ
        rw [List.getD_eq_getElem?_getD, List.getElem?_replicate]
        split <;> rfl
      have cup : CupOk qa H' := ⟨cc, dd, hH, h0, h1, h2⟩
      have lenσ : (L2.start d.N [V.ref a]).length = d.N.length := by
        unfold L2.start
        rw [List.length_append, List.length_map, List.length_replicate]
        show 1 + (d.N.length - 1) = d.N.length
        omega
      have st : Sta (g qa) H' (fun _ => False) d.Γ ((L2.start d.N [V.ref a]).set d.cupAt (some (.ref qa))) (lawE d) := by
        refine ⟨⟨?_, fun i p e => ?_, fun i j p q a _ hi => by rw [iso] at hi; cases hi⟩, cup, fun z => z, fun a z => z.elim⟩
        · unfold lawE
          rw [List.length_set, List.length_set, List.length_replicate, lenσ]
        · unfold lawE at e
          by_cases hi : d.cupAt = i
          · subst hi
            rw [List.getElem?_set_self (by rw [List.length_replicate]; exact hci)] at e
            cases e
            exact ⟨.ref qa, List.getElem?_set_self (by rw [lenσ]; exact hci), by rw [iso, if_neg Bool.false_ne_true]; exact .cup (g := g qa) rfl⟩
          · rw [List.getElem?_set_ne hi, List.getElem?_replicate] at e
            split at e <;> cases e
      have s0 : StaS ⟨g qa, fun cls d _ H' => E cls d H', H', fun _ => False⟩ H' (fun _ => False) d.Γ ((L2.start d.N [V.ref a]).set d.cupAt (some (.ref qa))) (lawE d) :=
        ⟨st, st.self, fun i p a ho => by rw [iso] at ho; cases ho⟩
      refine body_run s0 hlaw (fun p h v H2 F2 w r => ?_) fun x h => h.elim
      subst h
      have e : v = .bl true := (Rep.any r).bool
      subst e
      exact q H2
    · exact no h1
end
end HG
end
section
set_option maxHeartbeats 8000000
/-! HGHead: what is found behind a program's top. -/
namespace HG
open PySem PySem.Spec PyProof.Rows L2
/-! ### constants of the top -/
mutual
/-- the value u is the data d -/
def datB (K : PySem.W.Frag) : PV → Value → Bool
  | .none, u => match u with
    | .none => true
    | _ => false
  | .bool b, u => match u with
    | .bool c => b == c
    | _ => false
  | .int i, u => match u with
    | .int j _ => decide (i = j)
    | _ => false
  | .str x, u => match u with
    | .str y _ => decide (x = y)
    | _ => false
  | .tuple ds, u => match u with
    | .ref a => match K.lookup a with
      | some ⟨.type c, _, .seq its _, _⟩ => decide (c = "tuple") && (decide (its.size ≤ sizeLine) && datBs K ds its.toList)
      | _ => false
    | _ => false
  | _, _ => false
def datBs (K : PySem.W.Frag) : List PV → List Value → Bool
  | [], us => us.isEmpty
  | d :: ds, us => match us with
    | [] => false
    | u :: us => datB K d u && datBs K ds us
end
mutual
theorem datB_ok {K : PySem.W.Frag} : ∀ {d : PV} {u : Value}, datB K d u = true → ∃ v, RelV v u ∧ ∀ (g : GC) H F, g.K = K → Rep g H F v d
  | .none, u, h => by
    cases u <;> first | exact no h | skip
    exact ⟨.non, rfl, fun g H F e => .non⟩
  | .bool b, u, h => by
    cases u <;> first | exact no h | skip
    have e : _ = _ := eq_of_beq h
    subst e
    exact ⟨.bl b, rfl, fun g H F e => .bl b⟩
  | .int i, u, h => by
    cases u <;> first | exact no h | skip
    have e := of_decide_eq_true h
    subst e
    exact ⟨.int i, ⟨_, rfl⟩, fun g H F e => .int i⟩
  | .str x, u, h => by
    cases u <;> first | exact no h | skip
    have e := of_decide_eq_true h
    subst e
    exact ⟨.str x, ⟨_, rfl⟩, fun g H F e => .str x⟩
  | .list _, u, h => no h
  | .dict _, u, h => no h
  | .tuple ds, u, h => by
    unfold datB at h
    split at h
    · split at h
      · rename_i a _ c od its n sl q
        obtain ⟨h1, h⟩ := an h
        obtain ⟨h2, h3⟩ := an h
        obtain ⟨vs, r1, r2⟩ := datBs_ok h3
        have h1 := of_decide_eq_true h1
        exact ⟨.ref a, rfl, fun g H F e => .tup (xs := vs) (.inr ⟨_, its, n, by rw [e]; exact q, congrArg Value.type h1, rfl, of_decide_eq_true h2, r1⟩) (r2 g H F e)⟩
      · exact no h
    · exact no h
theorem datBs_ok {K : PySem.W.Frag} : ∀ {ds : List PV} {us : List Value}, datBs K ds us = true → ∃ vs, Vals vs us ∧ ∀ (g : GC) H F, g.K = K → Reps g H F vs ds
  | [], us, h => by
    have h : us.isEmpty = true := h
    have e := List.isEmpty_iff.mp h
    subst e
    exact ⟨[], .nil, fun g H F e => .nil⟩
  | d :: ds, [], h => no h
  | d :: ds, u :: us, h => by
    obtain ⟨h1, h2⟩ := an (show (datB K d u && datBs K ds us) = true from h)
    obtain ⟨v, r1, r2⟩ := datB_ok h1
    obtain ⟨vs, q1, q2⟩ := datBs_ok h2
    exact ⟨v :: vs, .cons r1 q1, fun g H F e => .cons (r2 g H F e) (q2 g H F e)⟩
end
def gB (K : PySem.W.Frag) (p : Str × PV) : Bool := match PySem.W.nsIn K mainGlobals p.1 with
  | some (some u) => datB K p.2 u
  | _ => false
/-! ### the Hook -/
def obsH (fa : List He.Fa) (fn : List He.DefD) (gl : List (Str × PV)) (K : PySem.W.Frag) : He.AlD := ((fa.all fun f => f.ok K) && (fn.all fun d => d.ok K) && (gl.all fun p => gB K p), fn.map fun d => He.fnW K d.at_)
def obsHG (n : Nat) (fa : List He.Fa) (fn : List He.DefD) (gl : List (Str × PV)) (g : Addr → Option Obj) : He.AlD := obsH fa fn gl (He.frG g (He.asD g n))
def SaysH (fa : List He.Fa) (fn : List He.DefD) (gl : List (Str × PV)) (K : PySem.W.Frag) : Prop := obsH fa fn gl K = He.valD fn
def hookH (n : Nat) (fa : List He.Fa) (fn : List He.DefD) (gl : List (Str × PV)) : PySem.W.Hook where
  α := He.AlD
  obs := fun s => obsHG n fa fn gl s.heap.get?
  val := fun _ => He.valD fn
  says := fun _ h => ∃ K : PySem.W.Frag, K.In h ∧ SaysH fa fn gl K
  of := fun _ _ e => ⟨_, He.frG_in, e⟩
  keeps := fun _ _ _ ⟨K, hK, c⟩ k => ⟨K, PySem.W.Frag.In.keeps hK k, c⟩
theorem obsHG_eq {n : Nat} {fa : List He.Fa} {fn : List He.DefD} {gl : List (Str × PV)} {g : Addr → Option Obj} {s : Shared} (h : ∀ a, g a = s.heap.get? a) : obsHG n fa fn gl g = (hookH n fa fn gl).obs s := by
  have e : g = s.heap.get? := funext h
  rw [e] <;> rfl
section
variable {fa : List He.Fa} {fn : List He.DefD} {gl : List (Str × PV)} {K : PySem.W.Frag}
theorem SaysH.split (c : SaysH fa fn gl K) : (fa.all fun f => f.ok K) = true ∧ (fn.all fun d => d.ok K) = true ∧ (gl.all fun p => gB K p) = true := by
  have h := congrArg (fun z : He.AlD => z.1) c
  obtain ⟨h1, h2⟩ := an (show ((fa.all fun f => f.ok K) && (fn.all fun d => d.ok K) && (gl.all fun p => gB K p)) = true from h)
  obtain ⟨h3, h4⟩ := an h1
  exact ⟨h3, h4, h2⟩
theorem SaysH.fact (c : SaysH fa fn gl K) {f : He.Fa} (h : f ∈ fa) : f.ok K = true := List.all_eq_true.mp c.split.1 f h
theorem SaysH.glob (c : SaysH fa fn gl K) {p : Str × PV} (h : p ∈ gl) : gB K p = true := List.all_eq_true.mp c.split.2.2 p h
theorem SaysH.def_ (c : SaysH fa fn gl K) {d : He.DefD} (h : d ∈ fn) : ∃ fd, FunD K d.name d.qual d.params d.body d.scope (d.dvs K) (d.kws K) (He.fAd K d.at_) fd := by
  have e : fn.map (fun d => He.fnW K d.at_) = fn.map He.DefD.val := congrArg (fun z : He.AlD => z.2) c
  have e2 : He.fnW K d.at_ = d.val := List.map_inj_left.mp e d h
  exact He.DefD.funD e2 (List.all_eq_true.mp c.split.2.1 d h)
end
/-! ### a program's data -/
def Df.defD (d : Df) : He.DefD := ⟨(d.name, none), d.name, d.name, d.params, d.body, d.scope, [], []⟩
def blts : List Str := ["len", "abs", "int", "str", "max", "min", "sum", "all", "any", "sorted", "list", "tuple", "dict", "set", "range", "zip", "enumerate", "reversed", "isinstance", "bool"]
def faOf (ds : List Df) (En : List Str) : List He.Fa := (ds.map fun d => He.Fa.glo d.name) ++ ([.glo "_law_cup", .glo "_law_roll", .glo "law"] ++ (blts.map He.Fa.free ++ (En.map He.Fa.exc ++ En.map He.Fa.glo)))
def fnOf' (ds : List Df) (cup roll law : He.DefD) : List He.DefD := cup :: roll :: law :: ds.map Df.defD
/-- a def that takes its arguments by place -/
def BindOk (d : He.DefD) (ps : List Str) : Prop := ∀ (kV doc pm : Value) (an : Option Addr) (cdv ct : Value) (us : List Value), us.length = ps.length → bindArgs (PySem.W.fnOf d.name d.qual d.params d.body d.scope .none kV doc pm an cdv ct) ⟨us, []⟩ = pure (ps.zip us)
structure LawD where
  ds : List Df
  Gn : List Str
  En : List Str
  G : List PV
  cup : He.DefD
  roll : He.DefD
  law : He.DefD
  k : CupK
  d : Df
def LawD.fa (L : LawD) : List He.Fa := faOf L.ds L.En
def LawD.fn (L : LawD) : List He.DefD := fnOf' L.ds L.cup L.roll L.law
def LawD.gl (L : LawD) : List (Str × PV) := L.Gn.zip L.G
def plainD1 (d : He.DefD) (x : Str) : Bool := decide (d.at_ = (x, none)) && (decide (d.name = x) && (decide (d.qual = x) && (d.dfl.isEmpty && d.kwd.isEmpty)))
def LawD.ok (L : LawD) : Bool := (L.ds.all fun d => chkD (namesT L.ds) L.Gn L.En d) && (plainD1 L.cup "_law_cup" && (plainD1 L.roll "_law_roll" && (plainD1 L.law "law" && (cupOk L.k L.cup.scope L.cup.body && (rollOk L.k L.roll.scope L.roll.body && (decide (L.Gn.length = L.G.length) &&
  lawOk (namesT L.ds) L.Gn L.En L.d L.law.body))))))
theorem facts (L : LawD) (hok : L.ok = true) (hsc : L.law.scope = L.d.scope) (hb : ∀ d ∈ L.ds, BindOk d.defD d.ps) (hbc : BindOk L.cup ["script"]) (hbr : BindOk L.roll ["cup", "many"]) (hbl : BindOk L.law ["script"]) (hen : ∀ x ∈ L.En, (x == ("__debug__" : Str)) = false) (n : Nat)
    (hlaw : endF (denB (call (fdsOf L.ds) L.G n) L.G L.d.code (lawE L.d)) (fun p => p = .bool true) fun _ => False)
    {P : Program} {w : World} {K : PySem.W.Frag} {h : Heap} {mg : Str → Option Value} {f : Addr} (X : K.In h) (G : h.Ns mainGlobals mg) (hfa : mg ("law" : Str) = some (.ref f)) (c : SaysH L.fa L.fn L.gl K) :
    ∃ fd : FuncData, (∀ (s : Shared) (v : Value), BindsTo s fd ⟨[v], []⟩ [("script", v)]) ∧ ∀ base : Heap, K.In base → base.Ns mainGlobals mg → FnOk P w K mg base (L2.CX P w) (n + 3) f fd ["script"] (spLaw K) := by
  have hok' := hok
  unfold LawD.ok at hok
  obtain ⟨h1, hok⟩ := an hok
  obtain ⟨h2, hok⟩ := an hok
  obtain ⟨h3, hok⟩ := an hok
  obtain ⟨h4, hok⟩ := an hok
  obtain ⟨h5, hok⟩ := an hok
  obtain ⟨h6, hok⟩ := an hok
  obtain ⟨h7, h8⟩ := an hok
  have h7 := of_decide_eq_true h7
  have chk : ∀ d ∈ L.ds, chkD (namesT L.ds) L.Gn L.En d = true := fun d hd => List.all_eq_true.mp h1 d hd
  have one : ∀ {d : He.DefD} {x : Str}, d ∈ L.fn → plainD1 d x = true → ∃ fd, FunD K x x d.params d.body d.scope [] [] (He.ga K x) fd := fun {d x} hd hp => by
    obtain ⟨p1, hp⟩ := an hp
    obtain ⟨p2, hp⟩ := an hp
    obtain ⟨p3, hp⟩ := an hp
    obtain ⟨p4, p5⟩ := an hp
    have p1 := of_decide_eq_true p1
    have p2 := of_decide_eq_true p2
    have p3 := of_decide_eq_true p3
    have p4 := List.isEmpty_iff.mp p4
    have p5 := List.isEmpty_iff.mp p5
    obtain ⟨fd, F⟩ := c.def_ hd
    unfold He.DefD.dvs He.DefD.kws at F
    rw [p1, p2, p3, p4, p5] at F
    exact ⟨fd, F⟩
  have glo : ∀ {x : Str}, He.Fa.glo x ∈ L.fa → mg x = some (.ref (He.ga K x)) := fun {x} hx => He.glo_ok X G (c.fact hx)
  have mem1 : ∀ {q : He.Fa}, q ∈ ([.glo "_law_cup", .glo "_law_roll", .glo "law"] : List He.Fa) → q ∈ L.fa := fun {q} hq => List.mem_append_right _ (List.mem_append_left _ hq)
  obtain ⟨fdC, FC⟩ := one (d := L.cup) List.mem_cons_self h2
  obtain ⟨fdR, FR⟩ := one (d := L.roll) (List.mem_cons_of_mem _ List.mem_cons_self) h3
  obtain ⟨fd, FL⟩ := one (d := L.law) (List.mem_cons_of_mem _ (List.mem_cons_of_mem _ List.mem_cons_self)) h4
  have bnd : ∀ {d : He.DefD} {x : Str} {ps : List Str}, BindOk d ps → plainD1 d x = true → ∀ {fd : FuncData}, FunD K x x d.params d.body d.scope [] [] (He.ga K x) fd → Binds K fd ps [] := fun {d x ps} hb hp fd F => by
    obtain ⟨p1, hp⟩ := an hp
    obtain ⟨p2, hp⟩ := an hp
    obtain ⟨p3, hp⟩ := an hp
    have p2 := of_decide_eq_true p2
    have p3 := of_decide_eq_true p3
    unfold BindOk at hb
    rw [p2, p3] at hb
    exact F.bindsN hb
  have bl : ∀ x ∈ blts, mg x = none := fun x hx => He.free_ok X G (c.fact (List.mem_append_right _ (List.mem_append_right _ (List.mem_append_left _ (List.mem_map.mpr ⟨x, hx, rfl⟩)))))
  have bl3 : ∀ x ∈ (["abs", "int", "list"] : List Str), mg x = none := fun x hx => bl x (by
    rcases List.mem_cons.mp hx with z | hx
    · rw [z]; decide +kernel
    · rcases List.mem_cons.mp hx with z | hx
      · rw [z]; decide +kernel
      · rcases List.mem_cons.mp hx with z | hx
        · rw [z]; decide +kernel
        · cases hx)
  have e : f = He.ga K "law" := by
    have := hfa.symm.trans (glo (mem1 (by simp)))
    cases this
    rfl
  subst e
  have PL : ∀ base : Heap, K.In base → base.Ns mainGlobals mg → ProgL P w K mg base (L.ds.map fun d => He.ga K d.name) (L.En.map (He.ga K)) L.ds L.Gn L.G L.En := fun base kb nb => by
    refine ⟨fun ca => ?_, ⟨_, fdC, glo (mem1 (by simp)), FC.kp, bnd hbc h2 FC, cup_ok FC h5 bl3⟩⟩
    refine ⟨rfl, rfl, rfl, fun i d hd => ?_, fun i x hx => ?_, bl, ⟨_, fdR, ["cup", "many"], glo (mem1 (by simp)), FR.kp, bnd hbr h3 FR, roll_ok FR h6 bl3⟩, fun j x hx => ?_⟩
    · have hm := List.mem_of_getElem? hd
      obtain ⟨fd', F'⟩ := c.def_ (d := d.defD) (List.mem_cons_of_mem _ (List.mem_cons_of_mem _ (List.mem_cons_of_mem _ (List.mem_map.mpr ⟨d, hm, rfl⟩))))
      refine ⟨He.ga K d.name, fd', by show (L.ds.map fun d => He.ga K d.name)[i]? = _; rw [List.getElem?_map, hd]; rfl, glo (List.mem_append_left _ (List.mem_map.mpr ⟨d, hm, rfl⟩)), F', FunD.bindsN F' (hb d hm)⟩
    · have hl : i < L.G.length := by rw [← h7]; exact (List.getElem?_eq_some_iff.mp hx).1
      have hg : L.G[i]? = some L.G[i] := List.getElem?_eq_getElem hl
      have hz : (x, L.G[i]) ∈ L.gl := by
        unfold LawD.gl
        refine List.mem_of_getElem? (i := i) ?_
        rw [List.getElem?_zip_eq_some]
        exact ⟨hx, hg⟩
      have hc := c.glob hz
      unfold gB at hc
      cases hn : PySem.W.nsIn K mainGlobals x with
      | none => rw [hn] at hc; exact no hc
      | some o =>
        rw [hn] at hc
        cases o with
        | none => exact no hc
        | some u =>
          obtain ⟨v, r1, r2⟩ := datB_ok hc
          exact ⟨u, v, _, PySem.W.mg_of X G hn, r1, hg, fun H F => r2 _ H F rfl⟩
    · have hm := List.mem_of_getElem? hx
      obtain ⟨e1, e2, e3, e4⟩ := He.exc_ok (c.fact (f := .exc x) (List.mem_append_right _ (List.mem_append_right _ (List.mem_append_right _ (List.mem_append_left _ (List.mem_map.mpr ⟨x, hm, rfl⟩))))))
      exact ⟨_, _, _, _, He.ga K x, PySem.F.excBase_ValueError, e1, by show (L.En.map (He.ga K))[j]? = _; rw [List.getElem?_map, hx]; rfl, glo (List.mem_append_right _ (List.mem_append_right _ (List.mem_append_right _ (List.mem_append_right _ (List.mem_map.mpr ⟨x, hm, rfl⟩))))), e2, e3, e4, hen x hm⟩
  refine ⟨fd, fun s v => ?_, fun base kb nb => ?_⟩
  · obtain ⟨p1, hp⟩ := an h4
    obtain ⟨p2, hp⟩ := an hp
    obtain ⟨p3, hp⟩ := an hp
    have p2 := of_decide_eq_true p2
    have p3 := of_decide_eq_true p3
    unfold BindOk at hbl
    rw [p2, p3] at hbl
    exact FunD.bindsA FL hbl s [v] rfl
  · rw [hsc] at FL
    exact law_ok (PL base kb nb) chk n FL h8 hlaw
/-- exceptions of any world -/
def CXany (P : Program) : CXT := fun outer H s E e s' => ∃ w, L2.CX P w outer H s E e s'
theorem fn_any {P : Program} {w : World} {K : PySem.W.Frag} {mg : Str → Option Value} {base : Heap} {k : Nat} {f : Addr} {fd : FuncData} {ps : List Str} {sp : Sp} (F : FnOk P w K mg base (L2.CX P w) k f fd ps sp) : FnOk P w K mg base (CXany P) k f fd ps sp :=
  ⟨F.len, fun A outer s H args us vs Q E hr he hb hv hs => codeAny_mono (F.run A outer s H args us vs Q E hr he hb hv hs) fun r s' hq => by
    cases r with
    | ok f => cases f <;> exact hq
    | error e => exact ⟨w, hq⟩⟩
theorem any_no {P : Program} (H : Hp) (s : Shared) (e : Value) (s' : Shared) (h : CXany P [] H s (fun _ _ _ => False) e s') : False := by
  obtain ⟨w, a, B, H', cls, d, h1, h2, h3, h4, h5, h6, h7, z⟩ := h
  exact z
end HG
end
section
set_option maxHeartbeats 4000000
/-! HGSim: rules by which a denotation is computed. -/
namespace HG
open PySem
section
variable {α β : Type}
@[simp] theorem thenK_rt (k : Env → M Fl) (v : PV) : thenK k (.rt v) = pu (.rt v) := rfl
@[simp] theorem thenK_nx (k : Env → M Fl) (ρ : Env) : thenK k (.nx ρ) = k ρ := rfl
@[simp] theorem thenK_bk (k : Env → M Fl) (ρ : Env) : thenK k (.bk ρ) = pu (.bk ρ) := rfl
@[simp] theorem thenK_ct (k : Env → M Fl) (ρ : Env) : thenK k (.ct ρ) = pu (.ct ρ) := rfl
@[simp] theorem loopK_rt (k : Env → M Fl) (v : PV) : loopK k (.rt v) = pu (.rt v) := rfl
@[simp] theorem loopK_nx (k : Env → M Fl) (ρ : Env) : loopK k (.nx ρ) = k ρ := rfl
@[simp] theorem loopK_bk (k : Env → M Fl) (ρ : Env) : loopK k (.bk ρ) = pu (.nx ρ) := rfl
@[simp] theorem loopK_ct (k : Env → M Fl) (ρ : Env) : loopK k (.ct ρ) = k ρ := rfl
@[simp] theorem endF_rt (v : PV) : endF (pu (.rt v)) = pu v := rfl
@[simp] theorem endF_nx (ρ : Env) : endF (pu (.nx ρ)) = pu .none := rfl
@[simp] theorem endF_rz (x : PV) : endF (rz x) = rz x := rfl
@[simp] theorem noX_rz (x : PV) : noX (rz x : M α) = stuck := by
  funext Q E
  rfl
@[simp] theorem thenF_pu (f : Fl) (k : Env → M Fl) : thenF (pu f) k = thenK k f := rfl
@[simp] theorem thenF_rz (x : PV) (k : Env → M Fl) : thenF (rz x) k = rz x := rfl
@[simp] theorem isTy_int (i : Int) (t : Ty) : isTy (.int i) t = (match t with | .int => true | _ => false) := by cases t <;> rfl
@[simp] theorem notSp_int (i : Int) : notSp (.int i) = true := rfl
@[simp] theorem notSp_none : notSp .none = true := rfl
@[simp] theorem notSp_bool (b : Bool) : notSp (.bool b) = true := rfl
@[simp] theorem notSp_str (b : Str) : notSp (.str b) = true := rfl
@[simp] theorem notSp_tuple (xs : List PV) : notSp (.tuple xs) = true := rfl
@[simp] theorem notSp_list (xs : List PV) : notSp (.list xs) = true := rfl
theorem ltP_int (a b : Int) : ltP (.int a) (.int b) = decide (a < b) := PySem.W.dataLt_int a b
theorem shp_int (a : Int) : shp (.int a) = true := rfl
theorem cmpb_int (a b : Int) : cmpb (.int a) (.int b) = true := rfl
@[simp] theorem le_int (a b : Int) : pCmp .le (.int a) (.int b) = pu (.bool (decide (a ≤ b))) := by
  show gd _ _ = _
  rw [gd_yes ⟨cmpb_int a b, shp_int a, shp_int b⟩, ltP_int]
  congr 2
  by_cases h : b < a
  · rw [decide_eq_true h, decide_eq_false (by omega)]; rfl
  · rw [decide_eq_false h, decide_eq_true (by omega)]; rfl
@[simp] theorem ge_int (a b : Int) : pCmp .ge (.int a) (.int b) = pu (.bool (decide (b ≤ a))) := by
  show gd _ _ = _
  rw [gd_yes ⟨cmpb_int a b, shp_int a, shp_int b⟩, ltP_int]
  congr 2
  by_cases h : a < b
  · rw [decide_eq_true h, decide_eq_false (by omega)]; rfl
  · rw [decide_eq_false h, decide_eq_true (by omega)]; rfl
@[simp] theorem lt_int' (a b : Int) : pCmp .lt (.int a) (.int b) = pu (.bool (decide (a < b))) := by
  show gd _ _ = _
  rw [gd_yes ⟨cmpb_int a b, shp_int a, shp_int b⟩, ltP_int]
@[simp] theorem gt_int' (a b : Int) : pCmp .gt (.int a) (.int b) = pu (.bool (decide (b < a))) := by
  show gd _ _ = _
  rw [gd_yes ⟨cmpb_int a b, shp_int a, shp_int b⟩, ltP_int]
theorem eqP_int (a b : Int) : eqP (.int a) (.int b) = decide (a = b) := by
  unfold eqP
  rfl
@[simp] theorem eq_int (a b : Int) : pCmp .eq (.int a) (.int b) = pu (.bool (decide (a = b))) := by
  show gd _ _ = _
  rw [gd_yes ⟨shp_int a, shp_int b⟩, eqP_int]
@[simp] theorem ne_int (a b : Int) : pCmp .ne (.int a) (.int b) = pu (.bool (!decide (a = b))) := by
  show nB (gd _ _) = _
  rw [gd_yes ⟨shp_int a, shp_int b⟩, eqP_int]
  rfl
@[simp] theorem isN_none (x : PV) : pCmp .is_ x .none = pu (.bool (isNone x)) := rfl
@[simp] theorem isT_true (x : PV) : pCmp .is_ x (.bool true) = pu (.bool (isTrueV x)) := rfl
@[simp] theorem isF_false (x : PV) : pCmp .is_ x (.bool false) = pu (.bool (isFalseV x)) := rfl
@[simp] theorem isnN_none (x : PV) : pCmp .isnot x .none = pu (.bool (!isNone x)) := rfl
@[simp] theorem isnT_true (x : PV) : pCmp .isnot x (.bool true) = pu (.bool (!isTrueV x)) := rfl
@[simp] theorem isnF_false (x : PV) : pCmp .isnot x (.bool false) = pu (.bool (!isFalseV x)) := rfl
@[simp] theorem add_int' (a b : Int) : pBin .add (.int a) (.int b) = pu (.int (a + b)) := rfl
@[simp] theorem sub_int' (a b : Int) : pBin .sub (.int a) (.int b) = pu (.int (a - b)) := rfl
@[simp] theorem neg_int' (a : Int) : pNeg (.int a) = pu (.int (-a)) := rfl
/-- a list comprehension whose parts all come to values -/
theorem mfm_pu {f : PV → M (Option PV)} {g : PV → Option PV} : ∀ {xs : List PV}, (∀ x ∈ xs, f x = pu (g x)) → mfm f xs = pu (xs.filterMap g)
  | [], _ => rfl
  | x :: xs, h => by
    unfold mfm
    rw [h x List.mem_cons_self, bd_pu, mfm_pu fun y hy => h y (List.mem_cons_of_mem _ hy), bd_pu]
    cases hg : g x with
    | none => rw [List.filterMap_cons_none hg]
    | some y => rw [List.filterMap_cons_some hg]
/-- .. over encoded things -/
theorem mfm_map {γ : Type} {f : PV → M (Option PV)} {en : γ → PV} {g : γ → Option PV} {xs : List γ} (h : ∀ x ∈ xs, f (en x) = pu (g x)) : mfm f (xs.map en) = pu (xs.filterMap g) := by
  induction xs with
  | nil => rfl
  | cons x xs ih =>
    rw [List.map_cons]
    unfold mfm
    rw [h x List.mem_cons_self, bd_pu, ih fun y hy => h y (List.mem_cons_of_mem _ hy), bd_pu]
    cases hg : g x with
    | none => rw [List.filterMap_cons_none hg]
    | some y => rw [List.filterMap_cons_some hg]
theorem mfm_all {γ δ : Type} {f : PV → M (Option PV)} {en : γ → PV} {eo : δ → PV} {g : γ → δ} {xs : List γ} (h : ∀ x ∈ xs, f (en x) = pu (some (eo (g x)))) : mfm f (xs.map en) = pu ((xs.map g).map eo) := by
  rw [mfm_map (g := fun x => some (eo (g x))) h]
  congr 1
  rw [List.map_map]
  clear h
  induction xs with
  | nil => rfl
  | cons x xs ih =>
    show (eo (g x) :: List.filterMap (fun x => some (eo (g x))) xs) = eo (g x) :: List.map (eo ∘ g) xs
    rw [ih]
theorem mfm_filter {γ : Type} {f : PV → M (Option PV)} {en : γ → PV} {p : γ → Bool} {xs : List γ} (h : ∀ x ∈ xs, f (en x) = pu (if p x then some (en x) else none)) : mfm f (xs.map en) = pu ((xs.filter p).map en) := by
  rw [mfm_map (g := fun x => if p x then some (en x) else none) h]
  congr 1
  clear h
  induction xs with
  | nil => rfl
  | cons x xs ih =>
    by_cases hp : p x = true
    · rw [List.filterMap_cons_some (by rw [if_pos hp]), List.filter_cons_of_pos hp, List.map_cons, ih]
    · rw [List.filterMap_cons_none (by rw [if_neg hp]), List.filter_cons_of_neg hp, ih]
/-- two clauses -/
theorem mfl_pu {f : PV → List PV → M (List PV)} {g : PV → List PV} {B : Nat} : ∀ {xs : List PV} {acc : List PV}, acc.length + (xs.flatMap g).length ≤ B → (∀ x ∈ xs, ∀ a : List PV, a.length + (g x).length ≤ B → f x a = pu (a ++ g x)) → mfl f xs acc = pu (acc ++ xs.flatMap g)
  | [], acc, _, _ => by unfold mfl; rw [List.flatMap_nil, List.append_nil]
  | x :: xs, acc, hb, h => by
    rw [List.flatMap_cons, List.length_append] at hb
    unfold mfl
    rw [h x List.mem_cons_self acc (by omega), bd_pu, mfl_pu (g := g) (B := B) (by rw [List.length_append]; omega) fun y hy => h y (List.mem_cons_of_mem _ hy), List.flatMap_cons, List.append_assoc]
/-- a loop, by what holds between its turns -/
theorem forL_by {b : PV → Env → M Fl} {Qd : Fl → Prop} {E : PV → Prop} (I : Env → Prop) (mb : ∀ x ρ, Mono (b x ρ)) : ∀ {xs : List PV} {ρ : Env}, I ρ → (∀ ρ', I ρ' → Qd (.nx ρ')) →
    (∀ x ∈ xs, ∀ ρ, I ρ → b x ρ (fun f => match f with | .nx ρ' => I ρ' | .ct ρ' => I ρ' | .bk ρ' => Qd (.nx ρ') | .rt v => Qd (.rt v)) E) → forL b xs ρ Qd E
  | [], ρ, i, q, _ => q ρ i
  | x :: xs, ρ, i, q, h => by
    show b x ρ (fun f => loopK (forL b xs) f Qd E) E
    refine mb x ρ _ _ _ _ (fun f hf => ?_) (fun _ z => z) (h x List.mem_cons_self ρ i)
    cases f with
    | nx ρ' => exact forL_by I mb hf q fun y hy => h y (List.mem_cons_of_mem _ hy)
    | ct ρ' => exact forL_by I mb hf q fun y hy => h y (List.mem_cons_of_mem _ hy)
    | bk ρ' => exact hf
    | rt v => exact hf
theorem seqV_tuple (xs : List PV) : seqV (.tuple xs) = pu xs := rfl
@[simp] theorem iterV_tuple (xs : List PV) : iterV (.tuple xs) = pu xs := rfl
@[simp] theorem iterV_list (xs : List PV) : iterV (.list xs) = pu xs := rfl
@[simp] theorem len_tuple (xs : List PV) : pBi .len [.tuple xs] = pu (.int xs.length) := rfl
@[simp] theorem len_list (xs : List PV) : pBi .len [.list xs] = pu (.int xs.length) := rfl
theorem bools_of (bs : List Bool) : boolsOf (bs.map PyData.bool) = some bs := by
  induction bs with
  | nil => rfl
  | cons b bs ih =>
    rw [List.map_cons]
    unfold boolsOf
    rw [ih]; rfl
theorem ints_of (bs : List Int) : intsOf (bs.map PyData.int) = some bs := by
  induction bs with
  | nil => rfl
  | cons b bs ih =>
    rw [List.map_cons]
    unfold intsOf
    rw [ih]; rfl
@[simp] theorem all_bools (bs : List Bool) : pBi .all [.list (bs.map PyData.bool)] = pu (.bool (bs.all id)) := by
  show bd (ofO (boolsOf _)) _ = _
  rw [bools_of]; rfl
@[simp] theorem any_bools (bs : List Bool) : pBi .any [.list (bs.map PyData.bool)] = pu (.bool (bs.any id)) := by
  show bd (ofO (boolsOf _)) _ = _
  rw [bools_of]; rfl
@[simp] theorem sum_ints (bs : List Int) : pBi .sum [.list (bs.map PyData.int)] = pu (.int bs.sum) := by
  show bd (ofO (intsOf _)) _ = _
  rw [ints_of]; rfl
@[simp] theorem bindT_nm (i : Nat) (v : PV) (ρ : Env) : bindT (.nm i) v ρ = pu (ρ.set i (some v)) := rfl
@[simp] theorem bindT_two (i j : Nat) (a b : PV) (ρ : Env) : bindT (.tp [.nm i, .nm j]) (.tuple [a, b]) ρ = pu ((ρ.set i (some a)).set j (some b)) := by
  show gd (2 = 2) _ = _
  rw [gd_yes rfl]
  rfl
@[simp] theorem tgS_nm (i : Nat) : tgS (.nm i) = [i] := rfl
@[simp] theorem tgS_two (i j : Nat) : tgS (.tp [.nm i, .nm j]) = [i, j] := rfl
theorem call_at {D : List Fd} {G : List PV} {n f : Nat} {fd : Fd} (h : D[f]? = some fd) {vs : List PV} (hl : vs.length = fd.np) : call D G (n + 1) f vs = endF (denB (call D G n) G fd.body (startE fd.ns vs)) := by
  unfold call
  rw [h]
  exact gd_yes hl
/-! ### data of a shape -/
/-- a value that can be compared, no deeper than n -/
def Flat (n : Nat) (d : PV) : Prop := d.canLay0 = true ∧ d.depth ≤ n
theorem Flat.shp {n : Nat} {d : PV} (h : Flat n d) (hn : n ≤ 64) : shp d = true := by
  unfold HG.shp PySem.SeqAt.shaped
  rw [h.1, decide_eq_true (Nat.le_trans h.2 hn)]
  rfl
theorem flat_int (i : Int) : Flat 0 (.int i) := ⟨rfl, Nat.le_refl _⟩
theorem flat_bool (i : Bool) : Flat 0 (.bool i) := ⟨rfl, Nat.le_refl _⟩
theorem flat_none : Flat 0 .none := ⟨rfl, Nat.le_refl _⟩
theorem flat_all {n : Nat} : ∀ {ds : List PV}, (∀ d ∈ ds, Flat n d) → PyData.canLayAll0 ds = true ∧ PyData.depthAll ds ≤ n
  | [], _ => ⟨rfl, Nat.zero_le _⟩
  | d :: ds, h => by
    obtain ⟨h1, h2⟩ := flat_all fun d hd => h d (List.mem_cons_of_mem _ hd)
    have h3 := h d List.mem_cons_self
    refine ⟨?_, ?_⟩
    · unfold PyData.canLayAll0
      rw [h3.1, h1]; rfl
    · unfold PyData.depthAll
      have := h3.2
      omega
theorem flat_tuple {n : Nat} {ds : List PV} (h : ∀ d ∈ ds, Flat n d) : Flat (n + 1) (.tuple ds) := by
  obtain ⟨h1, h2⟩ := flat_all h
  refine ⟨by unfold PyData.canLay0; exact h1, ?_⟩
  unfold PyData.depth
  omega
theorem flat_list {n : Nat} {ds : List PV} (h : ∀ d ∈ ds, Flat n d) : Flat (n + 1) (.list ds) := by
  obtain ⟨h1, h2⟩ := flat_all h
  refine ⟨by unfold PyData.canLay0; exact h1, ?_⟩
  unfold PyData.depth
  omega
theorem flat_of : ∀ {ds : List PV} {n : Nat}, PyData.canLayAll0 ds = true → PyData.depthAll ds ≤ n → ∀ d ∈ ds, Flat n d
  | [], _, _, _, _, h => by cases h
  | x :: ds, n, h1, h2, d, h => by
    unfold PyData.canLayAll0 at h1
    unfold PyData.depthAll at h2
    rw [Bool.and_eq_true] at h1
    rcases List.mem_cons.mp h with e | h
    · rw [e]; exact ⟨h1.1, by omega⟩
    · exact flat_of h1.2 (by omega) d h
theorem flat_mem {n : Nat} {ds : List PV} (h : Flat n (.tuple ds)) : ∀ d ∈ ds, Flat n d := by
  obtain ⟨h1, h2⟩ := h
  unfold PyData.canLay0 at h1
  unfold PyData.depth at h2
  exact flat_of h1 (by omega)
theorem Flat.mono {m n : Nat} {d : PV} (h : Flat m d) (hn : m ≤ n) : Flat n d := ⟨h.1, Nat.le_trans h.2 hn⟩
theorem eq_flat {m n : Nat} {x y : PV} (hx : Flat m x) (hy : Flat n y) (hm : m ≤ 64) (hn : n ≤ 64) (hd : isD x = false ∨ isD y = false) : pCmp .eq x y = pu (.bool (eqP x y)) := by
  have e : pEq x y = gd (HG.shp x = true ∧ HG.shp y = true) (pu (.bool (eqP x y))) := by
    unfold pEq
    split
    · rcases hd with h | h <;> cases h
    · rfl
  show pEq x y = _
  rw [e, gd_yes ⟨hx.shp hm, hy.shp hn⟩]
theorem ne_flat {m n : Nat} {x y : PV} (hx : Flat m x) (hy : Flat n y) (hm : m ≤ 64) (hn : n ≤ 64) (hd : isD x = false ∨ isD y = false) : pCmp .ne x y = pu (.bool (!eqP x y)) := by
  show nB (pEq x y) = _
  have := eq_flat hx hy hm hn hd
  rw [show pEq x y = pCmp .eq x y from rfl, this]
  rfl
/-- a comprehension that draws -/
theorem mfm_dem {f : PV → M (Option PV)} {P : PV → Prop} {E : PV → Prop} : ∀ {xs : List PV} {Q : List PV → Prop}, (∀ x ∈ xs, ∀ Q : Option PV → Prop, (∀ y, P y → Q (some y)) → f x Q E) → (∀ ys : List PV, ys.length = xs.length → (∀ y ∈ ys, P y) → Q ys) → mfm f xs Q E
  | [], Q, _, q => q [] rfl fun _ h => by cases h
  | x :: xs, Q, h, q => by
    show f x (fun y => mfm f xs (fun ys => Q (match y with | some y => y :: ys | none => ys)) E) E
    refine h x List.mem_cons_self _ fun y py => ?_
    refine mfm_dem (P := P) (fun z hz => h z (List.mem_cons_of_mem _ hz)) fun ys hl hp => ?_
    refine q (y :: ys) (congrArg Nat.succ hl) fun z hz => ?_
    rcases List.mem_cons.mp hz with e | hz
    · rw [e]; exact py
    · exact hp z hz
/-- a loop without draws -/
theorem forL_fold {σ γ : Type} {b : PV → Env → M Fl} {en : γ → PV} {ev : σ → Env} {step : σ → γ → σ} : ∀ {xs : List γ} {a : σ}, (∀ x ∈ xs, ∀ a, b (en x) (ev a) = pu (.nx (ev (step a x)))) → forL b (xs.map en) (ev a) = pu (.nx (ev (xs.foldl step a)))
  | [], a, _ => rfl
  | x :: xs, a, h => by
    rw [List.map_cons]
    unfold forL
    rw [h x List.mem_cons_self a, bd_pu, loopK_nx, forL_fold fun y hy => h y (List.mem_cons_of_mem _ hy)]
    rfl
def endK (f : Fl) : M PV := match f with
  | .rt v => pu v
  | .nx _ => pu .none
  | _ => stuck
/-- a loop, by what holds ahead of each turn -/
theorem forL_cps {b : PV → Env → M Fl} {Qd : Fl → Prop} {E : PV → Prop} (I : Nat → Env → Prop) : ∀ {xs : List PV} {n : Nat} {ρ : Env}, I n ρ → (∀ ρ', I (n + xs.length) ρ' → Qd (.nx ρ')) →
    (∀ x ∈ xs, ∀ k ρ, k < n + xs.length → I k ρ → ∀ R : Fl → Prop, (∀ ρ', I (k + 1) ρ' → R (.nx ρ')) → (∀ ρ', I (k + 1) ρ' → R (.ct ρ')) → (∀ ρ', Qd (.nx ρ') → R (.bk ρ')) → (∀ v, Qd (.rt v) → R (.rt v)) → b x ρ R E) → forL b xs ρ Qd E
  | [], n, ρ, i, q, _ => q ρ i
  | x :: xs, n, ρ, i, q, h => by
    show b x ρ (fun f => loopK (forL b xs) f Qd E) E
    have el : n + (x :: xs).length = n + 1 + xs.length := by rw [List.length_cons]; omega
    have go : ∀ ρ', I (n + 1) ρ' → forL b xs ρ' Qd E := fun ρ' i' => forL_cps I i' (fun ρ2 h2 => q ρ2 (by rw [el]; exact h2)) fun y hy k ρ hk => h y (List.mem_cons_of_mem _ hy) k ρ (by rw [el]; exact hk)
    exact h x List.mem_cons_self n ρ (by rw [List.length_cons]; omega) i _ go go (fun _ z => z) (fun _ z => z)
/-- .. with what holds while n turns are left -/
theorem forL_foldJ {σ γ : Type} {b : PV → Env → M Fl} {en : γ → PV} {ev : σ → Env} {step : σ → γ → σ} (J : Nat → σ → Prop) : ∀ {xs : List γ} {a : σ}, J xs.length a → (∀ x ∈ xs, ∀ n a, J (n + 1) a → b (en x) (ev a) = pu (.nx (ev (step a x))) ∧ J n (step a x)) → forL b (xs.map en) (ev a) = pu (.nx (ev (xs.foldl step a)))
  | [], a, _, _ => rfl
  | x :: xs, a, j, h => by
    obtain ⟨h1, h2⟩ := h x List.mem_cons_self xs.length a j
    rw [List.map_cons]
    unfold forL
    rw [h1, bd_pu, loopK_nx, forL_foldJ J h2 fun y hy => h y (List.mem_cons_of_mem _ hy)]
    rfl
theorem endF_eq (m : M Fl) : endF m = bd m endK := rfl
@[simp] theorem endK_rt (v : PV) : endK (.rt v) = pu v := rfl
@[simp] theorem endK_nx (ρ : Env) : endK (.nx ρ) = pu .none := rfl
theorem noX_bd {α β : Type} (m : M α) (f : α → M β) : noX (bd m f) = bd (noX m) fun a => noX (f a) := rfl
theorem bd_rl {β : Type} {n : Int} {f : PV → M β} {Q : β → Prop} {E : PV → Prop} (h0 : 0 < n) (h1 : n < 4611686018427387904) (q : ∀ r : Int, 0 ≤ r → r < n → f (.int r) Q E) : bd (rl n) f Q E := ⟨⟨h0, h1⟩, q⟩
theorem bd_app {α β : Type} (m : M α) (f : α → M β) (Q : β → Prop) (E : PV → Prop) : bd m f Q E = m (fun a => f a Q E) E := rfl
theorem noX_app {α : Type} (m : M α) (Q : α → Prop) (E : PV → Prop) : noX m Q E = m Q fun _ => False := rfl
theorem rl_by {n : Int} {Q E : PV → Prop} (h0 : 0 < n) (h1 : n < 4611686018427387904) (q : ∀ r : Int, 0 ≤ r → r < n → Q (.int r)) : rl n Q E := ⟨⟨h0, h1⟩, q⟩
end
end HG
end
section
set_option maxHeartbeats 4000000
/-! HGLand: lands, places, walks: what the program's and the laws' common defs answer. -/
namespace HG
open PySem
/-- value, low, high; slots value low high -/
def k_is_whole : List St := [.ret (.an (.isi (.var 0) .int) (.an (.nt (.isi (.var 0) .bool)) (.chn .le .le (.var 1) (.var 0) (.var 2))))]
/-- value, low, high; slots value low high -/
def k_is_tuple_of : List St := [.ret (.an (.isi (.var 0) .tuple) (.chn .le .le (.var 1) (.bi .len [.var 0]) (.var 2)))]
/-- value; slots value wide row height -/
def k_fits_land (i_is_tuple_of i_is_whole g_SIDE g_HEIGHT : Nat) : List St := [.ite (.or_ (.nt (.call i_is_tuple_of [.var 0, .lit (.int 1), .glb g_SIDE])) (.nt (.call i_is_tuple_of [.idx (.var 0) (.lit (.int 0)), .lit (.int 1), .glb g_SIDE]))) [.ret (.lit (.bool false))] [],
  .asg (.nm 1) (.bi .len [.idx (.var 0) (.lit (.int 0))]),
  .ite (.nt (.bi .all [.lc1 (.call i_is_tuple_of [.var 2, .var 1, .var 1]) (.nm 2) (.var 0) (.lit (.bool true))])) [.ret (.lit (.bool false))] [],
  .ret (.bi .all [.lc2 (.call i_is_whole [.var 3, .lit (.int 0), .glb g_HEIGHT]) (.nm 2) (.var 0) (.lit (.bool true)) (.nm 3) (.var 2) (.lit (.bool true))])]
/-- land; slots land -/
def k_need_land (i_fits_land e_InvalidLand : Nat) : List St := [.ite (.nt (.call i_fits_land [.var 0])) [.rai e_InvalidLand []] []]
/-- land, value; slots land value -/
def k_fits_place (i_is_whole i_is_tuple_of : Nat) : List St := [.ret (.an (.call i_is_tuple_of [.var 1, .lit (.int 2), .lit (.int 2)]) (.an (.call i_is_whole [.idx (.var 1) (.lit (.int 0)), .lit (.int 0), .bin .sub (.bi .len [.var 0]) (.lit (.int 1))]) (.call i_is_whole [.idx (.var 1) (.lit (.int 1)), .lit (.int 0), .bin .sub (.bi .len [.idx (.var 0) (.lit (.int 0))]) (.lit (.int 1))])))]
/-- land, place; slots land place -/
def k_height_at : List St := [.ret (.idx (.idx (.var 0) (.idx (.var 1) (.lit (.int 0)))) (.idx (.var 1) (.lit (.int 1))))]
/-- land, place; slots land place found one down right -/
def k_next_to (g_AROUND : Nat) : List St := [.asg (.nm 2) (.lc1 (.tup [.bin .add (.idx (.var 1) (.lit (.int 0))) (.var 4), .bin .add (.idx (.var 1) (.lit (.int 1))) (.var 5)]) (.tp [.nm 4, .nm 5]) (.glb g_AROUND) (.lit (.bool true))),
  .ret (.lc1 (.var 3) (.nm 3) (.var 2) (.an (.chn .le .lt (.lit (.int 0)) (.idx (.var 3) (.lit (.int 0))) (.bi .len [.var 0])) (.chn .le .lt (.lit (.int 0)) (.idx (.var 3) (.lit (.int 1))) (.bi .len [.idx (.var 0) (.lit (.int 0))]))))]
/-- land, here, there; slots land here there -/
def k_climb_between (i_height_at : Nat) : List St := [.ret (.bi .max2 [.lit (.int 0), .bin .sub (.call i_height_at [.var 0, .var 2]) (.call i_height_at [.var 0, .var 1])])]
/-- land, value; slots land value here there one -/
def k_fits_walk (i_fits_place i_next_to : Nat) : List St := [.ite (.or_ (.nt (.isi (.var 1) .tuple)) (.or_ (.cmp .eq (.var 1) (.tup [])) (.nt (.bi .all [.lc1 (.call i_fits_place [.var 0, .var 4]) (.nm 4) (.var 1) (.lit (.bool true))])))) [.ret (.lit (.bool false))] [],
  .ret (.bi .all [.lc1 (.cmp .isin (.var 3) (.call i_next_to [.var 0, .var 2])) (.tp [.nm 2, .nm 3]) (.zip (.var 1) (.slc (.var 1) (.lit (.int 1)) (.lit .none))) (.lit (.bool true))])]
/-- cup, things; slots cup things -/
def k__law_some : List St := [.ret (.idx (.var 1) (.roll (.var 0) (.bi .len [.var 1])))]
/-- told, due; slots told due at -/
def k__law_same (i__law_same : Nat) : List St := [.ite (.isi (.var 1) .tuple) [.ite (.or_ (.nt (.isi (.var 0) .tuple)) (.cmp .ne (.bi .len [.var 0]) (.bi .len [.var 1]))) [.ret (.lit (.bool false))] [],
    .ret (.bi .all [.lc1 (.call i__law_same [.idx (.var 0) (.var 2), .idx (.var 1) (.var 2)]) (.nm 2) (.rng1 (.bi .len [.var 1])) (.lit (.bool true))])] [],
  .ite (.cmp .is_ (.var 1) (.lit .none)) [.ret (.cmp .is_ (.var 0) (.lit .none))] [],
  .ite (.isi (.var 1) .bool) [.ret (.ite (.var 1) (.cmp .is_ (.var 0) (.lit (.bool true))) (.cmp .is_ (.var 0) (.lit (.bool false))))] [],
  .ite (.isi (.var 1) .int) [.ret (.an (.isi (.var 0) .int) (.an (.nt (.isi (.var 0) .bool)) (.cmp .eq (.bi .int [.var 0]) (.var 1))))] [],
  .ret (.an (.isi (.var 0) .str) (.cmp .eq (.bi .str [.var 0]) (.var 1)))]
/-- cup, side; slots cup side rows columns most row column -/
def k__law_land (i__law_some : Nat) : List St := [.asgT [2, 3, 4] [false, false, false] [.bin .add (.lit (.int 1)) (.roll (.var 0) (.var 1)), .bin .add (.lit (.int 1)) (.roll (.var 0) (.var 1)), .call i__law_some [.var 0, .lst [.lit (.int 2), .lit (.int 4), .lit (.int 10)]]],
  .ret (.bi .tuple [.lc1 (.bi .tuple [.lc1 (.roll (.var 0) (.var 4)) (.nm 6) (.rng1 (.var 3)) (.lit (.bool true))]) (.nm 5) (.rng1 (.var 2)) (.lit (.bool true))])]
/-- land; slots land found row column -/
def k__law_places : List St := [.asg (.nm 1) (.lst []),
  .for_ (.nm 2) (.rng1 (.bi .len [.var 0])) [.asg (.nm 1) (.bin .add (.var 1) (.lc1 (.tup [.var 2, .var 3]) (.nm 3) (.rng1 (.bi .len [.idx (.var 0) (.lit (.int 0))])) (.lit (.bool true))))],
  .ret (.var 1)]
/-- land, place; slots land place one -/
def k__law_near (i__law_places : Nat) : List St := [.ret (.lc1 (.var 2) (.nm 2) (.call i__law_places [.var 0]) (.cmp .eq (.bin .add (.bi .abs [.bin .sub (.idx (.var 2) (.lit (.int 0))) (.idx (.var 1) (.lit (.int 0)))]) (.bi .abs [.bin .sub (.idx (.var 2) (.lit (.int 1))) (.idx (.var 1) (.lit (.int 1)))])) (.lit (.int 1))))]
/-- land, place; slots land place -/
def k__law_high : List St := [.ret (.idx (.idx (.var 0) (.idx (.var 1) (.lit (.int 0)))) (.idx (.var 1) (.lit (.int 1))))]
/-- cup, land, steps; slots cup land steps found turn near -/
def k__law_walk (i__law_some i__law_places i__law_near : Nat) : List St := [.asg (.nm 3) (.tup [.call i__law_some [.var 0, .call i__law_places [.var 1]]]),
  .for_ (.nm 4) (.rng1 (.roll (.var 0) (.bin .add (.var 2) (.lit (.int 1))))) [.asg (.nm 5) (.call i__law_near [.var 1, .idx (.var 3) (.neg (.lit (.int 1)))]),
    .asg (.nm 3) (.bin .add (.var 3) (.ite (.cmp .ne (.var 5) (.lst [])) (.tup [.call i__law_some [.var 0, .var 5]]) (.tup [])))],
  .ret (.var 3)]
mutual
def sane : PV → Bool
  | .dict _ => false
  | .tuple xs => sanes xs
  | .list xs => sanes xs
  | _ => true
def sanes : List PV → Bool
  | [] => true
  | x :: xs => sane x && sanes xs
end
theorem sane_sp {v : PV} (h : sane v = true) : notSp v = true := by
  cases v <;> first | rfl | cases h
theorem sanes_mem : ∀ {xs : List PV}, sanes xs = true → ∀ x ∈ xs, sane x = true
  | [], _, _, h => by cases h
  | x :: xs, h, y, hy => by
    unfold sanes at h
    rw [Bool.and_eq_true] at h
    rcases List.mem_cons.mp hy with e | hy
    · rw [e]; exact h.1
    · exact sanes_mem h.2 y hy
theorem sanes_of : ∀ {xs : List PV}, (∀ x ∈ xs, sane x = true) → sanes xs = true
  | [], _ => rfl
  | x :: xs, h => by
    unfold sanes
    rw [h x List.mem_cons_self, sanes_of fun y hy => h y (List.mem_cons_of_mem _ hy)]
    rfl
def isW (v : PV) (lo hi : Int) : Bool := match v with
  | .int i => decide (lo ≤ i) && decide (i ≤ hi)
  | _ => false
def isT (v : PV) (lo hi : Int) : Bool := match v with
  | .tuple xs => decide (lo ≤ (xs.length : Int)) && decide ((xs.length : Int) ≤ hi)
  | _ => false
section
variable {C : Nat → List PV → M PV} {G : List PV}
def S_is_whole (C : Nat → List PV → M PV) (i : Nat) : Prop := ∀ v lo hi, notSp v = true → C i [v, .int lo, .int hi] = pu (.bool (isW v lo hi))
def S_is_tuple_of (C : Nat → List PV → M PV) (i : Nat) : Prop := ∀ v lo hi, notSp v = true → C i [v, .int lo, .int hi] = pu (.bool (isT v lo hi))
theorem b_is_whole (v : PV) (lo hi : Int) (hv : notSp v = true) : endF (denB C G k_is_whole (startE 3 [v, .int lo, .int hi])) = pu (.bool (isW v lo hi)) := by
  unfold k_is_whole
  cases v <;> simp [startE, denB, denS, denE, denEs, getV, gd_yes, isTy, hv, isW]
  rename_i i
  by_cases h : lo ≤ i <;> simp [h]
theorem b_is_tuple_of (v : PV) (lo hi : Int) (hv : notSp v = true) : endF (denB C G k_is_tuple_of (startE 3 [v, .int lo, .int hi])) = pu (.bool (isT v lo hi)) := by
  unfold k_is_tuple_of
  cases v <;> simp [startE, denB, denS, denE, denEs, getV, gd_yes, isTy, hv, isT]
  rename_i i
  by_cases h : lo ≤ (i.length : Int) <;> simp [h]
/-- the rows are tuples of that many heights -/
def rowsB (rows : List PV) (wide : Int) : Bool := rows.all (fun r => isT r wide wide) && rows.all fun r => match r with
  | .tuple cs => cs.all fun c => isW c 0 9
  | _ => false
def landB (v : PV) : Bool := match v with
  | .tuple (.tuple r0 :: rows) => decide (((.tuple r0 :: rows : List PV).length : Int) ≤ 6) && (decide (1 ≤ (r0.length : Int)) && (decide ((r0.length : Int) ≤ 6) && rowsB (.tuple r0 :: rows) r0.length))
  | _ => false
def S_fits_land (C : Nat → List PV → M PV) (i : Nat) : Prop := ∀ v, sane v = true → C i [v] = pu (.bool (landB v))
theorem and_all {α : Type} (xs : List α) (p q : α → Bool) : (xs.all p && xs.all q) = xs.all fun x => p x && q x := by
  induction xs with
  | nil => rfl
  | cons x xs ih =>
    simp only [List.all_cons, ← ih]
    cases p x <;> cases q x <;> simp
theorem all_map_bool {α : Type} (xs : List α) (p : α → Bool) : pBi .all [.list (xs.map fun x => PyData.bool (p x))] = pu (.bool (xs.all p)) := by
  have : (xs.map fun x => PyData.bool (p x)) = (xs.map p).map PyData.bool := by rw [List.map_map]; rfl
  rw [this, all_bools]
  congr 2
  rw [List.all_map]
  rfl
theorem filterMap_some {α β : Type} (f : α → β) (xs : List α) : xs.filterMap (fun x => some (f x)) = xs.map f := by
  induction xs with
  | nil => rfl
  | cons x xs ih =>
    show (f x :: List.filterMap (fun x => some (f x)) xs) = f x :: List.map f xs
    rw [ih]
@[simp] theorem isT_tuple (xs : List PV) (lo hi : Int) : isT (.tuple xs) lo hi = (decide (lo ≤ (xs.length : Int)) && decide ((xs.length : Int) ≤ hi)) := rfl
theorem landB_tuple (r0 rows : List PV) : landB (.tuple (.tuple r0 :: rows)) = (decide (((.tuple r0 :: rows : List PV).length : Int) ≤ 6) && (decide (1 ≤ (r0.length : Int)) && (decide ((r0.length : Int) ≤ 6) && rowsB (.tuple r0 :: rows) r0.length))) := rfl
theorem b_fits_land {a b s h : Nat} (h1 : S_is_tuple_of C a) (h2 : S_is_whole C b) (g1 : G[s]? = some (.int 6)) (g2 : G[h]? = some (.int 9)) (v : PV) (hv : sane v = true) : endF (denB C G (k_fits_land a b s h) (startE 4 [v])) = pu (.bool (landB v)) := by
  unfold k_fits_land
  have e1 := h1 v 1 6 (sane_sp hv)
  cases v with
  | tuple rows =>
    cases rows with
    | nil => simp [startE, denB, denS, denE, denEs, getV, g1, g2, e1, isT, landB]
    | cons r0 rows =>
      have hr : ∀ r ∈ r0 :: rows, sane r = true := sanes_mem hv
      have e2 := h1 r0 1 6 (sane_sp (hr r0 List.mem_cons_self))
      by_cases c1 : ((r0 :: rows).length : Int) ≤ 6
      · have t1 : isT (.tuple (r0 :: rows)) 1 6 = true := by
          rw [isT_tuple, decide_eq_true c1, decide_eq_true (by simp; omega)]
          rfl
        rw [t1] at e1
        by_cases c2 : isT r0 1 6 = true
        · cases r0 <;> first | cases c2 | skip
          rename_i cs
          rw [c2] at e2
          have e3 : ∀ r ∈ PyData.tuple cs :: rows, C a [r, .int cs.length, .int cs.length] = pu (.bool (isT r cs.length cs.length)) := fun r hm => h1 r _ _ (sane_sp (hr r hm))
          rw [isT_tuple, Bool.and_eq_true] at c2
          rw [landB_tuple, decide_eq_true c1, c2.1, c2.2]
          simp [startE, denB, denS, denE, denEs, getV, wipeE, g1, g2, e1, e2, pIdx, at?]
          have hlen : (PyData.tuple cs :: rows).length ≤ 6 := by omega
          clear e1 t1 hv c1
          generalize PyData.tuple cs :: rows = rs at *
          rw [mfm_pu (g := fun r => some (.bool (isT r cs.length cs.length))) (fun r hm => by rw [e3 r hm]; rfl), filterMap_some]
          simp only [bd_pu, noX_pu]
          rw [all_map_bool]
          unfold rowsB
          by_cases c3 : (rs.all fun r => isT r cs.length cs.length) = true
          · have c3' := List.all_eq_true.mp c3
            have ht : ∀ r ∈ rs, ∃ ds : List PV, r = .tuple ds ∧ ds.length = cs.length := fun r hm => by
              have := c3' r hm
              cases r <;> first | cases this | skip
              rename_i ds
              rw [isT_tuple, Bool.and_eq_true] at this
              exact ⟨ds, rfl, by have h1 := of_decide_eq_true this.1; have h2 := of_decide_eq_true this.2; omega⟩
            let gg : PV → List PV := fun r => match r with
              | .tuple ds => ds.map fun c => PyData.bool (isW c 0 9)
              | _ => []
            have hgl : ∀ r ∈ rs, (gg r).length = cs.length := fun r hm => by
              obtain ⟨ds, e, hl⟩ := ht r hm
              subst e
              show (ds.map _).length = _
              rw [List.length_map, hl]
            have hsum : ∀ l : List PV, (∀ r ∈ l, (gg r).length = cs.length) → (l.flatMap gg).length = l.length * cs.length := fun l hl => by
              induction l with
              | nil => simp
              | cons r l ih => rw [List.flatMap_cons, List.length_append, hl r List.mem_cons_self, ih fun r hr => hl r (List.mem_cons_of_mem _ hr), List.length_cons, Nat.add_mul]; omega
            have hb : rs.length * cs.length ≤ 6 * 6 := Nat.mul_le_mul hlen (by have := of_decide_eq_true c2.2; omega)
            rw [c3]
            simp [startE, denB, denS, denE, denEs, getV, wipeE, g1, g2]
            rw [mfl_pu (g := gg) (B := LINE) (by rw [hsum rs hgl]; show 0 + _ ≤ 16777216; omega) fun r hm acc ha => ?_]
            · simp only [bd_pu, noX_pu, List.nil_append]
              have e : rs.flatMap gg = (rs.flatMap fun r => match r with
                | .tuple ds => ds.map fun c => isW c 0 9
                | _ => []).map PyData.bool := by
                rw [List.map_flatMap]
                congr 1
                funext r
                cases r <;> first | rfl | skip
                show List.map _ _ = List.map _ (List.map _ _)
                rw [List.map_map]
                rfl
              rw [e, all_bools]
              simp only [bd_pu, thenF_pu, thenK_rt, endF_rt]
              congr 2
              rw [List.all_flatMap]
              clear e e3 hr hlen hgl hsum hb c3 c3'
              induction rs with
              | nil => rfl
              | cons r rs ih =>
                obtain ⟨ds, e, _⟩ := ht r List.mem_cons_self
                subst e
                rw [List.all_cons, List.all_cons, ih fun r hr => ht r (List.mem_cons_of_mem _ hr)]
                congr 1
                show (ds.map _).all id = ds.all _
                rw [List.all_map]
                rfl
            · obtain ⟨ds, e, hl⟩ := ht r hm
              subst e
              have hs := sanes_mem (hr _ hm)
              have hgr : (gg (.tuple ds)).length = ds.length := by show (ds.map _).length = _; rw [List.length_map]
              rw [hgr] at ha
              rw [iterV_tuple, bd_pu, gd_yes ha, mfm_pu (g := fun c => some (.bool (isW c 0 9))) (fun c hc => by rw [h2 c 0 9 (sane_sp (hs c hc))]; rfl), filterMap_some]
              rfl
          · have c3 : (rs.all fun r => isT r cs.length cs.length) = false := by simpa using c3
            rw [c3]
            simp
        · have c2 : isT r0 1 6 = false := by simpa using c2
          rw [c2] at e2
          have : landB (.tuple (r0 :: rows)) = false := by
            cases r0 <;> first | rfl | skip
            rw [isT_tuple, Bool.and_eq_false_iff] at c2
            rw [landB_tuple]
            rcases c2 with c2 | c2 <;> rw [c2] <;> simp
          rw [this]
          simp [startE, denB, denS, denE, denEs, getV, g1, g2, e1, e2, pIdx, at?]
      · have t1 : isT (.tuple (r0 :: rows)) 1 6 = false := by
          rw [isT_tuple, decide_eq_false c1]
          simp
        rw [t1] at e1
        have : landB (.tuple (r0 :: rows)) = false := by
          cases r0 <;> first | rfl | skip
          rw [landB_tuple, decide_eq_false c1]
          rfl
        rw [this]
        simp [startE, denB, denS, denE, denEs, getV, g1, g2, e1]
  | _ => simp [startE, denB, denS, denE, denEs, getV, g1, g2, e1, isT, landB]
/-! ### proper lands, places -/
abbrev Pl := Int × Int
def plE (p : Pl) : PV := .tuple [.int p.1, .int p.2]
def rowE (r : List Int) : PV := .tuple (r.map PyData.int)
def landE (L : List (List Int)) : PV := .tuple (L.map rowE)
def AR : List Pl := [(-1, 0), (0, -1), (0, 1), (1, 0)]
def arE : PV := .tuple (AR.map plE)
def row0 (L : List (List Int)) : List Int := L.headD []
def wid (L : List (List Int)) : Nat := (row0 L).length
structure Land (L : List (List Int)) : Prop where
  rl : 1 ≤ L.length
  ru : L.length ≤ 6
  wl : 1 ≤ wid L
  wu : wid L ≤ 6
  rows : ∀ r ∈ L, r.length = wid L
  hts : ∀ r ∈ L, ∀ h ∈ r, 0 ≤ h ∧ h ≤ 9
def inB (L : List (List Int)) (p : Pl) : Bool := decide (0 ≤ p.1) && decide (p.1 < (L.length : Int)) && (decide (0 ≤ p.2) && decide (p.2 < (wid L : Int)))
def hgt (L : List (List Int)) (p : Pl) : Int := (L.getD p.1.toNat []).getD p.2.toNat 0
theorem inB_of {L : List (List Int)} {p : Pl} (h : inB L p = true) : 0 ≤ p.1 ∧ p.1 < (L.length : Int) ∧ 0 ≤ p.2 ∧ p.2 < (wid L : Int) := by
  unfold inB at h
  rw [Bool.and_eq_true, Bool.and_eq_true, Bool.and_eq_true] at h
  exact ⟨of_decide_eq_true h.1.1, of_decide_eq_true h.1.2, of_decide_eq_true h.2.1, of_decide_eq_true h.2.2⟩
theorem idx_nat {xs : List PV} {i : Int} {v : PV} (h0 : 0 ≤ i) (h : xs[i.toNat]? = some v) : pIdx (.tuple xs) (.int i) = pu v ∧ pIdx (.list xs) (.int i) = pu v := by
  have e : at? xs i = some v := by
    unfold at?
    rw [if_pos h0, h]
  exact ⟨by show ofO (at? xs i) = _; rw [e]; rfl, by show ofO (at? xs i) = _; rw [e]; rfl⟩
theorem Land.idx {L : List (List Int)} {i : Int} (h0 : 0 ≤ i) (h1 : i < (L.length : Int)) : pIdx (landE L) (.int i) = pu (rowE (L.getD i.toNat [])) := by
  refine (idx_nat h0 ?_).1
  rw [List.getElem?_map, List.getD_eq_getElem?_getD]
  have : i.toNat < L.length := by omega
  simp [this]
theorem Land.idx0 {L : List (List Int)} (l : Land L) : pIdx (landE L) (.int 0) = pu (rowE (row0 L)) := by
  rw [Land.idx (by decide) (by have := l.rl; omega)]
  cases L with
  | nil => have := l.rl; cases this
  | cons r L => rfl
theorem row_idx {r : List Int} {i : Int} (h0 : 0 ≤ i) (h1 : i < (r.length : Int)) : pIdx (rowE r) (.int i) = pu (.int (r.getD i.toNat 0)) := by
  refine (idx_nat h0 ?_).1
  rw [List.getElem?_map, List.getD_eq_getElem?_getD]
  have : i.toNat < r.length := by omega
  simp [this]
theorem Land.row {L : List (List Int)} (l : Land L) {i : Int} (h0 : 0 ≤ i) (h1 : i < (L.length : Int)) : (L.getD i.toNat []).length = wid L := by
  apply l.rows
  have : i.toNat < L.length := by omega
  rw [List.getD_eq_getElem?_getD, List.getElem?_eq_getElem this]
  exact List.getElem_mem this
@[simp] theorem pl_idx0 (p : Pl) : pIdx (plE p) (.int 0) = pu (.int p.1) := rfl
@[simp] theorem pl_idx1 (p : Pl) : pIdx (plE p) (.int 1) = pu (.int p.2) := rfl
@[simp] theorem len_land (L : List (List Int)) : pBi .len [landE L] = pu (.int L.length) := by
  show pu (PyData.int _) = _
  rw [List.length_map]
@[simp] theorem len_row0 (L : List (List Int)) : pBi .len [rowE (row0 L)] = pu (.int (wid L)) := by
  show pu (PyData.int _) = _
  rw [List.length_map]
  rfl
@[simp] theorem len_row (r : List Int) : pBi .len [rowE r] = pu (.int r.length) := by
  show pu (PyData.int _) = _
  rw [List.length_map]
def S_height_at (C : Nat → List PV → M PV) (i : Nat) : Prop := ∀ L p, Land L → inB L p = true → C i [landE L, plE p] = pu (.int (hgt L p))
theorem b_height_at {L : List (List Int)} {p : Pl} (l : Land L) (h : inB L p = true) : endF (denB C G k_height_at (startE 2 [landE L, plE p])) = pu (.int (hgt L p)) := by
  obtain ⟨h1, h2, h3, h4⟩ := inB_of h
  unfold k_height_at
  simp [startE, denB, denS, denE, denEs, getV]
  rw [Land.idx h1 h2, bd_pu, row_idx h3 (by rw [l.row h1 h2]; exact h4)]
  rfl
def nextTo (L : List (List Int)) (p : Pl) : List Pl := (AR.map fun d => (p.1 + d.1, p.2 + d.2)).filter (inB L)
def S_next_to (C : Nat → List PV → M PV) (i : Nat) : Prop := ∀ L p, Land L → C i [landE L, plE p] = pu (.list ((nextTo L p).map plE))
@[simp] theorem bindT_pl (i j : Nat) (p : Pl) (ρ : Env) : bindT (.tp [.nm i, .nm j]) (plE p) ρ = pu ((ρ.set i (some (.int p.1))).set j (some (.int p.2))) := bindT_two i j _ _ ρ
theorem b_next_to {g : Nat} (hg : G[g]? = some arE) {L : List (List Int)} {p : Pl} (l : Land L) : endF (denB C G (k_next_to g) (startE 6 [landE L, plE p])) = pu (.list ((nextTo L p).map plE)) := by
  unfold k_next_to
  simp [startE, denB, denS, denE, denEs, getV, wipeE, hg, arE]
  rw [mfm_all (g := fun d => (p.1 + d.1, p.2 + d.2)) (eo := plE) (fun d hd => by simp; rfl)]
  simp
  rw [← List.map_map, mfm_filter (p := inB L) (fun q hq => ?_)]
  · rfl
  · have e0 := l.idx0
    by_cases h1 : 0 ≤ q.1 <;> by_cases h2 : q.1 < (L.length : Int) <;> by_cases h3 : 0 ≤ q.2 <;> by_cases h4 : q.2 < (wid L : Int) <;> simp [h1, h2, h3, h4, e0, inB, -len_row]
/-- a place of the land, of any value -/
def placeB (L : List (List Int)) (v : PV) : Bool := match v with
  | .tuple [a, b] => isW a 0 ((L.length : Int) - 1) && isW b 0 ((wid L : Int) - 1)
  | _ => false
def S_fits_place (C : Nat → List PV → M PV) (i : Nat) : Prop := ∀ L v, Land L → sane v = true → C i [landE L, v] = pu (.bool (placeB L v))
theorem b_fits_place {a b : Nat} (h1 : S_is_whole C a) (h2 : S_is_tuple_of C b) {L : List (List Int)} (l : Land L) {v : PV} (hv : sane v = true) : endF (denB C G (k_fits_place a b) (startE 2 [landE L, v])) = pu (.bool (placeB L v)) := by
  unfold k_fits_place
  have e1 := h2 v 2 2 (sane_sp hv)
  have e0 := l.idx0
  by_cases c : isT v 2 2 = true
  · cases v <;> first | cases c | skip
    rename_i xs
    rw [isT_tuple, Bool.and_eq_true] at c
    have hl : xs.length = 2 := by
      have h1 := of_decide_eq_true c.1
      have h2 := of_decide_eq_true c.2
      omega
    match xs, hl with
    | [x, y], _ =>
      have hs := sanes_mem hv
      have ex := h1 x 0 ((L.length : Int) - 1) (sane_sp (hs x (by simp)))
      have ey := h1 y 0 ((wid L : Int) - 1) (sane_sp (hs y (by simp)))
      have i0 : pIdx (.tuple [x, y]) (.int 0) = pu x := rfl
      have i1 : pIdx (.tuple [x, y]) (.int 1) = pu y := rfl
      by_cases cx : isW x 0 ((L.length : Int) - 1) = true
      · simp [startE, denB, denS, denE, denEs, getV, e1, e0, i0, i1, ex, cx, len_row0, ey, placeB, -len_row]
      · have cx : isW x 0 ((L.length : Int) - 1) = false := by simpa using cx
        simp [startE, denB, denS, denE, denEs, getV, e1, e0, i0, i1, ex, cx, placeB]
  · have c : isT v 2 2 = false := by simpa using c
    have : placeB L v = false := by
      unfold placeB
      split
      · rw [isT_tuple] at c
        simp at c
      · rfl
    rw [this]
    simp [startE, denB, denS, denE, denEs, getV, e1, c]
theorem placeB_pl {L : List (List Int)} {p : Pl} : placeB L (plE p) = inB L p := by
  show (isW (.int p.1) _ _ && isW (.int p.2) _ _) = _
  unfold isW inB
  simp only
  congr 1
  · congr 1
    exact decide_eq_decide.mpr ⟨fun h => by omega, fun h => by omega⟩
  · congr 1
    exact decide_eq_decide.mpr ⟨fun h => by omega, fun h => by omega⟩
/-- .. is one -/
theorem placeB_of {L : List (List Int)} {v : PV} (h : placeB L v = true) : ∃ p : Pl, v = plE p ∧ inB L p = true := by
  unfold placeB at h
  split at h
  · rename_i a b
    rw [Bool.and_eq_true] at h
    cases a <;> first | (exact absurd h.1 Bool.false_ne_true) | skip
    cases b <;> first | (exact absurd h.2 Bool.false_ne_true) | skip
    rename_i i j
    refine ⟨(i, j), rfl, ?_⟩
    rw [← placeB_pl]
    show (isW (.int i) _ _ && isW (.int j) _ _) = true
    rw [Bool.and_eq_true]
    exact h
  · cases h
theorem sane_land (L : List (List Int)) : sane (landE L) = true := by
  refine sanes_of fun x hx => ?_
  obtain ⟨r, _, e⟩ := List.mem_map.mp hx
  rw [← e]
  refine sanes_of fun x hx => ?_
  obtain ⟨i, _, e⟩ := List.mem_map.mp hx
  rw [← e]
  rfl
theorem sane_pl (p : Pl) : sane (plE p) = true := rfl
theorem flat_pl (p : Pl) : Flat 1 (plE p) := flat_tuple fun d hd => by
  rcases List.mem_cons.mp hd with e | hd
  · rw [e]; exact flat_int _
  · rw [List.mem_singleton.mp hd]; exact flat_int _
theorem flat_pls (ps : List Pl) : Flat 2 (.list (ps.map plE)) ∧ Flat 2 (.tuple (ps.map plE)) := by
  have h : ∀ d ∈ ps.map plE, Flat 1 d := fun d hd => by
    obtain ⟨p, _, e⟩ := List.mem_map.mp hd
    rw [← e]; exact flat_pl p
  exact ⟨flat_list h, flat_tuple h⟩
theorem eqP_pl (p q : Pl) : eqP (plE p) (plE q) = decide (p = q) := by
  show PyData.eqv (.tuple [.int p.1, .int p.2]) (.tuple [.int q.1, .int q.2]) = _
  simp only [PyData.eqv, PyData.eqvAll, Bool.and_true]
  obtain ⟨a, b⟩ := p
  obtain ⟨c, d⟩ := q
  by_cases h1 : a = c <;> by_cases h2 : b = d <;> simp [h1, h2]
theorem in_pls (p : Pl) (ps : List Pl) : pIn (plE p) (.list (ps.map plE)) = pu (.bool (decide (p ∈ ps))) := by
  show gd _ (pu (PyData.bool ((ps.map plE).any fun z => eqP z (plE p)))) = _
  rw [gd_yes ⟨(flat_pl p).shp (by decide), (flat_pls ps).1.shp (by decide)⟩, List.any_map]
  congr 2
  rw [Bool.eq_iff_iff, List.any_eq_true, decide_eq_true_iff]
  constructor
  · rintro ⟨q, hq, h⟩
    have h : eqP (plE q) (plE p) = true := h
    rw [eqP_pl] at h
    rw [← of_decide_eq_true h]
    exact hq
  · intro h
    refine ⟨p, h, ?_⟩
    show eqP (plE p) (plE p) = true
    rw [eqP_pl]
    exact decide_eq_true rfl
@[simp] theorem isin_pls (p : Pl) (ps : List Pl) : pCmp .isin (plE p) (.list (ps.map plE)) = pu (.bool (decide (p ∈ ps))) := in_pls p ps
@[simp] theorem notin_pls (p : Pl) (ps : List Pl) : pCmp .notin (plE p) (.list (ps.map plE)) = pu (.bool (!decide (p ∈ ps))) := by
  show nB (pIn _ _) = _
  rw [in_pls]
  rfl
def S_climb_between (C : Nat → List PV → M PV) (i : Nat) : Prop := ∀ L p q, Land L → inB L p = true → inB L q = true → C i [landE L, plE p, plE q] = pu (.int (if hgt L q - hgt L p > 0 then hgt L q - hgt L p else 0))
theorem b_climb_between {a : Nat} (h1 : S_height_at C a) {L : List (List Int)} {p q : Pl} (l : Land L) (hp : inB L p = true) (hq : inB L q = true) :
    endF (denB C G (k_climb_between a) (startE 3 [landE L, plE p, plE q])) = pu (.int (if hgt L q - hgt L p > 0 then hgt L q - hgt L p else 0)) := by
  unfold k_climb_between
  simp [startE, denB, denS, denE, denEs, getV, h1 L q l hq, h1 L p l hp, pBi]
/-- pairs of neighbours in a row -/
def pairs (ps : List Pl) : List (Pl × Pl) := ps.zip ps.tail
def prE (x : Pl × Pl) : PV := .tuple [plE x.1, plE x.2]
theorem zip_enc : ∀ (xs ys : List Pl), zipP (xs.map plE) (ys.map plE) = (xs.zip ys).map prE
  | [], _ => by unfold zipP; rfl
  | _ :: _, [] => by unfold zipP; rfl
  | x :: xs, y :: ys => by
    rw [List.map_cons, List.map_cons, List.zip_cons_cons, List.map_cons]
    unfold zipP
    rw [zip_enc xs ys]
    rfl
theorem slc_tail (xs : List PV) : pSlc (.tuple xs) (.int 1) .none = pu (.tuple xs.tail) := by
  cases xs with
  | nil => rfl
  | cons x xs =>
    show pu (PyData.tuple (cut (x :: xs) (if (1 : Int) < 0 then _ else min (1 : Int).toNat (xs.length + 1)) (xs.length + 1))) = _
    unfold cut
    rw [if_neg (by decide)]
    have : min (1 : Int).toNat (xs.length + 1) = 1 := by
      show min 1 _ = 1
      omega
    rw [this]
    show pu (PyData.tuple (xs.take (xs.length + 1 - 1))) = _
    rw [Nat.add_sub_cancel, List.take_length]
    rfl
theorem zip_pairs (ps : List Pl) : pZip (.tuple (ps.map plE)) (.tuple ((ps.map plE).tail)) = pu (.list ((pairs ps).map prE)) := by
  show pu (PyData.list _) = _
  rw [← List.map_tail, zip_enc]
  rfl
theorem slc_tail_pls (ps : List Pl) : pSlc (.tuple (ps.map plE)) (.int 1) .none = pu (.tuple ((ps.map plE).tail)) := slc_tail _
@[simp] theorem bindT_pr (i j : Nat) (x : Pl × Pl) (ρ : Env) : bindT (.tp [.nm i, .nm j]) (prE x) ρ = pu ((ρ.set i (some (plE x.1))).set j (some (plE x.2))) := bindT_two i j _ _ ρ
def walkP (L : List (List Int)) (ps : List Pl) : Bool := (pairs ps).all fun x => decide (x.2 ∈ nextTo L x.1)
/-- a walk, of any value -/
def isWalkB (L : List (List Int)) (v : PV) : Prop := ∃ ps : List Pl, v = .tuple (ps.map plE) ∧ ps ≠ [] ∧ ∀ p ∈ ps, inB L p = true
def S_fits_walk (C : Nat → List PV → M PV) (i : Nat) : Prop := ∀ L v n, Land L → sane v = true → Flat n v → n ≤ 64 → ((∀ ps : List Pl, v = .tuple (ps.map plE) → ps ≠ [] → (∀ p ∈ ps, inB L p = true) → C i [landE L, v] = pu (.bool (walkP L ps))) ∧ (¬ isWalkB L v → C i [landE L, v] = pu (.bool false)))
theorem flat_nilT : Flat 1 (.tuple []) := flat_tuple fun d hd => by cases hd
theorem flat_nilL : Flat 1 (.list []) := flat_list fun d hd => by cases hd
theorem eqP_nilT (xs : List PV) : eqP (.tuple xs) (.tuple []) = xs.isEmpty := by cases xs <;> rfl
theorem b_fits_walk {a b : Nat} (h1 : S_fits_place C a) (h2 : S_next_to C b) {L : List (List Int)} (l : Land L) {v : PV} {n : Nat} (hv : sane v = true) (hf : Flat n v) (hn : n ≤ 64) :
    (∀ ps : List Pl, v = .tuple (ps.map plE) → ps ≠ [] → (∀ p ∈ ps, inB L p = true) → endF (denB C G (k_fits_walk a b) (startE 5 [landE L, v])) = pu (.bool (walkP L ps))) ∧ (¬ isWalkB L v → endF (denB C G (k_fits_walk a b) (startE 5 [landE L, v])) = pu (.bool false)) := by
  unfold k_fits_walk
  have ev : isD v = false := by cases v <;> first | rfl | cases hv
  have e1 := eq_flat hf flat_nilT hn (by decide) (.inl ev)
  refine ⟨fun ps e hne hin => ?_, fun hw => ?_⟩
  · subst e
    rw [eqP_nilT] at e1
    have e2 : (ps.map plE).isEmpty = false := by cases ps with | nil => exact absurd rfl hne | cons => rfl
    rw [e2] at e1
    simp [startE, denB, denS, denE, denEs, getV, wipeE, e1, isTy]
    rw [mfm_map (g := fun p => some (.bool true)) (fun p hp => by rw [h1 L (plE p) l (sane_pl p), placeB_pl, hin p hp]; rfl), filterMap_some]
    simp only [bd_pu, noX_pu]
    rw [all_map_bool ps fun _ => true, List.all_eq_true.mpr fun _ _ => rfl]
    simp [partOk, slc_tail_pls, zip_pairs, denB, denS, denE, denEs, getV, wipeE, -List.map_tail]
    rw [mfm_map (g := fun x => some (.bool (decide (x.2 ∈ nextTo L x.1)))) (fun x hx => by simp [h2 L x.1 l]), filterMap_some]
    simp only [bd_pu, noX_pu]
    rw [all_map_bool]
    rfl
  · cases v <;> first | (simp [startE, denB, denS, denE, denEs, getV, isTy]; done) | (cases hv; done) | skip
    rename_i xs
    rw [eqP_nilT] at e1
    cases xs with
    | nil =>
      simp only [List.isEmpty_nil] at e1
      simp [startE, denB, denS, denE, denEs, getV, wipeE, e1, isTy]
    | cons x xs =>
      simp only [List.isEmpty_cons] at e1
      have hs := sanes_mem hv
      generalize hys : x :: xs = ys at *
      have hall : ys.all (placeB L) = false := by
        rw [Bool.eq_false_iff]
        intro hc
        have hc := List.all_eq_true.mp hc
        have : ∀ zs : List PV, (∀ z ∈ zs, placeB L z = true) → ∃ ps : List Pl, zs = ps.map plE ∧ ∀ p ∈ ps, inB L p = true := fun zs hz => by
          induction zs with
          | nil => exact ⟨[], rfl, fun _ h => by cases h⟩
          | cons z zs ih =>
            obtain ⟨p, e, hp⟩ := placeB_of (hz z List.mem_cons_self)
            obtain ⟨ps, e2, hps⟩ := ih fun z h => hz z (List.mem_cons_of_mem _ h)
            refine ⟨p :: ps, by rw [e, e2]; rfl, fun q hq => ?_⟩
            rcases List.mem_cons.mp hq with e | hq
            · rw [e]; exact hp
            · exact hps q hq
        obtain ⟨ps, e, hps⟩ := this ys hc
        refine hw ⟨ps, by rw [e], fun h => ?_, hps⟩
        subst h
        rw [e] at hys
        cases hys
      simp [startE, denB, denS, denE, denEs, getV, wipeE, e1, isTy]
      rw [mfm_pu (g := fun x => some (.bool (placeB L x))) (fun x hx => by rw [h1 L x l (hs x hx)]; rfl), filterMap_some]
      simp only [bd_pu, noX_pu]
      rw [all_map_bool, hall]
      simp
theorem b_need_land {a e : Nat} (h : S_fits_land C a) {v : PV} (hv : sane v = true) : endF (denB C G (k_need_land a e) (startE 1 [v])) = (if landB v = true then pu .none else rz (errV e [])) := by
  unfold k_need_land
  by_cases c : landB v = true
  · rw [if_pos c]
    simp [startE, denB, denS, denE, denEs, getV, h v hv, c]
  · rw [if_neg c]
    have c : landB v = false := by simpa using c
    simp [startE, denB, denS, denE, denEs, getV, h v hv, c]
theorem landB_land {L : List (List Int)} (l : Land L) : landB (landE L) = true := by
  cases L with
  | nil => have := l.rl; cases this
  | cons r L =>
    have hr : ∀ x ∈ r :: L, x.length = r.length := fun x hx => l.rows x hx
    show landB (.tuple (.tuple (r.map PyData.int) :: L.map rowE)) = true
    rw [landB_tuple]
    have e1 : ((PyData.tuple (r.map PyData.int) :: L.map rowE : List PV).length : Int) ≤ 6 := by
      have := l.ru
      simp at this ⊢
      omega
    have e2 : (1 : Int) ≤ ((r.map PyData.int).length : Int) := by have := l.wl; rw [List.length_map]; show (1 : Int) ≤ (wid (r :: L) : Int); omega
    have e3 : ((r.map PyData.int).length : Int) ≤ 6 := by have := l.wu; rw [List.length_map]; show (wid (r :: L) : Int) ≤ 6; omega
    rw [decide_eq_true e1, decide_eq_true e2, decide_eq_true e3]
    show rowsB ((r :: L).map rowE) _ = true
    unfold rowsB
    rw [Bool.and_eq_true, List.all_eq_true, List.all_eq_true]
    refine ⟨fun x hx => ?_, fun x hx => ?_⟩
    · obtain ⟨y, hy, e⟩ := List.mem_map.mp hx
      subst e
      show isT (.tuple (y.map PyData.int)) _ _ = true
      rw [isT_tuple, List.length_map, List.length_map, hr y hy]
      simp
    · obtain ⟨y, hy, e⟩ := List.mem_map.mp hx
      subst e
      show (y.map PyData.int).all _ = true
      rw [List.all_eq_true]
      intro c hc
      obtain ⟨i, hi, e⟩ := List.mem_map.mp hc
      subst e
      obtain ⟨b1, b2⟩ := l.hts y hy i hi
      show (decide (0 ≤ i) && decide (i ≤ 9)) = true
      rw [decide_eq_true b1, decide_eq_true b2]
      rfl
/-! ### the laws' own -/
def S_some (C : Nat → List PV → M PV) (i : Nat) : Prop := ∀ (xs : List PV) (Q E : PV → Prop), xs ≠ [] → xs.length ≤ LINE → (∀ x ∈ xs, Q x) → C i [cupV, .list xs] Q E
theorem isCup_cup : isCup cupV = true := rfl
theorem b_some (xs : List PV) (Q E : PV → Prop) (hne : xs ≠ []) (hl : xs.length ≤ LINE) (q : ∀ x ∈ xs, Q x) : endF (denB C G k__law_some (startE 2 [cupV, .list xs])) Q E := by
  unfold k__law_some
  simp [startE, denB, denS, denE, denEs, getV, isCup_cup, bd_bd, thenF, endF_eq]
  have hl : xs.length ≤ 16777216 := hl
  have h0 : 0 < xs.length := List.length_pos_iff.mpr hne
  refine bd_rl (by omega) (by omega) fun r r0 r1 => ?_
  have hr : r.toNat < xs.length := by omega
  have e := (idx_nat r0 (List.getElem?_eq_getElem hr)).2
  rw [e]
  exact q _ (List.getElem_mem hr)
theorem rng_map (n : Nat) : rng 0 (n : Int) = (List.range n).map fun (i : Nat) => PyData.int (i : Int) := by
  unfold rng
  rw [Int.sub_zero, Int.toNat_natCast]
  simp
def S_land (C : Nat → List PV → M PV) (i : Nat) : Prop := ∀ (Q E : PV → Prop), (∀ L, Land L → Q (landE L)) → C i [cupV, .int 6] Q E
theorem ints_ex : ∀ {ys : List PV} {P : Int → Prop}, (∀ y ∈ ys, ∃ i : Int, y = .int i ∧ P i) → ∃ is : List Int, ys = is.map PyData.int ∧ ∀ i ∈ is, P i
  | [], _, _ => ⟨[], rfl, fun _ h => by cases h⟩
  | y :: ys, P, h => by
    obtain ⟨i, e, hp⟩ := h y List.mem_cons_self
    obtain ⟨is, e2, hps⟩ := ints_ex fun z hz => h z (List.mem_cons_of_mem _ hz)
    refine ⟨i :: is, by rw [e, e2]; rfl, fun j hj => ?_⟩
    rcases List.mem_cons.mp hj with e | hj
    · rw [e]; exact hp
    · exact hps j hj
theorem rows_ex : ∀ {ys : List PV} {P : List Int → Prop}, (∀ y ∈ ys, ∃ r : List Int, y = rowE r ∧ P r) → ∃ L : List (List Int), ys = L.map rowE ∧ ∀ r ∈ L, P r
  | [], _, _ => ⟨[], rfl, fun _ h => by cases h⟩
  | y :: ys, P, h => by
    obtain ⟨i, e, hp⟩ := h y List.mem_cons_self
    obtain ⟨is, e2, hps⟩ := rows_ex fun z hz => h z (List.mem_cons_of_mem _ hz)
    refine ⟨i :: is, by rw [e, e2]; rfl, fun j hj => ?_⟩
    rcases List.mem_cons.mp hj with e | hj
    · rw [e]; exact hp
    · exact hps j hj
theorem b_land {a : Nat} (hs : S_some C a) (Q E : PV → Prop) (q : ∀ L, Land L → Q (landE L)) : endF (denB C G (k__law_land a) (startE 7 [cupV, .int 6])) Q E := by
  unfold k__law_land
  simp [startE, denB, denS, denE, denEs, getV, isCup_cup, bd_bd, thenF, endF_eq]
  refine bd_rl (by decide) (by decide) fun r r0 r1 => ?_
  simp
  refine bd_rl (by decide) (by decide) fun c c0 c1 => ?_
  simp
  rw [bd_app]
  refine hs [.int 2, .int 4, .int 10] _ _ (by simp) (by show 3 ≤ 16777216; decide) fun m hm => ?_
  obtain ⟨M, rfl, hM⟩ : ∃ M : Int, m = .int M ∧ 2 ≤ M ∧ M ≤ 10 := by
    simp at hm
    rcases hm with e | e | e <;> exact ⟨_, e, by decide, by decide⟩
  simp [setL, wipeE, isCup_cup]
  have rb1 : RB (1 + r) := ⟨by omega, by omega⟩
  have rb2 : RB (1 + c) := ⟨by omega, by omega⟩
  rw [gd_yes rb1, gd_yes rb2]
  show mfm _ _ _ _
  refine mfm_dem (P := fun y => ∃ row : List Int, y = rowE row ∧ (row.length = (1 + c).toNat ∧ ∀ h ∈ row, 0 ≤ h ∧ h ≤ 9)) (fun x _ Q q => ?_) fun ys hl hy => ?_
  · show mfm _ _ _ _
    refine mfm_dem (P := fun y => ∃ h : Int, y = .int h ∧ 0 ≤ h ∧ h ≤ 9) (fun x _ Q q => bd_rl (by omega) (by omega) fun h h0 h1 => q _ ⟨h, rfl, h0, by omega⟩) fun ys hl hy => ?_
    obtain ⟨row, e, hr⟩ := ints_ex (P := fun h => 0 ≤ h ∧ h ≤ 9) hy
    subst e
    rw [List.length_map, rng_len] at hl
    refine ⟨by rw [List.length_map]; show _ ≤ 16777216; omega, q _ ⟨row, rfl, by omega, hr⟩⟩
  · obtain ⟨L, e, hL⟩ := rows_ex (P := fun row => row.length = (1 + c).toNat ∧ ∀ h ∈ row, 0 ≤ h ∧ h ≤ 9) hy
    subst e
    rw [List.length_map, rng_len] at hl
    refine ⟨by rw [List.length_map]; show _ ≤ 16777216; omega, q L ?_⟩
    have hw : wid L = (1 + c).toNat := by
      cases L with
      | nil => simp at hl; omega
      | cons x L => exact (hL x List.mem_cons_self).1
    exact ⟨by omega, by omega, by omega, by omega, fun r hr => by rw [hw]; exact (hL r hr).1, fun r hr => (hL r hr).2⟩
def rowPl (L : List (List Int)) (r : Nat) : List Pl := (List.range (wid L)).map fun (c : Nat) => ((r : Int), (c : Int))
def allPl (L : List (List Int)) : List Pl := (List.range L.length).foldl (fun acc r => acc ++ rowPl L r) []
def S_places (C : Nat → List PV → M PV) (i : Nat) : Prop := ∀ L, Land L → C i [landE L] = pu (.list ((allPl L).map plE))
theorem places_len (L : List (List Int)) : ∀ (l : List Nat) (acc : List Pl), (l.foldl (fun acc r => acc ++ rowPl L r) acc).length = acc.length + l.length * wid L
  | [], acc => by simp
  | r :: l, acc => by
    rw [List.foldl_cons, places_len L l, List.length_append, List.length_cons, Nat.add_mul]
    unfold rowPl
    rw [List.length_map, List.length_range]
    omega
/-- the slots in the loop over rows -/
def evP (L : List (List Int)) (a : List Pl × Option PV) : Env := [some (landE L), some (.list (a.1.map plE)), a.2, none]
theorem b_places {L : List (List Int)} (l : Land L) : endF (denB C G k__law_places (startE 4 [landE L])) = pu (.list ((allPl L).map plE)) := by
  unfold k__law_places
  have hru := l.ru
  have hwu := l.wu
  have rb1 : RB (L.length : Int) := ⟨by omega, by omega⟩
  have rb2 : RB (wid L : Int) := ⟨by omega, by omega⟩
  have e0 := l.idx0
  simp [startE, denB, denS, denE, denEs, getV, wipeE, bd_bd, thenF, endF_eq]
  rw [gd_yes rb1]
  rw [rng_map, show ([some (landE L), some (PyData.list []), none, none] : Env) = evP L ([], none) from rfl]
  rw [forL_foldJ (J := fun n a => a.1.length + n * wid L ≤ 36) (ev := evP L) (step := fun a r => (a.1 ++ rowPl L r, some (.int (r : Nat))))]
  · simp only [bd_pu, thenK_nx]
    have : ∀ (xs : List Nat) (a : List Pl × Option PV), (xs.foldl (fun a r => (a.1 ++ rowPl L r, some (PyData.int (r : Nat)))) a).1 = xs.foldl (fun acc r => acc ++ rowPl L r) a.1 := fun xs => by
      induction xs with
      | nil => intro a; rfl
      | cons x xs ih => intro a; rw [List.foldl_cons, List.foldl_cons, ih]
    generalize hz : (List.range L.length).foldl (fun a r => (a.1 ++ rowPl L r, some (PyData.int (r : Nat)))) (([], none) : List Pl × Option PV) = z
    have hz1 : z.1 = allPl L := by rw [← hz, this]; rfl
    simp [evP, hz1]
  · show 0 + _ ≤ 36
    rw [List.length_range]
    have := Nat.mul_le_mul hru hwu
    omega
  · intro r hr n a j
    have hrow : (rowPl L r).length = wid L := by unfold rowPl; rw [List.length_map, List.length_range]
    have j : a.1.length + (n + 1) * wid L ≤ 36 := j
    rw [Nat.add_mul] at j
    refine ⟨?_, by show (a.1 ++ rowPl L r).length + _ ≤ 36; rw [List.length_append, hrow]; omega⟩
    simp [evP, e0, len_row0, -len_row]
    rw [gd_yes rb2]
    rw [rng_map, mfm_all (g := fun (c : Nat) => ((r : Int), (c : Int))) (eo := plE) (fun c hc => by rfl)]
    show bd (noX (pu (PyData.list ((rowPl L r).map plE)))) _ = _
    simp only [noX_pu, bd_pu]
    show bd (gd ((a.1.map plE).length + ((rowPl L r).map plE).length ≤ LINE) _) _ = _
    rw [gd_yes (by rw [List.length_map, List.length_map, hrow]; show _ ≤ 16777216; omega), ← List.map_append]
    rfl
theorem mem_allPl {L : List (List Int)} {p : Pl} : p ∈ allPl L ↔ inB L p = true := by
  have : ∀ (l : List Nat) (acc : List Pl), p ∈ l.foldl (fun acc r => acc ++ rowPl L r) acc ↔ p ∈ acc ∨ ∃ r ∈ l, p ∈ rowPl L r := fun l => by
    induction l with
    | nil => intro acc; simp
    | cons r l ih =>
      intro acc
      rw [List.foldl_cons, ih, List.mem_append]
      simp only [List.mem_cons, exists_eq_or_imp, or_assoc]
  unfold allPl
  rw [this]
  constructor
  · rintro (h | ⟨r, hr, h⟩)
    · cases h
    · unfold rowPl at h
      obtain ⟨c, hc, e⟩ := List.mem_map.mp h
      have hr := List.mem_range.mp hr
      have hc := List.mem_range.mp hc
      subst e
      unfold inB
      simp
      omega
  · intro h
    obtain ⟨h1, h2, h3, h4⟩ := inB_of h
    refine .inr ⟨p.1.toNat, List.mem_range.mpr (by omega), ?_⟩
    unfold rowPl
    refine List.mem_map.mpr ⟨p.2.toNat, List.mem_range.mpr (by omega), ?_⟩
    obtain ⟨a, b⟩ := p
    show ((a.toNat : Int), (b.toNat : Int)) = (a, b)
    have h1 : 0 ≤ a := h1
    have h3 : 0 ≤ b := h3
    rw [Int.toNat_of_nonneg h1, Int.toNat_of_nonneg h3]
def S_high (C : Nat → List PV → M PV) (i : Nat) : Prop := ∀ L p, Land L → inB L p = true → C i [landE L, plE p] = pu (.int (hgt L p))
theorem b_high {L : List (List Int)} {p : Pl} (l : Land L) (h : inB L p = true) : endF (denB C G k__law_high (startE 2 [landE L, plE p])) = pu (.int (hgt L p)) := b_height_at l h
def absI (i : Int) : Int := if i < 0 then -i else i
def besideB (p q : Pl) : Bool := decide (absI (q.1 - p.1) + absI (q.2 - p.2) = 1)
def nears (L : List (List Int)) (p : Pl) : List Pl := (allPl L).filter (besideB p)
def S_near (C : Nat → List PV → M PV) (i : Nat) : Prop := ∀ L p, Land L → C i [landE L, plE p] = pu (.list ((nears L p).map plE))
@[simp] theorem abs_int (i : Int) : pBi .abs [.int i] = pu (.int (absI i)) := rfl
theorem b_near {a : Nat} (h1 : S_places C a) {L : List (List Int)} {p : Pl} (l : Land L) : endF (denB C G (k__law_near a) (startE 3 [landE L, plE p])) = pu (.list ((nears L p).map plE)) := by
  unfold k__law_near
  simp [startE, denB, denS, denE, denEs, getV, wipeE, h1 L l]
  rw [mfm_filter (p := besideB p) (fun q hq => ?_)]
  · rfl
  · unfold besideB
    simp
    split <;> rfl
theorem mem_nears {L : List (List Int)} {p q : Pl} : q ∈ nears L p ↔ inB L q = true ∧ besideB p q = true := by
  unfold nears
  rw [List.mem_filter, mem_allPl]
theorem near_next {L : List (List Int)} {p q : Pl} : q ∈ nears L p ↔ q ∈ nextTo L p := by
  rw [mem_nears]
  unfold nextTo
  rw [List.mem_filter]
  constructor
  · rintro ⟨h1, h2⟩
    refine ⟨?_, h1⟩
    have h2 := of_decide_eq_true h2
    unfold absI at h2
    obtain ⟨a, b⟩ := p
    obtain ⟨c, d⟩ := q
    simp only [AR, List.map_cons, List.map_nil, List.mem_cons, Prod.mk.injEq, List.not_mem_nil, or_false]
    simp only at h2
    split at h2 <;> split at h2 <;> omega
  · rintro ⟨h1, h2⟩
    refine ⟨h2, decide_eq_true ?_⟩
    unfold absI
    obtain ⟨a, b⟩ := p
    obtain ⟨c, d⟩ := q
    simp only [AR, List.map_cons, List.map_nil, List.mem_cons, Prod.mk.injEq, List.not_mem_nil, or_false] at h1
    simp only
    split <;> split <;> omega
/-- a walk's places, one beside another -/
def Walk (L : List (List Int)) (ps : List Pl) : Prop := ps ≠ [] ∧ ∀ p ∈ ps, inB L p = true
def S_walk (C : Nat → List PV → M PV) (i : Nat) : Prop := ∀ (L : List (List Int)) (steps : Int) (Q E : PV → Prop), Land L → 0 ≤ steps → steps ≤ 1000 → (∀ ps, Walk L ps → (ps.length : Int) ≤ steps + 1 → Q (.tuple (ps.map plE))) → C i [cupV, landE L, .int steps] Q E
theorem idx_last (ps : List Pl) (h : ps ≠ []) : pIdx (.tuple (ps.map plE)) (.int (-1)) = pu (plE (ps.getLast h)) := by
  have e : at? (ps.map plE) (-1) = some (plE (ps.getLast h)) := by
    have hl : 0 < ps.length := List.length_pos_iff.mpr h
    unfold at?
    rw [if_neg (by decide), if_pos (by rw [List.length_map]; omega), List.length_map]
    have : (-1 + (ps.length : Int)).toNat = ps.length - 1 := by omega
    rw [this, List.getElem?_map, List.getLast_eq_getElem, List.getElem?_eq_getElem (by omega)]
    rfl
  show ofO (at? (ps.map plE) (-1)) = _
  rw [e]
  rfl
theorem flat_pls_l (ps : List Pl) : Flat 2 (.list (ps.map plE)) := (flat_pls ps).1
theorem ne_nilL (xs : List Pl) : pCmp .ne (.list (xs.map plE)) (.list []) = pu (.bool (!xs.isEmpty)) := by
  rw [ne_flat (flat_pls_l xs) flat_nilL (by decide) (by decide) (.inl rfl)]
  cases xs <;> rfl
theorem b_walk {a b d : Nat} (h1 : S_some C a) (h2 : S_places C b) (h3 : S_near C d) (mC : ∀ f vs, Mono (C f vs)) {L : List (List Int)} {steps : Int} {Q E : PV → Prop} (l : Land L) (s0 : 0 ≤ steps) (s1 : steps ≤ 1000)
    (q : ∀ ps, Walk L ps → (ps.length : Int) ≤ steps + 1 → Q (.tuple (ps.map plE))) : endF (denB C G (k__law_walk a b d) (startE 6 [cupV, landE L, .int steps])) Q E := by
  have hpl : (allPl L).length ≤ 36 := by
    unfold allPl
    rw [places_len]
    have := Nat.mul_le_mul l.ru l.wu
    simp
    omega
  have hpn : (allPl L).map plE ≠ [] := by
    have h1 := l.rl
    have h2 := l.wl
    have : ((0 : Int), (0 : Int)) ∈ allPl L := by
      rw [mem_allPl]
      unfold inB
      simp
      omega
    intro e
    rw [List.map_eq_nil_iff.mp e] at this
    cases this
  unfold k__law_walk
  simp [startE, denB, denS, denE, denEs, getV, wipeE, bd_bd, thenF, endF_eq, h2 L l, isCup_cup]
  rw [bd_app]
  refine h1 _ _ _ hpn (by rw [List.length_map]; show _ ≤ 16777216; omega) fun x hx => ?_
  obtain ⟨p, hp, rfl⟩ := List.mem_map.mp hx
  rw [mem_allPl] at hp
  refine bd_rl (by omega) (by omega) fun r r0 r1 => ?_
  rw [asI_int, gd_yes ⟨by omega, by omega⟩]
  simp only [bd_pu, iterV_list]
  rw [bd_app]
  refine forL_cps (I := fun k ρ => ∃ (ps : List Pl) (o4 o5 : Option PV), ρ = [some cupV, some (landE L), some (.int steps), some (.tuple (ps.map plE)), o4, o5] ∧ Walk L ps ∧ ps.length ≤ k + 1) (n := 0) ⟨[p], none, none, rfl, ⟨by simp, by simpa using hp⟩, by simp⟩ (fun ρ h => ?_) fun x hx k ρ hk h R rn _ _ _ => ?_
  · obtain ⟨ps, o4, o5, rfl, hw, hl⟩ := h
    rw [rng_len] at hl
    exact q ps hw (by omega)
  · obtain ⟨ps, o4, o5, rfl, hw, hl⟩ := h
    rw [rng_len] at hk
    have hne : ps ≠ [] := hw.1
    have nn : ∀ q ∈ nears L (ps.getLast hne), inB L q = true := fun q hq => (mem_nears.mp hq).1
    have nl : (nears L (ps.getLast hne)).length ≤ 36 := Nat.le_trans (List.length_filter_le _ _) hpl
    simp [idx_last ps hne, h3 L _ l, ne_nilL]
    generalize nears L (ps.getLast hne) = ns at *
    cases ns with
    | nil =>
      simp
      refine ⟨by rw [List.length_map]; show ps.length + 0 ≤ 16777216; omega, ?_⟩
      refine rn _ ⟨ps, some x, some (.list []), ?_, hw, by omega⟩
      rw [List.append_nil]
    | cons z ns =>
      simp
      rw [bd_bd, bd_app]
      have hlz : (plE z :: ns.map plE : List PV).length ≤ 36 := by
        rw [List.length_cons, List.length_map]
        rw [List.length_cons] at nl
        exact nl
      refine h1 (plE z :: ns.map plE) _ _ (by simp) (Nat.le_trans hlz (by show 36 ≤ 16777216; decide)) fun y hy => ?_
      obtain ⟨w, hw2, rfl⟩ := List.mem_map.mp (show y ∈ (z :: ns).map plE from hy)
      refine ⟨by rw [List.length_map]; show ps.length + 1 ≤ 16777216; omega, ?_⟩
      refine rn _ ⟨ps ++ [w], some x, some (.list (plE z :: ns.map plE)), ?_, ⟨by simp, fun u hu => ?_⟩, by rw [List.length_append]; simp; omega⟩
      · rw [List.map_append]
        rfl
      · rcases List.mem_append.mp hu with hu | hu
        · exact hw.2 u hu
        · rw [List.mem_singleton.mp hu]
          exact nn w hw2
/-! ### alike -/
mutual
/-- values that can be told apart part by part -/
def tellB : PV → Bool
  | .none => true
  | .bool _ => true
  | .int _ => true
  | .str x => PyData.canLay0 (.str x)
  | .tuple xs => decide (xs.length ≤ 1000000) && tellBs xs
  | _ => false
def tellBs : List PV → Bool
  | [] => true
  | x :: xs => tellB x && tellBs xs
end
theorem tellBs_mem : ∀ {xs : List PV}, tellBs xs = true → ∀ x ∈ xs, tellB x = true
  | [], _, _, h => by cases h
  | x :: xs, h, y, hy => by
    unfold tellBs at h
    rw [Bool.and_eq_true] at h
    rcases List.mem_cons.mp hy with e | hy
    · rw [e]; exact h.1
    · exact tellBs_mem h.2 y hy
def S_same (n : Nat) (C : Nat → List PV → M PV) (i : Nat) : Prop := ∀ v, tellB v = true → v.depth < n → C i [v, v] = pu (.bool true)
theorem depth_lt : ∀ {xs : List PV} {x : PV}, x ∈ xs → x.depth ≤ PyData.depthAll xs
  | _ :: _, _, h => by
    unfold PyData.depthAll
    rcases List.mem_cons.mp h with e | h
    · rw [e]; omega
    · have := depth_lt h; omega
theorem b_same {a n : Nat} (h : S_same n C a) {v : PV} (hv : tellB v = true) (hd : v.depth < n + 1) : endF (denB C G (k__law_same a) (startE 3 [v, v])) = pu (.bool true) := by
  unfold k__law_same
  cases v with
  | tuple xs =>
    obtain ⟨hl, hv⟩ := Bool.and_eq_true_iff.mp (show (decide (xs.length ≤ 1000000) && tellBs xs) = true from hv)
    have hl := of_decide_eq_true hl
    have hx := tellBs_mem hv
    have hdx : ∀ x ∈ xs, x.depth < n := fun x hm => by
      have := depth_lt hm
      unfold PyData.depth at hd
      omega
    simp [startE, denB, denS, denE, denEs, getV, wipeE, isTy]
    rw [gd_yes ⟨by omega, by omega⟩, rng_map, mfm_map (g := fun _ => some (.bool true)) (fun i hi => ?_), filterMap_some]
    · simp only [bd_pu, noX_pu]
      rw [all_map_bool (List.range xs.length) fun _ => true, List.all_eq_true.mpr fun _ _ => rfl]
      simp
    · have hi := List.mem_range.mp hi
      have e := (idx_nat (xs := xs) (i := (i : Int)) (by omega) (List.getElem?_eq_getElem (by simpa using hi))).1
      rw [e]
      simp only [bd_pu]
      have hm : xs[(i : Int).toNat] ∈ xs := List.getElem_mem _
      rw [h _ (hx _ hm) (hdx _ hm)]
      rfl
  | none => simp [startE, denB, denS, denE, denEs, getV, wipeE, isTy, isNone]
  | bool b => cases b <;> simp [startE, denB, denS, denE, denEs, getV, wipeE, isTy, isNone, isTrueV, isFalseV]
  | int i =>
    have : pBi .int [.int i] = pu (.int i) := rfl
    simp [startE, denB, denS, denE, denEs, getV, wipeE, isTy, isNone, this]
  | str x =>
    have e1 : pBi .str [.str x] = pu (.str x) := rfl
    have hf : Flat 0 (.str x) := ⟨hv, Nat.le_refl _⟩
    have e2 := eq_flat hf hf (by decide) (by decide) (.inl rfl)
    have e3 : eqP (.str x) (.str x) = true := by
      show (x == x) = true
      simp
    rw [e3] at e2
    simp [startE, denB, denS, denE, denEs, getV, wipeE, isTy, isNone, e1, e2]
  | list xs => cases hv
  | dict xs => cases hv
end
end HG
end
section
set_option maxHeartbeats 4000000
/-! HGSeq: statements one by one. -/
namespace HG
open PySem
section
variable {C : Nat → List PV → M PV} {G : List PV}
theorem sqd {s : St} {r : List St} {ρ : Env} {Q : Fl → Prop} {E : PV → Prop} (h : denS C G s ρ (fun f => thenK (denB C G r) f Q E) E) : denB C G (s :: r) ρ Q E := h
theorem sq {s : St} {r : List St} {ρ ρ' : Env} {Q : Fl → Prop} {E : PV → Prop} (h : denS C G s ρ = pu (.nx ρ')) (k : denB C G r ρ' Q E) : denB C G (s :: r) ρ Q E := by
  refine sqd ?_
  rw [h]
  exact k
theorem asg_of {i : Nat} {e : Ex} {ρ : Env} {v : PV} (h : denE C G e ρ = pu v) : denS C G (.asg (.nm i) e) ρ = pu (.nx (ρ.set i (some v))) := by
  unfold denS
  rw [h]
  rfl
theorem sqs {s : St} {r : List St} {ρ ρ' : Env} {m : M Fl} (h : denS C G s ρ = pu (.nx ρ')) (k : denB C G r ρ' = m) : denB C G (s :: r) ρ = m := by
  unfold denB
  rw [h]
  exact k
theorem mfm_ex {f : PV → M (Option PV)} {P : PV → Prop} : ∀ {xs : List PV}, (∀ x ∈ xs, ∃ y, f x = pu (some y) ∧ P y) → ∃ ys, mfm f xs = pu ys ∧ ys.length = xs.length ∧ ∀ y ∈ ys, P y
  | [], _ => ⟨[], rfl, rfl, fun _ h => by cases h⟩
  | x :: xs, h => by
    obtain ⟨y, e, p⟩ := h x List.mem_cons_self
    obtain ⟨ys, e2, hl, hp⟩ := mfm_ex fun z hz => h z (List.mem_cons_of_mem _ hz)
    refine ⟨y :: ys, ?_, congrArg Nat.succ hl, fun z hz => ?_⟩
    · unfold mfm
      rw [e, bd_pu, e2, bd_pu]
    · rcases List.mem_cons.mp hz with e | hz
      · rw [e]; exact p
      · exact hp z hz
theorem forL_ex {σ : Type} {b : PV → Env → M Fl} {ev : σ → Env} : ∀ {xs : List PV} {s : σ}, (∀ x ∈ xs, ∀ s, ∃ s', b x (ev s) = pu (.nx (ev s'))) → ∃ s', forL b xs (ev s) = pu (.nx (ev s'))
  | [], s, _ => ⟨s, rfl⟩
  | x :: xs, s, h => by
    obtain ⟨s1, e⟩ := h x List.mem_cons_self s
    obtain ⟨s2, e2⟩ := forL_ex (s := s1) fun y hy => h y (List.mem_cons_of_mem _ hy)
    refine ⟨s2, ?_⟩
    unfold forL
    rw [e, bd_pu, loopK_nx, e2]
/-- a loop whose turns all go on -/
theorem for_ex {σ : Type} {i : Nat} {e : Ex} {b : List St} {ev : σ → Env} {s : σ} {v : PV} {xs : List PV} (h : denE C G e (ev s) = pu v) (hv : iterV v = pu xs) (hb : ∀ x ∈ xs, ∀ s, ∃ s', denB C G b ((ev s).set i (some x)) = pu (.nx (ev s'))) : ∃ s', denS C G (.for_ (.nm i) e b) (ev s) = pu (.nx (ev s')) := by
  obtain ⟨s', h2⟩ := forL_ex (b := fun x ρ => bd (bindT (.nm i) x ρ) (denB C G b)) (s := s) (xs := xs) (ev := ev) fun x hx s => hb x hx s
  refine ⟨s', ?_⟩
  unfold denS
  rw [h, bd_pu, hv, bd_pu]
  exact h2
theorem asg_cps {i : Nat} {e : Ex} {r : List St} {ρ : Env} {R : Fl → Prop} {E : PV → Prop} (P : PV → Prop) (h : ∀ Q : PV → Prop, (∀ v, P v → Q v) → denE C G e ρ Q E) (k : ∀ v, P v → denB C G r (ρ.set i (some v)) R E) : denB C G (.asg (.nm i) e :: r) ρ R E := by
  refine sqd ?_
  unfold denS
  exact h _ k
/-- a slice's items are the tuple's -/
theorem slc_sub (xs : List PV) {lo hi : PV} (hl : partOk lo = true) (hh : partOk hi = true) : ∃ ys, pSlc (.tuple xs) lo hi = pu (.tuple ys) ∧ (∀ y ∈ ys, y ∈ xs) ∧ ys.length ≤ xs.length := by
  have h1 : ∃ a, clipI xs.length 0 lo = some a := by cases lo <;> first | exact ⟨_, rfl⟩ | exact absurd hl Bool.false_ne_true
  have h2 : ∃ b, clipI xs.length xs.length hi = some b := by cases hi <;> first | exact ⟨_, rfl⟩ | exact absurd hh Bool.false_ne_true
  obtain ⟨a, ea⟩ := h1
  obtain ⟨b, eb⟩ := h2
  refine ⟨cut xs a b, ?_, fun y hy => ?_, ?_⟩
  · show bd (ofO (clipI xs.length 0 lo)) _ = _
    rw [ea, ofO_some, bd_pu, eb, ofO_some, bd_pu]
  · unfold cut at hy
    exact List.mem_of_mem_drop (List.mem_of_mem_take hy)
  · unfold cut
    rw [List.length_take, List.length_drop]
    omega
theorem add_tuples (xs ys : List PV) (h : xs.length + ys.length ≤ 1000) : pBin .add (.tuple xs) (.tuple ys) = pu (.tuple (xs ++ ys)) := by
  show gd _ _ = _
  exact gd_yes (by show _ ≤ 16777216; omega)
theorem filterMap_ones {α : Type} (p : α → Bool) (xs : List α) : xs.filterMap (fun x => if p x = true then some (PyData.int 1) else none) = (xs.filter p).map fun _ => PyData.int 1 := by
  induction xs with
  | nil => rfl
  | cons x xs ih =>
    by_cases hp : p x = true
    · rw [List.filterMap_cons_some (by rw [if_pos hp]), List.filter_cons_of_pos hp, List.map_cons, ih]
    · rw [List.filterMap_cons_none (by rw [if_neg hp]), List.filter_cons_of_neg hp, ih]
theorem eq_ones {α : Type} (xs : List α) : pCmp .eq (.list (xs.map fun _ => PyData.int 1)) (.list []) = pu (.bool xs.isEmpty) := by
  have hf : Flat 1 (.list (xs.map fun _ => PyData.int 1)) := flat_list fun d hd => by
    obtain ⟨x, _, e⟩ := List.mem_map.mp hd
    rw [← e]; exact flat_int 1
  rw [eq_flat hf flat_nilL (by decide) (by decide) (.inl rfl)]
  cases xs <;> rfl
theorem filterMap_keep {α : Type} (p : α → Bool) (en : α → PV) (xs : List α) : xs.filterMap (fun x => if p x = true then some (en x) else none) = (xs.filter p).map en := by
  induction xs with
  | nil => rfl
  | cons x xs ih =>
    by_cases hp : p x = true
    · rw [List.filterMap_cons_some (by rw [if_pos hp]), List.filter_cons_of_pos hp, List.map_cons, ih]
    · rw [List.filterMap_cons_none (by rw [if_neg hp]), List.filter_cons_of_neg hp, ih]
end
end HG
end
section
set_option maxHeartbeats 400000
/-! HGLc: comprehensions of one clause, as a whole. -/
namespace HG
open PySem
section
variable {C : Nat → List PV → M PV} {G : List PV}
theorem lc1_filter {γ : Type} {c it : Ex} {k : Nat} {ρ : Env} {v : PV} {xs : List γ} {en : γ → PV} {p : γ → Bool} (hit : denE C G it ρ = pu v) (hv : iterV v = pu (xs.map en)) (hk : ∀ v : PV, getV ((wipeE ρ [k]).set k (some v)) k = pu v) (h : ∀ x ∈ xs, denE C G c ((wipeE ρ [k]).set k (some (en x))) = pu (.bool (p x))) :
    denE C G (.lc1 (.var k) (.nm k) it c) ρ = pu (.list ((xs.filter p).map en)) := by
  have e : ∀ a : Ex, denE C G (.lc1 a (.nm k) it c) ρ = noX (bd (denE C G it ρ) fun v => bd (iterV v) fun ys => bd (mfm (fun x => bd (bindT (.nm k) x (wipeE ρ [k])) fun ρ' => bd (denE C G c ρ') fun t => asB t fun t => if t then bd (denE C G a ρ') fun y => pu (some y) else pu none) ys) fun ys => pu (.list ys)) := fun _ => rfl
  rw [e, hit, bd_pu, hv, bd_pu, mfm_filter (en := en) (p := p) (fun x hx => by
    have ek : denE C G (.var k) ((wipeE ρ [k]).set k (some (en x))) = pu (en x) := hk (en x)
    rw [bindT_nm, bd_pu, h x hx, bd_pu, asB_bool, ek]
    cases p x <;> rfl)]
  rfl
theorem lc1_map {γ δ : Type} {a it : Ex} {k : Nat} {ρ : Env} {v : PV} {xs : List γ} {en : γ → PV} {eo : δ → PV} {g : γ → δ} (hit : denE C G it ρ = pu v) (hv : iterV v = pu (xs.map en)) (h : ∀ x ∈ xs, denE C G a ((wipeE ρ [k]).set k (some (en x))) = pu (eo (g x))) :
    denE C G (.lc1 a (.nm k) it (.lit (.bool true))) ρ = pu (.list ((xs.map g).map eo)) := by
  have e : ∀ c : Ex, denE C G (.lc1 a (.nm k) it c) ρ = noX (bd (denE C G it ρ) fun v => bd (iterV v) fun ys => bd (mfm (fun x => bd (bindT (.nm k) x (wipeE ρ [k])) fun ρ' => bd (denE C G c ρ') fun t => asB t fun t => if t then bd (denE C G a ρ') fun y => pu (some y) else pu none) ys) fun ys => pu (.list ys)) := fun _ => rfl
  rw [e, hit, bd_pu, hv, bd_pu, mfm_all (en := en) (g := g) (eo := eo) (fun x hx => by
    rw [bindT_nm, bd_pu, h x hx]
    rfl)]
  rfl
/-! ### two clauses -/
theorem mfl_map {γ : Type} {f : PV → List PV → M (List PV)} {en : γ → PV} {g : γ → List PV} {n B : Nat} : ∀ {xs : List γ} {acc : List PV}, acc.length + xs.length * n ≤ B → (∀ x ∈ xs, (g x).length ≤ n) → (∀ x ∈ xs, ∀ a : List PV, a.length + n ≤ B → f (en x) a = pu (a ++ g x)) → mfl f (xs.map en) acc = pu (acc ++ xs.flatMap g)
  | [], acc, _, _, _ => by rw [List.map_nil, List.flatMap_nil, List.append_nil]; rfl
  | x :: xs, acc, hb, hg, h => by
    rw [List.length_cons, Nat.succ_mul] at hb
    have hx := hg x List.mem_cons_self
    rw [List.map_cons]
    unfold mfl
    rw [h x List.mem_cons_self acc (by omega), bd_pu, mfl_map (n := n) (B := B) (by rw [List.length_append]; omega) (fun y hy => hg y (List.mem_cons_of_mem _ hy)) fun y hy => h y (List.mem_cons_of_mem _ hy), List.flatMap_cons, List.append_assoc]
theorem lc2_all {γ δ ε : Type} {a it it2 : Ex} {k l : Nat} {ρ : Env} {v v2 : PV} {xs : List γ} {ys : List δ} {en : γ → PV} {en2 : δ → PV} {eo : ε → PV} {g : γ → δ → ε} (hb : xs.length * ys.length ≤ 1000000) (hit : denE C G it ρ = pu v) (hv : iterV v = pu (xs.map en)) (hit2 : ∀ x ∈ xs, denE C G it2 ((wipeE ρ [k, l]).set k (some (en x))) = pu v2) (hv2 : iterV v2 = pu (ys.map en2))
    (h : ∀ x ∈ xs, ∀ y ∈ ys, denE C G a ((wipeE ((wipeE ρ [k, l]).set k (some (en x))) [l]).set l (some (en2 y))) = pu (eo (g x y))) :
    denE C G (.lc2 a (.nm k) it (.lit (.bool true)) (.nm l) it2 (.lit (.bool true))) ρ = pu (.list ((xs.flatMap fun x => ys.map (g x)).map eo)) := by
  have e : denE C G (.lc2 a (.nm k) it (.lit (.bool true)) (.nm l) it2 (.lit (.bool true))) ρ = noX (bd (denE C G it ρ) fun v => bd (iterV v) fun xs => bd (mfl (fun x acc => bd (bindT (.nm k) x (wipeE ρ [k, l])) fun ρ' => bd (pu (PyData.bool true)) fun t => asB t fun t => if t then
      bd (bd (denE C G it2 ρ') iterV) fun xs2 => gd (acc.length + xs2.length ≤ LINE) (bd (mfm (fun x2 => bd (bindT (.nm l) x2 (wipeE ρ' [l])) fun ρ2 => bd (pu (PyData.bool true)) fun t => asB t fun t => if t then bd (denE C G a ρ2) fun y => pu (some y) else pu none) xs2) fun ys => pu (acc ++ ys)) else pu acc) xs []) fun ys => pu (.list ys)) := rfl
  rw [e, hit, bd_pu, hv, bd_pu, mfl_map (g := fun x => (ys.map (g x)).map eo) (n := ys.length) (B := 1000000) (by simpa using hb) (fun x _ => by simp) (fun x hx acc ha => by
    rw [bindT_nm, bd_pu, bd_pu, asB_bool, if_pos rfl, hit2 x hx, bd_pu, hv2, bd_pu, gd_yes (by rw [List.length_map]; show _ ≤ 16777216; omega), mfm_all (g := g x) (eo := eo) (fun y hy => by
      rw [bindT_nm, bd_pu, bd_pu, asB_bool, if_pos rfl, h x hx y hy]
      rfl)]
    rfl)]
  rw [bd_pu, noX_pu, List.nil_append, List.map_flatMap]
end
end HG
end
section
set_option maxHeartbeats 4000000
/-! HGMeal: needs, stocks, plans of meals: what the program's common defs answer. -/
namespace HG
open PySem
/-! ### more rules of computing -/
section
variable {C : Nat → List PV → M PV} {G : List PV}
@[simp] theorem bindT_tri (i j k : Nat) (a b d : PV) (ρ : Env) : bindT (.tp [.nm i, .tp [.nm j, .nm k]]) (.tuple [a, .tuple [b, d]]) ρ = pu (((ρ.set i (some a)).set j (some b)).set k (some d)) := by
  show gd (2 = 2) _ = _
  rw [gd_yes rfl]
  show bd (pu (ρ.set i (some a))) _ = _
  rw [bd_pu]
  show bd (bindT (.tp [.nm j, .nm k]) (.tuple [b, d]) (ρ.set i (some a))) _ = _
  rw [bindT_two, bd_pu]
  rfl
@[simp] theorem tgS_tri (i j k : Nat) : tgS (.tp [.nm i, .tp [.nm j, .nm k]]) = [i, j, k] := rfl
theorem enm_map {γ : Type} (en : γ → PV) (dflt : γ) : ∀ (xs : List γ) (n : Nat), enmP n (xs.map en) = (List.range xs.length).map fun (i : Nat) => PyData.tuple [.int ((n + i : Nat) : Int), en (xs.getD i dflt)]
  | [], n => rfl
  | x :: xs, n => by
    rw [List.map_cons]
    unfold enmP
    rw [enm_map en dflt xs (n + 1), List.length_cons, List.range_succ_eq_map, List.map_cons, List.map_map]
    congr 1
    refine List.map_congr_left fun i _ => ?_
    show _ = PyData.tuple [.int ((n + (i + 1) : Nat) : Int), en ((x :: xs).getD (i + 1) dflt)]
    rw [show n + (i + 1) = n + 1 + i by omega]
    rfl
theorem enm_of {γ : Type} (en : γ → PV) (dflt : γ) (xs : List γ) : pEnm (.tuple (xs.map en)) = pu (.list ((List.range xs.length).map fun (i : Nat) => PyData.tuple [.int (i : Int), en (xs.getD i dflt)])) := by
  show pu (PyData.list _) = _
  rw [enm_map en dflt]
  congr 3
  funext i
  rw [Nat.zero_add]
/-- a loop that says no, or goes on; any slots change -/
theorem forL_testS {σ γ : Type} {b : PV → Env → M Fl} {ev : σ → Env} {en : γ → PV} {p : γ → Bool} {v : PV} : ∀ {xs : List γ} {s : σ}, (∀ x ∈ xs, ∀ s, ∃ s', b (en x) (ev s) = if p x = true then pu (.nx (ev s')) else pu (.rt v)) → ∃ s', forL b (xs.map en) (ev s) = if xs.all p = true then pu (.nx (ev s')) else pu (.rt v)
  | [], s, _ => ⟨s, rfl⟩
  | x :: xs, s, h => by
    obtain ⟨s1, e⟩ := h x List.mem_cons_self s
    rw [List.map_cons]
    unfold forL
    rw [e, List.all_cons]
    by_cases hp : p x = true
    · obtain ⟨s2, e2⟩ := forL_testS (s := s1) fun y hy => h y (List.mem_cons_of_mem _ hy)
      refine ⟨s2, ?_⟩
      rw [if_pos hp, bd_pu, loopK_nx, e2, hp]
      rfl
    · refine ⟨s, ?_⟩
      rw [if_neg hp, bd_pu, loopK_rt]
      have hp : p x = false := by simpa using hp
      rw [hp]
      rfl
/-- a loop that gives a value of its own to each state -/
theorem forL_stepS {σ γ τ : Type} {b : PV → Env → M Fl} {ev : σ → τ → Env} {en : γ → PV} {step : σ → γ → σ} (J : Nat → σ → Prop) : ∀ {xs : List γ} {a : σ} {t : τ}, J xs.length a → (∀ x ∈ xs, ∀ n a t, J (n + 1) a → J n (step a x) ∧ ∃ t', b (en x) (ev a t) = pu (.nx (ev (step a x) t'))) → ∃ t', forL b (xs.map en) (ev a t) = pu (.nx (ev (xs.foldl step a) t')) ∧ J 0 (xs.foldl step a)
  | [], a, t, j, _ => ⟨t, rfl, j⟩
  | x :: xs, a, t, j, h => by
    obtain ⟨j1, t1, e⟩ := h x List.mem_cons_self xs.length a t j
    obtain ⟨t2, e2, j2⟩ := forL_stepS J (t := t1) j1 fun y hy => h y (List.mem_cons_of_mem _ hy)
    refine ⟨t2, ?_, j2⟩
    rw [List.map_cons]
    unfold forL
    rw [e, bd_pu, loopK_nx, e2]
    rfl
theorem set_ints {r : List Int} {i : Nat} {x : Int} (h : i < r.length) : pSet (.list (r.map PyData.int)) (.int (i : Int)) (.int x) = pu (.list ((r.set i x).map PyData.int)) := by
  show (if 0 ≤ (i : Int) ∧ (i : Int) < ((r.map PyData.int).length : Int) then pu (PyData.list ((r.map PyData.int).set (i : Int).toNat (.int x))) else _) = _
  rw [if_pos ⟨by omega, by rw [List.length_map]; omega⟩, Int.toNat_natCast, List.map_set]
theorem idx_ints {r : List Int} {i : Nat} (h : i < r.length) : pIdx (.list (r.map PyData.int)) (.int (i : Int)) = pu (.int (r.getD i 0)) ∧ pIdx (.tuple (r.map PyData.int)) (.int (i : Int)) = pu (.int (r.getD i 0)) := by
  have e : (r.map PyData.int)[(i : Int).toNat]? = some (.int (r.getD i 0)) := by
    rw [Int.toNat_natCast, List.getElem?_map, List.getElem?_eq_getElem h, List.getD_eq_getElem?_getD, List.getElem?_eq_getElem h]
    rfl
  exact ⟨(idx_nat (by omega) e).2, (idx_nat (by omega) e).1⟩
theorem idx_pls {r : List Pl} {i : Nat} (h : i < r.length) : pIdx (.tuple (r.map plE)) (.int (i : Int)) = pu (plE (r.getD i (0, 0))) := by
  refine (idx_nat (by omega) ?_).1
  rw [Int.toNat_natCast, List.getElem?_map, List.getElem?_eq_getElem h, List.getD_eq_getElem?_getD, List.getElem?_eq_getElem h]
  rfl
theorem app_list (xs : List PV) (v : PV) (h : xs.length ≤ 1000) : pApp (.list xs) v = pu (.list (xs ++ [v])) := gd_yes (by show _ < 16777216; omega)
theorem mul_list (xs : List PV) (n : Nat) (h1 : xs.length ≤ 1000) (h2 : n ≤ 1000) : pBin .mul (.list xs) (.int (n : Int)) = pu (.list (rep n xs)) := by
  show gd _ _ = _
  rw [gd_yes ⟨⟨by have := Nat.mul_le_mul h2 h1; rw [Int.toNat_natCast]; show _ ≤ 16777216; omega, by omega⟩, by omega⟩, Int.toNat_natCast]
theorem mul_tup (xs : List PV) (n : Nat) (h1 : xs.length ≤ 1000) (h2 : n ≤ 1000) : pBin .mul (.tuple xs) (.int (n : Int)) = pu (.tuple (rep n xs)) := by
  show gd _ _ = _
  rw [gd_yes ⟨by omega, by omega, h1⟩, Int.toNat_natCast]
theorem rep_one {α : Type} (n : Nat) (x : α) : rep n [x] = List.replicate n x := by
  unfold rep
  induction n with
  | zero => rfl
  | succ n ih => rw [List.replicate_succ, List.flatten_cons, ih, List.replicate_succ]; rfl
theorem tup_list (xs : List PV) (h : xs.length ≤ 1000) : pBi .tuple [.list xs] = pu (.tuple xs) := gd_yes (by show _ ≤ 16777216; omega)
theorem tup_tup (xs : List PV) (h : xs.length ≤ 1000) : pBi .tuple [.tuple xs] = pu (.tuple xs) := gd_yes (by show _ ≤ 16777216; omega)
theorem lst_tup (xs : List PV) (h : xs.length ≤ 1000) : pBi .list [.tuple xs] = pu (.list xs) := gd_yes (by show _ ≤ 16777216; omega)
def mn (a b : Int) : Int := if b < a then b else a
@[simp] theorem min2_int (a b : Int) : pBi .min2 [.int a, .int b] = pu (.int (mn a b)) := rfl
theorem mn_comm (a b : Int) : mn a b = mn b a := by unfold mn; split <;> split <;> omega
theorem sorted_pls (ps : List Pl) : pBi .sorted [.list (ps.map plE)] = pu (.list (sortP (ps.map plE))) := by
  refine gd_yes ⟨⟨⟨fun x hx y hy => ?_, fun x hx => ?_⟩, (flat_pls ps).1.shp (by decide)⟩, .inl (.inl fun d hd => ?_)⟩
  · obtain ⟨p, _, rfl⟩ := List.mem_map.mp hx
    obtain ⟨q, _, rfl⟩ := List.mem_map.mp hy
    rfl
  · obtain ⟨p, _, rfl⟩ := List.mem_map.mp hx
    intro h; cases h
  · obtain ⟨p, _, rfl⟩ := List.mem_map.mp hd
    exact ⟨_, _, rfl⟩
end
/-! ### what values are -/
def packB (v : PV) : Bool := match v with
  | .tuple [a, b] => isW a 1 30 && isW b 0 13
  | _ => false
def stockB (v : PV) : Bool := match v with
  | .tuple ps => decide ((ps.length : Int) ≤ 8) && ps.all packB
  | _ => false
def needsB (v : PV) : Bool := match v with
  | .tuple cs => decide (1 ≤ (cs.length : Int)) && decide ((cs.length : Int) ≤ 14) && cs.all fun c => isW c 0 20
  | _ => false
structure Needs (ns : List Int) : Prop where
  l : 1 ≤ ns.length
  u : ns.length ≤ 14
  v : ∀ n ∈ ns, 0 ≤ n ∧ n ≤ 20
structure Stock (ps : List Pl) : Prop where
  u : ps.length ≤ 8
  v : ∀ p ∈ ps, (1 ≤ p.1 ∧ p.1 ≤ 30) ∧ 0 ≤ p.2 ∧ p.2 ≤ 13
def sE (ps : List Pl) : PV := .tuple (ps.map plE)
theorem needs_ok {ns : List Int} (h : Needs ns) : needsB (rowE ns) = true := by
  show (decide (1 ≤ ((ns.map PyData.int).length : Int)) && decide (((ns.map PyData.int).length : Int) ≤ 14) && (ns.map PyData.int).all fun c => isW c 0 20) = true
  have h1 := h.l
  have h2 := h.u
  rw [List.length_map, decide_eq_true (by omega), decide_eq_true (by omega), Bool.true_and, Bool.true_and, List.all_map, List.all_eq_true]
  intro n hn
  obtain ⟨a, b⟩ := h.v n hn
  show (decide (0 ≤ n) && decide (n ≤ 20)) = true
  rw [decide_eq_true a, decide_eq_true b]
  rfl
theorem stock_ok {ps : List Pl} (h : Stock ps) : stockB (sE ps) = true := by
  show (decide (((ps.map plE).length : Int) ≤ 8) && (ps.map plE).all packB) = true
  have h2 := h.u
  rw [List.length_map, decide_eq_true (by omega), Bool.true_and, List.all_map, List.all_eq_true]
  intro p hp
  obtain ⟨⟨a, b⟩, d, e⟩ := h.v p hp
  show (isW (.int p.1) 1 30 && isW (.int p.2) 0 13) = true
  show ((decide (1 ≤ p.1) && decide (p.1 ≤ 30)) && (decide (0 ≤ p.2) && decide (p.2 ≤ 13))) = true
  rw [decide_eq_true a, decide_eq_true b, decide_eq_true d, decide_eq_true e]
  rfl
section
variable {C : Nat → List PV → M PV} {G : List PV}
/-- value; slots value -/
def k_fits_pack (i_is_whole i_is_tuple_of g_DAYS g_PORTIONS : Nat) : List St := [.ret (.an (.call i_is_tuple_of [.var 0, .lit (.int 2), .lit (.int 2)]) (.an (.call i_is_whole [.idx (.var 0) (.lit (.int 0)), .lit (.int 1), .glb g_PORTIONS]) (.call i_is_whole [.idx (.var 0) (.lit (.int 1)), .lit (.int 0), .bin .sub (.glb g_DAYS) (.lit (.int 1))])))]
/-- value; slots value one -/
def k_fits_stock (i_fits_pack i_is_tuple_of g_PACKS : Nat) : List St := [.ret (.an (.call i_is_tuple_of [.var 0, .lit (.int 0), .glb g_PACKS]) (.bi .all [.lc1 (.call i_fits_pack [.var 1]) (.nm 1) (.var 0) (.lit (.bool true))]))]
/-- value; slots value one -/
def k_fits_needs (i_is_whole i_is_tuple_of g_NEED g_DAYS : Nat) : List St := [.ret (.an (.call i_is_tuple_of [.var 0, .lit (.int 1), .glb g_DAYS]) (.bi .all [.lc1 (.call i_is_whole [.var 1, .lit (.int 0), .glb g_NEED]) (.nm 1) (.var 0) (.lit (.bool true))]))]
/-- needs, stock; slots needs stock -/
def k_need_meals (i_fits_stock i_fits_needs e_InvalidStock : Nat) : List St := [.ite (.or_ (.nt (.call i_fits_needs [.var 0])) (.nt (.call i_fits_stock [.var 1]))) [.rai e_InvalidStock []] []]
/-- needs, stock; slots needs stock order left found day need row at last many -/
def k_eaten_in : List St := [.asg (.nm 2) (.lc1 (.var 8) (.tp [.nm 9, .nm 8]) (.bi .sorted [.lc1 (.tup [.var 9, .var 8]) (.tp [.nm 8, .tp [.nm 10, .nm 9]]) (.enm (.var 1)) (.lit (.bool true))]) (.lit (.bool true))),
  .asgT [3, 4] [true, true] [.lc1 (.var 10) (.tp [.nm 10, .nm 9]) (.var 1) (.lit (.bool true)), .lst []],
  .for_ (.tp [.nm 5, .nm 6]) (.enm (.var 0)) [.own 7 (.bin .mul (.lst [.lit (.int 0)]) (.bi .len [.var 1])),
    .for_ (.nm 8) (.var 2) [.ite (.cmp .ge (.idx (.idx (.var 1) (.var 8)) (.lit (.int 1))) (.var 5)) [.seti 7 (.var 8) (.bi .min2 [.idx (.var 3) (.var 8), .var 6]),
    .asgU [.st 3 (.var 8), .nm 6] [.bin .sub (.idx (.var 3) (.var 8)) (.idx (.var 7) (.var 8)), .bin .sub (.var 6) (.idx (.var 7) (.var 8))]] []],
    .frz [7],
    .app 4 (.var 7)],
  .frz [4],
  .ret (.var 4)]
/-- needs, stock, value; slots needs stock value many at own portions last row need one -/
def k_is_row (i_is_tuple_of i_is_whole g_PORTIONS : Nat) : List St := [.ite (.nt (.call i_is_tuple_of [.var 2, .bi .len [.var 0], .bi .len [.var 0]])) [.ret (.lit (.bool false))] [],
  .asg (.nm 3) (.bi .len [.var 1]),
  .ite (.nt (.bi .all [.lc1 (.an (.call i_is_tuple_of [.var 8, .var 3, .var 3]) (.bi .all [.lc1 (.call i_is_whole [.var 10, .lit (.int 0), .glb g_PORTIONS]) (.nm 10) (.var 8) (.lit (.bool true))])) (.nm 8) (.var 2) (.lit (.bool true))])) [.ret (.lit (.bool false))] [],
  .for_ (.tp [.nm 4, .tp [.nm 6, .nm 7]]) (.enm (.var 1)) [.asg (.nm 5) (.lc1 (.idx (.var 8) (.var 4)) (.nm 8) (.var 2) (.lit (.bool true))),
    .ite (.or_ (.cmp .gt (.bi .sum [.var 5]) (.var 6)) (.cmp .gt (.bi .sum [.slc (.var 5) (.bin .add (.var 7) (.lit (.int 1))) (.lit .none)]) (.lit (.int 0)))) [.ret (.lit (.bool false))] []],
  .ret (.bi .all [.lc1 (.cmp .le (.bi .sum [.var 8]) (.var 9)) (.tp [.nm 8, .nm 9]) (.zip (.var 2) (.var 0)) (.lit (.bool true))])]
/-- value; slots value -/
def k_is_stock (i_fits_stock : Nat) : List St := [.ret (.call i_fits_stock [.var 0])]
/-- value; slots value -/
def k_are_needs (i_fits_needs : Nat) : List St := [.ret (.call i_fits_needs [.var 0])]
/-- needs, stock; slots needs stock row -/
def k_told_plan (i_need_meals i_eaten_in : Nat) : List St := [.ex (.call i_need_meals [.var 0, .var 1]),
  .ret (.bi .tuple [.lc1 (.bi .tuple [.var 2]) (.nm 2) (.call i_eaten_in [.var 0, .var 1]) (.lit (.bool true))])]
/-- needs, stock, value; slots needs stock value -/
def k_is_plan (i_need_meals i_is_row : Nat) : List St := [.ex (.call i_need_meals [.var 0, .var 1]),
  .ret (.call i_is_row [.var 0, .var 1, .var 2])]
/-- needs, stock; slots needs stock rows at many last row -/
def k_spoiled (i_need_meals i_eaten_in : Nat) : List St := [.ex (.call i_need_meals [.var 0, .var 1]),
  .asg (.nm 2) (.call i_eaten_in [.var 0, .var 1]),
  .ret (.bi .tuple [.lc1 (.bin .sub (.var 4) (.bi .sum [.lc1 (.idx (.var 6) (.var 3)) (.nm 6) (.var 2) (.lit (.bool true))])) (.tp [.nm 3, .tp [.nm 4, .nm 5]]) (.enm (.var 1)) (.lit (.bool true))])]
/-- needs, stock; slots needs stock day rows found own at many last row -/
def k_loads (i_need_meals i_eaten_in : Nat) : List St := [.ex (.call i_need_meals [.var 0, .var 1]),
  .asgT [3, 4] [false, true] [.call i_eaten_in [.var 0, .var 1], .lst []],
  .for_ (.nm 2) (.rng1 (.bi .len [.var 0])) [.asg (.nm 5) (.lc1 (.tup [.var 6, .var 7]) (.tp [.nm 6, .tp [.nm 7, .nm 8]]) (.enm (.var 1)) (.cmp .ge (.var 8) (.var 2))),
    .app 4 (.bi .sum [.lc1 (.bin .sub (.var 7) (.bi .sum [.lc1 (.idx (.var 9) (.var 6)) (.nm 9) (.slc (.var 3) (.lit .none) (.var 2)) (.lit (.bool true))])) (.tp [.nm 6, .nm 7]) (.var 5) (.lit (.bool true))])],
  .ret (.bi .tuple [.var 4])]
/-- cup, most; slots cup most turn -/
def k__law_stock (i__law_some : Nat) : List St := [.ret (.bi .tuple [.lc1 (.tup [.bin .add (.lit (.int 1)) (.roll (.var 0) (.call i__law_some [.var 0, .lst [.lit (.int 3), .lit (.int 10), .lit (.int 30)]])), .roll (.var 0) (.call i__law_some [.var 0, .lst [.lit (.int 3), .lit (.int 6), .lit (.int 14)]])]) (.nm 2) (.rng1 (.roll (.var 0) (.bin .add (.var 1) (.lit (.int 1))))) (.lit (.bool true))])]
/-- cup; slots cup size day -/
def k__law_needs (i__law_some : Nat) : List St := [.asg (.nm 1) (.call i__law_some [.var 0, .lst [.lit (.int 3), .lit (.int 8), .lit (.int 21)]]),
  .ret (.bi .tuple [.lc1 (.roll (.var 0) (.var 1)) (.nm 2) (.rng1 (.bin .add (.lit (.int 1)) (.roll (.var 0) (.call i__law_some [.var 0, .lst [.lit (.int 3), .lit (.int 6), .lit (.int 14)]])))) (.lit (.bool true))])]
/-- needs, stock; slots needs stock day left found want row last at many -/
def k__law_told : List St := [.asgT [3, 4] [true, false] [.lc1 (.var 9) (.tp [.nm 9, .nm 7]) (.var 1) (.lit (.bool true)), .tup []],
  .for_ (.nm 2) (.rng1 (.bi .len [.var 0])) [.asgT [5, 6] [false, true] [.idx (.var 0) (.var 2), .bin .mul (.lst [.lit (.int 0)]) (.bi .len [.var 1])],
    .for_ (.tp [.nm 7, .nm 8]) (.bi .sorted [.lc1 (.tup [.idx (.idx (.var 1) (.var 8)) (.lit (.int 1)), .var 8]) (.nm 8) (.rng1 (.bi .len [.var 1])) (.lit (.bool true))]) [.ite (.cmp .ge (.var 7) (.var 2)) [.seti 6 (.var 8) (.bi .min2 [.var 5, .idx (.var 3) (.var 8)]),
    .asgU [.nm 5, .st 3 (.var 8)] [.bin .sub (.var 5) (.idx (.var 6) (.var 8)), .bin .sub (.idx (.var 3) (.var 8)) (.idx (.var 6) (.var 8))]] []],
    .asg (.nm 4) (.bin .add (.var 4) (.tup [.bi .tuple [.var 6]]))],
  .ret (.var 4)]
/-- needs, stock, value; slots needs stock value at day row -/
def k__law_is_plan : List St := [.for_ (.nm 3) (.rng1 (.bi .len [.var 1])) [.ite (.or_ (.cmp .gt (.bi .sum [.lc1 (.idx (.var 5) (.var 3)) (.nm 5) (.var 2) (.lit (.bool true))]) (.idx (.idx (.var 1) (.var 3)) (.lit (.int 0)))) (.cmp .ne (.lc1 (.var 4) (.nm 4) (.rng1 (.bi .len [.var 0])) (.an (.cmp .gt (.idx (.idx (.var 2) (.var 4)) (.var 3)) (.lit (.int 0))) (.cmp .gt (.var 4) (.idx (.idx (.var 1) (.var 3)) (.lit (.int 1)))))) (.lst []))) [.ret (.lit (.bool false))] []],
  .ret (.cmp .eq (.lc1 (.var 4) (.nm 4) (.rng1 (.bi .len [.var 0])) (.cmp .gt (.bi .sum [.idx (.var 2) (.var 4)]) (.idx (.var 0) (.var 4)))) (.lst []))]
def S_fits_pack (C : Nat → List PV → M PV) (i : Nat) : Prop := ∀ v, sane v = true → C i [v] = pu (.bool (packB v))
def S_fits_stock (C : Nat → List PV → M PV) (i : Nat) : Prop := ∀ v, sane v = true → C i [v] = pu (.bool (stockB v))
def S_fits_needs (C : Nat → List PV → M PV) (i : Nat) : Prop := ∀ v, sane v = true → C i [v] = pu (.bool (needsB v))
def S_need_meals (e : Nat) (C : Nat → List PV → M PV) (i : Nat) : Prop := ∀ n s, sane n = true → sane s = true → C i [n, s] = if needsB n = true ∧ stockB s = true then pu .none else rz (errV e [])
theorem b_fits_pack {a b d p : Nat} (h1 : S_is_whole C a) (h2 : S_is_tuple_of C b) (g1 : G[d]? = some (.int 14)) (g2 : G[p]? = some (.int 30)) {v : PV} (hv : sane v = true) : endF (denB C G (k_fits_pack a b d p) (startE 1 [v])) = pu (.bool (packB v)) := by
  unfold k_fits_pack
  have e1 := h2 v 2 2 (sane_sp hv)
  by_cases c : isT v 2 2 = true
  · cases v <;> first | cases c | skip
    rename_i xs
    rw [isT_tuple, Bool.and_eq_true] at c
    have hl : xs.length = 2 := by
      have h1 := of_decide_eq_true c.1
      have h2 := of_decide_eq_true c.2
      omega
    match xs, hl with
    | [x, y], _ =>
      have hs := sanes_mem hv
      have ex := h1 x 1 30 (sane_sp (hs x (by simp)))
      have ey := h1 y 0 13 (sane_sp (hs y (by simp)))
      have i0 : pIdx (.tuple [x, y]) (.int 0) = pu x := rfl
      have i1 : pIdx (.tuple [x, y]) (.int 1) = pu y := rfl
      by_cases cx : isW x 1 30 = true
      · simp [startE, denB, denS, denE, denEs, getV, e1, i0, i1, ex, cx, ey, packB, g1, g2]
      · have cx : isW x 1 30 = false := by simpa using cx
        simp [startE, denB, denS, denE, denEs, getV, e1, i0, i1, ex, cx, packB, g1, g2]
  · have c : isT v 2 2 = false := by simpa using c
    have : packB v = false := by
      unfold packB
      split
      · rw [isT_tuple] at c
        simp at c
      · rfl
    rw [this]
    simp [startE, denB, denS, denE, denEs, getV, e1, c]
theorem b_fits_stock {a b d : Nat} (h1 : S_fits_pack C a) (h2 : S_is_tuple_of C b) (g1 : G[d]? = some (.int 8)) {v : PV} (hv : sane v = true) : endF (denB C G (k_fits_stock a b d) (startE 2 [v])) = pu (.bool (stockB v)) := by
  unfold k_fits_stock
  have e1 := h2 v 0 8 (sane_sp hv)
  cases v with
  | tuple xs =>
    have hs := sanes_mem hv
    by_cases c : (xs.length : Int) ≤ 8
    · have c1 : isT (.tuple xs) 0 8 = true := by
        rw [isT_tuple, decide_eq_true (by omega), decide_eq_true c]; rfl
      rw [c1] at e1
      simp [startE, denB, denS, denE, denEs, getV, wipeE, e1, g1]
      rw [mfm_pu (g := fun x => some (.bool (packB x))) (fun x hx => by rw [h1 x (hs x hx)]; rfl), filterMap_some]
      simp only [bd_pu, noX_pu]
      rw [all_map_bool]
      show _ = pu (PyData.bool (decide ((xs.length : Int) ≤ 8) && xs.all packB))
      rw [decide_eq_true c]
      rfl
    · have c1 : isT (.tuple xs) 0 8 = false := by
        rw [isT_tuple, decide_eq_false c]; simp
      rw [c1] at e1
      have : stockB (.tuple xs) = false := by
        show (decide ((xs.length : Int) ≤ 8) && xs.all packB) = false
        rw [decide_eq_false c]; rfl
      rw [this]
      simp [startE, denB, denS, denE, denEs, getV, wipeE, e1, g1]
  | _ => simp [startE, denB, denS, denE, denEs, getV, g1, e1, isT, stockB]
theorem b_fits_needs {a b d n : Nat} (h1 : S_is_whole C a) (h2 : S_is_tuple_of C b) (g1 : G[d]? = some (.int 14)) (g2 : G[n]? = some (.int 20)) {v : PV} (hv : sane v = true) : endF (denB C G (k_fits_needs a b n d) (startE 2 [v])) = pu (.bool (needsB v)) := by
  unfold k_fits_needs
  have e1 := h2 v 1 14 (sane_sp hv)
  cases v with
  | tuple xs =>
    have hs := sanes_mem hv
    by_cases c : isT (.tuple xs) 1 14 = true
    · rw [c] at e1
      rw [isT_tuple] at c
      simp [startE, denB, denS, denE, denEs, getV, wipeE, e1, g1, g2]
      rw [mfm_pu (g := fun x => some (.bool (isW x 0 20))) (fun x hx => by rw [h1 x 0 20 (sane_sp (hs x hx))]; rfl), filterMap_some]
      simp only [bd_pu, noX_pu]
      rw [all_map_bool]
      show _ = pu (PyData.bool ((decide (1 ≤ (xs.length : Int)) && decide ((xs.length : Int) ≤ 14)) && xs.all fun c => isW c 0 20))
      rw [c]
      rfl
    · have c : isT (.tuple xs) 1 14 = false := by simpa using c
      rw [c] at e1
      rw [isT_tuple] at c
      have : needsB (.tuple xs) = false := by
        show ((decide (1 ≤ (xs.length : Int)) && decide ((xs.length : Int) ≤ 14)) && xs.all fun c => isW c 0 20) = false
        rw [c]; rfl
      rw [this]
      simp [startE, denB, denS, denE, denEs, getV, wipeE, e1, g1, g2]
  | _ => simp [startE, denB, denS, denE, denEs, getV, g1, e1, isT, needsB]
theorem b_need_meals {a b e : Nat} (h1 : S_fits_stock C a) (h2 : S_fits_needs C b) {n s : PV} (hn : sane n = true) (hs : sane s = true) : endF (denB C G (k_need_meals a b e) (startE 2 [n, s])) = if needsB n = true ∧ stockB s = true then pu .none else rz (errV e []) := by
  unfold k_need_meals
  have e1 := h2 n hn
  have e2 := h1 s hs
  cases c1 : needsB n <;> cases c2 : stockB s <;> rw [c1] at e1 <;> rw [c2] at e2 <;> simp [startE, denB, denS, denE, denEs, getV, e1, e2]
end
end HG
end
section
set_option maxHeartbeats 4000000
/-! HGKit: rules of computing that many laws share (namespace HG.Z; taken out of K43L, K44F, K48B, K48L). -/
namespace HG.Z
open PySem
section
variable {C : Nat → List PV → M PV} {G : List PV}
theorem asgT_cps {is : List Nat} {ks : List Bool} {es : List Ex} {r : List St} {ρ : Env} {R : Fl → Prop} {E : PV → Prop} (P : List PV → Prop) (h : ∀ Q : List PV → Prop, (∀ v, P v → Q v) → denEs C G es ρ Q E) (k : ∀ v, P v → denB C G r (setL is v ρ) R E) : denB C G (.asgT is ks es :: r) ρ R E := by
  refine sqd ?_
  unfold denS
  exact h _ k
theorem asgT_of {is : List Nat} {ks : List Bool} {es : List Ex} {ρ : Env} {vs : List PV} (h : denEs C G es ρ = pu vs) : denS C G (.asgT is ks es) ρ = pu (.nx (setL is vs ρ)) := by
  unfold denS
  rw [h]
  rfl
theorem if_no {c : Ex} {a b : List St} {ρ : Env} (h : denE C G c ρ = pu (.bool false)) : denS C G (.ite c a b) ρ = denB C G b ρ := by
  unfold denS
  rw [h]
  rfl
theorem denB_nil {ρ : Env} : denB C G [] ρ = pu (.nx ρ) := rfl
theorem tellBs_of : ∀ {xs : List PV}, (∀ x ∈ xs, tellB x = true) → tellBs xs = true
  | [], _ => rfl
  | x :: xs, h => by
    unfold tellBs
    rw [h x List.mem_cons_self, tellBs_of fun y hy => h y (List.mem_cons_of_mem _ hy)]
    rfl
theorem tell_tup {xs : List PV} (hl : xs.length ≤ 1000) (h : ∀ x ∈ xs, tellB x = true) : tellB (.tuple xs) = true := by
  unfold tellB
  rw [decide_eq_true (by omega), tellBs_of h]
  rfl
theorem tell_row {r : List Int} (hl : r.length ≤ 1000) : tellB (rowE r) = true := tell_tup (by rw [List.length_map]; exact hl) fun x hx => by
  obtain ⟨i, _, e⟩ := List.mem_map.mp hx
  rw [← e]; rfl
theorem flat_rowE (r : List Int) : Flat 1 (rowE r) := flat_tuple fun x hx => by
  obtain ⟨i, _, e⟩ := List.mem_map.mp hx
  rw [← e]; exact flat_int i
theorem same_no {i : Nat} {v : PV} {n k : Nat} (h : S_same k C i) (ht : tellB v = true) (hf : Flat n v) (hk : n < k) {e1 e2 : Ex} {ρ : Env} (h1 : denE C G e1 ρ = pu v) (h2 : denE C G e2 ρ = pu v) : denE C G (.nt (.call i [e1, e2])) ρ = pu (.bool false) := by
  have e3 := h v ht (Nat.lt_of_le_of_lt hf.2 hk)
  simp only [denE, denEs, h1, h2, bd_pu, e3, asB_bool]
  rfl
theorem or_no {a b : Ex} {ρ : Env} (h1 : denE C G a ρ = pu (.bool false)) (h2 : denE C G b ρ = pu (.bool false)) : denE C G (.or_ a b) ρ = pu (.bool false) := by
  simp only [denE, h1, bd_pu, asB_bool]
  exact h2
theorem ite_go {c : Ex} {a : List St} {ρ : Env} (h : denE C G c ρ = pu (.bool false)) : denS C G (.ite c a []) ρ = pu (.nx ρ) := (if_no h).trans rfl
theorem ne_bool (a b : Bool) : pCmp .ne (.bool a) (.bool b) = pu (.bool (a != b)) := by
  rw [ne_flat (flat_bool a) (flat_bool b) (by decide) (by decide) (.inl rfl)]
  cases a <;> cases b <;> rfl
theorem cmp_den {o : Cop} {a b : Ex} {ρ : Env} {x y : PV} (h1 : denE C G a ρ = pu x) (h2 : denE C G b ρ = pu y) : denE C G (.cmp o a b) ρ = pCmp o x y := by
  simp only [denE, h1, h2, bd_pu]
theorem bindT_3 (i j k : Nat) (a b d : PV) (ρ : Env) : bindT (.tp [.nm i, .nm j, .nm k]) (.tuple [a, b, d]) ρ = pu (((ρ.set i (some a)).set j (some b)).set k (some d)) := by
  show gd (3 = 3) _ = _
  rw [gd_yes rfl]
  rfl
theorem all_true {α : Type} (xs : List α) : pBi .all [.list (xs.map fun _ => PyData.bool true)] = pu (.bool true) := by
  have := all_bools (xs.map fun _ => true)
  rw [List.map_map] at this
  refine (show _ = _ from this).trans ?_
  congr 2
  rw [List.all_eq_true]
  intro b hb
  obtain ⟨_, _, rfl⟩ := List.mem_map.mp hb
  rfl
theorem ne_nil {α : Type} (f : α → PV) (hf : ∀ x, Flat 0 (f x)) (xs : List α) : pCmp .ne (.list (xs.map f)) (.list []) = pu (.bool (!xs.isEmpty)) := by
  rw [ne_flat (n := 1) (m := 1) (flat_list fun y hy => by
    obtain ⟨x, _, rfl⟩ := List.mem_map.mp hy
    exact hf x) (flat_list fun _ h => by cases h) (by decide) (by decide) (.inl rfl)]
  cases xs <;> rfl
theorem eq_nil {α : Type} (f : α → PV) (hf : ∀ x, Flat 0 (f x)) (xs : List α) : pCmp .eq (.list (xs.map f)) (.list []) = pu (.bool xs.isEmpty) := by
  rw [eq_flat (n := 1) (m := 1) (flat_list fun y hy => by
    obtain ⟨x, _, rfl⟩ := List.mem_map.mp hy
    exact hf x) (flat_list fun _ h => by cases h) (by decide) (by decide) (.inl rfl)]
  cases xs <;> rfl
theorem mod4 (a : Int) : pBin .mod (.int a) (.int 4) = pu (.int (a % 4)) := gd_yes (by decide)
theorem isW_int {i lo hi : Int} (h1 : lo ≤ i) (h2 : i ≤ hi) : isW (.int i) lo hi = true := by
  show (decide (lo ≤ i) && decide (i ≤ hi)) = true
  rw [decide_eq_true h1, decide_eq_true h2]
  rfl
theorem bi_int (i : Int) : pBi .int [.int i] = pu (.int i) := rfl
theorem ite_den {c a b : Ex} {ρ : Env} {t : Bool} (h : denE C G c ρ = pu (.bool t)) : denE C G (.ite c a b) ρ = if t then denE C G a ρ else denE C G b ρ := by
  have z : denE C G (.ite c a b) ρ = bd (denE C G c ρ) fun x => asB x fun t => if t then denE C G a ρ else denE C G b ρ := rfl
  rw [z, h, bd_pu, asB_bool]
theorem an_no {a b : Ex} {ρ : Env} (h1 : denE C G a ρ = pu (.bool false)) : denE C G (.an a b) ρ = pu (.bool false) := by
  have z : denE C G (.an a b) ρ = bd (denE C G a ρ) fun x => asB x fun c => if c then denE C G b ρ else pu (.bool false) := rfl
  rw [z, h1]
  rfl
theorem an_yes {a b : Ex} {ρ : Env} (h1 : denE C G a ρ = pu (.bool true)) : denE C G (.an a b) ρ = denE C G b ρ := by
  have z : denE C G (.an a b) ρ = bd (denE C G a ρ) fun x => asB x fun c => if c then denE C G b ρ else pu (.bool false) := rfl
  rw [z, h1]
  rfl
theorem mul_sm (a : Nat) (b : Int) (h : a ≤ 1000000000000) : pBin .mul (.int (a : Int)) (.int b) = pu (.int ((a : Int) * b)) := gd_yes (.inl ⟨by omega, by omega⟩)
theorem mul_sm' (a : Int) (b : Nat) (h : b ≤ 1000000000000) : pBin .mul (.int a) (.int (b : Int)) = pu (.int (a * (b : Int))) := gd_yes (.inr ⟨by omega, by omega⟩)
theorem rep_snoc {α : Type} (xs : List α) : ∀ m, rep (m + 1) xs = rep m xs ++ xs
  | 0 => by simp [rep]
  | m + 1 => by
    have e : ∀ k, rep (k + 1) xs = xs ++ rep k xs := fun k => by
      unfold rep
      rw [List.replicate_succ, List.flatten_cons]
    rw [e (m + 1), rep_snoc xs m, ← List.append_assoc, ← e m, rep_snoc xs m]
theorem rep_add {α : Type} (xs : List α) (a : Nat) : ∀ b, rep (a + b) xs = rep a xs ++ rep b xs
  | 0 => by simp [rep]
  | b + 1 => by rw [← Nat.add_assoc, rep_snoc, rep_snoc, rep_add xs a b, List.append_assoc]
theorem rep_length {α : Type} (xs : List α) : ∀ m, (rep m xs).length = m * xs.length
  | 0 => by simp [rep]
  | m + 1 => by rw [rep_snoc, List.length_append, rep_length xs m, Nat.succ_mul]
theorem rep_map {α β : Type} (f : α → β) (xs : List α) : ∀ m, rep m (xs.map f) = (rep m xs).map f
  | 0 => by simp [rep]
  | m + 1 => by rw [rep_snoc, rep_snoc, rep_map f xs m, List.map_append]
def natI (m : Nat) : PV := .int (m : Int)
theorem lc1_two {γ δ : Type} {a it : Ex} {k l : Nat} {ρ : Env} {v : PV} {xs : List γ} {en1 en2 : γ → PV} {eo : δ → PV} {g : γ → δ} (hit : denE C G it ρ = pu v) (hv : iterV v = pu (xs.map fun x => .tuple [en1 x, en2 x])) (h : ∀ x ∈ xs, denE C G a (((wipeE ρ [k, l]).set k (some (en1 x))).set l (some (en2 x))) = pu (eo (g x))) :
    denE C G (.lc1 a (.tp [.nm k, .nm l]) it (.lit (.bool true))) ρ = pu (.list ((xs.map g).map eo)) := by
  have e : ∀ c : Ex, denE C G (.lc1 a (.tp [.nm k, .nm l]) it c) ρ = noX (bd (denE C G it ρ) fun v => bd (iterV v) fun ys => bd (mfm (fun x => bd (bindT (.tp [.nm k, .nm l]) x (wipeE ρ [k, l])) fun ρ' => bd (denE C G c ρ') fun t => asB t fun t => if t then bd (denE C G a ρ') fun y => pu (some y) else pu none) ys) fun ys => pu (.list ys)) := fun _ => rfl
  rw [e, hit, bd_pu, hv, bd_pu, mfm_all (en := fun x => .tuple [en1 x, en2 x]) (g := g) (eo := eo) (fun x hx => by
    rw [bindT_two, bd_pu, h x hx]
    rfl)]
  rfl
/-- a comprehension with a test, its items changed -/
theorem lc1_some {γ δ : Type} {a c it : Ex} {k : Nat} {ρ : Env} {v : PV} {xs : List γ} {en : γ → PV} {eo : δ → PV} {g : γ → δ} {p : γ → Bool} (hit : denE C G it ρ = pu v) (hv : iterV v = pu (xs.map en)) (h1 : ∀ x ∈ xs, denE C G c ((wipeE ρ [k]).set k (some (en x))) = pu (.bool (p x))) (h2 : ∀ x ∈ xs, p x = true → denE C G a ((wipeE ρ [k]).set k (some (en x))) = pu (eo (g x))) :
    denE C G (.lc1 a (.nm k) it c) ρ = pu (.list (((xs.filter p).map g).map eo)) := by
  have e : denE C G (.lc1 a (.nm k) it c) ρ = noX (bd (denE C G it ρ) fun v => bd (iterV v) fun ys => bd (mfm (fun x => bd (bindT (.nm k) x (wipeE ρ [k])) fun ρ' => bd (denE C G c ρ') fun t => asB t fun t => if t then bd (denE C G a ρ') fun y => pu (some y) else pu none) ys) fun ys => pu (.list ys)) := rfl
  rw [e, hit, bd_pu, hv, bd_pu, mfm_map (g := fun x => if p x then some (eo (g x)) else none) (fun x hx => by
    rw [bindT_nm, bd_pu, h1 x hx, bd_pu, asB_bool]
    by_cases q : p x = true
    · rw [if_pos q, if_pos q, h2 x hx q]; rfl
    · rw [if_neg q, if_neg q])]
  have f : xs.filterMap (fun x => if p x = true then some (eo (g x)) else none) = ((xs.filter p).map g).map eo := by
    clear hv h1 h2 e
    induction xs with
    | nil => rfl
    | cons x r ih =>
      by_cases q : p x = true
      · rw [List.filterMap_cons_some (by rw [if_pos q]), List.filter_cons_of_pos q, List.map_cons, List.map_cons, ih]
      · rw [List.filterMap_cons_none (by rw [if_neg q]), List.filter_cons_of_neg q, ih]
  rw [f]
  rfl
theorem range_den {n : Nat} (h : n ≤ 1000000) {e : Ex} {ρ : Env} (he : denE C G e ρ = pu (.int (n : Int))) : denE C G (.rng1 e) ρ = pu (.list ((List.range n).map natI)) := by
  have z : denE C G (.rng1 e) ρ = bd (denE C G e ρ) fun y => asI y fun n => gd (RB n) (pu (.list (rng 0 n))) := rfl
  rw [z, he, bd_pu, asI_int, gd_yes ⟨by omega, by omega⟩, rng_map]
  rfl
theorem add_lists (xs ys : List PV) (h : xs.length + ys.length ≤ 1000000) : pBin .add (.list xs) (.list ys) = pu (.list (xs ++ ys)) := gd_yes (by show _ ≤ 16777216; omega)
theorem add_tups (xs ys : List PV) (h : xs.length + ys.length ≤ 1000000) : pBin .add (.tuple xs) (.tuple ys) = pu (.tuple (xs ++ ys)) := gd_yes (by show _ ≤ 16777216; omega)
theorem idx_map {γ : Type} (en : γ → PV) (d : γ) {xs : List γ} {i : Nat} (h : i < xs.length) : pIdx (.list (xs.map en)) (.int (i : Int)) = pu (en (xs.getD i d)) ∧ pIdx (.tuple (xs.map en)) (.int (i : Int)) = pu (en (xs.getD i d)) := by
  have e : (xs.map en)[((i : Int)).toNat]? = some (en (xs.getD i d)) := by
    rw [Int.toNat_natCast, List.getElem?_map, List.getElem?_eq_getElem h, List.getD_eq_getElem?_getD, List.getElem?_eq_getElem h]
    rfl
  have := idx_nat (xs := xs.map en) (by omega) e
  exact ⟨this.2, this.1⟩
theorem idx_last' {γ : Type} (en : γ → PV) (d : γ) {xs : List γ} (h : xs ≠ []) : pIdx (.list (xs.map en)) (.int (-1)) = pu (en (xs.getD (xs.length - 1) d)) ∧ pIdx (.tuple (xs.map en)) (.int (-1)) = pu (en (xs.getD (xs.length - 1) d)) := by
  have hl : 0 < xs.length := List.length_pos_iff.mpr h
  have e : at? (xs.map en) (-1) = some (en (xs.getD (xs.length - 1) d)) := by
    unfold at?
    rw [if_neg (by decide), List.length_map, if_pos (by omega), show ((-1 : Int) + (xs.length : Int)).toNat = xs.length - 1 by omega, List.getElem?_map, List.getElem?_eq_getElem (by omega), List.getD_eq_getElem?_getD, List.getElem?_eq_getElem (by omega)]
    rfl
  constructor
  · show ofO (at? (xs.map en) (-1)) = _
    rw [e]; rfl
  · show ofO (at? (xs.map en) (-1)) = _
    rw [e]; rfl
def mnL : List Int → Int
  | [] => 0
  | x :: r => r.foldl min x
theorem min1_ints {xs : List Int} (h : xs ≠ []) : pBi .min1 [.list (xs.map PyData.int)] = pu (.int (mnL xs)) ∧ pBi .min1 [.tuple (xs.map PyData.int)] = pu (.int (mnL xs)) := by
  cases xs with
  | nil => exact absurd rfl h
  | cons x r =>
    have fl : Flat 1 (.list ((x :: r).map PyData.int)) := flat_list fun d hd => by
      obtain ⟨i, _, e⟩ := List.mem_map.mp hd
      rw [← e]; exact flat_int i
    have al : AllCmp ((x :: r).map PyData.int) := ⟨⟨fun a ha b hb => by
      obtain ⟨i, _, rfl⟩ := List.mem_map.mp ha
      obtain ⟨j, _, rfl⟩ := List.mem_map.mp hb
      rfl, fun a ha => by
      obtain ⟨i, _, rfl⟩ := List.mem_map.mp ha
      intro h; cases h⟩, fl.shp (by decide)⟩
    have e1 : pBi .min1 [.list ((x :: r).map PyData.int)] = gd (AllCmp ((x :: r).map PyData.int)) (pu (PySem.W.minD (.int x) (r.map PyData.int))) := rfl
    have e2 : pBi .min1 [.tuple ((x :: r).map PyData.int)] = gd (AllCmp ((x :: r).map PyData.int)) (pu (PySem.W.minD (.int x) (r.map PyData.int))) := rfl
    rw [e1, e2, gd_yes al, PySem.W.minD_ints]
    exact ⟨rfl, rfl⟩
theorem or_t {a b : Ex} {ρ : Env} (h1 : denE C G a ρ = pu (.bool true)) : denE C G (.or_ a b) ρ = pu (.bool true) := by
  have z : denE C G (.or_ a b) ρ = bd (denE C G a ρ) fun x => asB x fun c => if c then pu (.bool true) else denE C G b ρ := rfl
  rw [z, h1]
  rfl
theorem or_f {a b : Ex} {ρ : Env} (h1 : denE C G a ρ = pu (.bool false)) : denE C G (.or_ a b) ρ = denE C G b ρ := by
  have z : denE C G (.or_ a b) ρ = bd (denE C G a ρ) fun x => asB x fun c => if c then pu (.bool true) else denE C G b ρ := rfl
  rw [z, h1]
  rfl
theorem nt_den {a : Ex} {ρ : Env} {t : Bool} (h : denE C G a ρ = pu (.bool t)) : denE C G (.nt a) ρ = pu (.bool !t) := by
  have z : denE C G (.nt a) ρ = bd (denE C G a ρ) fun x => asB x fun b => pu (.bool !b) := rfl
  rw [z, h]
  rfl
theorem if_yes {c : Ex} {a b : List St} {ρ : Env} (h : denE C G c ρ = pu (.bool true)) : denS C G (.ite c a b) ρ = denB C G a ρ := by
  have z : denS C G (.ite c a b) ρ = bd (denE C G c ρ) fun t => asB t fun t => if t then denB C G a ρ else denB C G b ρ := rfl
  rw [z, h]
  rfl
theorem ret_den {e : Ex} {ρ : Env} {v : PV} (h : denE C G e ρ = pu v) : denB C G [.ret e] ρ = pu (.rt v) := by
  have z : denB C G [.ret e] ρ = thenF (bd (denE C G e ρ) fun v => pu (.rt v)) (denB C G []) := rfl
  rw [z, h]
  rfl
/-- a statement that gives a value back -/
theorem sq_rt {s : St} {r : List St} {ρ : Env} {v : PV} (h : denS C G s ρ = pu (.rt v)) : denB C G (s :: r) ρ = pu (.rt v) := by
  have z : denB C G (s :: r) ρ = thenF (denS C G s ρ) (denB C G r) := rfl
  rw [z, h]
  rfl
theorem all_den {it : Ex} {ρ : Env} {bs : List Bool} (h : denE C G it ρ = pu (.list (bs.map PyData.bool))) : denE C G (.bi .all [it]) ρ = pu (.bool (bs.all id)) := by
  have z : denE C G (.bi .all [it]) ρ = bd (denE C G it ρ) fun v => pBi .all [v] := rfl
  rw [z, h, bd_pu, all_bools]
theorem bi1_den {b : Bi} {it : Ex} {ρ : Env} {v : PV} (h : denE C G it ρ = pu v) : denE C G (.bi b [it]) ρ = pBi b [v] := by
  have z : denE C G (.bi b [it]) ρ = bd (bd (denE C G it ρ) fun v => pu [v]) fun vs => pBi b vs := rfl
  rw [z, h]
  rfl
theorem idx_den {a i : Ex} {ρ : Env} {x y : PV} (h1 : denE C G a ρ = pu x) (h2 : denE C G i ρ = pu y) : denE C G (.idx a i) ρ = pIdx x y := by
  have z : denE C G (.idx a i) ρ = bd (denE C G a ρ) fun x => bd (denE C G i ρ) fun y => pIdx x y := rfl
  rw [z, h1, h2]
  rfl
theorem bin_den {o : Bop} {a b : Ex} {ρ : Env} {x y : PV} (h1 : denE C G a ρ = pu x) (h2 : denE C G b ρ = pu y) : denE C G (.bin o a b) ρ = pBin o x y := by
  have z : denE C G (.bin o a b) ρ = bd (denE C G a ρ) fun x => bd (denE C G b ρ) fun y => pBin o x y := rfl
  rw [z, h1, h2]
  rfl
theorem tup2_den {a b : Ex} {ρ : Env} {x y : PV} (h1 : denE C G a ρ = pu x) (h2 : denE C G b ρ = pu y) : denE C G (.tup [a, b]) ρ = pu (.tuple [x, y]) := by
  have z : denE C G (.tup [a, b]) ρ = bd (bd (denE C G a ρ) fun x => bd (bd (denE C G b ρ) fun y => pu [y]) fun ys => pu (x :: ys)) fun vs => pu (.tuple vs) := rfl
  rw [z, h1, h2]
  rfl
/-- two clauses, the second over what the first gives -/
theorem lc2_gen {γ δ ε : Type} {a it it2 : Ex} {k l n : Nat} {ρ : Env} {v : PV} {v2 : γ → PV} {xs : List γ} {ys : γ → List δ} {en : γ → PV} {en2 : δ → PV} {eo : ε → PV} {g : γ → δ → ε} (hb : xs.length * n ≤ 1000000) (hn : ∀ x ∈ xs, (ys x).length ≤ n) (hit : denE C G it ρ = pu v) (hv : iterV v = pu (xs.map en)) (hit2 : ∀ x ∈ xs, denE C G it2 ((wipeE ρ [k, l]).set k (some (en x))) = pu (v2 x)) (hv2 : ∀ x ∈ xs, iterV (v2 x) = pu ((ys x).map en2))
    (h : ∀ x ∈ xs, ∀ y ∈ ys x, denE C G a ((wipeE ((wipeE ρ [k, l]).set k (some (en x))) [l]).set l (some (en2 y))) = pu (eo (g x y))) :
    denE C G (.lc2 a (.nm k) it (.lit (.bool true)) (.nm l) it2 (.lit (.bool true))) ρ = pu (.list ((xs.flatMap fun x => (ys x).map (g x)).map eo)) := by
  have e : denE C G (.lc2 a (.nm k) it (.lit (.bool true)) (.nm l) it2 (.lit (.bool true))) ρ = noX (bd (denE C G it ρ) fun v => bd (iterV v) fun xs => bd (mfl (fun x acc => bd (bindT (.nm k) x (wipeE ρ [k, l])) fun ρ' => bd (pu (PyData.bool true)) fun t => asB t fun t => if t then
      bd (bd (denE C G it2 ρ') iterV) fun xs2 => gd (acc.length + xs2.length ≤ LINE) (bd (mfm (fun x2 => bd (bindT (.nm l) x2 (wipeE ρ' [l])) fun ρ2 => bd (pu (PyData.bool true)) fun t => asB t fun t => if t then bd (denE C G a ρ2) fun y => pu (some y) else pu none) xs2) fun ys => pu (acc ++ ys)) else pu acc) xs []) fun ys => pu (.list ys)) := rfl
  rw [e, hit, bd_pu, hv, bd_pu, mfl_map (g := fun x => ((ys x).map (g x)).map eo) (n := n) (B := 1000000) (by simpa using hb) (fun x hx => by rw [List.length_map, List.length_map]; exact hn x hx) (fun x hx acc ha => by
    have := hn x hx
    rw [bindT_nm, bd_pu, bd_pu, asB_bool, if_pos rfl, hit2 x hx, bd_pu, hv2 x hx, bd_pu, gd_yes (by rw [List.length_map]; show _ ≤ 16777216; omega), mfm_all (g := g x) (eo := eo) (fun y hy => by
      rw [bindT_nm, bd_pu, bd_pu, asB_bool, if_pos rfl, h x hx y hy]
      rfl)]
    rfl)]
  rw [bd_pu, noX_pu, List.nil_append, List.map_flatMap]
/-- a loop of which it is only known that it goes on -/
theorem forL_exJ {σ : Type} {b : PV → Env → M Fl} {ev : σ → Env} (J : Nat → σ → Prop) : ∀ {xs : List PV} {s : σ}, J xs.length s → (∀ x ∈ xs, ∀ n s, J (n + 1) s → ∃ s', J n s' ∧ b x (ev s) = pu (.nx (ev s'))) → ∃ s', forL b xs (ev s) = pu (.nx (ev s')) ∧ J 0 s'
  | [], s, j, _ => ⟨s, rfl, j⟩
  | x :: xs, s, j, h => by
    obtain ⟨s1, j1, e⟩ := h x List.mem_cons_self xs.length s j
    obtain ⟨s2, e2, j2⟩ := forL_exJ J j1 fun y hy => h y (List.mem_cons_of_mem _ hy)
    refine ⟨s2, ?_, j2⟩
    unfold forL
    rw [e, bd_pu, loopK_nx, e2]
theorem minD_isin : ∀ (xs : List PV) (x : PV), PySem.W.minD x xs ∈ x :: xs
  | [], x => List.mem_cons_self
  | z :: xs, x => by
    have e : PySem.W.minD x (z :: xs) = PySem.W.minD (if ltP z x = true then z else x) xs := rfl
    rw [e]
    have := minD_isin xs (if ltP z x = true then z else x)
    rcases List.mem_cons.mp this with q | q
    · rw [q]
      split
      · exact List.mem_cons_of_mem _ List.mem_cons_self
      · exact List.mem_cons_self
    · exact List.mem_cons_of_mem _ (List.mem_cons_of_mem _ q)
end
end HG.Z
end
section
set_option maxHeartbeats 4000000
/-! HGDct: dicts whose keys are places, as lists of pairs; loops by place. -/
namespace HG.Z
open PySem
section
variable {α : Type} (en : α → PV)
def kE (p : Pl × α) : PV × PV := (plE p.1, en p.2)
def dE (L : List (Pl × α)) : PV := .dict (L.map (kE en))
theorem tkey_pl (p : Pl) : tkey (plE p) = true := rfl
theorem knd_dE (L : List (Pl × α)) (p : Pl) : kndOk ((L.map (kE en)).map (·.1)) (plE p) = true := by
  unfold kndOk
  rw [Bool.or_eq_true]
  right
  rw [tkey_pl, Bool.true_and, List.all_eq_true]
  intro k hk
  rw [List.map_map] at hk
  obtain ⟨q, _, rfl⟩ := List.mem_map.mp hk
  rfl
theorem plain_dE (L : List (Pl × α)) : plainD (dE en L) = true := by
  cases L with
  | nil => rfl
  | cons p r => exact plainD_cons (.inr (tkey_pl p.1))
theorem dget_dE (p : Pl) : ∀ L : List (Pl × α), dget (L.map (kE en)) (plE p) = ((L.find? fun q => decide (q.1 = p)).map fun q => en q.2)
  | [] => rfl
  | q :: r => by
    rw [List.map_cons]
    unfold dget kE
    rw [eqP_pl]
    by_cases h : q.1 = p
    · rw [decide_eq_true h, List.find?_cons_of_pos (by simpa using h)]; rfl
    · rw [decide_eq_false h, List.find?_cons_of_neg (by simpa using h)]
      exact dget_dE p r
theorem dput_new {p : Pl} {a : α} : ∀ {L : List (Pl × α)}, (∀ q ∈ L, q.1 ≠ p) → dput (L.map (kE en)) (plE p) (en a) = (L ++ [(p, a)]).map (kE en)
  | [], _ => rfl
  | q :: r, h => by
    rw [List.map_cons, List.cons_append, List.map_cons]
    unfold dput kE
    rw [eqP_pl, decide_eq_false (h q List.mem_cons_self)]
    show _ :: _ = _
    congr 1
    exact dput_new fun z hz => h z (List.mem_cons_of_mem _ hz)
theorem find_val {L : List (Pl × α)} {p : Pl} {a : α} (h1 : ∃ q ∈ L, q.1 = p) (h2 : ∀ q ∈ L, q.1 = p → q.2 = a) : (L.find? fun q => decide (q.1 = p)).map (fun q => en q.2) = some (en a) := by
  obtain ⟨q, hq, e⟩ := h1
  cases h : L.find? fun q => decide (q.1 = p) with
  | none =>
    have := List.find?_eq_none.mp h q hq
    simp [e] at this
  | some z =>
    have m := List.mem_of_find?_eq_some h
    have e2 := List.find?_some h
    rw [Option.map_some, h2 z m (by simpa using e2)]
theorem idx_dE {L : List (Pl × α)} {p : Pl} {a : α} (h1 : ∃ q ∈ L, q.1 = p) (h2 : ∀ q ∈ L, q.1 = p → q.2 = a) : pIdx (dE en L) (plE p) = pu (en a) := by
  show gd (plainD (dE en L) = true ∧ kndOk ((L.map (kE en)).map (·.1)) (plE p) = true) (ofO (dget (L.map (kE en)) (plE p))) = _
  rw [gd_yes ⟨plain_dE en L, knd_dE en L p⟩, dget_dE, find_val en h1 h2]
  rfl
theorem set_dE {L : List (Pl × α)} {p : Pl} {a : α} (h : ∀ q ∈ L, q.1 ≠ p) (hl : L.length ≤ 1000000) : pSet (dE en L) (plE p) (en a) = pu (dE en (L ++ [(p, a)])) := by
  show gd (plainD (dE en L) = true ∧ kndOk ((L.map (kE en)).map (·.1)) (plE p) = true ∧ (L.map (kE en)).length < LINE) (pu (PyData.dict (dput (L.map (kE en)) (plE p) (en a)))) = _
  rw [gd_yes ⟨plain_dE en L, knd_dE en L p, by rw [List.length_map]; show _ < 16777216; omega⟩, dput_new en h]
  rfl
theorem in_dE (L : List (Pl × α)) (p : Pl) : pCmp .isin (plE p) (dE en L) = pu (.bool (L.any fun q => decide (q.1 = p))) := by
  show gd (plainD (dE en L) = true ∧ kndOk ((L.map (kE en)).map (·.1)) (plE p) = true) (pu (PyData.bool (dget (L.map (kE en)) (plE p)).isSome)) = _
  rw [gd_yes ⟨plain_dE en L, knd_dE en L p⟩, dget_dE, Option.isSome_map]
  congr 2
  rw [Bool.eq_iff_iff, List.find?_isSome, List.any_eq_true]
end
/-- a loop, place by place -/
theorem forL_ix {γ τ : Type} {b : PV → Env → M Fl} {en : γ → PV} {ev : Nat → τ → Env} : ∀ {xs : List γ} {k : Nat} {t : τ}, (∀ i (hi : i < xs.length) t, ∃ t', b (en xs[i]) (ev (k + i) t) = pu (.nx (ev (k + i + 1) t'))) → ∃ t', forL b (xs.map en) (ev k t) = pu (.nx (ev (k + xs.length) t'))
  | [], k, t, _ => ⟨t, rfl⟩
  | x :: xs, k, t, h => by
    obtain ⟨t1, e1⟩ := h 0 (by simp) t
    obtain ⟨t2, e2⟩ := forL_ix (xs := xs) (k := k + 1) (t := t1) (b := b) (en := en) (ev := ev) fun i hi t => by
      obtain ⟨t', e⟩ := h (i + 1) (by simpa using hi) t
      refine ⟨t', ?_⟩
      rw [show k + 1 + i = k + (i + 1) by omega]
      exact e
    refine ⟨t2, ?_⟩
    rw [List.map_cons]
    unfold forL
    have e1 : b (en x) (ev k t) = pu (.nx (ev (k + 1) t1)) := e1
    rw [e1, bd_pu, loopK_nx, e2, List.length_cons]
    congr 3
    omega
end HG.Z
end
section
set_option maxHeartbeats 4000000
/-! HGKit2: more rules of computing that laws share (namespace HG.Z). -/
namespace HG.Z
open PySem
section
variable {C : Nat → List PV → M PV} {G : List PV}
theorem for_den {tg : Tg} {e : Ex} {b : List St} {ρ : Env} {v : PV} {xs : List PV} (h1 : denE C G e ρ = pu v) (h2 : iterV v = pu xs) : denS C G (.for_ tg e b) ρ = forL (fun x ρ => bd (bindT tg x ρ) (denB C G b)) xs ρ := by
  unfold denS
  rw [h1, bd_pu, h2]
  rfl
theorem es1 {a : Ex} {ρ : Env} {x : PV} (h1 : denE C G a ρ = pu x) : denEs C G [a] ρ = pu [x] := by
  have z : denEs C G [a] ρ = bd (denE C G a ρ) fun x => pu [x] := rfl
  rw [z, h1]
  rfl
theorem es_cons {a : Ex} {es : List Ex} {ρ : Env} {x : PV} {xs : List PV} (h1 : denE C G a ρ = pu x) (h2 : denEs C G es ρ = pu xs) : denEs C G (a :: es) ρ = pu (x :: xs) := by
  have z : denEs C G (a :: es) ρ = bd (denE C G a ρ) fun x => bd (denEs C G es ρ) fun xs => pu (x :: xs) := rfl
  rw [z, h1, h2]
  rfl
theorem es2 {a b : Ex} {ρ : Env} {x y : PV} (h1 : denE C G a ρ = pu x) (h2 : denE C G b ρ = pu y) : denEs C G [a, b] ρ = pu [x, y] := es_cons h1 (es1 h2)
theorem es3 {a b c : Ex} {ρ : Env} {x y z : PV} (h1 : denE C G a ρ = pu x) (h2 : denE C G b ρ = pu y) (h3 : denE C G c ρ = pu z) : denEs C G [a, b, c] ρ = pu [x, y, z] := es_cons h1 (es2 h2 h3)
theorem es4 {a b c d : Ex} {ρ : Env} {x y z w : PV} (h1 : denE C G a ρ = pu x) (h2 : denE C G b ρ = pu y) (h3 : denE C G c ρ = pu z) (h4 : denE C G d ρ = pu w) : denEs C G [a, b, c, d] ρ = pu [x, y, z, w] := es_cons h1 (es3 h2 h3 h4)
theorem call_den {f : Nat} {es : List Ex} {ρ : Env} {vs : List PV} (h : denEs C G es ρ = pu vs) : denE C G (.call f es) ρ = C f vs := by
  have z : denE C G (.call f es) ρ = bd (denEs C G es ρ) fun vs => C f vs := rfl
  rw [z, h, bd_pu]
theorem bi_den {b : Bi} {es : List Ex} {ρ : Env} {vs : List PV} (h : denEs C G es ρ = pu vs) : denE C G (.bi b es) ρ = pBi b vs := by
  have z : denE C G (.bi b es) ρ = bd (denEs C G es ρ) fun vs => pBi b vs := rfl
  rw [z, h, bd_pu]
theorem tup_den {es : List Ex} {ρ : Env} {vs : List PV} (h : denEs C G es ρ = pu vs) : denE C G (.tup es) ρ = pu (.tuple vs) := by
  have z : denE C G (.tup es) ρ = bd (denEs C G es ρ) fun vs => pu (.tuple vs) := rfl
  rw [z, h, bd_pu]
theorem lst_den {es : List Ex} {ρ : Env} {vs : List PV} (h : denEs C G es ρ = pu vs) : denE C G (.lst es) ρ = pu (.list vs) := by
  have z : denE C G (.lst es) ρ = bd (denEs C G es ρ) fun vs => pu (.list vs) := rfl
  rw [z, h, bd_pu]
theorem var_den {i : Nat} {ρ : Env} {x : PV} (h : getV ρ i = pu x) : denE C G (.var i) ρ = pu x := h
theorem neg_den {a : Ex} {ρ : Env} {x : PV} (h : denE C G a ρ = pu x) : denE C G (.neg a) ρ = pNeg x := by
  have z : denE C G (.neg a) ρ = bd (denE C G a ρ) pNeg := rfl
  rw [z, h, bd_pu]
theorem rvs_den {a : Ex} {ρ : Env} {x : PV} (h : denE C G a ρ = pu x) : denE C G (.rvs a) ρ = pRev x := by
  have z : denE C G (.rvs a) ρ = bd (denE C G a ρ) pRev := rfl
  rw [z, h, bd_pu]
theorem an_den {a b : Ex} {ρ : Env} {s t : Bool} (h1 : denE C G a ρ = pu (.bool s)) (h2 : s = true → denE C G b ρ = pu (.bool t)) (h3 : s = false → t = false) : denE C G (.an a b) ρ = pu (.bool t) := by
  cases s with
  | false => rw [an_no h1, h3 rfl]
  | true => rw [an_yes h1, h2 rfl]
theorem an_both {a b : Ex} {ρ : Env} {s t : Bool} (h1 : denE C G a ρ = pu (.bool s)) (h2 : denE C G b ρ = pu (.bool t)) : denE C G (.an a b) ρ = pu (.bool (s && t)) := by
  cases s with
  | false => rw [an_no h1]; rfl
  | true => rw [an_yes h1, h2]; rfl
theorem or_both {a b : Ex} {ρ : Env} {s t : Bool} (h1 : denE C G a ρ = pu (.bool s)) (h2 : denE C G b ρ = pu (.bool t)) : denE C G (.or_ a b) ρ = pu (.bool (s || t)) := by
  cases s with
  | true => rw [or_t h1]; rfl
  | false => rw [or_f h1, h2]; rfl
theorem ex_of {e : Ex} {ρ : Env} {v : PV} (h : denE C G e ρ = pu v) : denS C G (.ex e) ρ = pu (.nx ρ) := by
  have z : denS C G (.ex e) ρ = bd (denE C G e ρ) fun _ => pu (.nx ρ) := rfl
  rw [z, h, bd_pu]
theorem own_of {i : Nat} {e : Ex} {ρ : Env} {v : PV} (h : denE C G e ρ = pu v) : denS C G (.own i e) ρ = pu (.nx (ρ.set i (some v))) := by
  have z : denS C G (.own i e) ρ = bd (denE C G e ρ) fun v => bd (bindT (.nm i) v ρ) fun ρ' => pu (.nx ρ') := rfl
  rw [z, h, bd_pu, bindT_nm, bd_pu]
theorem app_of {x : Nat} {e : Ex} {ρ : Env} {v : PV} {xs : List PV} (h1 : getV ρ x = pu (.list xs)) (h2 : denE C G e ρ = pu v) (hl : xs.length ≤ 1000) : denS C G (.app x e) ρ = pu (.nx (ρ.set x (some (.list (xs ++ [v]))))) := by
  have z : denS C G (.app x e) ρ = bd (getV ρ x) fun o => gd (isL o = true) (bd (denE C G e ρ) fun v => bd (pApp o v) fun o' => pu (.nx (ρ.set x (some o')))) := rfl
  have pn : isL (.list xs) = true := rfl
  rw [z, h1, bd_pu, gd_yes pn, h2, bd_pu, app_list _ _ hl, bd_pu]
theorem rng2_den {a b : Ex} {ρ : Env} {m n : Int} (h1 : denE C G a ρ = pu (.int m)) (h2 : denE C G b ρ = pu (.int n)) (hm : RB m) (hn : RB n) : denE C G (.rng2 a b) ρ = pu (.list (rng m n)) := by
  have z : denE C G (.rng2 a b) ρ = bd (denE C G a ρ) fun x => bd (denE C G b ρ) fun y => asI x fun m => asI y fun n => gd (RB m ∧ RB n) (pu (.list (rng m n))) := rfl
  rw [z, h1, bd_pu, h2, bd_pu, asI_int, asI_int, gd_yes ⟨hm, hn⟩]
theorem mul_any (a b : Int) (h1 : -1000000000000 ≤ a) (h2 : a ≤ 1000000000000) : pBin .mul (.int a) (.int b) = pu (.int (a * b)) := gd_yes (.inl ⟨by omega, by omega⟩)
theorem rai_not {e : Ex} {a b : List St} {ρ : Env} {t : Bool} (h : denE C G e ρ = pu (.bool true)) : denS C G (.ite (.nt e) a []) ρ = pu (.nx ρ) := ite_go (nt_den h)
theorem wg_self {ρ : Env} {k : Nat} (hk : k < ρ.length) (v : PV) : getV ((wipeE ρ [k]).set k (some v)) k = pu v := by
  have e : ((wipeE ρ [k]).set k (some v))[k]? = some (some v) := by
    rw [List.getElem?_set_self]
    show k < (ρ.set k none).length
    rw [List.length_set]; exact hk
  unfold getV
  rw [e]
theorem wg_other {ρ : Env} {k i : Nat} (h : k ≠ i) (v : PV) : getV ((wipeE ρ [k]).set k (some v)) i = getV ρ i := by
  have e : ((wipeE ρ [k]).set k (some v))[i]? = ρ[i]? := by
    rw [List.getElem?_set_ne h]
    show (ρ.set k none)[i]? = _
    rw [List.getElem?_set_ne h]
  unfold getV
  rw [e]
theorem sg_self {ρ : Env} {k : Nat} (hk : k < ρ.length) (v : PV) : getV (ρ.set k (some v)) k = pu v := by
  have e : (ρ.set k (some v))[k]? = some (some v) := List.getElem?_set_self hk
  unfold getV
  rw [e]
theorem sg_other {ρ : Env} {k i : Nat} (h : k ≠ i) (v : PV) : getV (ρ.set k (some v)) i = getV ρ i := by
  have e : (ρ.set k (some v))[i]? = ρ[i]? := List.getElem?_set_ne h
  unfold getV
  rw [e]
end
end HG.Z
end
section
set_option maxHeartbeats 4000000
/-! HGKit3: rules for the words "den", "op", "gv" (TAC.txt). -/
namespace HG.Z
open PySem
section
variable {C : Nat → List PV → M PV} {G : List PV}
theorem wlen (ρ : Env) (k : Nat) : (wipeE ρ [k]).length = ρ.length := by
  show (ρ.set k none).length = _
  rw [List.length_set]
theorem es_nil {ρ : Env} : denEs C G [] ρ = pu [] := rfl
theorem den_eq {e : Ex} {ρ : Env} {w v : PV} (h : denE C G e ρ = pu w) (q : w = v) : denE C G e ρ = pu v := by rw [h, q]
theorem lit_den {ρ : Env} (v : PV) : denE C G (.lit v) ρ = pu v := rfl
theorem glb_den {ρ : Env} {g : Nat} {v : PV} (h : G[g]? = some v) : denE C G (.glb g) ρ = pu v := by
  show ofO G[g]? = _
  rw [h]; rfl
theorem bin_pu {o : Bop} {a b : Ex} {ρ : Env} {x y v : PV} (h1 : denE C G a ρ = pu x) (h2 : denE C G b ρ = pu y) (h3 : pBin o x y = pu v) : denE C G (.bin o a b) ρ = pu v := (bin_den h1 h2).trans h3
theorem cmp_pu {o : Cop} {a b : Ex} {ρ : Env} {x y v : PV} (h1 : denE C G a ρ = pu x) (h2 : denE C G b ρ = pu y) (h3 : pCmp o x y = pu v) : denE C G (.cmp o a b) ρ = pu v := (cmp_den h1 h2).trans h3
theorem idx_pu {a b : Ex} {ρ : Env} {x y v : PV} (h1 : denE C G a ρ = pu x) (h2 : denE C G b ρ = pu y) (h3 : pIdx x y = pu v) : denE C G (.idx a b) ρ = pu v := (idx_den h1 h2).trans h3
theorem neg_pu {a : Ex} {ρ : Env} {x v : PV} (h1 : denE C G a ρ = pu x) (h3 : pNeg x = pu v) : denE C G (.neg a) ρ = pu v := (neg_den h1).trans h3
theorem an_pu {a b : Ex} {ρ : Env} {s t : Bool} (h1 : denE C G a ρ = pu (.bool s)) (h2 : s = true → denE C G b ρ = pu (.bool t)) : denE C G (.an a b) ρ = pu (.bool (s && t)) := by
  cases s with
  | false => rw [an_no h1]; rfl
  | true => rw [an_yes h1, h2 rfl]; rfl
theorem or_pu {a b : Ex} {ρ : Env} {s t : Bool} (h1 : denE C G a ρ = pu (.bool s)) (h2 : s = false → denE C G b ρ = pu (.bool t)) : denE C G (.or_ a b) ρ = pu (.bool (s || t)) := by
  cases s with
  | true => rw [or_t h1]; rfl
  | false => rw [or_f h1, h2 rfl]; rfl
theorem ite_pu {c a b : Ex} {ρ : Env} {t : Bool} {x y : PV} (h : denE C G c ρ = pu (.bool t)) (h1 : t = true → denE C G a ρ = pu x) (h2 : t = false → denE C G b ρ = pu y) : denE C G (.ite c a b) ρ = pu (if t = true then x else y) := by
  rw [ite_den h]
  cases t with
  | true => exact h1 rfl
  | false => exact h2 rfl
theorem call_pu {f : Nat} {es : List Ex} {ρ : Env} {vs : List PV} {v : PV} (h : denEs C G es ρ = pu vs) (h2 : C f vs = pu v) : denE C G (.call f es) ρ = pu v := (call_den h).trans h2
theorem bi_pu {b : Bi} {es : List Ex} {ρ : Env} {vs : List PV} {v : PV} (h : denEs C G es ρ = pu vs) (h2 : pBi b vs = pu v) : denE C G (.bi b es) ρ = pu v := (bi_den h).trans h2
theorem slc_pu {a lo hi : Ex} {ρ : Env} {x l h v : PV} (h1 : denE C G a ρ = pu x) (h2 : denE C G lo ρ = pu l) (p1 : partOk l = true) (h3 : denE C G hi ρ = pu h) (p2 : partOk h = true) (h4 : pSlc x l h = pu v) : denE C G (.slc a lo hi) ρ = pu v := by
  have z : denE C G (.slc a lo hi) ρ = bd (denE C G a ρ) fun x => bd (denE C G lo ρ) fun l => gd (partOk l = true) (bd (denE C G hi ρ) fun h => gd (partOk h = true) (pSlc x l h)) := rfl
  rw [z, h1, bd_pu, h2, bd_pu, gd_yes p1, h3, bd_pu, gd_yes p2, h4]
/-- a test, and what stands behind it -/
theorem sq_ite {c : Ex} {a b r : List St} {ρ : Env} {t : Bool} {m : M Fl} (h : denE C G c ρ = pu (.bool t)) (h1 : t = true → thenF (denB C G a ρ) (denB C G r) = m) (h2 : t = false → thenF (denB C G b ρ) (denB C G r) = m) : denB C G (.ite c a b :: r) ρ = m := by
  have z : denB C G (.ite c a b :: r) ρ = thenF (denS C G (.ite c a b) ρ) (denB C G r) := rfl
  rw [z]
  cases t with
  | true => rw [if_yes h]; exact h1 rfl
  | false => rw [if_no h]; exact h2 rfl
theorem sq_go {c : Ex} {a r : List St} {ρ : Env} {m : M Fl} (h : denE C G c ρ = pu (.bool false)) (h2 : denB C G r ρ = m) : denB C G (.ite c a [] :: r) ρ = m := sqs (ite_go h) h2
theorem sq_ret {c : Ex} {e : Ex} {b r : List St} {ρ : Env} {v : PV} (h : denE C G c ρ = pu (.bool true)) (h2 : denE C G e ρ = pu v) : denB C G (.ite c [.ret e] b :: r) ρ = pu (.rt v) := sq_rt ((if_yes h).trans (ret_den h2))
theorem endF_ret {m : M Fl} {v : PV} (h : m = pu (.rt v)) : endF m = pu v := by rw [h]; rfl
theorem endF_none {m : M Fl} {ρ : Env} (h : m = pu (.nx ρ)) : endF m = pu .none := by rw [h]; rfl
/-- a loop that folds a state; what holds of the slots by the state -/
theorem forL_foldI {σ γ : Type} {b : PV → Env → M Fl} {en : γ → PV} {f : σ → γ → σ} (I : σ → Env → Prop) : ∀ {xs : List γ} {s : σ} {ρ : Env}, I s ρ → (∀ x ∈ xs, ∀ s ρ, I s ρ → ∃ ρ', b (en x) ρ = pu (.nx ρ') ∧ I (f s x) ρ') → ∃ ρ', forL b (xs.map en) ρ = pu (.nx ρ') ∧ I (xs.foldl f s) ρ'
  | [], s, ρ, i, _ => ⟨ρ, rfl, i⟩
  | x :: xs, s, ρ, i, h => by
    obtain ⟨ρ1, e1, i1⟩ := h x List.mem_cons_self s ρ i
    obtain ⟨ρ2, e2, i2⟩ := forL_foldI I i1 fun y hy => h y (List.mem_cons_of_mem _ hy)
    refine ⟨ρ2, ?_, i2⟩
    rw [List.map_cons]
    unfold forL
    rw [e1, bd_pu, loopK_nx, e2]
theorem for_foldI {σ γ : Type} {k : Nat} {e : Ex} {b : List St} {ρ : Env} {v : PV} {xs : List γ} {en : γ → PV} {f : σ → γ → σ} (I : σ → Env → Prop) {s : σ} (h1 : denE C G e ρ = pu v) (h2 : iterV v = pu (xs.map en)) (i : I s ρ) (h : ∀ x ∈ xs, ∀ s ρ, I s ρ → ∃ ρ', denB C G b (ρ.set k (some (en x))) = pu (.nx ρ') ∧ I (f s x) ρ') :
    ∃ ρ', denS C G (.for_ (.nm k) e b) ρ = pu (.nx ρ') ∧ I (xs.foldl f s) ρ' := by
  rw [for_den h1 h2]
  exact forL_foldI I i h
theorem for2_foldI {σ γ : Type} {k l : Nat} {e : Ex} {b : List St} {ρ : Env} {v : PV} {xs : List γ} {e1 e2 : γ → PV} {f : σ → γ → σ} (I : σ → Env → Prop) {s : σ} (h1 : denE C G e ρ = pu v) (h2 : iterV v = pu (xs.map fun x => .tuple [e1 x, e2 x])) (i : I s ρ) (h : ∀ x ∈ xs, ∀ s ρ, I s ρ → ∃ ρ', denB C G b ((ρ.set k (some (e1 x))).set l (some (e2 x))) = pu (.nx ρ') ∧ I (f s x) ρ') :
    ∃ ρ', denS C G (.for_ (.tp [.nm k, .nm l]) e b) ρ = pu (.nx ρ') ∧ I (xs.foldl f s) ρ' := by
  rw [for_den h1 h2]
  refine forL_foldI I i fun x hx s ρ i => ?_
  rw [bindT_two]
  exact h x hx s ρ i
/-- a loop, by what holds behind the things that were walked -/
theorem forL_pre {γ : Type} {b : PV → Env → M Fl} {en : γ → PV} (I : List γ → Env → Prop) : ∀ {xs pre : List γ} {ρ : Env}, I pre ρ → (∀ (p : List γ) (x : γ) (q : List γ), pre ++ xs = p ++ x :: q → x ∈ xs → ∀ ρ, I p ρ → ∃ ρ', b (en x) ρ = pu (.nx ρ') ∧ I (p ++ [x]) ρ') → ∃ ρ', forL b (xs.map en) ρ = pu (.nx ρ') ∧ I (pre ++ xs) ρ'
  | [], pre, ρ, i, _ => ⟨ρ, rfl, by rw [List.append_nil]; exact i⟩
  | x :: xs, pre, ρ, i, h => by
    obtain ⟨ρ1, e1, i1⟩ := h pre x xs rfl List.mem_cons_self ρ i
    obtain ⟨ρ2, e2, i2⟩ := forL_pre I (xs := xs) (pre := pre ++ [x]) i1 fun p y q e hy => h p y q (by rw [← e, List.append_assoc]; rfl) (List.mem_cons_of_mem _ hy)
    refine ⟨ρ2, ?_, by rw [List.append_assoc] at i2; exact i2⟩
    rw [List.map_cons]
    unfold forL
    rw [e1, bd_pu, loopK_nx, e2]
theorem for_pre {γ : Type} {k : Nat} {e : Ex} {b : List St} {ρ : Env} {v : PV} {xs : List γ} {en : γ → PV} (I : List γ → Env → Prop) (h1 : denE C G e ρ = pu v) (h2 : iterV v = pu (xs.map en)) (i : I [] ρ) (h : ∀ (p : List γ) (x : γ) (q : List γ), xs = p ++ x :: q → x ∈ xs → ∀ ρ, I p ρ → ∃ ρ', denB C G b (ρ.set k (some (en x))) = pu (.nx ρ') ∧ I (p ++ [x]) ρ') :
    ∃ ρ', denS C G (.for_ (.nm k) e b) ρ = pu (.nx ρ') ∧ I xs ρ' := by
  rw [for_den h1 h2]
  exact forL_pre I i h
theorem for2_pre {γ : Type} {k l : Nat} {e : Ex} {b : List St} {ρ : Env} {v : PV} {xs : List γ} {e1 e2 : γ → PV} (I : List γ → Env → Prop) (h1 : denE C G e ρ = pu v) (h2 : iterV v = pu (xs.map fun x => .tuple [e1 x, e2 x])) (i : I [] ρ) (h : ∀ (p : List γ) (x : γ) (q : List γ), xs = p ++ x :: q → x ∈ xs → ∀ ρ, I p ρ → ∃ ρ', denB C G b ((ρ.set k (some (e1 x))).set l (some (e2 x))) = pu (.nx ρ') ∧ I (p ++ [x]) ρ') :
    ∃ ρ', denS C G (.for_ (.tp [.nm k, .nm l]) e b) ρ = pu (.nx ρ') ∧ I xs ρ' := by
  rw [for_den h1 h2]
  refine forL_pre I i fun p x q e hx ρ i => ?_
  rw [bindT_two]
  exact h p x q e hx ρ i
/-- what a loop comes to that may give a value back -/
def runF {σ γ : Type} (f : σ → γ → σ ⊕ PV) : σ → List γ → σ ⊕ PV
  | s, [] => .inl s
  | s, x :: xs => match f s x with
    | .inl s' => runF f s' xs
    | .inr v => .inr v
theorem forL_run {σ γ : Type} {b : PV → Env → M Fl} {en : γ → PV} {f : σ → γ → σ ⊕ PV} (I : σ → Env → Prop) : ∀ {xs : List γ} {s : σ} {ρ : Env}, I s ρ → (∀ x ∈ xs, ∀ s ρ, I s ρ → (∀ s', f s x = .inl s' → ∃ ρ', b (en x) ρ = pu (.nx ρ') ∧ I s' ρ') ∧ (∀ v, f s x = .inr v → b (en x) ρ = pu (.rt v))) →
    (∀ s', runF f s xs = .inl s' → ∃ ρ', forL b (xs.map en) ρ = pu (.nx ρ') ∧ I s' ρ') ∧ (∀ v, runF f s xs = .inr v → forL b (xs.map en) ρ = pu (.rt v))
  | [], s, ρ, i, _ => ⟨fun s' e => ⟨ρ, rfl, by cases e; exact i⟩, fun v e => by cases e⟩
  | x :: xs, s, ρ, i, h => by
    obtain ⟨h1, h2⟩ := h x List.mem_cons_self s ρ i
    unfold runF
    rw [List.map_cons]
    unfold forL
    cases e : f s x with
    | inl s1 =>
      obtain ⟨ρ1, e1, i1⟩ := h1 s1 e
      rw [e1, bd_pu, loopK_nx]
      exact forL_run I i1 fun y hy => h y (List.mem_cons_of_mem _ hy)
    | inr v =>
      rw [h2 v e, bd_pu, loopK_rt]
      refine ⟨fun s' e => ?_, fun v' e => ?_⟩
      · have e : (Sum.inr v : σ ⊕ PV) = .inl s' := e
        cases e
      · have e : (Sum.inr v : σ ⊕ PV) = .inr v' := e
        cases e
        rfl
theorem asg3_of {i j k : Nat} {e : Ex} {ρ : Env} {a b d : PV} (h : denE C G e ρ = pu (.tuple [a, b, d])) : denS C G (.asg (.tp [.nm i, .nm j, .nm k]) e) ρ = pu (.nx (((ρ.set i (some a)).set j (some b)).set k (some d))) := by
  unfold denS
  rw [h, bd_pu, bindT_3]
  rfl
theorem asg2_of {i j : Nat} {e : Ex} {ρ : Env} {a b : PV} (h : denE C G e ρ = pu (.tuple [a, b])) : denS C G (.asg (.tp [.nm i, .nm j]) e) ρ = pu (.nx ((ρ.set i (some a)).set j (some b))) := by
  unfold denS
  rw [h, bd_pu, bindT_two]
  rfl
end
end HG.Z
end
section
set_option maxHeartbeats 1000000
/-! HGDg: dicts of encoded keys and values (namespace HG.Z). -/
namespace HG.Z
open PySem
/-- how keys are encoded: unlike keys lie apart; all of one kind -/
structure KEnc {α : Type} [DecidableEq α] (ek : α → PV) : Prop where
  eq : ∀ a b, eqP (ek a) (ek b) = decide (a = b)
  kd : (∀ a, tkey (ek a) = true) ∨ (∀ a, skey (ek a) = true)
section
variable {α β : Type} [DecidableEq α]
def dset : List (α × β) → α → β → List (α × β)
  | [], k, v => [(k, v)]
  | p :: r, k, v => if p.1 = k then (p.1, v) :: r else p :: dset r k v
def dlook : List (α × β) → α → Option β
  | [], _ => none
  | p :: r, k => if p.1 = k then some p.2 else dlook r k
def dG (ek : α → PV) (ev : β → PV) (D : List (α × β)) : PV := .dict (D.map fun p => (ek p.1, ev p.2))
theorem dset_mem {k : α} {v : β} : ∀ {D : List (α × β)} {x : α}, x ∈ (dset D k v).map (·.1) → x ∈ D.map (·.1) ∨ x = k
  | [], x, h => .inr (List.mem_singleton.mp h)
  | p :: r, x, h => by
    unfold dset at h
    split at h
    · exact .inl h
    · rw [List.map_cons] at h
      rcases List.mem_cons.mp h with h | h
      · exact .inl (by rw [h, List.map_cons]; exact List.mem_cons_self)
      · rcases dset_mem h with h | h
        · exact .inl (by rw [List.map_cons]; exact List.mem_cons_of_mem _ h)
        · exact .inr h
theorem dset_nodup {k : α} {v : β} : ∀ {D : List (α × β)}, (D.map (·.1)).Nodup → ((dset D k v).map (·.1)).Nodup
  | [], _ => by show [k].Nodup; simp
  | p :: r, nd => by
    unfold dset
    split
    · exact nd
    · rename_i h
      rw [List.map_cons, List.nodup_cons] at nd ⊢
      refine ⟨fun q => ?_, dset_nodup nd.2⟩
      rcases dset_mem q with q | q
      · exact nd.1 q
      · exact h q
theorem dset_len {k : α} {v : β} : ∀ {D : List (α × β)}, (dset D k v).length ≤ D.length + 1
  | [] => Nat.le_refl _
  | p :: r => by
    unfold dset
    split
    · exact Nat.le_succ _
    · exact Nat.succ_le_succ dset_len
theorem dlook_mem {k : α} {v : β} : ∀ {D : List (α × β)}, dlook D k = some v → (k, v) ∈ D
  | [], h => by cases h
  | p :: r, h => by
    unfold dlook at h
    split at h
    · rename_i e
      cases h
      subst e
      exact List.mem_cons_self
    · exact List.mem_cons_of_mem _ (dlook_mem h)
theorem dlook_of {k : α} {v : β} : ∀ {D : List (α × β)}, (D.map (·.1)).Nodup → (k, v) ∈ D → dlook D k = some v
  | [], _, h => by cases h
  | p :: r, nd, h => by
    rw [List.map_cons, List.nodup_cons] at nd
    unfold dlook
    rcases List.mem_cons.mp h with e | h
    · rw [← e, if_pos rfl]
    · rw [if_neg fun e => nd.1 (by rw [e]; exact List.mem_map_of_mem h)]
      exact dlook_of nd.2 h
theorem dlook_none {k : α} : ∀ {D : List (α × β)}, dlook D k = none ↔ k ∉ D.map (·.1)
  | [] => ⟨fun _ h => (by cases h), fun _ => rfl⟩
  | p :: r => by
    unfold dlook
    rw [List.map_cons, List.mem_cons, not_or]
    by_cases e : p.1 = k
    · rw [if_pos e]
      exact ⟨fun h => (by cases h), fun h => absurd e.symm h.1⟩
    · rw [if_neg e, dlook_none]
      exact ⟨fun h => ⟨fun z => e z.symm, h⟩, fun h => h.2⟩
theorem dlook_set {k : α} {v : β} {x : α} : ∀ {D : List (α × β)}, dlook (dset D k v) x = if k = x then some v else dlook D x
  | [] => by
    unfold dset dlook
    by_cases e : k = x
    · rw [if_pos e, if_pos e]
    · rw [if_neg e, if_neg e]; rfl
  | p :: r => by
    unfold dset
    by_cases e : p.1 = k
    · rw [if_pos e]
      unfold dlook
      by_cases f : k = x
      · rw [if_pos (e.trans f), if_pos f]
      · rw [if_neg (fun z => f (e.symm.trans z)), if_neg f, if_neg (fun z => f (e.symm.trans z))]
    · rw [if_neg e]
      unfold dlook
      by_cases g : p.1 = x
      · rw [if_pos g, if_neg (fun z => e (g.trans z.symm)), if_pos g]
      · rw [if_neg g, if_neg g, dlook_set]
theorem dset_new {k : α} {v : β} : ∀ {D : List (α × β)}, k ∉ D.map (·.1) → dset D k v = D ++ [(k, v)]
  | [], _ => rfl
  | p :: r, h => by
    rw [List.map_cons, List.mem_cons, not_or] at h
    unfold dset
    rw [if_neg (fun z => h.1 z.symm), dset_new h.2]
    rfl
variable {ek : α → PV} {ev : β → PV} (K : KEnc ek)
include K
theorem g_knd (D : List (α × β)) (k : α) : kndOk ((D.map fun p => (ek p.1, ev p.2)).map (·.1)) (ek k) = true := by
  unfold kndOk
  rw [Bool.or_eq_true, Bool.and_eq_true, Bool.and_eq_true, List.map_map, List.all_map, List.all_map, List.all_eq_true, List.all_eq_true]
  rcases K.kd with h | h
  · exact .inr ⟨h k, fun x _ => h x.1⟩
  · exact .inl ⟨h k, fun x _ => h x.1⟩
theorem g_plain (D : List (α × β)) : plainD (dG ek ev D) = true := by
  cases D with
  | nil => rfl
  | cons p r =>
    have h : skey (ek p.1) = true ∨ tkey (ek p.1) = true := by
      rcases K.kd with h | h
      · exact .inr (h p.1)
      · exact .inl (h p.1)
    show plainD (.dict ((ek p.1, ev p.2) :: _)) = true
    generalize ek p.1 = k at h
    cases k <;> first | rfl | (rcases h with h | h <;> cases h)
theorem g_dget (k : α) : ∀ D : List (α × β), dget (D.map fun p => (ek p.1, ev p.2)) (ek k) = (dlook D k).map ev
  | [] => rfl
  | p :: r => by
    rw [List.map_cons]
    unfold dget dlook
    rw [K.eq]
    by_cases e : p.1 = k
    · rw [decide_eq_true e, if_pos rfl, if_pos e]; rfl
    · rw [decide_eq_false e, if_neg Bool.false_ne_true, if_neg e]; exact g_dget k r
theorem g_dput (k : α) (v : β) : ∀ D : List (α × β), dput (D.map fun p => (ek p.1, ev p.2)) (ek k) (ev v) = (dset D k v).map fun p => (ek p.1, ev p.2)
  | [] => rfl
  | p :: r => by
    rw [List.map_cons]
    unfold dput dset
    rw [K.eq]
    by_cases e : p.1 = k
    · rw [decide_eq_true e, if_pos rfl, if_pos e]; rfl
    · rw [decide_eq_false e, if_neg Bool.false_ne_true, if_neg e, List.map_cons, g_dput k v r]
theorem g_idx {D : List (α × β)} {k : α} {v : β} (h : dlook D k = some v) : pIdx (dG ek ev D) (ek k) = pu (ev v) := by
  have e : pIdx (dG ek ev D) (ek k) = gd (plainD (dG ek ev D) = true ∧ kndOk ((D.map fun p => (ek p.1, ev p.2)).map (·.1)) (ek k) = true) (ofO (dget (D.map fun p => (ek p.1, ev p.2)) (ek k))) := rfl
  rw [e, gd_yes ⟨g_plain K D, g_knd K D k⟩, g_dget K, h]
  rfl
theorem g_set {D : List (α × β)} {k : α} {v : β} (h : D.length ≤ 1000000) : pSet (dG ek ev D) (ek k) (ev v) = pu (dG ek ev (dset D k v)) := by
  have e : pSet (dG ek ev D) (ek k) (ev v) = gd (plainD (dG ek ev D) = true ∧ kndOk ((D.map fun p => (ek p.1, ev p.2)).map (·.1)) (ek k) = true ∧ (D.map fun p => (ek p.1, ev p.2)).length < LINE) (pu (.dict (dput (D.map fun p => (ek p.1, ev p.2)) (ek k) (ev v)))) := rfl
  rw [e, gd_yes ⟨g_plain K D, g_knd K D k, by rw [List.length_map]; show _ < 16777216; omega⟩, g_dput K]
  rfl
theorem g_in (D : List (α × β)) (k : α) : pCmp .isin (ek k) (dG ek ev D) = pu (.bool (dlook D k).isSome) := by
  have e : pCmp .isin (ek k) (dG ek ev D) = gd (plainD (dG ek ev D) = true ∧ kndOk ((D.map fun p => (ek p.1, ev p.2)).map (·.1)) (ek k) = true) (pu (.bool (dget (D.map fun p => (ek p.1, ev p.2)) (ek k)).isSome)) := rfl
  rw [e, gd_yes ⟨g_plain K D, g_knd K D k⟩, g_dget K, Option.isSome_map]
theorem g_notin (D : List (α × β)) (k : α) : pCmp .notin (ek k) (dG ek ev D) = pu (.bool (!(dlook D k).isSome)) := by
  have e : pCmp .notin (ek k) (dG ek ev D) = nB (pCmp .isin (ek k) (dG ek ev D)) := rfl
  rw [e, g_in K]
  rfl
theorem g_get1 (D : List (α × β)) (k : α) : pMet .get1 (dG ek ev D) [ek k] = pu (((dlook D k).map ev).getD .none) := by
  have e : pMet .get1 (dG ek ev D) [ek k] = gd (plainD (dG ek ev D) = true ∧ kndOk ((D.map fun p => (ek p.1, ev p.2)).map (·.1)) (ek k) = true) (pu ((dget (D.map fun p => (ek p.1, ev p.2)) (ek k)).getD .none)) := rfl
  rw [e, gd_yes ⟨g_plain K D, g_knd K D k⟩, g_dget K]
theorem g_get2 (D : List (α × β)) (k : α) (x : PV) : pMet .get2 (dG ek ev D) [ek k, x] = pu (((dlook D k).map ev).getD x) := by
  have e : pMet .get2 (dG ek ev D) [ek k, x] = gd (plainD (dG ek ev D) = true ∧ kndOk ((D.map fun p => (ek p.1, ev p.2)).map (·.1)) (ek k) = true) (pu ((dget (D.map fun p => (ek p.1, ev p.2)) (ek k)).getD x)) := rfl
  rw [e, gd_yes ⟨g_plain K D, g_knd K D k⟩, g_dget K]
theorem g_iter (D : List (α × β)) : iterV (dG ek ev D) = pu ((D.map (·.1)).map ek) := by
  have e : iterV (dG ek ev D) = gd (plainD (dG ek ev D) = true) (pu ((D.map fun p => (ek p.1, ev p.2)).map (·.1))) := rfl
  rw [e, gd_yes (g_plain K D), List.map_map, List.map_map]
  rfl
theorem g_len (D : List (α × β)) : pBi .len [dG ek ev D] = pu (.int (D.length : Int)) := by
  have e : pBi .len [dG ek ev D] = gd (plainD (dG ek ev D) = true) (pu (.int ((D.map fun p => (ek p.1, ev p.2)).length : Int))) := rfl
  rw [e, gd_yes (g_plain K D), List.length_map]
theorem g_items (D : List (α × β)) : itemsV (dG ek ev D) = pu (.list (D.map fun p => .tuple [ek p.1, ev p.2])) := by
  have e : itemsV (dG ek ev D) = gd (plainD (dG ek ev D) = true) (pu (.list ((D.map fun p => (ek p.1, ev p.2)).map fun p => .tuple [p.1, p.2]))) := rfl
  rw [e, gd_yes (g_plain K D), List.map_map]
  rfl
theorem g_met1 {C : Nat → List PV → M PV} {G : List PV} {o e : Ex} {ρ : Env} {D : List (α × β)} {k : α} (h1 : denE C G o ρ = pu (dG ek ev D)) (h2 : denE C G e ρ = pu (ek k)) : denE C G (.met .get1 o [e]) ρ = pu (((dlook D k).map ev).getD .none) := by
  have z : denE C G (.met .get1 o [e]) ρ = bd (denE C G o ρ) fun x => gd (metOn .get1 x = true) (bd (denEs C G [e] ρ) fun vs => pMet .get1 x vs) := rfl
  rw [z, h1, bd_pu, gd_yes (show metOn .get1 (dG ek ev D) = true from g_plain K D), es1 h2, bd_pu, g_get1 K]
theorem g_met2 {C : Nat → List PV → M PV} {G : List PV} {o e f : Ex} {ρ : Env} {D : List (α × β)} {k : α} {x : PV} (h1 : denE C G o ρ = pu (dG ek ev D)) (h2 : denE C G e ρ = pu (ek k)) (h3 : denE C G f ρ = pu x) : denE C G (.met .get2 o [e, f]) ρ = pu (((dlook D k).map ev).getD x) := by
  have z : denE C G (.met .get2 o [e, f]) ρ = bd (denE C G o ρ) fun x => gd (metOn .get2 x = true) (bd (denEs C G [e, f] ρ) fun vs => pMet .get2 x vs) := rfl
  rw [z, h1, bd_pu, gd_yes (show metOn .get2 (dG ek ev D) = true from g_plain K D), es2 h2 h3, bd_pu, g_get2 K]
theorem g_seti {C : Nat → List PV → M PV} {G : List PV} {x : Nat} {i e : Ex} {ρ : Env} {D : List (α × β)} {k : α} {v : β} (hD : D.length ≤ 1000000) (h0 : getV ρ x = pu (dG ek ev D)) (h1 : denE C G e ρ = pu (ev v)) (h2 : denE C G i ρ = pu (ek k)) : denS C G (.seti x i e) ρ = pu (.nx (ρ.set x (some (dG ek ev (dset D k v))))) := by
  have z : denS C G (.seti x i e) ρ = bd (denE C G e ρ) fun v => bd (bd (bd (getV ρ x) fun o => bd (denE C G i ρ) fun k => bd (pSet o k v) fun o' => pu (ρ.set x (some o'))) fun ρ' => pu ρ') fun ρ' => pu (.nx ρ') := rfl
  rw [z, h1, bd_pu, h0, bd_pu, h2, bd_pu, g_set K hD]
  rfl
end
theorem dct1_den {C : Nat → List PV → M PV} {G : List PV} {a b : Ex} {ρ : Env} {x y : PV} (h1 : denE C G a ρ = pu x) (h2 : denE C G b ρ = pu y) (hk : kndOk [] x = true) : denE C G (.dct [a] [b]) ρ = pu (.dict [(x, y)]) := by
  have w : denE C G (.dct [a] [b]) ρ = bd (denEs C G [a] ρ) fun ks => bd (denEs C G [b] ρ) fun vs => bd (putAll ks vs []) fun d => pu (.dict d) := rfl
  rw [w, es1 h1, bd_pu, es1 h2, bd_pu]
  have e : putAll [x] [y] [] = gd (kndOk [] x = true) (pu [(x, y)]) := rfl
  rw [e, gd_yes hk]
  rfl
theorem kenc_pl : KEnc plE := ⟨fun a b => eqP_pl a b, .inl fun _ => rfl⟩
theorem kenc_int : KEnc PyData.int := ⟨fun a b => by
  show (a == b) = _
  by_cases h : a = b
  · rw [h, decide_eq_true rfl]; simp
  · rw [decide_eq_false h]; simpa using h, .inr fun _ => rfl⟩
/-- unlike things among some are no more than these -/
theorem nodup_len {α : Type} [DecidableEq α] : ∀ {xs ys : List α}, xs.Nodup → (∀ x ∈ xs, x ∈ ys) → xs.length ≤ ys.length
  | [], _, _, _ => Nat.zero_le _
  | x :: xs, ys, nd, h => by
    rw [List.nodup_cons] at nd
    have h1 : x ∈ ys := h x List.mem_cons_self
    have h2 := nodup_len (ys := ys.erase x) nd.2 fun y hy => (List.mem_erase_of_ne fun e => nd.1 (by rw [← e]; exact hy)).mpr (h y (List.mem_cons_of_mem _ hy))
    rw [List.length_erase_of_mem h1] at h2
    have := List.length_pos_of_mem h1
    rw [List.length_cons]
    omega
end HG.Z
end
section
set_option maxHeartbeats 1000000
/-! HGKit4: expressions that draw: what holds of all that they may come to (namespace HG.Z). -/
namespace HG.Z
open PySem
/-- whatever e comes to has P -/
def Dn (C : Nat → List PV → M PV) (G : List PV) (E : PV → Prop) (e : Ex) (ρ : Env) (P : PV → Prop) : Prop := ∀ Q : PV → Prop, (∀ v, P v → Q v) → denE C G e ρ Q E
def DnS (C : Nat → List PV → M PV) (G : List PV) (E : PV → Prop) (es : List Ex) (ρ : Env) (P : List PV → Prop) : Prop := ∀ Q : List PV → Prop, (∀ v, P v → Q v) → denEs C G es ρ Q E
section
variable {C : Nat → List PV → M PV} {G : List PV} {E : PV → Prop} {ρ : Env} {P : PV → Prop}
theorem dn_pu {e : Ex} {v : PV} (h : denE C G e ρ = pu v) (p : P v) : Dn C G E e ρ P := fun Q q => by rw [h]; exact q v p
theorem dn_imp {e : Ex} {P' : PV → Prop} (h : Dn C G E e ρ P') (p : ∀ v, P' v → P v) : Dn C G E e ρ P := fun Q q => h Q fun v z => q v (p v z)
theorem dns_nil {P : List PV → Prop} (p : P []) : DnS C G E [] ρ P := fun Q q => q [] p
theorem dns_cons {e : Ex} {es : List Ex} {P1 : PV → Prop} {P2 : List PV → Prop} {P : List PV → Prop} (h1 : Dn C G E e ρ P1) (h2 : DnS C G E es ρ P2) (p : ∀ x xs, P1 x → P2 xs → P (x :: xs)) : DnS C G E (e :: es) ρ P := fun Q q => by
  have z : denEs C G (e :: es) ρ = bd (denE C G e ρ) fun x => bd (denEs C G es ρ) fun xs => pu (x :: xs) := rfl
  rw [z, bd_app]
  refine h1 _ fun x px => ?_
  rw [bd_app]
  exact h2 _ fun xs pxs => q _ (p x xs px pxs)
theorem dns_pu {es : List Ex} {vs : List PV} {P : List PV → Prop} (h : denEs C G es ρ = pu vs) (p : P vs) : DnS C G E es ρ P := fun Q q => by rw [h]; exact q vs p
theorem dn_roll {c m : Ex} (h1 : denE C G c ρ = pu cupV) (h2 : Dn C G E m ρ fun v => ∃ n : Int, v = .int n ∧ (0 < n ∧ n < 4611686018427387904) ∧ ∀ r : Int, 0 ≤ r → r < n → P (.int r)) : Dn C G E (.roll c m) ρ P := fun Q q => by
  have z : denE C G (.roll c m) ρ = bd (denE C G c ρ) fun x => bd (denE C G m ρ) fun y => asI y fun n => if isCup x then rl n else stuck := rfl
  rw [z, h1, bd_pu, bd_app]
  refine h2 _ fun v ⟨n, e, hn, hp⟩ => ?_
  subst e
  rw [asI_int, isCup_cup, if_pos rfl]
  exact ⟨hn, fun r r0 r1 => q _ (hp r r0 r1)⟩
theorem dn_roll_lit {c m : Ex} {n : Int} (h1 : denE C G c ρ = pu cupV) (h2 : denE C G m ρ = pu (.int n)) (h0 : 0 < n) (h3 : n < 4611686018427387904) (hp : ∀ r : Int, 0 ≤ r → r < n → P (.int r)) : Dn C G E (.roll c m) ρ P :=
  dn_roll h1 (dn_pu h2 ⟨n, rfl, ⟨h0, h3⟩, hp⟩)
theorem dn_bin {o : Bop} {a b : Ex} {P1 P2 : PV → Prop} (h1 : Dn C G E a ρ P1) (h2 : Dn C G E b ρ P2) (p : ∀ x y, P1 x → P2 y → ∃ v, pBin o x y = pu v ∧ P v) : Dn C G E (.bin o a b) ρ P := fun Q q => by
  have z : denE C G (.bin o a b) ρ = bd (denE C G a ρ) fun x => bd (denE C G b ρ) fun y => pBin o x y := rfl
  rw [z, bd_app]
  refine h1 _ fun x px => ?_
  rw [bd_app]
  refine h2 _ fun y py => ?_
  obtain ⟨v, e, pv⟩ := p x y px py
  rw [e]
  exact q v pv
theorem dn_cmp {o : Cop} {a b : Ex} {P1 P2 : PV → Prop} (h1 : Dn C G E a ρ P1) (h2 : Dn C G E b ρ P2) (p : ∀ x y, P1 x → P2 y → ∃ v, pCmp o x y = pu v ∧ P v) : Dn C G E (.cmp o a b) ρ P := fun Q q => by
  have z : denE C G (.cmp o a b) ρ = bd (denE C G a ρ) fun x => bd (denE C G b ρ) fun y => pCmp o x y := rfl
  rw [z, bd_app]
  refine h1 _ fun x px => ?_
  rw [bd_app]
  refine h2 _ fun y py => ?_
  obtain ⟨v, e, pv⟩ := p x y px py
  rw [e]
  exact q v pv
theorem dn_idx {a b : Ex} {P1 P2 : PV → Prop} (h1 : Dn C G E a ρ P1) (h2 : Dn C G E b ρ P2) (p : ∀ x y, P1 x → P2 y → ∃ v, pIdx x y = pu v ∧ P v) : Dn C G E (.idx a b) ρ P := fun Q q => by
  have z : denE C G (.idx a b) ρ = bd (denE C G a ρ) fun x => bd (denE C G b ρ) fun y => pIdx x y := rfl
  rw [z, bd_app]
  refine h1 _ fun x px => ?_
  rw [bd_app]
  refine h2 _ fun y py => ?_
  obtain ⟨v, e, pv⟩ := p x y px py
  rw [e]
  exact q v pv
theorem dn_slc {a lo hi : Ex} {P1 P2 P3 : PV → Prop} (h1 : Dn C G E a ρ P1) (h2 : Dn C G E lo ρ P2) (h3 : Dn C G E hi ρ P3) (pl : ∀ l, P2 l → partOk l = true) (p : ∀ x l h, P1 x → P2 l → P3 h → partOk h = true ∧ ∃ v, pSlc x l h = pu v ∧ P v) : Dn C G E (.slc a lo hi) ρ P := fun Q q => by
  have z : denE C G (.slc a lo hi) ρ = bd (denE C G a ρ) fun x => bd (denE C G lo ρ) fun l => gd (partOk l = true) (bd (denE C G hi ρ) fun h => gd (partOk h = true) (pSlc x l h)) := rfl
  rw [z, bd_app]
  refine h1 _ fun x px => ?_
  rw [bd_app]
  refine h2 _ fun l p2 => ?_
  refine ⟨pl l p2, h3 _ fun h ph => ?_⟩
  obtain ⟨k2, v, e, pv⟩ := p x l h px p2 ph
  refine ⟨k2, ?_⟩
  rw [e]
  exact q v pv
theorem dn_nt {a : Ex} (h1 : Dn C G E a ρ fun v => ∃ b : Bool, v = .bool b ∧ P (.bool !b)) : Dn C G E (.nt a) ρ P := fun Q q => by
  have z : denE C G (.nt a) ρ = bd (denE C G a ρ) fun x => asB x fun b => pu (.bool !b) := rfl
  rw [z, bd_app]
  refine h1 _ fun x ⟨b, e, p⟩ => ?_
  subst e
  exact q _ p
theorem dn_an {a b : Ex} (h1 : Dn C G E a ρ fun v => ∃ s : Bool, v = .bool s ∧ (s = false → P (.bool false)) ∧ (s = true → Dn C G E b ρ P)) : Dn C G E (.an a b) ρ P := fun Q q => by
  have z : denE C G (.an a b) ρ = bd (denE C G a ρ) fun x => asB x fun c => if c then denE C G b ρ else pu (.bool false) := rfl
  rw [z, bd_app]
  refine h1 _ fun x ⟨s, e, p1, p2⟩ => ?_
  subst e
  rw [asB_bool]
  cases s with
  | true => exact p2 rfl Q q
  | false => exact q _ (p1 rfl)
theorem dn_or {a b : Ex} (h1 : Dn C G E a ρ fun v => ∃ s : Bool, v = .bool s ∧ (s = true → P (.bool true)) ∧ (s = false → Dn C G E b ρ P)) : Dn C G E (.or_ a b) ρ P := fun Q q => by
  have z : denE C G (.or_ a b) ρ = bd (denE C G a ρ) fun x => asB x fun c => if c then pu (.bool true) else denE C G b ρ := rfl
  rw [z, bd_app]
  refine h1 _ fun x ⟨s, e, p1, p2⟩ => ?_
  subst e
  rw [asB_bool]
  cases s with
  | false => exact p2 rfl Q q
  | true => exact q _ (p1 rfl)
theorem dn_ite {c a b : Ex} (h1 : Dn C G E c ρ fun v => ∃ s : Bool, v = .bool s ∧ (s = true → Dn C G E a ρ P) ∧ (s = false → Dn C G E b ρ P)) : Dn C G E (.ite c a b) ρ P := fun Q q => by
  have z : denE C G (.ite c a b) ρ = bd (denE C G c ρ) fun x => asB x fun t => if t then denE C G a ρ else denE C G b ρ := rfl
  rw [z, bd_app]
  refine h1 _ fun x ⟨s, e, p1, p2⟩ => ?_
  subst e
  rw [asB_bool]
  cases s with
  | false => exact p2 rfl Q q
  | true => exact p1 rfl Q q
theorem dn_tup {es : List Ex} (h : DnS C G E es ρ fun vs => P (.tuple vs)) : Dn C G E (.tup es) ρ P := fun Q q => by
  have z : denE C G (.tup es) ρ = bd (denEs C G es ρ) fun vs => pu (.tuple vs) := rfl
  rw [z, bd_app]
  exact h _ fun vs p => q _ p
theorem dn_lst {es : List Ex} (h : DnS C G E es ρ fun vs => P (.list vs)) : Dn C G E (.lst es) ρ P := fun Q q => by
  have z : denE C G (.lst es) ρ = bd (denEs C G es ρ) fun vs => pu (.list vs) := rfl
  rw [z, bd_app]
  exact h _ fun vs p => q _ p
theorem dn_call {f : Nat} {es : List Ex} (h : DnS C G E es ρ fun vs => ∀ Q : PV → Prop, (∀ v, P v → Q v) → C f vs Q E) : Dn C G E (.call f es) ρ P := fun Q q => by
  have z : denE C G (.call f es) ρ = bd (denEs C G es ρ) fun vs => C f vs := rfl
  rw [z, bd_app]
  exact h _ fun vs p => p Q q
theorem dn_bi {b : Bi} {es : List Ex} (h : DnS C G E es ρ fun vs => ∃ v, pBi b vs = pu v ∧ P v) : Dn C G E (.bi b es) ρ P := fun Q q => by
  have z : denE C G (.bi b es) ρ = bd (denEs C G es ρ) fun vs => pBi b vs := rfl
  rw [z, bd_app]
  refine h _ fun vs ⟨v, e, p⟩ => ?_
  rw [e]
  exact q v p
theorem dn_rng1 {m : Ex} (h : Dn C G E m ρ fun v => ∃ n : Nat, v = .int (n : Int) ∧ n ≤ 1000000 ∧ P (.list ((List.range n).map natI))) : Dn C G E (.rng1 m) ρ P := fun Q q => by
  have z : denE C G (.rng1 m) ρ = bd (denE C G m ρ) fun y => asI y fun n => gd (RB n) (pu (.list (rng 0 n))) := rfl
  rw [z, bd_app]
  refine h _ fun v ⟨n, e, hn, p⟩ => ?_
  subst e
  rw [asI_int]
  refine ⟨⟨by omega, by omega⟩, ?_⟩
  rw [rng_map]
  exact q _ p
theorem dns_all {es : List Ex} {P1 : PV → Prop} (h : ∀ e ∈ es, Dn C G E e ρ P1) : DnS C G E es ρ fun vs => vs.length = es.length ∧ ∀ v ∈ vs, P1 v := by
  induction es with
  | nil => exact dns_nil ⟨rfl, fun _ h => by cases h⟩
  | cons e es ih =>
    refine dns_cons (h e List.mem_cons_self) (ih fun x hx => h x (List.mem_cons_of_mem _ hx)) fun x xs p q => ⟨by rw [List.length_cons, List.length_cons, q.1], fun v hv => ?_⟩
    rcases List.mem_cons.mp hv with z | z
    · rw [z]; exact p
    · exact q.2 v z
/-- one of some things -/
theorem dn_some {i c : Nat} {es : List Ex} (hs : S_some C i) (hc : getV ρ c = pu cupV) (h : ∀ e ∈ es, Dn C G E e ρ P) (ne : es ≠ []) (hl : es.length ≤ 1000) : Dn C G E (.call i [.var c, .lst es]) ρ P := by
  refine dn_call (dns_cons (P1 := fun v => v = cupV) (P2 := fun vs => ∃ xs : List PV, vs = [.list xs] ∧ xs.length = es.length ∧ ∀ v ∈ xs, P v) (dn_pu hc rfl) (dns_cons (P1 := fun v => ∃ xs : List PV, v = .list xs ∧ xs.length = es.length ∧ ∀ v ∈ xs, P v) (P2 := fun vs => vs = []) (dn_lst fun Q q => dns_all h Q fun vs z => q vs ⟨vs, rfl, z⟩) (dns_nil rfl) fun x xs p q => by
    obtain ⟨ys, e, p⟩ := p
    subst e
    subst q
    exact ⟨ys, rfl, p⟩) fun x xs p q Q hq => ?_)
  obtain ⟨ys, e, el, q⟩ := q
  subst e
  subst p
  refine hs ys Q E (fun z => ?_) (by show _ ≤ 16777216; omega) fun x hx => hq x (q x hx)
  rw [z] at el
  exact ne (List.length_eq_zero_iff.mp el.symm)
def IntIn (lo hi : Int) (v : PV) : Prop := ∃ i : Int, v = .int i ∧ lo ≤ i ∧ i ≤ hi
theorem dn_int {e : Ex} {i lo hi : Int} (h : denE C G e ρ = pu (.int i)) (h1 : lo ≤ i) (h2 : i ≤ hi) : Dn C G E e ρ (IntIn lo hi) := dn_pu h ⟨i, rfl, h1, h2⟩
theorem dn_roll_in {c : Nat} {n : Int} (h1 : getV ρ c = pu cupV) (h0 : 0 < n) (h3 : n < 4611686018427387904) : Dn C G E (.roll (.var c) (.lit (.int n))) ρ (IntIn 0 (n - 1)) := dn_roll_lit h1 rfl h0 h3 fun r r0 r1 => ⟨r, rfl, r0, by omega⟩
/-- one more than what is drawn -/
theorem dn_more {e : Ex} {lo hi : Int} (h : Dn C G E e ρ (IntIn lo hi)) : Dn C G E (.bin .add (.lit (.int 1)) e) ρ (IntIn (lo + 1) (hi + 1)) := dn_bin (P1 := fun v => v = .int 1) (dn_pu rfl rfl) h fun x y hx ⟨i, e, h1, h2⟩ => by
  subst hx
  subst e
  exact ⟨_, rfl, 1 + i, rfl, by omega, by omega⟩
theorem dn_roll_by {c : Nat} {m : Ex} {lo hi : Int} (h1 : getV ρ c = pu cupV) (h : Dn C G E m ρ (IntIn lo hi)) (h0 : 0 < lo) (h3 : hi < 4611686018427387904) : Dn C G E (.roll (.var c) m) ρ (IntIn 0 (hi - 1)) := dn_roll h1 (dn_imp h fun v ⟨i, e, q1, q2⟩ => ⟨i, e, ⟨by omega, by omega⟩, fun r r0 r1 => ⟨r, rfl, r0, by omega⟩⟩)
/-! statements -/
theorem asg_dn {i : Nat} {e : Ex} {r : List St} {R : Fl → Prop} (h : Dn C G E e ρ P) (k : ∀ v, P v → denB C G r (ρ.set i (some v)) R E) : denB C G (.asg (.nm i) e :: r) ρ R E := asg_cps P h k
theorem asgT_dn {is : List Nat} {ks : List Bool} {es : List Ex} {r : List St} {R : Fl → Prop} {P : List PV → Prop} (h : DnS C G E es ρ P) (k : ∀ v, P v → denB C G r (setL is v ρ) R E) : denB C G (.asgT is ks es :: r) ρ R E := asgT_cps P h k
/-- a test that says no -/
theorem no_dn {c : Ex} {a r : List St} {R : Fl → Prop} (h : Dn C G E c ρ fun v => v = .bool false) (k : denB C G r ρ R E) : denB C G (.ite c a [] :: r) ρ R E := by
  have z : denB C G (.ite c a [] :: r) ρ = thenF (bd (denE C G c ρ) fun t => asB t fun t => if t then denB C G a ρ else denB C G [] ρ) (denB C G r) := rfl
  rw [z]
  show denE C G c ρ (fun t => (asB t fun t => if t then denB C G a ρ else denB C G [] ρ) (fun f => thenK (denB C G r) f R E) E) E
  refine h _ fun v e => ?_
  subst e
  exact k
theorem ite_dn {c : Ex} {a b r : List St} {R : Fl → Prop} (h : Dn C G E c ρ fun v => ∃ s : Bool, v = .bool s ∧ (s = true → denB C G a ρ (fun f => thenK (denB C G r) f R E) E) ∧ (s = false → denB C G b ρ (fun f => thenK (denB C G r) f R E) E)) : denB C G (.ite c a b :: r) ρ R E := by
  show denE C G c ρ (fun t => (asB t fun t => if t then denB C G a ρ else denB C G b ρ) (fun f => thenK (denB C G r) f R E) E) E
  refine h _ fun v ⟨s, e, p1, p2⟩ => ?_
  subst e
  cases s with
  | true => exact p1 rfl
  | false => exact p2 rfl
theorem ret_dn {e : Ex} {r : List St} {R : Fl → Prop} (h : Dn C G E e ρ fun v => R (.rt v)) : denB C G (.ret e :: r) ρ R E := by
  show denE C G e ρ (fun v => R (.rt v)) E
  exact h _ fun v p => p
/-- a loop that draws -/
theorem for_dn {γ : Type} {k : Nat} {e : Ex} {b r : List St} {R : Fl → Prop} {en : γ → PV} (I : Nat → Env → Prop) (h : Dn C G E e ρ fun v => ∃ xs : List γ, iterV v = pu (xs.map en) ∧ I 0 ρ ∧ (∀ ρ', I xs.length ρ' → denB C G r ρ' R E) ∧
    (∀ x ∈ xs, ∀ n ρ', n < xs.length → I n ρ' → ∀ R' : Fl → Prop, (∀ ρ2, I (n + 1) ρ2 → R' (.nx ρ2)) → denB C G b (ρ'.set k (some (en x))) R' E)) : denB C G (.for_ (.nm k) e b :: r) ρ R E := by
  refine sqd ?_
  have z : denS C G (.for_ (.nm k) e b) ρ = bd (denE C G e ρ) fun v => bd (iterV v) fun xs => forL (fun x ρ => bd (bindT (.nm k) x ρ) (denB C G b)) xs ρ := rfl
  rw [z, bd_app]
  refine h _ fun v ⟨xs, hv, i, q, hb⟩ => ?_
  rw [hv, bd_pu]
  refine forL_cps (n := 0) I i (fun ρ' i' => ?_) fun x hx n ρ' hn i' R' r1 r2 _ _ => ?_
  · rw [List.length_map, Nat.zero_add] at i'
    exact q ρ' i'
  · obtain ⟨y, hy, rfl⟩ := List.mem_map.mp hx
    rw [List.length_map, Nat.zero_add] at hn
    exact hb y hy n ρ' hn i' R' r1
end
end HG.Z
end
section
set_option maxHeartbeats 1000000
/-! HGNi: nights (k33 to k37): codes, what they compute. -/
namespace HG.Ni
open PySem HG.Z
local macro_rules | `(tactic| walk_at "gv") => `(tactic| first | assumption | exact rfl | (refine (sg_other ?_ _).trans ?_; decide; walk_at "gv") | (refine (wg_other ?_ _).trans ?_; decide; walk_at "gv") | (refine sg_self ?_ _; walk_at "len") | (refine wg_self ?_ _; walk_at "len"))
local macro_rules | `(tactic| walk_at "len") => `(tactic| first | decide | (simp only [List.length_set, wlen]; omega) | (simp only [List.length_set, wlen, *]; decide) | assumption)
local macro_rules | `(tactic| walk_at "op") => `(tactic| first | assumption | exact rfl | exact le_int _ _ | exact ge_int _ _ | exact lt_int' _ _ | exact gt_int' _ _ | exact eq_int _ _ | exact ne_int _ _ | exact abs_int _ | exact len_tuple _ | exact len_list _)
local macro_rules | `(tactic| walk_at "dens") => `(tactic| first | exact es_nil | (apply es_cons; walk_at "den"; walk_at "dens"))
local macro_rules | `(tactic| walk_at "den") => `(tactic| first | assumption | exact lit_den _ | (apply var_den; walk_at "gv") | (apply glb_den; assumption) | (apply bin_pu; walk_at "den"; walk_at "den"; walk_at "op") | (apply cmp_pu; walk_at "den"; walk_at "den"; walk_at "op") | (apply idx_pu; walk_at "den"; walk_at "den"; walk_at "op") | (apply neg_pu; walk_at "den"; walk_at "op") | (apply nt_den; walk_at "den") | (apply an_pu; walk_at "den"; intro _; walk_at "den") | (apply or_pu; walk_at "den"; intro _; walk_at "den") | (apply ite_pu; walk_at "den"; intro _; walk_at "den"; intro _; walk_at "den") | (apply call_pu; walk_at "dens"; walk_at "op") | (apply bi_pu; walk_at "dens"; walk_at "op") | (apply tup_den; walk_at "dens") | (apply lst_den; walk_at "dens") | (apply slc_pu; walk_at "den"; walk_at "den"; exact rfl; walk_at "den"; exact rfl; walk_at "op"))
local macro_rules | `(tactic| walk_at "dn") => `(tactic| (apply den_eq; walk_at "den"; first | exact rfl | (simp only [Bool.false_or, Bool.or_false, Bool.true_and, Bool.and_true, Bool.not_true, Bool.not_false])))
/-- value; slots value -/
def k_fits_rules (i_is_whole i_is_tuple_of g_RISE g_HEIGHT g_RUNS : Nat) : List St := [.ite (.or_ (.nt (.call i_is_tuple_of [.var 0, .lit (.int 3), .lit (.int 3)])) (.or_ (.nt (.call i_is_whole [.idx (.var 0) (.lit (.int 0)), .lit (.int 0), .glb g_HEIGHT])) (.nt (.call i_is_whole [.idx (.var 0) (.lit (.int 1)), .lit (.int 1), .glb g_RISE])))) [.ret (.lit (.bool false))] [],
  .ret (.call i_is_whole [.idx (.var 0) (.lit (.int 2)), .lit (.int 1), .glb g_RUNS])]
/-- rules; slots rules -/
def k_need_rules (i_fits_rules e_InvalidRules : Nat) : List St := [.ite (.nt (.call i_fits_rules [.var 0])) [.rai e_InvalidRules []] []]
/-- value; slots value one -/
def k_fits_nights (i_is_whole i_is_tuple_of g_HEIGHT g_NIGHTS : Nat) : List St := [.ret (.an (.call i_is_tuple_of [.var 0, .lit (.int 0), .glb g_NIGHTS]) (.bi .all [.lc1 (.call i_is_whole [.var 1, .lit (.int 0), .glb g_HEIGHT]) (.nm 1) (.var 0) (.lit (.bool true))]))]
/-- nights; slots nights -/
def k_need_nights (i_fits_nights e_InvalidRules : Nat) : List St := [.ite (.nt (.call i_fits_nights [.var 0])) [.rai e_InvalidRules []] []]
/-- many; slots many -/
def k_need_many (i_is_whole g_MANY e_InvalidNumber : Nat) : List St := [.ite (.nt (.call i_is_whole [.var 0, .lit (.int 1), .glb g_MANY])) [.rai e_InvalidNumber []] []]
/-- rules, state, height; slots rules state height free rise runs -/
def k_slept : List St := [.asg (.tp [.nm 3, .nm 4, .nm 5]) (.var 0),
  .ite (.cmp .le (.var 2) (.var 3)) [.ret (.tup [.var 2, .lit (.int 0)])] [],
  .ite (.or_ (.cmp .is_ (.var 1) (.lit .none)) (.or_ (.cmp .gt (.var 2) (.bin .add (.idx (.var 1) (.lit (.int 0))) (.var 4))) (.an (.cmp .gt (.var 2) (.idx (.var 1) (.lit (.int 0)))) (.cmp .ge (.idx (.var 1) (.lit (.int 1))) (.var 5))))) [.ret (.lit .none)] [],
  .ret (.tup [.var 2, .ite (.cmp .gt (.var 2) (.idx (.var 1) (.lit (.int 0)))) (.bin .add (.idx (.var 1) (.lit (.int 1))) (.lit (.int 1))) (.lit (.int 0))])]
/-- rules, state; slots rules state rows height row -/
def k_nexts_in (i_slept g_HEIGHT : Nat) : List St := [.asg (.nm 2) (.lc1 (.call i_slept [.var 0, .var 1, .var 3]) (.nm 3) (.rng1 (.bin .add (.glb g_HEIGHT) (.lit (.int 1)))) (.lit (.bool true))),
  .ret (.lc1 (.var 4) (.nm 4) (.var 2) (.cmp .isnot (.var 4) (.lit .none)))]
/-- rules, nights; slots rules nights state at height -/
def k_broken_in (i_slept : Nat) : List St := [.asg (.nm 2) (.lit .none),
  .for_ (.tp [.nm 3, .nm 4]) (.enm (.var 1)) [.asg (.nm 2) (.call i_slept [.var 0, .var 2, .var 4]),
    .ite (.cmp .is_ (.var 2) (.lit .none)) [.ret (.var 3)] []],
  .ret (.lit .none)]
/-- rules, many; slots rules many line turn later state there -/
def k_levels_in (i_nexts_in : Nat) : List St := [.asg (.nm 2) (.dct [.lit .none] [.lit (.int 1)]),
  .for_ (.nm 3) (.rng1 (.var 1)) [.own 4 (.dct [] []),
    .for_ (.nm 5) (.var 2) [.for_ (.nm 6) (.call i_nexts_in [.var 0, .var 5]) [.seti 4 (.var 6) (.bin .add (.met .get2 (.var 4) [.var 6, .lit (.int 0)]) (.idx (.var 2) (.var 5)))]],
    .frz [4],
    .asg (.nm 2) (.var 4)],
  .ret (.var 2)]
/-- value; slots value -/
def k_are_rules (i_fits_rules : Nat) : List St := [.ret (.call i_fits_rules [.var 0])]
/-- rules, nights; slots rules nights -/
def k_is_kept (i_need_rules i_need_nights i_broken_in : Nat) : List St := [.ex (.call i_need_rules [.var 0]),
  .ex (.call i_need_nights [.var 1]),
  .ret (.cmp .is_ (.call i_broken_in [.var 0, .var 1]) (.lit .none))]
/-- rules, nights; slots rules nights -/
def k_first_broken (i_need_rules i_need_nights i_broken_in : Nat) : List St := [.ex (.call i_need_rules [.var 0]),
  .ex (.call i_need_nights [.var 1]),
  .ret (.call i_broken_in [.var 0, .var 1])]
/-- rules, nights; slots rules nights state height there -/
def k_let_next (i_need_rules i_need_nights i_broken_in i_slept i_nexts_in : Nat) : List St := [.ex (.call i_need_rules [.var 0]),
  .ex (.call i_need_nights [.var 1]),
  .ite (.cmp .isnot (.call i_broken_in [.var 0, .var 1]) (.lit .none)) [.ret (.lit .none)] [],
  .asg (.nm 2) (.lit .none),
  .for_ (.nm 3) (.var 1) [.asg (.nm 2) (.call i_slept [.var 0, .var 2, .var 3])],
  .ret (.bi .tuple [.lc1 (.idx (.var 4) (.lit (.int 0))) (.nm 4) (.call i_nexts_in [.var 0, .var 2]) (.lit (.bool true))])]
/-- rules, many; slots rules many found state -/
def k_count_nights (i_need_rules i_need_many i_levels_in : Nat) : List St := [.ex (.call i_need_rules [.var 0]),
  .ex (.call i_need_many [.var 1]),
  .asg (.nm 2) (.call i_levels_in [.var 0, .var 1]),
  .ret (.bi .sum [.lc1 (.idx (.var 2) (.var 3)) (.nm 3) (.var 2) (.lit (.bool true))])]
/-- cup; slots cup -/
def k__law_rules (i__law_some : Nat) : List St := [.ret (.tup [.call i__law_some [.var 0, .lst [.lit (.int 0), .lit (.int 1), .lit (.int 2), .roll (.var 0) (.lit (.int 10))]], .bin .add (.lit (.int 1)) (.roll (.var 0) (.call i__law_some [.var 0, .lst [.lit (.int 2), .lit (.int 4), .lit (.int 9)]])), .bin .add (.lit (.int 1)) (.roll (.var 0) (.call i__law_some [.var 0, .lst [.lit (.int 2), .lit (.int 5)]]))])]
/-- rules, nights; slots rules nights free rise runs at height run back -/
def k__law_broken : List St := [.asg (.tp [.nm 2, .nm 3, .nm 4]) (.var 0),
  .for_ (.tp [.nm 5, .nm 6]) (.enm (.var 1)) [.ite (.cmp .gt (.var 6) (.var 2)) [.asg (.nm 7) (.lit (.int 0)),
    .for_ (.nm 8) (.rngd (.bin .sub (.var 5) (.lit (.int 1))) (.lit (.int 0))) [.ite (.an (.cmp .gt (.idx (.var 1) (.var 8)) (.var 2)) (.an (.cmp .gt (.idx (.var 1) (.var 8)) (.idx (.var 1) (.bin .sub (.var 8) (.lit (.int 1))))) (.cmp .eq (.var 7) (.bin .sub (.bin .sub (.var 5) (.lit (.int 1))) (.var 8))))) [.asg (.nm 7) (.bin .add (.var 7) (.lit (.int 1)))] []],
    .ite (.or_ (.cmp .eq (.var 5) (.lit (.int 0))) (.or_ (.cmp .gt (.var 6) (.bin .add (.idx (.var 1) (.bin .sub (.var 5) (.lit (.int 1)))) (.var 3))) (.an (.cmp .gt (.var 6) (.idx (.var 1) (.bin .sub (.var 5) (.lit (.int 1))))) (.cmp .ge (.var 7) (.var 4))))) [.ret (.var 5)] []] []],
  .ret (.lit .none)]
/-- rules, many; slots rules many found turn longer row height -/
def k__law_rows (i__law_broken : Nat) : List St := [.asg (.nm 2) (.lst [.tup []]),
  .for_ (.nm 3) (.rng1 (.var 1)) [.asg (.nm 4) (.lst []),
    .for_ (.nm 5) (.var 2) [.asg (.nm 4) (.bin .add (.var 4) (.lc1 (.bin .add (.var 5) (.tup [.var 6])) (.nm 6) (.rng1 (.lit (.int 10))) (.cmp .is_ (.call i__law_broken [.var 0, .bin .add (.var 5) (.tup [.var 6])]) (.lit .none))))],
    .asg (.nm 2) (.var 4)],
  .ret (.var 2)]
abbrev Ru := Int × Int × Int
abbrev Stt := Option (Int × Int)
def ruE (R : Ru) : PV := .tuple [.int R.1, .int R.2.1, .int R.2.2]
def stE : Stt → PV
  | none => .none
  | some p => plE p
structure Rul (R : Ru) : Prop where
  f0 : 0 ≤ R.1
  f9 : R.1 ≤ 9
  r1 : 1 ≤ R.2.1
  r9 : R.2.1 ≤ 9
  n1 : 1 ≤ R.2.2
  n5 : R.2.2 ≤ 5
structure Ngh (ns : List Int) : Prop where
  len : ns.length ≤ 60
  ht : ∀ h ∈ ns, 0 ≤ h ∧ h ≤ 9
def slept (R : Ru) (s : Stt) (h : Int) : Stt := if h ≤ R.1 then some (h, 0) else match s with
  | none => none
  | some p => if (decide (p.1 + R.2.1 < h) || (decide (p.1 < h) && decide (R.2.2 ≤ p.2))) = true then none else some (h, if p.1 < h then p.2 + 1 else 0)
def broken (R : Ru) : Stt → Nat → List Int → Option Nat
  | _, _, [] => none
  | s, k, h :: r => match slept R s h with
    | none => some k
    | some p => broken R (some p) (k + 1) r
def nexts (R : Ru) (s : Stt) : List (Int × Int) := (List.range 10).filterMap fun (h : Nat) => slept R s (h : Int)
def optE : Option Nat → PV
  | none => .none
  | some k => natI k
section
variable {C : Nat → List PV → M PV} {G : List PV}
def S_fits_rules (C : Nat → List PV → M PV) (i : Nat) : Prop := ∀ R, Rul R → C i [ruE R] = pu (.bool true)
def S_need_rules (C : Nat → List PV → M PV) (i : Nat) : Prop := ∀ R, Rul R → C i [ruE R] = pu .none
def S_fits_nights (C : Nat → List PV → M PV) (i : Nat) : Prop := ∀ ns, Ngh ns → C i [rowE ns] = pu (.bool true)
def S_need_nights (C : Nat → List PV → M PV) (i : Nat) : Prop := ∀ ns, Ngh ns → C i [rowE ns] = pu .none
def S_need_many (C : Nat → List PV → M PV) (i : Nat) : Prop := ∀ n : Nat, 1 ≤ n → n ≤ 30 → C i [natI n] = pu .none
def S_slept (C : Nat → List PV → M PV) (i : Nat) : Prop := ∀ R s h, C i [ruE R, stE s, .int h] = pu (stE (slept R s h))
def S_nexts (C : Nat → List PV → M PV) (i : Nat) : Prop := ∀ R s, C i [ruE R, stE s] = pu (.list ((nexts R s).map plE))
def S_broken (C : Nat → List PV → M PV) (i : Nat) : Prop := ∀ R ns, C i [ruE R, rowE ns] = pu (optE (broken R none 0 ns))
theorem isW_b {i lo hi : Int} : isW (.int i) lo hi = (decide (lo ≤ i) && decide (i ≤ hi)) := rfl
theorem b_fits_rules {a b r h n : Nat} (h1 : S_is_whole C a) (h2 : S_is_tuple_of C b) (e1 : G[r]? = some (.int 9)) (e2 : G[h]? = some (.int 9)) (e3 : G[n]? = some (.int 5)) {R : Ru} (l : Rul R) : endF (denB C G (k_fits_rules a b r h n) (startE 1 [ruE R])) = pu (.bool true) := by
  have w : ∀ (i lo hi : Int), lo ≤ i → i ≤ hi → C a [.int i, .int lo, .int hi] = pu (.bool true) := fun i lo hi p q => by rw [h1 _ lo hi rfl, isW_int p q]
  have t : C b [ruE R, .int 3, .int 3] = pu (.bool true) := by rw [h2 _ _ _ rfl]; rfl
  have w0 := w R.1 0 9 l.f0 l.f9
  have w1 := w R.2.1 1 9 l.r1 l.r9
  have w2 := w R.2.2 1 5 l.n1 l.n5
  refine endF_ret ?_
  unfold k_fits_rules
  refine sq_go (by walk_at "dn") ?_
  exact ret_den (by walk_at "dn")
theorem b_need_rules {a e : Nat} (h1 : S_fits_rules C a) {R : Ru} (l : Rul R) : endF (denB C G (k_need_rules a e) (startE 1 [ruE R])) = pu .none := by
  have t := h1 R l
  refine endF_none (ρ := startE 1 [ruE R]) ?_
  unfold k_need_rules
  refine sq_go (by walk_at "dn") rfl
theorem b_fits_nights {a b h n : Nat} (h1 : S_is_whole C a) (h2 : S_is_tuple_of C b) (e2 : G[h]? = some (.int 9)) (e3 : G[n]? = some (.int 60)) {ns : List Int} (l : Ngh ns) : endF (denB C G (k_fits_nights a b h n) (startE 2 [rowE ns])) = pu (.bool true) := by
  have t : C b [rowE ns, .int 0, .int 60] = pu (.bool true) := by
    rw [h2 _ _ _ rfl]
    show pu (PyData.bool (decide ((0 : Int) ≤ ((ns.map PyData.int).length : Int)) && decide (((ns.map PyData.int).length : Int) ≤ 60))) = _
    have := l.len
    rw [List.length_map, decide_eq_true (by omega), decide_eq_true (by omega)]
    rfl
  have lc : denE C G (.lc1 (.call a [.var 1, .lit (.int 0), .glb h]) (.nm 1) (.var 0) (.lit (.bool true))) (startE 2 [rowE ns]) = pu (.list ((ns.map fun _ : Int => true).map PyData.bool)) := by
    refine lc1_map (v := rowE ns) rfl rfl fun i hi => ?_
    have w : C a [.int i, .int 0, .int 9] = pu (.bool true) := by rw [h1 _ _ _ rfl, isW_int (l.ht i hi).1 (l.ht i hi).2]
    walk_at "den"
  refine endF_ret ?_
  unfold k_fits_nights
  refine ret_den ?_
  refine (an_yes (by walk_at "dn")).trans ?_
  rw [all_den lc]
  congr 2
  rw [List.all_eq_true]
  intro x hx
  obtain ⟨_, _, rfl⟩ := List.mem_map.mp hx
  rfl
theorem b_need_nights {a e : Nat} (h1 : S_fits_nights C a) {ns : List Int} (l : Ngh ns) : endF (denB C G (k_need_nights a e) (startE 1 [rowE ns])) = pu .none := by
  have t := h1 ns l
  refine endF_none (ρ := startE 1 [rowE ns]) ?_
  unfold k_need_nights
  refine sq_go (by walk_at "dn") rfl
theorem b_need_many {a g e : Nat} (h1 : S_is_whole C a) (e1 : G[g]? = some (.int 30)) {n : Nat} (n1 : 1 ≤ n) (n2 : n ≤ 30) : endF (denB C G (k_need_many a g e) (startE 1 [natI n])) = pu .none := by
  have w : C a [natI n, .int 1, .int 30] = pu (.bool true) := by
    unfold natI
    rw [h1 _ _ _ rfl, isW_int (by omega) (by omega)]
  refine endF_none (ρ := startE 1 [natI n]) ?_
  unfold k_need_many
  refine sq_go (by walk_at "dn") rfl
theorem b_slept {R : Ru} {s : Stt} {h : Int} : endF (denB C G k_slept (startE 6 [ruE R, stE s, .int h])) = pu (stE (slept R s h)) := by
  refine endF_ret ?_
  unfold k_slept
  refine sqs (asg3_of (a := .int R.1) (b := .int R.2.1) (d := .int R.2.2) rfl) ?_
  unfold slept
  by_cases c : h ≤ R.1
  · rw [if_pos c]
    refine sq_ret ?_ ?_
    · refine (by walk_at "den" : denE C G _ _ = pu (.bool (decide (h ≤ R.1)))).trans ?_
      rw [decide_eq_true c]
    · walk_at "den"
  · rw [if_neg c]
    refine sq_go ?_ ?_
    · refine (by walk_at "den" : denE C G _ _ = pu (.bool (decide (h ≤ R.1)))).trans ?_
      rw [decide_eq_false c]
    · cases s with
      | none =>
        refine sq_ret ?_ rfl
        exact or_t (by walk_at "den")
      | some p =>
        have cc : denE C G (.or_ (.cmp .is_ (.var 1) (.lit .none)) (.or_ (.cmp .gt (.var 2) (.bin .add (.idx (.var 1) (.lit (.int 0))) (.var 4))) (.an (.cmp .gt (.var 2) (.idx (.var 1) (.lit (.int 0)))) (.cmp .ge (.idx (.var 1) (.lit (.int 1))) (.var 5))))) ((((startE 6 [ruE R, stE (some p), .int h]).set 3 (some (.int R.1))).set 4 (some (.int R.2.1))).set 5 (some (.int R.2.2))) = pu (.bool (false || (decide (p.1 + R.2.1 < h) || (decide (p.1 < h) && decide (R.2.2 ≤ p.2))))) := by walk_at "den"
        rw [Bool.false_or] at cc
        show _ = pu (Fl.rt (stE (if _ then none else _)))
        cases q : (decide (p.1 + R.2.1 < h) || (decide (p.1 < h) && decide (R.2.2 ≤ p.2))) with
        | true =>
          rw [q] at cc
          rw [if_pos rfl]
          exact sq_ret cc rfl
        | false =>
          rw [q] at cc
          rw [if_neg Bool.false_ne_true]
          refine sq_go cc (ret_den ?_)
          refine (by walk_at "den" : denE C G _ _ = pu (.tuple [.int h, if (decide (p.1 < h)) = true then .int (p.2 + 1) else .int 0])).trans ?_
          show _ = pu (plE _)
          unfold plE
          by_cases z : p.1 < h
          · rw [decide_eq_true z, if_pos rfl, if_pos z]
          · rw [decide_eq_false z, if_neg Bool.false_ne_true, if_neg z]
theorem enmP_eq (xs : List PV) : ∀ k, enmP k xs = (xs.zipIdx k).map fun p => .tuple [natI p.2, p.1] := by
  induction xs with
  | nil => intro k; rfl
  | cons x xs ih =>
    intro k
    unfold enmP
    rw [ih, List.zipIdx_cons]
    rfl
theorem enm_ints (ns : List Int) (k : Nat) : enmP k (ns.map PyData.int) = (ns.zipIdx k).map fun p => .tuple [natI p.2, .int p.1] := by
  rw [enmP_eq, List.zipIdx_map, List.map_map]
  rfl
theorem enm_den {e : Ex} {ρ : Env} {xs : List PV} (h : denE C G e ρ = pu (.tuple xs) ∨ denE C G e ρ = pu (.list xs)) : denE C G (.enm e) ρ = pu (.list (enmP 0 xs)) := by
  have z : denE C G (.enm e) ρ = bd (denE C G e ρ) fun x => pEnm x := rfl
  rcases h with h | h <;> (rw [z, h]; rfl)
theorem b_nexts {a g : Nat} (h1 : S_slept C a) (e1 : G[g]? = some (.int 9)) {R : Ru} {s : Stt} : endF (denB C G (k_nexts_in a g) (startE 5 [ruE R, stE s])) = pu (.list ((nexts R s).map plE)) := by
  refine endF_ret ?_
  unfold k_nexts_in
  refine sqs (asg_of (v := .list (((List.range 10).map fun (h : Nat) => slept R s (h : Int)).map stE)) ?_) (ret_den ?_)
  · refine lc1_map (v := .list ((List.range 10).map natI)) (range_den (n := 10) (by decide) (by walk_at "den")) rfl fun h hh => ?_
    have t := h1 R s (h : Int)
    walk_at "den"
  · refine (lc1_filter (p := fun o : Stt => o.isSome) (xs := (List.range 10).map fun (h : Nat) => slept R s (h : Int)) (en := stE) (by walk_at "gv") rfl (fun v => rfl) (fun o ho => ?_)).trans ?_
    · refine (by walk_at "den" : denE C G _ _ = pu (.bool (!isNone (stE o)))).trans ?_
      cases o <;> rfl
    · unfold nexts
      congr 2
      generalize List.range 10 = L
      induction L with
      | nil => rfl
      | cons h L ih =>
        rw [List.map_cons]
        cases c : slept R s (h : Int) with
        | none =>
          rw [List.filter_cons_of_neg (by decide)]
          simp only [List.filterMap_cons, c]
          exact ih
        | some p =>
          rw [List.filter_cons_of_pos rfl]
          simp only [List.filterMap_cons, c]
          rw [List.map_cons, List.map_cons, ih]; rfl
def stepB (R : Ru) (s : Stt) (x : Int × Nat) : Stt ⊕ PV := match slept R s x.1 with
  | none => .inr (natI x.2)
  | some p => .inl (some p)
theorem run_broken (R : Ru) : ∀ (ns : List Int) (s : Stt) (k : Nat), (broken R s k ns = none → runF (stepB R) s (ns.zipIdx k) = .inl (ns.foldl (slept R) s)) ∧ (∀ j, broken R s k ns = some j → runF (stepB R) s (ns.zipIdx k) = .inr (natI j))
  | [], s, k => ⟨fun _ => rfl, fun j h => by cases h⟩
  | h :: ns, s, k => by
    rw [List.zipIdx_cons]
    unfold broken runF stepB
    cases c : slept R s h with
    | none =>
      refine ⟨fun z => (by cases z), fun j z => ?_⟩
      cases z
      rfl
    | some p =>
      obtain ⟨h1, h2⟩ := run_broken R ns (some p) (k + 1)
      refine ⟨fun z => ?_, fun j z => h2 j z⟩
      rw [List.foldl_cons, c]
      exact h1 z
theorem b_broken {a : Nat} (h1 : S_slept C a) {R : Ru} {ns : List Int} : endF (denB C G (k_broken_in a) (startE 5 [ruE R, rowE ns])) = pu (optE (broken R none 0 ns)) := by
  refine endF_ret ?_
  unfold k_broken_in
  refine sqs (asg_of (v := .none) rfl) ?_
  have it : denE C G (.enm (.var 1)) ((startE 5 [ruE R, rowE ns]).set 2 (some .none)) = pu (.list ((ns.zipIdx 0).map fun p => .tuple [natI p.2, .int p.1])) := by
    rw [← enm_ints]
    exact enm_den (.inl rfl)
  have lp := forL_run (b := fun x ρ => bd (bindT (.tp [.nm 3, .nm 4]) x ρ) (denB C G [.asg (.nm 2) (.call a [.var 0, .var 2, .var 4]), .ite (.cmp .is_ (.var 2) (.lit .none)) [.ret (.var 3)] []])) (en := fun p : Int × Nat => .tuple [natI p.2, .int p.1]) (f := stepB R) (xs := ns.zipIdx 0)
    (fun s ρ => ∃ o3 o4, ρ = [some (ruE R), some (rowE ns), some (stE s), o3, o4]) (s := none) (ρ := (startE 5 [ruE R, rowE ns]).set 2 (some .none)) ⟨none, none, rfl⟩ fun x hx s ρ ⟨o3, o4, e⟩ => by
      subst e
      rw [bindT_two, bd_pu]
      have t := h1 R s x.1
      have e1 : denS C G (.asg (.nm 2) (.call a [.var 0, .var 2, .var 4])) (([some (ruE R), some (rowE ns), some (stE s), o3, o4].set 3 (some (natI x.2))).set 4 (some (.int x.1))) = pu (.nx [some (ruE R), some (rowE ns), some (stE (slept R s x.1)), some (natI x.2), some (.int x.1)]) := asg_of (by walk_at "den")
      have e2 : denE C G (.cmp .is_ (.var 2) (.lit .none)) [some (ruE R), some (rowE ns), some (stE (slept R s x.1)), some (natI x.2), some (.int x.1)] = pu (.bool (isNone (stE (slept R s x.1)))) := by walk_at "den"
      unfold stepB
      cases c : slept R s x.1 with
      | none =>
        rw [c] at e1 e2
        exact ⟨fun s' z => (by cases z), fun v z => by cases z; exact sqs e1 (sq_ret e2 rfl)⟩
      | some p =>
        rw [c] at e1 e2
        refine ⟨fun s' z => ?_, fun v z => by cases z⟩
        cases z
        exact ⟨_, sqs e1 (sq_go e2 rfl), _, _, rfl⟩
  obtain ⟨r1, r2⟩ := run_broken R ns none 0
  cases c : broken R none 0 ns with
  | none =>
    obtain ⟨ρ', e, _⟩ := lp.1 _ (r1 c)
    refine sqs ((for_den it rfl).trans e) rfl
  | some j =>
    refine sq_rt ((for_den it rfl).trans (lp.2 _ (r2 j c)))
end
end HG.Ni
end
section
set_option maxHeartbeats 1000000
/-! HGNi2: nights: the law's own judging, rows, counts. -/
namespace HG.Ni
open PySem HG.Z
local macro_rules | `(tactic| walk_at "gv") => `(tactic| first | assumption | exact rfl | (refine (sg_other ?_ _).trans ?_; decide; walk_at "gv") | (refine (wg_other ?_ _).trans ?_; decide; walk_at "gv") | (refine sg_self ?_ _; walk_at "len") | (refine wg_self ?_ _; walk_at "len"))
local macro_rules | `(tactic| walk_at "len") => `(tactic| first | decide | (simp only [List.length_set, wlen]; omega) | (simp only [List.length_set, wlen, *]; decide) | assumption)
local macro_rules | `(tactic| walk_at "op") => `(tactic| first | assumption | exact rfl | exact le_int _ _ | exact ge_int _ _ | exact lt_int' _ _ | exact gt_int' _ _ | exact eq_int _ _ | exact ne_int _ _ | exact abs_int _ | exact len_tuple _ | exact len_list _)
local macro_rules | `(tactic| walk_at "dens") => `(tactic| first | exact es_nil | (apply es_cons; walk_at "den"; walk_at "dens"))
local macro_rules | `(tactic| walk_at "den") => `(tactic| first | assumption | exact lit_den _ | (apply var_den; walk_at "gv") | (apply glb_den; assumption) | (apply bin_pu; walk_at "den"; walk_at "den"; walk_at "op") | (apply cmp_pu; walk_at "den"; walk_at "den"; walk_at "op") | (apply idx_pu; walk_at "den"; walk_at "den"; walk_at "op") | (apply neg_pu; walk_at "den"; walk_at "op") | (apply nt_den; walk_at "den") | (apply an_pu; walk_at "den"; intro _; walk_at "den") | (apply or_pu; walk_at "den"; intro _; walk_at "den") | (apply ite_pu; walk_at "den"; intro _; walk_at "den"; intro _; walk_at "den") | (apply call_pu; walk_at "dens"; walk_at "op") | (apply bi_pu; walk_at "dens"; walk_at "op") | (apply tup_den; walk_at "dens") | (apply lst_den; walk_at "dens") | (apply slc_pu; walk_at "den"; walk_at "den"; exact rfl; walk_at "den"; exact rfl; walk_at "op"))
local macro_rules | `(tactic| walk_at "dn") => `(tactic| (apply den_eq; walk_at "den"; first | exact rfl | (simp only [Bool.false_or, Bool.or_false, Bool.true_and, Bool.and_true, Bool.not_true, Bool.not_false])))
/-! ### plain -/
def chain (f : Int) (ns : List Int) : Nat → Nat
  | 0 => 0
  | j + 1 => if f < ns.getD (j + 1) 0 ∧ ns.getD j 0 < ns.getD (j + 1) 0 then chain f ns j + 1 else 0
def down : Nat → List Nat
  | 0 => []
  | n + 1 => (n + 1) :: down n
theorem down_mem : ∀ {n b : Nat}, b ∈ down n → 1 ≤ b ∧ b ≤ n
  | n + 1, b, h => by
    rcases List.mem_cons.mp h with e | h
    · omega
    · have := down_mem h; omega
theorem rngD_down : ∀ n : Nat, rngD (n : Int) 0 = (down n).map natI
  | 0 => rfl
  | n + 1 => by
    have ih := rngD_down n
    unfold rngD at ih ⊢
    rw [show (((n + 1 : Nat) : Int) - 0).toNat = n + 1 by omega, List.range_succ_eq_map, List.map_cons]
    rw [show ((n : Int) - 0).toNat = n by omega] at ih
    unfold down
    rw [List.map_cons, ← ih, List.map_map]
    congr 1
    refine List.map_congr_left fun i _ => ?_
    show PyData.int _ = PyData.int _
    congr 1
    show ((n + 1 : Nat) : Int) - ((i + 1 : Nat) : Int) = _
    omega
def stepR (f : Int) (ns : List Int) (k : Nat) (r b : Nat) : Nat := if (decide (f < ns.getD b 0) && (decide (ns.getD (b - 1) 0 < ns.getD b 0) && decide ((r : Int) = (k : Int) - 1 - (b : Int)))) = true then r + 1 else r
theorem chain_succ (f : Int) (ns : List Int) (j : Nat) : chain f ns (j + 1) = if f < ns.getD (j + 1) 0 ∧ ns.getD j 0 < ns.getD (j + 1) 0 then chain f ns j + 1 else 0 := rfl
theorem fold_dead (f : Int) (ns : List Int) (k : Nat) : ∀ (m r : Nat), m < k → r + m + 1 < k → (down m).foldl (stepR f ns k) r = r
  | 0, r, _, _ => rfl
  | m + 1, r, hk, h => by
    unfold down
    rw [List.foldl_cons]
    have e : stepR f ns k r (m + 1) = r := by
      unfold stepR
      rw [if_neg]
      rw [Bool.and_eq_true, Bool.and_eq_true, decide_eq_true_eq, decide_eq_true_eq, decide_eq_true_eq]
      omega
    rw [e]
    exact fold_dead f ns k m r (by omega) (by omega)
theorem fold_chain (f : Int) (ns : List Int) (k : Nat) : ∀ (m r : Nat), r + m + 1 = k → (down m).foldl (stepR f ns k) r = r + chain f ns m
  | 0, r, _ => rfl
  | m + 1, r, h => by
    unfold down chain
    rw [List.foldl_cons]
    by_cases c : f < ns.getD (m + 1) 0 ∧ ns.getD m 0 < ns.getD (m + 1) 0
    · have e : stepR f ns k r (m + 1) = r + 1 := by
        unfold stepR
        rw [if_pos]
        rw [Bool.and_eq_true, Bool.and_eq_true, decide_eq_true_eq, decide_eq_true_eq, decide_eq_true_eq]
        exact ⟨c.1, c.2, by omega⟩
      rw [e, if_pos c, fold_chain f ns k m (r + 1) (by omega)]
      omega
    · have e : stepR f ns k r (m + 1) = r := by
        unfold stepR
        rw [if_neg]
        rw [Bool.and_eq_true, Bool.and_eq_true, decide_eq_true_eq, decide_eq_true_eq, decide_eq_true_eq]
        exact fun z => c ⟨z.1, z.2.1⟩
      rw [e, if_neg c, fold_dead f ns k m r (by omega) (by omega)]
      rfl
def ltest (R : Ru) (ns : List Int) (x : Int × Nat) : Bool := decide (R.1 < x.1) && (decide ((x.2 : Int) = 0) || (decide (ns.getD (x.2 - 1) 0 + R.2.1 < x.1) || (decide (ns.getD (x.2 - 1) 0 < x.1) && decide (R.2.2 ≤ (chain R.1 ns (x.2 - 1) : Int)))))
def stAt (R : Ru) (ns : List Int) (k : Nat) : Stt := if k = 0 then none else some (ns.getD (k - 1) 0, (chain R.1 ns (k - 1) : Int))
theorem slept_at (R : Ru) (ns : List Int) (k : Nat) : (ltest R ns (ns.getD k 0, k) = true → slept R (stAt R ns k) (ns.getD k 0) = none) ∧ (ltest R ns (ns.getD k 0, k) = false → slept R (stAt R ns k) (ns.getD k 0) = stAt R ns (k + 1) ∧ (stAt R ns (k + 1)).isSome = true) := by
  have e1 : stAt R ns (k + 1) = some (ns.getD k 0, (chain R.1 ns k : Int)) := by
    unfold stAt
    rw [if_neg (by omega)]; rfl
  rw [e1]
  generalize hh : ns.getD k 0 = h
  unfold ltest slept
  show ((decide (R.1 < h) && _) = true → _) ∧ _
  by_cases c : h ≤ R.1
  · rw [if_pos c, decide_eq_false (by omega), Bool.false_and]
    refine ⟨fun z => (by cases z), fun _ => ⟨?_, rfl⟩⟩
    cases k with
    | zero => rfl
    | succ j =>
      unfold chain
      rw [hh, if_neg (by omega)]; rfl
  · rw [if_neg c, decide_eq_true (by omega), Bool.true_and]
    cases k with
    | zero => exact ⟨fun _ => rfl, fun z => by cases z⟩
    | succ j =>
      have e2 : stAt R ns (j + 1) = some (ns.getD j 0, (chain R.1 ns j : Int)) := by
        unfold stAt
        rw [if_neg (by omega)]; rfl
      have e3 : decide (((j + 1 : Nat) : Int) = 0) = false := decide_eq_false (by omega)
      rw [e2]
      show ((decide (((j + 1 : Nat) : Int) = 0) || (decide (ns.getD j 0 + R.2.1 < h) || (decide (ns.getD j 0 < h) && decide (R.2.2 ≤ (chain R.1 ns j : Int))))) = true → (if (decide (ns.getD j 0 + R.2.1 < h) || (decide (ns.getD j 0 < h) && decide (R.2.2 ≤ (chain R.1 ns j : Int)))) = true then none else some (h, if ns.getD j 0 < h then (chain R.1 ns j : Int) + 1 else 0)) = none) ∧ ((decide (((j + 1 : Nat) : Int) = 0) || (decide (ns.getD j 0 + R.2.1 < h) || (decide (ns.getD j 0 < h) && decide (R.2.2 ≤ (chain R.1 ns j : Int))))) = false → (if (decide (ns.getD j 0 + R.2.1 < h) || (decide (ns.getD j 0 < h) && decide (R.2.2 ≤ (chain R.1 ns j : Int)))) = true then none else some (h, if ns.getD j 0 < h then (chain R.1 ns j : Int) + 1 else 0)) = some (h, (chain R.1 ns (j + 1) : Int)) ∧ _)
      rw [e3, Bool.false_or]
      refine ⟨fun z => by rw [if_pos z], fun z => ⟨?_, rfl⟩⟩
      rw [z, if_neg Bool.false_ne_true]
      congr 2
      rw [chain_succ, hh]
      by_cases d : ns.getD j 0 < h
      · rw [if_pos d, if_pos ⟨by omega, d⟩]; omega
      · rw [if_neg d, if_neg fun q => d q.2]; rfl
def stepL (R : Ru) (ns : List Int) (_ : Unit) (x : Int × Nat) : Unit ⊕ PV := if ltest R ns x = true then .inr (natI x.2) else .inl ()
theorem run_law (R : Ru) (ns : List Int) : ∀ (rest : List Int) (k : Nat), ns.drop k = rest → (broken R (stAt R ns k) k rest = none → runF (stepL R ns) () (rest.zipIdx k) = .inl ()) ∧ (∀ j, broken R (stAt R ns k) k rest = some j → runF (stepL R ns) () (rest.zipIdx k) = .inr (natI j))
  | [], k, _ => ⟨fun _ => rfl, fun j h => by cases h⟩
  | h :: rest, k, hd => by
    have hk : ns.getD k 0 = h := by
      have := congrArg (fun l => l[0]?) hd
      simp only [List.getElem?_drop, Nat.add_zero, List.getElem?_cons_zero] at this
      rw [List.getD_eq_getElem?_getD, this]; rfl
    have hd2 : ns.drop (k + 1) = rest := by
      rw [← List.tail_drop, hd]; rfl
    obtain ⟨s1, s2⟩ := slept_at R ns k
    rw [hk] at s1 s2
    rw [List.zipIdx_cons]
    unfold broken runF stepL
    cases c : ltest R ns (h, k) with
    | true =>
      rw [s1 c]
      refine ⟨fun z => (by cases z), fun j z => ?_⟩
      cases z
      rfl
    | false =>
      obtain ⟨e, e'⟩ := s2 c
      obtain ⟨h1, h2⟩ := run_law R ns rest (k + 1) hd2
      rw [e]
      obtain ⟨p, hp⟩ := Option.isSome_iff_exists.mp e'
      rw [hp] at h1 h2 ⊢
      exact ⟨h1, h2⟩
def lrows (R : Ru) : Nat → List (List Int)
  | 0 => [[]]
  | n + 1 => (lrows R n).flatMap fun row => (((List.range 10).filter fun (h : Nat) => (broken R none 0 (row ++ [(h : Int)])).isNone).map fun (h : Nat) => row ++ [(h : Int)])
theorem lrows_len (R : Ru) : ∀ n, ∀ r ∈ lrows R n, r.length = n
  | 0, r, h => by rw [List.mem_singleton.mp h]; rfl
  | n + 1, r, h => by
    obtain ⟨row, h1, h2⟩ := List.mem_flatMap.mp h
    obtain ⟨x, _, rfl⟩ := List.mem_map.mp h2
    rw [List.length_append, lrows_len R n row h1]; rfl
theorem flatMap_len {α β : Type} {f : α → List β} {m : Nat} : ∀ {xs : List α}, (∀ x ∈ xs, (f x).length ≤ m) → (xs.flatMap f).length ≤ xs.length * m
  | [], _ => Nat.zero_le _
  | x :: xs, h => by
    rw [List.flatMap_cons, List.length_append, List.length_cons, Nat.succ_mul]
    have h1 := h x List.mem_cons_self
    have h2 := flatMap_len (xs := xs) fun y hy => h y (List.mem_cons_of_mem _ hy)
    omega
theorem lrows_few (R : Ru) : ∀ n, (lrows R n).length ≤ 10 ^ n
  | 0 => Nat.le_refl _
  | n + 1 => by
    have h := lrows_few R n
    have h2 : (lrows R (n + 1)).length ≤ (lrows R n).length * 10 := flatMap_len fun row _ => by
      rw [List.length_map]
      exact Nat.le_trans (List.length_filter_le _ _) (by rw [List.length_range]; exact Nat.le_refl _)
    rw [Nat.pow_succ]
    exact Nat.le_trans h2 (Nat.mul_le_mul_right 10 h)
section
variable {C : Nat → List PV → M PV} {G : List PV}
def S_lrules (C : Nat → List PV → M PV) (i : Nat) : Prop := ∀ (Q E : PV → Prop), (∀ R, Rul R → Q (ruE R)) → C i [cupV] Q E
def S_lbroken (C : Nat → List PV → M PV) (i : Nat) : Prop := ∀ R ns, ns.length ≤ 1000 → C i [ruE R, rowE ns] = pu (optE (broken R none 0 ns))
def S_lrows (C : Nat → List PV → M PV) (i : Nat) : Prop := ∀ R (n : Nat), n ≤ 4 → C i [ruE R, natI n] = pu (.list ((lrows R n).map rowE))
theorem rngd_den {a b : Ex} {ρ : Env} {m n : Int} (h1 : denE C G a ρ = pu (.int m)) (h2 : denE C G b ρ = pu (.int n)) (hm : RB m) (hn : RB n) : denE C G (.rngd a b) ρ = pu (.list (rngD m n)) := by
  have z : denE C G (.rngd a b) ρ = bd (denE C G a ρ) fun x => bd (denE C G b ρ) fun y => asI x fun m => asI y fun n => gd (RB m ∧ RB n) (pu (.list (rngD m n))) := rfl
  rw [z, h1, bd_pu, h2, bd_pu, asI_int, asI_int, gd_yes ⟨hm, hn⟩]
abbrev eBk : Ex := .an (.cmp .gt (.idx (.var 1) (.var 8)) (.var 2)) (.an (.cmp .gt (.idx (.var 1) (.var 8)) (.idx (.var 1) (.bin .sub (.var 8) (.lit (.int 1))))) (.cmp .eq (.var 7) (.bin .sub (.bin .sub (.var 5) (.lit (.int 1))) (.var 8))))
abbrev eLt : Ex := .or_ (.cmp .eq (.var 5) (.lit (.int 0))) (.or_ (.cmp .gt (.var 6) (.bin .add (.idx (.var 1) (.bin .sub (.var 5) (.lit (.int 1)))) (.var 3))) (.an (.cmp .gt (.var 6) (.idx (.var 1) (.bin .sub (.var 5) (.lit (.int 1))))) (.cmp .ge (.var 7) (.var 4))))
def kTurnL : List St := [.ite (.cmp .gt (.var 6) (.var 2)) [.asg (.nm 7) (.lit (.int 0)),
    .for_ (.nm 8) (.rngd (.bin .sub (.var 5) (.lit (.int 1))) (.lit (.int 0))) [.ite eBk [.asg (.nm 7) (.bin .add (.var 7) (.lit (.int 1)))] []],
    .ite eLt [.ret (.var 5)] []] []]
def evL (R : Ru) (ns : List Int) (t : Option PV × Option PV × Option PV × Option PV) : Env := [some (ruE R), some (rowE ns), some (.int R.1), some (.int R.2.1), some (.int R.2.2), t.1, t.2.1, t.2.2.1, t.2.2.2]
theorem inner_run {R : Ru} {ns : List Int} {k : Nat} {h : Int} {o8 : Option PV} (hk : k < ns.length) (hl : ns.length ≤ 1000) :
    ∃ ρ', denS C G (.for_ (.nm 8) (.rngd (.bin .sub (.var 5) (.lit (.int 1))) (.lit (.int 0))) [.ite eBk [.asg (.nm 7) (.bin .add (.var 7) (.lit (.int 1)))] []]) (evL R ns (some (natI k), some (.int h), some (.int 0), o8)) = pu (.nx ρ') ∧ ∃ o8', ρ' = evL R ns (some (natI k), some (.int h), some (natI (chain R.1 ns (k - 1))), o8') := by
  have it : denE C G (.rngd (.bin .sub (.var 5) (.lit (.int 1))) (.lit (.int 0))) (evL R ns (some (natI k), some (.int h), some (.int 0), o8)) = pu (.list ((down (k - 1)).map natI)) := by
    refine (rngd_den (m := (k : Int) - 1) (n := 0) (by walk_at "den") rfl ⟨by omega, by omega⟩ ⟨by omega, by omega⟩).trans ?_
    cases k with
    | zero => rfl
    | succ j => rw [show ((j + 1 : Nat) : Int) - 1 = (j : Int) by omega, rngD_down]; rfl
  obtain ⟨ρ', e, i⟩ := for_foldI (C := C) (G := G) (k := 8) (b := [.ite eBk [.asg (.nm 7) (.bin .add (.var 7) (.lit (.int 1)))] []]) (f := stepR R.1 ns k) (I := fun r ρ => ∃ o8, ρ = evL R ns (some (natI k), some (.int h), some (natI r), o8)) (s := 0) it rfl ⟨o8, rfl⟩ fun b hb r ρ ⟨o8, e⟩ => by
    subst e
    obtain ⟨b1, b2⟩ := down_mem hb
    have i1 : pIdx (rowE ns) (.int (b : Int)) = pu (.int (ns.getD b 0)) := by
      have := row_idx (r := ns) (i := (b : Int)) (by omega) (by omega)
      rwa [Int.toNat_natCast] at this
    have i2 : pIdx (rowE ns) (.int ((b : Int) - 1)) = pu (.int (ns.getD (b - 1) 0)) := by
      have := row_idx (r := ns) (i := (b : Int) - 1) (by omega) (by omega)
      rwa [show ((b : Int) - 1).toNat = b - 1 by omega] at this
    have cc : denE C G eBk ((evL R ns (some (natI k), some (.int h), some (natI r), o8)).set 8 (some (natI b))) = pu (.bool (decide (R.1 < ns.getD b 0) && (decide (ns.getD (b - 1) 0 < ns.getD b 0) && decide ((r : Int) = (k : Int) - 1 - (b : Int))))) := by walk_at "den"
    unfold stepR
    cases c : (decide (R.1 < ns.getD b 0) && (decide (ns.getD (b - 1) 0 < ns.getD b 0) && decide ((r : Int) = (k : Int) - 1 - (b : Int)))) with
    | true =>
      rw [c] at cc
      rw [if_pos rfl]
      refine ⟨_, sqs ((if_yes cc).trans (sqs (asg_of (v := natI (r + 1)) (by walk_at "dn")) rfl)) rfl, some (natI b), rfl⟩
    | false =>
      rw [c] at cc
      rw [if_neg Bool.false_ne_true]
      exact ⟨_, sqs (ite_go cc) rfl, some (natI b), rfl⟩
  refine ⟨ρ', e, ?_⟩
  cases k with
  | zero => exact i
  | succ j => rw [show j + 1 - 1 = j from rfl, fold_chain R.1 ns (j + 1) j 0 (by omega), Nat.zero_add] at i; exact i
theorem b_lbroken {R : Ru} {ns : List Int} (hl : ns.length ≤ 1000) : endF (denB C G k__law_broken (startE 9 [ruE R, rowE ns])) = pu (optE (broken R none 0 ns)) := by
  refine endF_ret ?_
  unfold k__law_broken
  refine sqs (asg3_of (a := .int R.1) (b := .int R.2.1) (d := .int R.2.2) rfl) ?_
  have it : denE C G (.enm (.var 1)) (evL R ns (none, none, none, none)) = pu (.list ((ns.zipIdx 0).map fun p => .tuple [natI p.2, .int p.1])) := by
    rw [← enm_ints]
    exact enm_den (.inl rfl)
  have lp := forL_run (b := fun x ρ => bd (bindT (.tp [.nm 5, .nm 6]) x ρ) (denB C G kTurnL)) (en := fun p : Int × Nat => .tuple [natI p.2, .int p.1]) (f := stepL R ns) (xs := ns.zipIdx 0)
    (fun _ ρ => ∃ t, ρ = evL R ns t) (s := ()) (ρ := evL R ns (none, none, none, none)) ⟨_, rfl⟩ fun x hx s ρ ⟨t, e⟩ => by
      subst e
      rw [bindT_two, bd_pu]
      obtain ⟨h, k⟩ := x
      obtain ⟨o5, o6, o7, o8⟩ := t
      obtain ⟨hk, ek⟩ : k < ns.length ∧ ns.getD k 0 = h := by
        have := List.mem_zipIdx hx
        refine ⟨by omega, ?_⟩
        rw [List.getD_eq_getElem?_getD, List.getElem?_eq_getElem (by omega)]
        exact this.2.2.symm
      show _ ∧ _
      have e0 : denE C G (.cmp .gt (.var 6) (.var 2)) (evL R ns (some (natI k), some (.int h), o7, o8)) = pu (.bool (decide (R.1 < h))) := by walk_at "den"
      unfold stepL ltest
      show (∀ s', (if (decide (R.1 < h) && _) = true then Sum.inr (natI k) else Sum.inl ()) = Sum.inl s' → ∃ ρ', denB C G kTurnL (evL R ns (some (natI k), some (.int h), o7, o8)) = _ ∧ _) ∧ ∀ v, _ → denB C G kTurnL (evL R ns (some (natI k), some (.int h), o7, o8)) = _
      unfold kTurnL
      cases c : decide (R.1 < h) with
      | false =>
        rw [c] at e0
        rw [Bool.false_and, if_neg Bool.false_ne_true]
        exact ⟨fun s' z => ⟨_, sq_go e0 rfl, _, rfl⟩, fun v z => by cases z⟩
      | true =>
        rw [c] at e0
        rw [Bool.true_and]
        obtain ⟨ρ', e1, o8', e2⟩ := inner_run (C := C) (G := G) (R := R) (h := h) (o8 := o8) hk hl
        subst e2
        have e3 : denE C G eLt (evL R ns (some (natI k), some (.int h), some (natI (chain R.1 ns (k - 1))), o8')) = pu (.bool (decide ((k : Int) = 0) || (decide (ns.getD (k - 1) 0 + R.2.1 < h) || (decide (ns.getD (k - 1) 0 < h) && decide (R.2.2 ≤ (chain R.1 ns (k - 1) : Int)))))) := by
          refine or_pu (by walk_at "den") fun z => ?_
          have kz : ¬ ((k : Int) = 0) := of_decide_eq_false z
          have i2 : pIdx (rowE ns) (.int ((k : Int) - 1)) = pu (.int (ns.getD (k - 1) 0)) := by
            have := row_idx (r := ns) (i := (k : Int) - 1) (by omega) (by omega)
            rwa [show ((k : Int) - 1).toNat = k - 1 by omega] at this
          walk_at "den"
        have go : ∀ b : Bool, denE C G eLt (evL R ns (some (natI k), some (.int h), some (natI (chain R.1 ns (k - 1))), o8')) = pu (.bool b) → denB C G [.ite (.cmp .gt (.var 6) (.var 2)) [.asg (.nm 7) (.lit (.int 0)), .for_ (.nm 8) (.rngd (.bin .sub (.var 5) (.lit (.int 1))) (.lit (.int 0))) [.ite eBk [.asg (.nm 7) (.bin .add (.var 7) (.lit (.int 1)))] []], .ite eLt [.ret (.var 5)] []] []] (evL R ns (some (natI k), some (.int h), o7, o8)) = if b = true then pu (.rt (natI k)) else pu (.nx (evL R ns (some (natI k), some (.int h), some (natI (chain R.1 ns (k - 1))), o8'))) := fun b hb => by
          have a7 : denS C G (.asg (.nm 7) (.lit (.int 0))) (evL R ns (some (natI k), some (.int h), o7, o8)) = pu (.nx (evL R ns (some (natI k), some (.int h), some (.int 0), o8))) := asg_of rfl
          cases b with
          | true => rw [if_pos rfl]; exact sq_rt ((if_yes e0).trans (sqs a7 (sqs e1 (sq_ret hb rfl))))
          | false => rw [if_neg Bool.false_ne_true]; exact sqs ((if_yes e0).trans (sqs a7 (sqs e1 (sq_go hb rfl)))) rfl
        have g := go _ e3
        cases d : (decide ((k : Int) = 0) || (decide (ns.getD (k - 1) 0 + R.2.1 < h) || (decide (ns.getD (k - 1) 0 < h) && decide (R.2.2 ≤ (chain R.1 ns (k - 1) : Int))))) with
        | true =>
          rw [d, if_pos rfl] at g
          rw [if_pos rfl]
          exact ⟨fun s' z => (by cases z), fun v z => (by cases z; exact g)⟩
        | false =>
          rw [d, if_neg Bool.false_ne_true] at g
          rw [if_neg Bool.false_ne_true]
          exact ⟨fun s' z => ⟨_, g, _, rfl⟩, fun v z => (by cases z)⟩
  obtain ⟨r1, r2⟩ := run_law R ns ns 0 rfl
  show denB C G [.for_ (.tp [.nm 5, .nm 6]) (.enm (.var 1)) kTurnL, .ret (.lit .none)] (evL R ns (none, none, none, none)) = _
  have e0 : stAt R ns 0 = none := rfl
  rw [e0] at r1 r2
  cases c : broken R none 0 ns with
  | none =>
    obtain ⟨ρ', e, _⟩ := lp.1 _ (r1 c)
    refine sqs ((for_den it rfl).trans e) rfl
  | some j => exact sq_rt ((for_den it rfl).trans (lp.2 _ (r2 j c)))
end
end HG.Ni
end
section
set_option maxHeartbeats 1000000
/-! HGNi3: nights: rows, levels, counts. -/
namespace HG.Ni
open PySem HG.Z
local macro_rules | `(tactic| walk_at "gv") => `(tactic| first | assumption | exact rfl | (refine (sg_other ?_ _).trans ?_; decide; walk_at "gv") | (refine (wg_other ?_ _).trans ?_; decide; walk_at "gv") | (refine sg_self ?_ _; walk_at "len") | (refine wg_self ?_ _; walk_at "len"))
local macro_rules | `(tactic| walk_at "len") => `(tactic| first | decide | (simp only [List.length_set, wlen]; omega) | (simp only [List.length_set, wlen, *]; decide) | assumption)
local macro_rules | `(tactic| walk_at "op") => `(tactic| first | assumption | exact rfl | exact le_int _ _ | exact ge_int _ _ | exact lt_int' _ _ | exact gt_int' _ _ | exact eq_int _ _ | exact ne_int _ _ | exact abs_int _ | exact len_tuple _ | exact len_list _)
local macro_rules | `(tactic| walk_at "dens") => `(tactic| first | exact es_nil | (apply es_cons; walk_at "den"; walk_at "dens"))
local macro_rules | `(tactic| walk_at "den") => `(tactic| first | assumption | exact lit_den _ | (apply var_den; walk_at "gv") | (apply glb_den; assumption) | (apply bin_pu; walk_at "den"; walk_at "den"; walk_at "op") | (apply cmp_pu; walk_at "den"; walk_at "den"; walk_at "op") | (apply idx_pu; walk_at "den"; walk_at "den"; walk_at "op") | (apply neg_pu; walk_at "den"; walk_at "op") | (apply nt_den; walk_at "den") | (apply an_pu; walk_at "den"; intro _; walk_at "den") | (apply or_pu; walk_at "den"; intro _; walk_at "den") | (apply ite_pu; walk_at "den"; intro _; walk_at "den"; intro _; walk_at "den") | (apply call_pu; walk_at "dens"; walk_at "op") | (apply bi_pu; walk_at "dens"; walk_at "op") | (apply tup_den; walk_at "dens") | (apply lst_den; walk_at "dens") | (apply slc_pu; walk_at "den"; walk_at "den"; exact rfl; walk_at "den"; exact rfl; walk_at "op"))
local macro_rules | `(tactic| walk_at "dn") => `(tactic| (apply den_eq; walk_at "den"; first | exact rfl | (simp only [Bool.false_or, Bool.or_false, Bool.true_and, Bool.and_true, Bool.not_true, Bool.not_false])))
/-! ### plain -/
abbrev endSt (R : Ru) (row : List Int) : Stt := row.foldl (slept R) none
def growR (R : Ru) (row : List Int) : List (List Int) := ((List.range 10).filter fun (h : Nat) => (broken R none 0 (row ++ [(h : Int)])).isNone).map fun (h : Nat) => row ++ [(h : Int)]
theorem lrows_succ (R : Ru) (n : Nat) : lrows R (n + 1) = (lrows R n).flatMap (growR R) := rfl
theorem broken_snoc (R : Ru) (h : Int) : ∀ (row : List Int) (s : Stt) (k : Nat), broken R s k row = none → (broken R s k (row ++ [h])).isNone = (slept R (row.foldl (slept R) s) h).isSome
  | [], s, k, _ => by
    show (broken R s k [h]).isNone = (slept R s h).isSome
    unfold broken
    cases slept R s h with
    | none => rfl
    | some p => rfl
  | x :: row, s, k, e => by
    unfold broken at e
    rw [List.cons_append, List.foldl_cons]
    unfold broken
    cases c : slept R s x with
    | none => rw [c] at e; cases e
    | some p =>
      rw [c] at e
      exact broken_snoc R h row (some p) (k + 1) e
theorem lrows_kept (R : Ru) : ∀ n, ∀ r ∈ lrows R n, broken R none 0 r = none
  | 0, r, h => by rw [List.mem_singleton.mp h]; rfl
  | n + 1, r, h => by
    obtain ⟨row, h1, h2⟩ := List.mem_flatMap.mp h
    obtain ⟨x, hx, rfl⟩ := List.mem_map.mp h2
    exact Option.isNone_iff_eq_none.mp (List.mem_filter.mp hx).2
theorem grow_sum (R : Ru) {row : List Int} (hb : broken R none 0 row = none) (φ : Stt → Int) : ((growR R row).map fun r => φ (endSt R r)).sum = ((nexts R (endSt R row)).map fun t => φ (some t)).sum := by
  unfold growR nexts
  rw [List.map_map]
  generalize List.range 10 = L
  induction L with
  | nil => rfl
  | cons h L ih =>
    have e := broken_snoc R (h : Int) row none 0 hb
    have e2 : endSt R (row ++ [(h : Int)]) = slept R (endSt R row) (h : Int) := by
      show List.foldl (slept R) none (row ++ [(h : Int)]) = _
      rw [List.foldl_append]; rfl
    cases c : slept R (endSt R row) (h : Int) with
    | none =>
      have e3 : (broken R none 0 (row ++ [(h : Int)])).isNone = false := e.trans (by show (slept R (endSt R row) (h : Int)).isSome = false; rw [c]; rfl)
      rw [List.filter_cons_of_neg (p := fun (h : Nat) => (broken R none 0 (row ++ [(h : Int)])).isNone) (by rw [e3]; decide)]
      simp only [List.filterMap_cons, c]
      exact ih
    | some p =>
      have e3 : (broken R none 0 (row ++ [(h : Int)])).isNone = true := e.trans (by show (slept R (endSt R row) (h : Int)).isSome = true; rw [c]; rfl)
      rw [List.filter_cons_of_pos (p := fun (h : Nat) => (broken R none 0 (row ++ [(h : Int)])).isNone) e3]
      simp only [List.filterMap_cons, c]
      rw [List.map_cons, List.map_cons, List.sum_cons, List.sum_cons, ih]
      congr 1
      show φ (endSt R (row ++ [(h : Int)])) = _
      rw [e2, c]
theorem grow_heads (R : Ru) {row : List Int} (hb : broken R none 0 row = none) : ((List.range 10).filter fun (h : Nat) => (broken R none 0 (row ++ [(h : Int)])).isNone).map (fun (h : Nat) => (h : Int)) = (nexts R (endSt R row)).map (·.1) := by
  unfold nexts
  generalize List.range 10 = L
  induction L with
  | nil => rfl
  | cons h L ih =>
    have e := broken_snoc R (h : Int) row none 0 hb
    cases c : slept R (endSt R row) (h : Int) with
    | none =>
      have e3 : (broken R none 0 (row ++ [(h : Int)])).isNone = false := e.trans (by show (slept R (endSt R row) (h : Int)).isSome = false; rw [c]; rfl)
      rw [List.filter_cons_of_neg (p := fun (h : Nat) => (broken R none 0 (row ++ [(h : Int)])).isNone) (by rw [e3]; decide)]
      simp only [List.filterMap_cons, c]
      exact ih
    | some p =>
      have e3 : (broken R none 0 (row ++ [(h : Int)])).isNone = true := e.trans (by show (slept R (endSt R row) (h : Int)).isSome = true; rw [c]; rfl)
      rw [List.filter_cons_of_pos (p := fun (h : Nat) => (broken R none 0 (row ++ [(h : Int)])).isNone) e3]
      simp only [List.filterMap_cons, c]
      rw [List.map_cons, List.map_cons, ih]
      congr 1
      unfold slept at c
      split at c
      · cases c; rfl
      · split at c
        · cases c
        · split at c
          · cases c
          · cases c; rfl
/-! ### a dict of counts -/
def addD (D : List (Pl × Int)) (k : Pl) (c : Int) : List (Pl × Int) := dset D k ((dlook D k).getD 0 + c)
def innerD (R : Ru) (acc : List (Pl × Int)) (p : Stt × Int) : List (Pl × Int) := (nexts R p.1).foldl (fun acc t => addD acc t p.2) acc
def turnD (R : Ru) (L : List (Stt × Int)) : List (Pl × Int) := L.foldl (innerD R) []
def upD (D : List (Pl × Int)) : List (Stt × Int) := D.map fun p => (some p.1, p.2)
def levD (R : Ru) : Nat → List (Stt × Int)
  | 0 => [(none, 1)]
  | n + 1 => upD (turnD R (levD R n))
def wsum (φ : Pl → Int) (D : List (Pl × Int)) : Int := (D.map fun p => p.2 * φ p.1).sum
theorem wsum_add (φ : Pl → Int) (k : Pl) (c : Int) : ∀ D : List (Pl × Int), wsum φ (addD D k c) = wsum φ D + c * φ k
  | [] => by
    show (0 + c) * φ k + 0 = 0 + c * φ k
    rw [Int.zero_add, Int.add_zero, Int.zero_add]
  | p :: r => by
    have ih := wsum_add φ k c r
    unfold addD at ih ⊢
    unfold dlook dset
    by_cases e : p.1 = k
    · rw [if_pos e, if_pos e]
      show (p.2 + c) * φ p.1 + wsum φ r = p.2 * φ p.1 + wsum φ r + c * φ k
      rw [e, Int.add_mul]
      omega
    · rw [if_neg e, if_neg e]
      show p.2 * φ p.1 + wsum φ (dset r k _) = p.2 * φ p.1 + wsum φ r + c * φ k
      rw [ih]
      omega
theorem wsum_inner (φ : Pl → Int) (c : Int) : ∀ (ts : List Pl) (acc : List (Pl × Int)), wsum φ (ts.foldl (fun acc t => addD acc t c) acc) = wsum φ acc + c * (ts.map φ).sum
  | [], acc => by
    show _ = _ + c * 0
    rw [Int.mul_zero, Int.add_zero]; rfl
  | t :: ts, acc => by
    rw [List.foldl_cons, wsum_inner φ c ts, wsum_add, List.map_cons, List.sum_cons, Int.mul_add]
    omega
theorem wsum_turn (φ : Pl → Int) (R : Ru) : ∀ (L : List (Stt × Int)) (acc : List (Pl × Int)), wsum φ (L.foldl (innerD R) acc) = wsum φ acc + (L.map fun p => p.2 * ((nexts R p.1).map φ).sum).sum
  | [], acc => by
    show _ = _ + 0
    rw [Int.add_zero]; rfl
  | p :: L, acc => by
    rw [List.foldl_cons, wsum_turn φ R L, List.map_cons, List.sum_cons]
    have : wsum φ (innerD R acc p) = wsum φ acc + p.2 * ((nexts R p.1).map φ).sum := wsum_inner φ p.2 (nexts R p.1) acc
    rw [this]
    omega
theorem sum_flat {α : Type} (f : α → Int) : ∀ (L : List (List α)), (L.flatten.map f).sum = (L.map fun l => (l.map f).sum).sum
  | [] => rfl
  | l :: L => by rw [List.flatten_cons, List.map_append, List.sum_append, sum_flat f L]; rfl
theorem lev_rows (R : Ru) : ∀ (n : Nat) (φ : Stt → Int), ((levD R n).map fun p => p.2 * φ p.1).sum = ((lrows R n).map fun r => φ (endSt R r)).sum
  | 0, φ => by
    show 1 * φ none + 0 = φ none + 0
    rw [Int.one_mul]
  | n + 1, φ => by
    have h1 : ((levD R (n + 1)).map fun p => p.2 * φ p.1).sum = wsum (fun t => φ (some t)) (turnD R (levD R n)) := by
      show ((upD (turnD R (levD R n))).map fun p => p.2 * φ p.1).sum = _
      unfold upD wsum
      rw [List.map_map]
      rfl
    rw [h1]
    unfold turnD
    rw [wsum_turn]
    show 0 + _ = _
    rw [Int.zero_add]
    have ih := lev_rows R n fun s => ((nexts R s).map fun t => φ (some t)).sum
    rw [ih, lrows_succ, List.flatMap_def, sum_flat, List.map_map]
    congr 1
    refine List.map_congr_left fun r hr => ?_
    exact (grow_sum R (lrows_kept R n r hr) φ).symm
theorem lev_count (R : Ru) (n : Nat) : ((levD R n).map (·.2)).sum = ((lrows R n).length : Int) := by
  have h := lev_rows R n fun _ => 1
  have e1 : ((levD R n).map fun p => p.2 * 1).sum = ((levD R n).map (·.2)).sum := by
    congr 1
    exact List.map_congr_left fun p _ => Int.mul_one _
  rw [e1] at h
  rw [h]
  generalize lrows R n = L
  induction L with
  | nil => rfl
  | cons r L ih => rw [List.map_cons, List.sum_cons, ih, List.length_cons]; omega
/-! ### the dict stays small -/
def allSt : List Pl := (List.range 10).flatMap fun (a : Nat) => (List.range 6).map fun (b : Nat) => ((a : Int), (b : Int))
theorem allSt_len : allSt.length = 60 := by decide
def InS (t : Pl) : Prop := (0 ≤ t.1 ∧ t.1 ≤ 9) ∧ 0 ≤ t.2 ∧ t.2 ≤ 5
theorem inS_all {t : Pl} (h : InS t) : t ∈ allSt := by
  obtain ⟨a, b⟩ := t
  obtain ⟨⟨h1, h2⟩, h3, h4⟩ := h
  have h1 : 0 ≤ a := h1
  have h2 : a ≤ 9 := h2
  have h3 : 0 ≤ b := h3
  have h4 : b ≤ 5 := h4
  refine List.mem_flatMap.mpr ⟨a.toNat, List.mem_range.mpr (by omega), List.mem_map.mpr ⟨b.toNat, List.mem_range.mpr (by omega), ?_⟩⟩
  rw [Int.toNat_of_nonneg h1, Int.toNat_of_nonneg h3]
def SOk (s : Stt) : Prop := ∀ p, s = some p → InS p
theorem nexts_in {R : Ru} (l : Rul R) {s : Stt} (hs : SOk s) {t : Pl} (ht : t ∈ nexts R s) : InS t := by
  obtain ⟨h, hh, e⟩ := List.mem_filterMap.mp ht
  rw [List.mem_range] at hh
  unfold slept at e
  split at e
  · cases e; exact ⟨⟨by show (0 : Int) ≤ (h : Int); omega, by show (h : Int) ≤ 9; omega⟩, Int.le_refl 0, by show (0 : Int) ≤ 5; decide⟩
  · cases s with
    | none => cases e
    | some p =>
      have q := hs p rfl
      have e : (if (decide (p.1 + R.2.1 < (h : Int)) || (decide (p.1 < (h : Int)) && decide (R.2.2 ≤ p.2))) = true then none else some ((h : Int), if p.1 < (h : Int) then p.2 + 1 else 0)) = some t := e
      split at e
      · cases e
      · rename_i c
        cases e
        have n5 := l.n5
        rw [Bool.or_eq_true, Bool.and_eq_true, decide_eq_true_eq, decide_eq_true_eq, decide_eq_true_eq, not_or, not_and] at c
        have q2 := q.2
        refine ⟨⟨by show (0 : Int) ≤ (h : Int); omega, by show (h : Int) ≤ 9; omega⟩, ?_, ?_⟩
        · show (0 : Int) ≤ if p.1 < (h : Int) then p.2 + 1 else 0
          split <;> omega
        · show (if p.1 < (h : Int) then p.2 + 1 else 0) ≤ (5 : Int)
          split
          · have := c.2 ‹_›; omega
          · decide
def GoodD (D : List (Pl × Int)) : Prop := (D.map (·.1)).Nodup ∧ ∀ k ∈ D.map (·.1), InS k
theorem GoodD.len {D : List (Pl × Int)} (h : GoodD D) : D.length ≤ 60 := by
  have := nodup_len (ys := allSt) h.1 fun x hx => inS_all (h.2 x hx)
  rwa [List.length_map, allSt_len] at this
theorem GoodD.add {D : List (Pl × Int)} (h : GoodD D) {k : Pl} (hk : InS k) (c : Int) : GoodD (addD D k c) := ⟨dset_nodup h.1, fun x hx => by
  rcases dset_mem hx with q | q
  · exact h.2 x q
  · rw [q]; exact hk⟩
theorem GoodD.adds {c : Int} : ∀ {ts : List Pl} {D : List (Pl × Int)}, GoodD D → (∀ t ∈ ts, InS t) → GoodD (ts.foldl (fun acc t => addD acc t c) D)
  | [], _, h, _ => h
  | t :: ts, _, h, k => GoodD.adds (ts := ts) (h.add (k t List.mem_cons_self) c) fun x hx => k x (List.mem_cons_of_mem _ hx)
theorem GoodD.inner {R : Ru} (l : Rul R) {D : List (Pl × Int)} (h : GoodD D) {p : Stt × Int} (hp : SOk p.1) : GoodD (innerD R D p) := h.adds fun _ ht => nexts_in l hp ht
theorem GoodD.turn {R : Ru} (l : Rul R) : ∀ {L : List (Stt × Int)} {D : List (Pl × Int)}, GoodD D → (∀ p ∈ L, SOk p.1) → GoodD (L.foldl (innerD R) D)
  | [], _, h, _ => h
  | p :: L, _, h, k => GoodD.turn l (L := L) (h.inner l (k p List.mem_cons_self)) fun x hx => k x (List.mem_cons_of_mem _ hx)
theorem good_nil : GoodD [] := ⟨List.nodup_nil, fun _ h => by cases h⟩
theorem lev_ok {R : Ru} (l : Rul R) : ∀ n, ∀ p ∈ levD R n, SOk p.1
  | 0, p, h => by
    rw [List.mem_singleton.mp h]
    intro q e
    cases e
  | n + 1, p, h => by
    obtain ⟨q, hq, rfl⟩ := List.mem_map.mp h
    intro t e
    cases e
    exact (GoodD.turn l good_nil (lev_ok l n)).2 _ (List.mem_map_of_mem hq)
theorem lev_good {R : Ru} (l : Rul R) (n : Nat) : GoodD (turnD R (levD R n)) := GoodD.turn l good_nil (lev_ok l n)
/-! ### code -/
/-- what is asked of the dict of a level -/
def Line (lv : PV) (D : List (Stt × Int)) : Prop := iterV lv = pu (D.map fun p => stE p.1) ∧ ∀ p ∈ D, pIdx lv (stE p.1) = pu (.int p.2)
theorem line_dict {D : List (Pl × Int)} (nd : (D.map (·.1)).Nodup) : Line (dG plE PyData.int D) (upD D) := by
  refine ⟨?_, fun p hp => ?_⟩
  · rw [g_iter kenc_pl]
    unfold upD
    rw [List.map_map, List.map_map]
    rfl
  · obtain ⟨q, hq, rfl⟩ := List.mem_map.mp hp
    exact g_idx kenc_pl (dlook_of nd hq)
theorem line_first : Line (.dict [(.none, .int 1)]) [(none, 1)] := by
  refine ⟨gd_yes rfl, fun p hp => ?_⟩
  rw [List.mem_singleton.mp hp]
  exact gd_yes ⟨rfl, rfl⟩
section
variable {C : Nat → List PV → M PV} {G : List PV}
def S_levels (C : Nat → List PV → M PV) (i : Nat) : Prop := ∀ R (n : Nat), Rul R → n ≤ 100 → ∃ lv, C i [ruE R, natI n] = pu lv ∧ Line lv (levD R n)
def S_count (C : Nat → List PV → M PV) (i : Nat) : Prop := ∀ R (n : Nat), Rul R → 1 ≤ n → n ≤ 30 → C i [ruE R, natI n] = pu (.int ((lrows R n).length : Int))
def S_kept (C : Nat → List PV → M PV) (i : Nat) : Prop := ∀ R ns, Rul R → Ngh ns → C i [ruE R, rowE ns] = pu (.bool (broken R none 0 ns).isNone)
def S_first (C : Nat → List PV → M PV) (i : Nat) : Prop := ∀ R ns, Rul R → Ngh ns → C i [ruE R, rowE ns] = pu (optE (broken R none 0 ns))
def S_letnext (C : Nat → List PV → M PV) (i : Nat) : Prop := ∀ R ns, Rul R → Ngh ns → C i [ruE R, rowE ns] = pu (if (broken R none 0 ns).isNone = true then rowE ((nexts R (endSt R ns)).map (·.1)) else .none)
theorem optE_none (o : Option Nat) : isNone (optE o) = o.isNone := by cases o <;> rfl
theorem b_kept {a b d : Nat} (h1 : S_need_rules C a) (h2 : S_need_nights C b) (h3 : S_broken C d) {R : Ru} {ns : List Int} (l : Rul R) (hn : Ngh ns) : endF (denB C G (k_is_kept a b d) (startE 2 [ruE R, rowE ns])) = pu (.bool (broken R none 0 ns).isNone) := by
  have t1 := h1 R l
  have t2 := h2 ns hn
  have t3 := h3 R ns
  refine endF_ret ?_
  unfold k_is_kept
  refine sqs (ex_of (v := .none) (by walk_at "den")) (sqs (ex_of (v := .none) (by walk_at "den")) (ret_den ?_))
  refine (by walk_at "den" : denE C G _ _ = pu (.bool (isNone (optE (broken R none 0 ns))))).trans ?_
  rw [optE_none]
theorem b_first {a b d : Nat} (h1 : S_need_rules C a) (h2 : S_need_nights C b) (h3 : S_broken C d) {R : Ru} {ns : List Int} (l : Rul R) (hn : Ngh ns) : endF (denB C G (k_first_broken a b d) (startE 2 [ruE R, rowE ns])) = pu (optE (broken R none 0 ns)) := by
  have t1 := h1 R l
  have t2 := h2 ns hn
  have t3 := h3 R ns
  refine endF_ret ?_
  unfold k_first_broken
  exact sqs (ex_of (v := .none) (by walk_at "den")) (sqs (ex_of (v := .none) (by walk_at "den")) (ret_den (by walk_at "den")))
theorem b_letnext {a b d e f : Nat} (h1 : S_need_rules C a) (h2 : S_need_nights C b) (h3 : S_broken C d) (h4 : S_slept C e) (h5 : S_nexts C f) {R : Ru} {ns : List Int} (l : Rul R) (hn : Ngh ns) : endF (denB C G (k_let_next a b d e f) (startE 5 [ruE R, rowE ns])) = pu (if (broken R none 0 ns).isNone = true then rowE ((nexts R (endSt R ns)).map (·.1)) else .none) := by
  have t1 := h1 R l
  have t2 := h2 ns hn
  have t3 := h3 R ns
  refine endF_ret ?_
  unfold k_let_next
  refine sqs (ex_of (v := .none) (by walk_at "den")) (sqs (ex_of (v := .none) (by walk_at "den")) ?_)
  have cc : denE C G (.cmp .isnot (.call d [.var 0, .var 1]) (.lit .none)) (startE 5 [ruE R, rowE ns]) = pu (.bool (!isNone (optE (broken R none 0 ns)))) := by walk_at "den"
  rw [optE_none] at cc
  cases c : (broken R none 0 ns).isNone with
  | false =>
    rw [c] at cc
    exact sq_ret cc rfl
  | true =>
    rw [c] at cc
    rw [if_pos rfl]
    refine sq_go cc (sqs (asg_of (v := .none) rfl) ?_)
    obtain ⟨ρ', e1, o3, e2⟩ := for_foldI (C := C) (G := G) (k := 3) (e := .var 1) (v := rowE ns) (xs := ns) (en := PyData.int) (b := [.asg (.nm 2) (.call e [.var 0, .var 2, .var 3])]) (f := slept R) (I := fun s ρ => ∃ o3, ρ = [some (ruE R), some (rowE ns), some (stE s), o3, none]) (s := none) (ρ := [some (ruE R), some (rowE ns), some .none, none, none]) rfl rfl ⟨none, rfl⟩ fun h hh s ρ ⟨o3, er⟩ => by
      subst er
      have t := h4 R s h
      exact ⟨_, sqs (asg_of (v := stE (slept R s h)) (by walk_at "den")) rfl, some (.int h), rfl⟩
    refine sqs e1 (ret_den ?_)
    subst e2
    have t5 := h5 R (endSt R ns)
    have lc : denE C G (.lc1 (.idx (.var 4) (.lit (.int 0))) (.nm 4) (.call f [.var 0, .var 2]) (.lit (.bool true))) [some (ruE R), some (rowE ns), some (stE (endSt R ns)), o3, none] = pu (.list (((nexts R (endSt R ns)).map (·.1)).map PyData.int)) := by
      refine lc1_map (v := .list ((nexts R (endSt R ns)).map plE)) (by walk_at "den") rfl fun p hp => ?_
      walk_at "den"
    refine (bi1_den lc).trans ?_
    have hl : (nexts R (endSt R ns)).length ≤ 10 := by
      refine Nat.le_trans (List.length_filterMap_le _ _) ?_
      rw [List.length_range]; exact Nat.le_refl _
    exact gd_yes (by
      rw [List.length_map, List.length_map]
      show _ ≤ 16777216
      omega)
def kTurnV (a : Nat) : List St := [.own 4 (.dct [] []),
    .for_ (.nm 5) (.var 2) [.for_ (.nm 6) (.call a [.var 0, .var 5]) [.seti 4 (.var 6) (.bin .add (.met .get2 (.var 4) [.var 6, .lit (.int 0)]) (.idx (.var 2) (.var 5)))]],
    .frz [4],
    .asg (.nm 2) (.var 4)]
theorem turn_run {a : Nat} (h1 : S_nexts C a) {R : Ru} (l : Rul R) {m lv : PV} {D : List (Stt × Int)} (ln : Line lv D) (hD : ∀ p ∈ D, SOk p.1) (o3 o4 o5 o6 : Option PV) :
    ∃ ρ', denB C G (kTurnV a) [some (ruE R), some m, some lv, o3, o4, o5, o6] = pu (.nx ρ') ∧ ∃ o4 o5 o6, ρ' = [some (ruE R), some m, some (dG plE PyData.int (turnD R D)), o3, o4, o5, o6] := by
  unfold kTurnV
  have it : iterV lv = pu (D.map fun p => stE p.1) := ln.1
  obtain ⟨ρ', e1, g1, o5', o6', e2⟩ := for_foldI (C := C) (G := G) (k := 5) (e := .var 2) (v := lv) (xs := D) (en := fun p => stE p.1) (b := [.for_ (.nm 6) (.call a [.var 0, .var 5]) [.seti 4 (.var 6) (.bin .add (.met .get2 (.var 4) [.var 6, .lit (.int 0)]) (.idx (.var 2) (.var 5)))]]) (f := innerD R)
    (I := fun acc ρ => GoodD acc ∧ ∃ o5 o6, ρ = [some (ruE R), some m, some lv, o3, some (dG plE PyData.int acc), o5, o6]) (s := []) (ρ := [some (ruE R), some m, some lv, o3, some (.dict []), o5, o6]) rfl it ⟨good_nil, _, _, rfl⟩ fun p hp acc ρ ⟨g, o5, o6, er⟩ => by
      subst er
      have t := h1 R p.1
      have ix := ln.2 p hp
      obtain ⟨ρ', e1, g1, o6', e2⟩ := for_foldI (C := C) (G := G) (k := 6) (e := .call a [.var 0, .var 5]) (v := .list ((nexts R p.1).map plE)) (xs := nexts R p.1) (en := plE) (b := [.seti 4 (.var 6) (.bin .add (.met .get2 (.var 4) [.var 6, .lit (.int 0)]) (.idx (.var 2) (.var 5)))]) (f := fun acc t => addD acc t p.2)
        (I := fun acc ρ => GoodD acc ∧ ∃ o6, ρ = [some (ruE R), some m, some lv, o3, some (dG plE PyData.int acc), some (stE p.1), o6]) (s := acc) (ρ := [some (ruE R), some m, some lv, o3, some (dG plE PyData.int acc), some (stE p.1), o6]) (by walk_at "den") rfl ⟨g, _, rfl⟩ fun t ht acc ρ ⟨g, o6, er⟩ => by
          subst er
          have it := nexts_in l (hD p hp) ht
          have gt : denE C G (.met .get2 (.var 4) [.var 6, .lit (.int 0)]) (([some (ruE R), some m, some lv, o3, some (dG plE PyData.int acc), some (stE p.1), o6] : Env).set 6 (some (plE t))) = pu (.int ((dlook acc t).getD 0)) := by
            refine (g_met2 kenc_pl (D := acc) (k := t) (x := .int 0) rfl rfl rfl).trans ?_
            cases dlook acc t <;> rfl
          have gl := g.len
          exact ⟨_, sqs (g_seti kenc_pl (v := (dlook acc t).getD 0 + p.2) (by omega) rfl (by walk_at "den") rfl) rfl, g.add it p.2, some (plE t), rfl⟩
      subst e2
      exact ⟨_, sqs e1 rfl, g1, _, _, rfl⟩
  subst e2
  exact ⟨_, sqs (own_of (v := .dict []) rfl) (sqs e1 (sqs (by rfl) (sqs (asg_of (v := dG plE PyData.int (turnD R D)) rfl) rfl))), _, _, _, rfl⟩
theorem b_levels {a : Nat} (h1 : S_nexts C a) {R : Ru} {n : Nat} (l : Rul R) (hn : n ≤ 100) : ∃ lv, endF (denB C G (k_levels_in a) (startE 7 [ruE R, natI n])) = pu lv ∧ Line lv (levD R n) := by
  unfold k_levels_in
  obtain ⟨ρ', e1, lv, ln, o3, o4, o5, o6, e2⟩ := for_pre (C := C) (G := G) (k := 3) (e := .rng1 (.var 1)) (v := .list ((List.range n).map natI)) (xs := List.range n) (en := natI) (b := kTurnV a)
    (I := fun pre ρ => ∃ lv, Line lv (levD R pre.length) ∧ ∃ o3 o4 o5 o6, ρ = [some (ruE R), some (natI n), some lv, o3, o4, o5, o6]) (ρ := [some (ruE R), some (natI n), some (.dict [(.none, .int 1)]), none, none, none, none]) (range_den (by omega) rfl) rfl ⟨_, line_first, _, _, _, _, rfl⟩ fun pre x post e hx ρ ⟨lv, ln, o3, o4, o5, o6, er⟩ => by
      subst er
      obtain ⟨ρ', e1, o4', o5', o6', e2⟩ := turn_run (C := C) (G := G) h1 l (m := natI n) ln (lev_ok l _) (some (natI x)) o4 o5 o6
      subst e2
      refine ⟨_, e1, _, ?_, _, _, _, _, rfl⟩
      rw [List.length_append]
      exact line_dict (lev_good l _).1
  subst e2
  rw [List.length_range] at ln
  exact ⟨lv, endF_ret (sqs (asg_of (v := .dict [(.none, .int 1)]) (dct1_den rfl rfl rfl)) (sqs e1 (ret_den rfl))), ln⟩
theorem b_count {a b d : Nat} (h1 : S_need_rules C a) (h2 : S_need_many C b) (h3 : S_levels C d) {R : Ru} {n : Nat} (l : Rul R) (n1 : 1 ≤ n) (n2 : n ≤ 30) : endF (denB C G (k_count_nights a b d) (startE 4 [ruE R, natI n])) = pu (.int ((lrows R n).length : Int)) := by
  have t1 := h1 R l
  have t2 := h2 n n1 n2
  obtain ⟨lv, t3, ln⟩ := h3 R n l (by omega)
  refine endF_ret ?_
  unfold k_count_nights
  refine sqs (ex_of (v := .none) (by walk_at "den")) (sqs (ex_of (v := .none) (by walk_at "den")) (sqs (asg_of (v := lv) (by walk_at "den")) (ret_den ?_)))
  have lc : denE C G (.lc1 (.idx (.var 2) (.var 3)) (.nm 3) (.var 2) (.lit (.bool true))) ((startE 4 [ruE R, natI n]).set 2 (some lv)) = pu (.list (((levD R n).map (·.2)).map PyData.int)) := by
    refine lc1_map (v := lv) (xs := levD R n) (en := fun p => stE p.1) rfl ln.1 fun p hp => ?_
    have ix := ln.2 p hp
    walk_at "den"
  refine (bi1_den lc).trans ?_
  rw [sum_ints, lev_count]
/-! ### the law's rows -/
theorem b_lrows {a : Nat} (h1 : S_lbroken C a) {R : Ru} {n : Nat} (hn : n ≤ 4) : endF (denB C G (k__law_rows a) (startE 7 [ruE R, natI n])) = pu (.list ((lrows R n).map rowE)) := by
  unfold k__law_rows
  obtain ⟨ρ', e1, o3, o4, o5, e2⟩ := for_pre (C := C) (G := G) (k := 3) (e := .rng1 (.var 1)) (v := .list ((List.range n).map natI)) (xs := List.range n) (en := natI) (b := [.asg (.nm 4) (.lst []),
    .for_ (.nm 5) (.var 2) [.asg (.nm 4) (.bin .add (.var 4) (.lc1 (.bin .add (.var 5) (.tup [.var 6])) (.nm 6) (.rng1 (.lit (.int 10))) (.cmp .is_ (.call a [.var 0, .bin .add (.var 5) (.tup [.var 6])]) (.lit .none))))],
    .asg (.nm 2) (.var 4)])
    (I := fun pre ρ => ∃ o3 o4 o5, ρ = [some (ruE R), some (natI n), some (.list ((lrows R pre.length).map rowE)), o3, o4, o5, none]) (ρ := [some (ruE R), some (natI n), some (.list [.tuple []]), none, none, none, none]) (range_den (by omega) rfl) rfl ⟨_, _, _, rfl⟩ fun pre x post e hx ρ ⟨o3, o4, o5, er⟩ => by
      subst er
      have hp : pre.length + 1 ≤ n := by
        have := congrArg List.length e
        rw [List.length_range, List.length_append, List.length_cons] at this
        omega
      have few := lrows_few R pre.length
      have few2 : (10 : Nat) ^ pre.length ≤ 1000 := by
        have : pre.length ≤ 3 := by omega
        calc (10 : Nat) ^ pre.length ≤ 10 ^ 3 := Nat.pow_le_pow_right (by decide) this
          _ = 1000 := rfl
      obtain ⟨ρ', e1, o5', e2⟩ := for_pre (C := C) (G := G) (k := 5) (e := .var 2) (v := .list ((lrows R pre.length).map rowE)) (xs := lrows R pre.length) (en := rowE) (b := [.asg (.nm 4) (.bin .add (.var 4) (.lc1 (.bin .add (.var 5) (.tup [.var 6])) (.nm 6) (.rng1 (.lit (.int 10))) (.cmp .is_ (.call a [.var 0, .bin .add (.var 5) (.tup [.var 6])]) (.lit .none))))])
        (I := fun done ρ => ∃ o5, ρ = [some (ruE R), some (natI n), some (.list ((lrows R pre.length).map rowE)), some (natI x), some (.list ((done.flatMap (growR R)).map rowE)), o5, none]) (ρ := [some (ruE R), some (natI n), some (.list ((lrows R pre.length).map rowE)), some (natI x), some (.list []), o5, none]) rfl rfl ⟨_, rfl⟩ fun done row post2 e hrow ρ ⟨o5, er⟩ => by
          subst er
          have hl := lrows_len R _ row hrow
          have ad : ∀ (v : PV), pBin .add (rowE row) (.tuple [v]) = pu (.tuple (row.map PyData.int ++ [v])) := fun v => add_tups _ _ (by
            rw [List.length_map]
            show _ + 1 ≤ _
            omega)
          have ad2 : ∀ (h : Nat), (.tuple (row.map PyData.int ++ [natI h]) : PV) = rowE (row ++ [(h : Int)]) := fun h => by
            unfold rowE
            rw [List.map_append]; rfl
          have lc : denE C G (.lc1 (.bin .add (.var 5) (.tup [.var 6])) (.nm 6) (.rng1 (.lit (.int 10))) (.cmp .is_ (.call a [.var 0, .bin .add (.var 5) (.tup [.var 6])]) (.lit .none))) (([some (ruE R), some (natI n), some (.list ((lrows R pre.length).map rowE)), some (natI x), some (.list ((done.flatMap (growR R)).map rowE)), o5, none] : Env).set 5 (some (rowE row))) = pu (.list ((growR R row).map rowE)) := by
            refine lc1_some (v := .list ((List.range 10).map natI)) (xs := List.range 10) (en := natI) (eo := rowE) (g := fun (h : Nat) => row ++ [(h : Int)]) (p := fun (h : Nat) => (broken R none 0 (row ++ [(h : Int)])).isNone) (range_den (n := 10) (by decide) rfl) rfl (fun h hh => ?_) (fun h hh _ => ?_)
            · have t := h1 R (row ++ [(h : Int)]) (by
                rw [List.length_append]
                show _ + 1 ≤ _
                omega)
              have a1 := ad (natI h)
              rw [ad2 h] at a1
              refine (by walk_at "den" : denE C G _ _ = pu (.bool (isNone (optE (broken R none 0 (row ++ [(h : Int)])))))).trans ?_
              rw [optE_none]
            · have a1 := ad (natI h)
              rw [ad2 h] at a1
              walk_at "den"
          have dl : (done.flatMap (growR R)).length ≤ 10000 := by
            have h1 : (done.flatMap (growR R)).length ≤ done.length * 10 := flatMap_len fun r _ => by
              unfold growR
              rw [List.length_map]
              exact Nat.le_trans (List.length_filter_le _ _) (by rw [List.length_range]; exact Nat.le_refl _)
            have h2 := congrArg List.length e
            rw [List.length_append] at h2
            omega
          have gl : (growR R row).length ≤ 10 := by
            unfold growR
            rw [List.length_map]
            exact Nat.le_trans (List.length_filter_le _ _) (by rw [List.length_range]; exact Nat.le_refl _)
          have al := add_lists ((done.flatMap (growR R)).map rowE) ((growR R row).map rowE) (by rw [List.length_map, List.length_map]; omega)
          refine ⟨_, sqs (asg_of (v := .list (((done ++ [row]).flatMap (growR R)).map rowE)) ?_) rfl, some (rowE row), rfl⟩
          rw [List.flatMap_append, List.map_append]
          refine (bin_den rfl lc).trans (al.trans ?_)
          rw [show ([row] : List (List Int)).flatMap (growR R) = growR R row by rw [List.flatMap_cons, List.flatMap_nil, List.append_nil]]
      subst e2
      refine ⟨_, sqs (asg_of (v := .list []) rfl) (sqs e1 (sqs (asg_of (v := .list ((lrows R (pre ++ [x]).length).map rowE)) ?_) rfl)), _, _, _, rfl⟩
      rw [List.length_append]
      rfl
  subst e2
  rw [List.length_range] at e1
  exact endF_ret (sqs (asg_of (v := .list [.tuple []]) rfl) (sqs e1 (ret_den rfl)))
end
end HG.Ni
end
section
set_option maxHeartbeats 1000000
/-! HGNi4: nights that are let by the one alone: plain. -/
namespace HG.Ni
open PySem HG.Z
/-! ### shorter, or as long and ahead -/
def lexlt : List Int → List Int → Prop
  | _, [] => False
  | [], _ :: _ => True
  | a :: as, b :: bs => a < b ∨ (a = b ∧ lexlt as bs)
def slt (a b : List Int) : Prop := a.length < b.length ∨ (a.length = b.length ∧ lexlt a b)
theorem lexlt_trans : ∀ {a b c : List Int}, lexlt a b → lexlt b c → lexlt a c
  | [], [], _, h, _ => h.elim
  | [], _ :: _, [], _, h => h.elim
  | [], _ :: _, _ :: _, _, _ => trivial
  | _ :: _, [], _, h, _ => h.elim
  | _ :: _, _ :: _, [], _, h => h.elim
  | a :: as, b :: bs, c :: cs, h1, h2 => by
    rcases h1 with h1 | ⟨e1, h1⟩
    · rcases h2 with h2 | ⟨e2, h2⟩
      · exact .inl (Int.lt_trans h1 h2)
      · exact .inl (by rw [← e2]; exact h1)
    · rcases h2 with h2 | ⟨e2, h2⟩
      · exact .inl (by rw [e1]; exact h2)
      · exact .inr ⟨e1.trans e2, lexlt_trans h1 h2⟩
theorem lexlt_irrefl : ∀ {a : List Int}, ¬ lexlt a a
  | [], h => h
  | a :: as, h => by
    rcases h with h | ⟨_, h⟩
    · exact absurd h (Int.lt_irrefl a)
    · exact lexlt_irrefl h
theorem slt_trans {a b c : List Int} (h1 : slt a b) (h2 : slt b c) : slt a c := by
  rcases h1 with h1 | ⟨e1, h1⟩ <;> rcases h2 with h2 | ⟨e2, h2⟩
  · exact .inl (by omega)
  · exact .inl (by omega)
  · exact .inl (by omega)
  · exact .inr ⟨e1.trans e2, lexlt_trans h1 h2⟩
theorem slt_irrefl {a : List Int} (h : slt a a) : False := by
  rcases h with h | ⟨_, h⟩
  · exact absurd h (Nat.lt_irrefl _)
  · exact lexlt_irrefl h
theorem lexlt_app : ∀ {a b : List Int} (x y : List Int), a.length = b.length → lexlt a b → lexlt (a ++ x) (b ++ y)
  | [], [], _, _, _, h => h.elim
  | [], _ :: _, _, _, e, _ => by cases e
  | _ :: _, [], _, _, e, _ => by cases e
  | a :: as, b :: bs, x, y, e, h => by
    rcases h with h | ⟨q, h⟩
    · exact .inl h
    · exact .inr ⟨q, lexlt_app x y (Nat.succ.inj e) h⟩
theorem lexlt_snoc : ∀ {a : List Int} {x y : Int}, x < y → lexlt (a ++ [x]) (a ++ [y])
  | [], _, _, h => .inl h
  | a :: as, _, _, h => .inr ⟨rfl, lexlt_snoc h⟩
theorem slt_snoc2 {a b : List Int} (x y : Int) (h : slt a b) : slt (a ++ [x]) (b ++ [y]) := by
  rcases h with h | ⟨e, h⟩
  · exact .inl (by rw [List.length_append, List.length_append]; show _ + 1 < _ + 1; omega)
  · exact .inr ⟨by rw [List.length_append, List.length_append, e]; rfl, lexlt_app _ _ e h⟩
theorem slt_snoc {a : List Int} {x y : Int} (h : x < y) : slt (a ++ [x]) (a ++ [y]) := .inr ⟨by rw [List.length_append, List.length_append]; rfl, lexlt_snoc h⟩
theorem slt_grow (a : List Int) (x : Int) : slt a (a ++ [x]) := .inl (by rw [List.length_append]; show _ < _ + 1; omega)
def sle (a b : List Int) : Prop := a = b ∨ slt a b
theorem sle_trans {a b c : List Int} (h1 : sle a b) (h2 : sle b c) : sle a c := by
  rcases h1 with rfl | h1
  · exact h2
  · rcases h2 with rfl | h2
    · exact .inr h1
    · exact .inr (slt_trans h1 h2)
theorem sle_snoc2 {a b : List Int} (x : Int) (h : sle a b) : sle (a ++ [x]) (b ++ [x]) := by
  rcases h with rfl | h
  · exact .inl rfl
  · exact .inr (slt_snoc2 x x h)
/-! ### words and pairs of states -/
def Hts (w : List Int) : Prop := ∀ h ∈ w, 0 ≤ h ∧ h ≤ 9
def keptP (R : Ru) (w : List Int) : Prop := broken R none 0 w = none
theorem broken_snoc_iff (R : Ru) (h : Int) : ∀ (row : List Int) (s : Stt) (k : Nat), broken R s k (row ++ [h]) = none ↔ broken R s k row = none ∧ (slept R (row.foldl (slept R) s) h).isSome = true := fun row s k => by
  constructor
  · intro e
    have e1 : broken R s k row = none := by
      induction row generalizing s k with
      | nil => rfl
      | cons x row ih =>
        rw [List.cons_append] at e
        unfold broken at e ⊢
        cases c : slept R s x with
        | none => rw [c] at e; cases e
        | some p => rw [c] at e; exact ih (some p) (k + 1) e
    refine ⟨e1, ?_⟩
    rw [← broken_snoc R h row s k e1, e]; rfl
  · rintro ⟨e1, e2⟩
    exact Option.isNone_iff_eq_none.mp (by rw [broken_snoc R h row s k e1]; exact e2)
theorem kept_snoc (R : Ru) (w : List Int) (h : Int) : keptP R (w ++ [h]) ↔ keptP R w ∧ (slept R (endSt R w) h).isSome = true := broken_snoc_iff R h w none 0
theorem endSt_snoc (R : Ru) (w : List Int) (h : Int) : endSt R (w ++ [h]) = slept R (endSt R w) h := by
  show List.foldl (slept R) none (w ++ [h]) = _
  rw [List.foldl_append]; rfl
/-- kept by both -/
def both (R O : Ru) (w : List Int) : Prop := Hts w ∧ keptP R w ∧ keptP O w
/-- let by R alone, broken at its end -/
def dist (R O : Ru) (w : List Int) : Prop := Hts w ∧ keptP R w ∧ ¬ keptP O w
def pr (R O : Ru) (w : List Int) : Stt × Stt := (endSt R w, endSt O w)
theorem both_snoc {R O : Ru} {w : List Int} {h : Int} : both R O (w ++ [h]) ↔ both R O w ∧ (0 ≤ h ∧ h ≤ 9) ∧ (slept R (endSt R w) h).isSome = true ∧ (slept O (endSt O w) h).isSome = true := by
  unfold both
  rw [kept_snoc, kept_snoc]
  constructor
  · rintro ⟨a, b, c⟩
    exact ⟨⟨fun x hx => a x (List.mem_append_left _ hx), b.1, c.1⟩, a h (List.mem_append_right _ (List.mem_singleton.mpr rfl)), b.2, c.2⟩
  · rintro ⟨⟨a, b, c⟩, d, e, f⟩
    refine ⟨fun x hx => ?_, ⟨b, e⟩, c, f⟩
    rcases List.mem_append.mp hx with hx | hx
    · exact a x hx
    · rw [List.mem_singleton.mp hx]; exact d
/-- a word that R alone lets begins with one that is broken at its end -/
theorem dist_begin {R O : Ru} : ∀ {w : List Int}, dist R O w → ∃ u h, both R O u ∧ (0 ≤ h ∧ h ≤ 9) ∧ (slept R (endSt R u) h).isSome = true ∧ slept O (endSt O u) h = none ∧ sle (u ++ [h]) w := by
  intro w
  generalize hn : w.length = n
  induction n generalizing w with
  | zero =>
    intro d
    have : w = [] := List.length_eq_zero_iff.mp hn
    subst this
    exact absurd rfl d.2.2
  | succ n ih =>
    intro d
    obtain ⟨u, h, rfl⟩ : ∃ u h, w = u ++ [h] := by
      rcases List.eq_nil_or_concat w with e | ⟨u, h, e⟩
      · rw [e] at hn; cases hn
      · exact ⟨u, h, by rw [e, List.concat_eq_append]⟩
    obtain ⟨a, b, c⟩ := d
    rw [kept_snoc] at b c
    have au : Hts u := fun x hx => a x (List.mem_append_left _ hx)
    have ah := a h (List.mem_append_right _ (List.mem_singleton.mpr rfl))
    by_cases k : keptP O u
    · refine ⟨u, h, ⟨au, b.1, k⟩, ah, b.2, ?_, .inl rfl⟩
      cases e : slept O (endSt O u) h with
      | none => rfl
      | some p => exact absurd ⟨k, by rw [e]; rfl⟩ c
    · obtain ⟨u2, h2, q1, q2, q3, q4, q5⟩ := ih (w := u) (by rw [List.length_append] at hn; exact Nat.succ.inj hn) ⟨au, b.1, k⟩
      exact ⟨u2, h2, q1, q2, q3, q4, sle_trans q5 (.inr (slt_grow u h))⟩
/-! ### the search -/
abbrev Ent := List Int × Stt × Stt
abbrev Kn := List ((Pl × Pl) × Unit)
def stepT (O : Ru) (row : List Int) (two : Stt) (s : Kn × List Ent) (t : Pl) : (Kn × List Ent) ⊕ List Int := match slept O two t.1 with
  | none => .inr (row ++ [t.1])
  | some u => if (dlook s.1 (t, u)).isSome = true then .inl s else .inl (dset s.1 (t, u) (), s.2 ++ [(row ++ [t.1], some t, some u)])
def visitT (O : Ru) (row : List Int) (two : Stt) : List Pl → Kn × List Ent → (Kn × List Ent) ⊕ List Int
  | [], s => .inl s
  | t :: ts, s => match stepT O row two s t with
    | .inl s' => visitT O row two ts s'
    | .inr w => .inr w
def visitL (R O : Ru) : List Ent → Kn × List Ent → (Kn × List Ent) ⊕ List Int
  | [], s => .inl s
  | e :: es, s => match visitT O e.1 e.2.2 (nexts R e.2.1) s with
    | .inl s' => visitL R O es s'
    | .inr w => .inr w
def bfs (R O : Ru) : Nat → Kn → List Ent → Option (Option (List Int))
  | 0, _, _ => none
  | _ + 1, _, [] => some none
  | n + 1, k, e :: es => match visitL R O (e :: es) (k, []) with
    | .inl (k', l') => bfs R O n k' l'
    | .inr w => some (some w)
/-- the words of the search: those whose ways on were looked at, those that wait -/
structure Srch (R O : Ru) (vis pend : List (List Int)) (k : Kn) : Prop where
  bth : ∀ w ∈ vis ++ pend, both R O w
  asc : (vis ++ pend).Pairwise slt
  root : [] ∈ vis ++ pend
  kn : ∀ t u, (dlook k (t, u)).isSome = true ↔ ∃ w ∈ vis ++ pend, w ≠ [] ∧ pr R O w = (some t, some u)
  nd : (k.map (·.1)).Nodup
  way : ∀ v ∈ vis, ∀ h : Int, 0 ≤ h → h ≤ 9 → (slept R (endSt R v) h).isSome = true → (slept O (endSt O v) h).isSome = true ∧ ∃ x ∈ vis ++ pend, sle x (v ++ [h]) ∧ pr R O x = pr R O (v ++ [h])
theorem find_rep {R O : Ru} {vis pend : List (List Int)} {k : Kn} (s : Srch R O vis pend k) : ∀ (n : Nat) (u : List Int), u.length = n → both R O u → (∃ x ∈ vis ++ pend, sle x u ∧ pr R O x = pr R O u) ∨ ∃ p ∈ pend, slt p u := by
  intro n
  induction n with
  | zero =>
    intro u hu _
    have : u = [] := List.length_eq_zero_iff.mp hu
    subst this
    exact .inl ⟨[], s.root, .inl rfl, rfl⟩
  | succ n ih =>
    intro w hn hb
    obtain ⟨u, h, rfl⟩ : ∃ u h, w = u ++ [h] := by
      rcases List.eq_nil_or_concat w with e | ⟨u, h, e⟩
      · rw [e] at hn; cases hn
      · exact ⟨u, h, by rw [e, List.concat_eq_append]⟩
    obtain ⟨b1, b2, b3, b4⟩ := both_snoc.mp hb
    rcases ih u (by rw [List.length_append] at hn; exact Nat.succ.inj hn) b1 with ⟨x, hx, le, ep⟩ | ⟨p, hp, lt⟩
    · have e1 : endSt R x = endSt R u := (Prod.mk.inj ep).1
      have e2 : endSt O x = endSt O u := (Prod.mk.inj ep).2
      rcases List.mem_append.mp hx with hv | hp
      · obtain ⟨_, y, hy, ly, py⟩ := s.way x hv h b2.1 b2.2 (by rw [e1]; exact b3)
        refine .inl ⟨y, hy, sle_trans ly (sle_snoc2 h le), ?_⟩
        rw [py]
        unfold pr
        rw [endSt_snoc, endSt_snoc, endSt_snoc, endSt_snoc, e1, e2]
      · refine .inr ⟨x, hp, ?_⟩
        rcases le with rfl | le
        · exact slt_grow _ _
        · exact slt_trans le (slt_grow _ _)
    · exact .inr ⟨p, hp, slt_trans lt (slt_grow _ _)⟩
/-- nothing waits: all that R lets O lets -/
theorem none_left {R O : Ru} {vis : List (List Int)} {k : Kn} (s : Srch R O vis [] k) {w : List Int} (d : dist R O w) : False := by
  obtain ⟨u, h, b, hh, q1, q2, _⟩ := dist_begin d
  rcases find_rep s _ u rfl b with ⟨x, hx, _, ep⟩ | ⟨p, hp, _⟩
  · have e1 : endSt R x = endSt R u := (Prod.mk.inj ep).1
    have e2 : endSt O x = endSt O u := (Prod.mk.inj ep).2
    rw [List.append_nil] at hx
    obtain ⟨z, _⟩ := s.way x hx h hh.1 hh.2 (by rw [e1]; exact q1)
    rw [e2, q2] at z
    cases z
  · cases hp
/-- the first that waits has a way on that O does not let: the first of the shortest -/
theorem first_of {R O : Ru} {vis pend : List (List Int)} {v : List Int} {k : Kn} (s : Srch R O vis (v :: pend) k) {h : Int} (hlow : ∀ g : Int, 0 ≤ g → g < h → (slept R (endSt R v) g).isSome = true → (slept O (endSt O v) g).isSome = true) {w : List Int} (d : dist R O w) : sle (v ++ [h]) w := by
  obtain ⟨u, g, b, hg, q1, q2, le⟩ := dist_begin d
  refine sle_trans ?_ le
  have firstv : ∀ p ∈ v :: pend, sle v p := fun p hp => by
    rcases List.mem_cons.mp hp with e | hp
    · exact .inl e.symm
    · have := (List.pairwise_append.mp s.asc).2.1
      rw [List.pairwise_cons] at this
      exact .inr (this.1 p hp)
  have below : slt v u → sle (v ++ [h]) (u ++ [g]) := fun z => .inr (slt_snoc2 h g z)
  rcases find_rep s _ u rfl b with ⟨x, hx, lx, ep⟩ | ⟨p, hp, lt⟩
  · have e1 : endSt R x = endSt R u := (Prod.mk.inj ep).1
    have e2 : endSt O x = endSt O u := (Prod.mk.inj ep).2
    rcases List.mem_append.mp hx with hv | hp
    · obtain ⟨z, _⟩ := s.way x hv g hg.1 hg.2 (by rw [e1]; exact q1)
      rw [e2, q2] at z
      cases z
    · rcases firstv x hp with rfl | lt
      · rcases lx with rfl | lx
        · rcases Int.lt_trichotomy g h with z | z | z
          · have := hlow g hg.1 z q1
            rw [q2] at this
            cases this
          · rw [z]; exact .inl rfl
          · exact .inr (slt_snoc z)
        · exact below lx
      · rcases lx with rfl | lx
        · exact below lt
        · exact below (slt_trans lt lx)
  · rcases firstv p hp with rfl | z
    · exact below lt
    · exact below (slt_trans z lt)
end HG.Ni
end
section
set_option maxHeartbeats 1000000
/-! HGNi5: the search goes right, and ends. -/
namespace HG.Ni
open PySem HG.Z
theorem slept_ht {R : Ru} {s : Stt} {h : Int} {p : Pl} (e : slept R s h = some p) : p.1 = h := by
  unfold slept at e
  split at e
  · cases e; rfl
  · cases s with
    | none => cases e
    | some q =>
      have e : (if (decide (q.1 + R.2.1 < h) || (decide (q.1 < h) && decide (R.2.2 ≤ q.2))) = true then none else some (h, if q.1 < h then q.2 + 1 else 0)) = some p := e
      split at e
      · cases e
      · cases e; rfl
theorem slept_in {R : Ru} (l : Rul R) {s : Stt} (hs : SOk s) {h : Int} (h0 : 0 ≤ h) (h9 : h ≤ 9) {p : Pl} (e : slept R s h = some p) : InS p := by
  refine nexts_in l hs (t := p) (List.mem_filterMap.mpr ⟨h.toNat, List.mem_range.mpr (by omega), ?_⟩)
  rw [Int.toNat_of_nonneg h0]
  exact e
theorem end_ok {R : Ru} (l : Rul R) : ∀ (n : Nat) (w : List Int), w.length = n → Hts w → keptP R w → SOk (endSt R w) ∧ (w ≠ [] → ∃ p, endSt R w = some p) := by
  intro n
  induction n with
  | zero =>
    intro w hw _ _
    have : w = [] := List.length_eq_zero_iff.mp hw
    subst this
    exact ⟨fun p e => (by cases e), fun z => absurd rfl z⟩
  | succ n ih =>
    intro w hw ht k
    obtain ⟨u, h, rfl⟩ : ∃ u h, w = u ++ [h] := by
      rcases List.eq_nil_or_concat w with e | ⟨u, h, e⟩
      · rw [e] at hw; cases hw
      · exact ⟨u, h, by rw [e, List.concat_eq_append]⟩
    rw [kept_snoc] at k
    obtain ⟨i1, _⟩ := ih u (by rw [List.length_append] at hw; exact Nat.succ.inj hw) (fun x hx => ht x (List.mem_append_left _ hx)) k.1
    have hh := ht h (List.mem_append_right _ (List.mem_singleton.mpr rfl))
    obtain ⟨p, hp⟩ := Option.isSome_iff_exists.mp k.2
    rw [endSt_snoc, hp]
    exact ⟨fun q e => (by cases e; exact slept_in l i1 hh.1 hh.2 hp), fun _ => ⟨p, rfl⟩⟩
def allPr : List (Pl × Pl) := (List.range 10).flatMap fun (a : Nat) => (List.range 6).flatMap fun (b : Nat) => (List.range 6).map fun (c : Nat) => (((a : Int), (b : Int)), ((a : Int), (c : Int)))
theorem allPr_len : allPr.length = 360 := by decide +kernel
theorem pr_in {R O : Ru} (lr : Rul R) (lo : Rul O) {w : List Int} (b : both R O w) {t u : Pl} (e : pr R O w = (some t, some u)) : (t, u) ∈ allPr := by
  have e1 : endSt R w = some t := (Prod.mk.inj e).1
  have e2 : endSt O w = some u := (Prod.mk.inj e).2
  have i1 := (end_ok lr _ w rfl b.1 b.2.1).1 t e1
  have i2 := (end_ok lo _ w rfl b.1 b.2.2).1 u e2
  have same : t.1 = u.1 := by
    rcases List.eq_nil_or_concat w with z | ⟨v, h, z⟩
    · rw [z] at e1; cases e1
    · rw [List.concat_eq_append] at z
      rw [z, endSt_snoc] at e1 e2
      rw [slept_ht e1, slept_ht e2]
  obtain ⟨⟨a0, a9⟩, b0, b5⟩ := i1
  obtain ⟨_, c0, c5⟩ := i2
  obtain ⟨a, b⟩ := t
  obtain ⟨a', c⟩ := u
  have same : a = a' := same
  subst same
  have a0 : 0 ≤ a := a0
  have a9 : a ≤ 9 := a9
  have b0 : 0 ≤ b := b0
  have b5 : b ≤ 5 := b5
  have c0 : 0 ≤ c := c0
  have c5 : c ≤ 5 := c5
  refine List.mem_flatMap.mpr ⟨a.toNat, List.mem_range.mpr (by omega), List.mem_flatMap.mpr ⟨b.toNat, List.mem_range.mpr (by omega), List.mem_map.mpr ⟨c.toNat, List.mem_range.mpr (by omega), ?_⟩⟩⟩
  rw [Int.toNat_of_nonneg a0, Int.toNat_of_nonneg b0, Int.toNat_of_nonneg c0]
/-- the search, the ways on of v looked at below b -/
structure Part (R O : Ru) (vis : List (List Int)) (v : List Int) (pend : List (List Int)) (k : Kn) (b : Nat) : Prop extends Srch R O vis (v :: pend) k where
  gen : ∀ x ∈ vis ++ v :: pend, x = [] ∨ (∃ y ∈ vis, ∃ g, x = y ++ [g]) ∨ ∃ g : Int, g < b ∧ x = v ++ [g]
  few : (vis ++ v :: pend).length = k.length + 1
  wayv : ∀ h : Int, 0 ≤ h → h < b → (slept R (endSt R v) h).isSome = true → (slept O (endSt O v) h).isSome = true ∧ ∃ x ∈ vis ++ v :: pend, sle x (v ++ [h]) ∧ pr R O x = pr R O (v ++ [h])
theorem Part.top {R O : Ru} {vis : List (List Int)} {v : List Int} {pend : List (List Int)} {k : Kn} {b : Nat} (p : Part R O vis v pend k b) {x : List Int} (hx : x ∈ vis ++ v :: pend) : slt x (v ++ [(b : Int)]) := by
  rcases p.gen x hx with rfl | ⟨y, hy, g, rfl⟩ | ⟨g, hg, rfl⟩
  · exact .inl (by rw [List.length_append]; show 0 < _ + 1; omega)
  · exact slt_snoc2 _ _ ((List.pairwise_append.mp p.asc).2.2 y hy v List.mem_cons_self)
  · exact slt_snoc hg
def entOf (R O : Ru) (w : List Int) : Ent := (w, endSt R w, endSt O w)
/-- the least -/
def Least (R O : Ru) (w : List Int) : Prop := dist R O w ∧ ∀ w', dist R O w' → sle w w'
theorem step_part {R O : Ru} {vis : List (List Int)} {v : List Int} {rest L : List (List Int)} {k : Kn} {b : Nat} (hb : b < 10) (p : Part R O vis v (rest ++ L) k b) :
    (slept R (endSt R v) (b : Int) = none → Part R O vis v (rest ++ L) k (b + 1)) ∧ ∀ t, slept R (endSt R v) (b : Int) = some t → match stepT O v (endSt O v) (k, L.map (entOf R O)) t with
      | .inl s' => ∃ k' L', s' = (k', L'.map (entOf R O)) ∧ Part R O vis v (rest ++ L') k' (b + 1)
      | .inr w => Least R O w := by
  have bv : both R O v := p.bth v (List.mem_append_right _ List.mem_cons_self)
  refine ⟨fun e => ⟨p.toSrch, fun x hx => ?_, p.few, fun h h0 hb' q => ?_⟩, fun t e => ?_⟩
  · rcases p.gen x hx with z | z | ⟨g, hg, z⟩
    · exact .inl z
    · exact .inr (.inl z)
    · exact .inr (.inr ⟨g, by omega, z⟩)
  · by_cases z : h = (b : Int)
    · rw [z, e] at q; cases q
    · exact p.wayv h h0 (by omega) q
  · have th : t.1 = (b : Int) := slept_ht e
    unfold stepT
    rw [th]
    cases c : slept O (endSt O v) (b : Int) with
    | none =>
      show Least R O (v ++ [(b : Int)])
      refine ⟨⟨fun x hx => ?_, (kept_snoc R v _).mpr ⟨bv.2.1, by rw [e]; rfl⟩, fun z => ?_⟩, fun w' d => first_of p.toSrch (fun g g0 gb q => (p.wayv g g0 gb q).1) d⟩
      · rcases List.mem_append.mp hx with hx | hx
        · exact bv.1 x hx
        · rw [List.mem_singleton.mp hx]; exact ⟨by omega, by omega⟩
      · have := ((kept_snoc O v _).mp z).2
        rw [c] at this; cases this
    | some u =>
      have bw : both R O (v ++ [(b : Int)]) := both_snoc.mpr ⟨bv, ⟨by omega, by omega⟩, by rw [e]; rfl, by rw [c]; rfl⟩
      have pw : pr R O (v ++ [(b : Int)]) = (some t, some u) := by
        unfold pr
        rw [endSt_snoc, endSt_snoc, e, c]
      show match (if (dlook k (t, u)).isSome = true then Sum.inl (k, L.map (entOf R O)) else Sum.inl (dset k (t, u) (), L.map (entOf R O) ++ [(v ++ [(b : Int)], some t, some u)]) : (Kn × List Ent) ⊕ List Int) with
        | .inl s' => ∃ k' L', s' = (k', L'.map (entOf R O)) ∧ Part R O vis v (rest ++ L') k' (b + 1)
        | .inr w => Least R O w
      by_cases known : (dlook k (t, u)).isSome = true
      · rw [if_pos known]
        refine ⟨k, L, rfl, p.toSrch, fun x hx => ?_, p.few, fun h h0 hb' q => ?_⟩
        · rcases p.gen x hx with z | z | ⟨g, hg, z⟩
          · exact .inl z
          · exact .inr (.inl z)
          · exact .inr (.inr ⟨g, by omega, z⟩)
        · by_cases z : h = (b : Int)
          · rw [z, c]
            obtain ⟨x, hx, _, ex⟩ := (p.kn t u).mp known
            exact ⟨rfl, x, hx, .inr (p.top hx), ex.trans pw.symm⟩
          · exact p.wayv h h0 (by omega) q
      · rw [if_neg known]
        have hw : v ++ [(b : Int)] ≠ [] := by intro z; have := congrArg List.length z; rw [List.length_append] at this; cases this
        have eq1 : vis ++ v :: (rest ++ (L ++ [v ++ [(b : Int)]])) = (vis ++ v :: (rest ++ L)) ++ [v ++ [(b : Int)]] := by
          rw [List.append_assoc, List.cons_append, List.append_assoc]
        have mono : ∀ x, x ∈ vis ++ v :: (rest ++ L) → x ∈ vis ++ v :: (rest ++ (L ++ [v ++ [(b : Int)]])) := fun x hx => by rw [eq1]; exact List.mem_append_left _ hx
        have last : v ++ [(b : Int)] ∈ vis ++ v :: (rest ++ (L ++ [v ++ [(b : Int)]])) := by rw [eq1]; exact List.mem_append_right _ (List.mem_singleton.mpr rfl)
        have back : ∀ x, x ∈ vis ++ v :: (rest ++ (L ++ [v ++ [(b : Int)]])) → x ∈ vis ++ v :: (rest ++ L) ∨ x = v ++ [(b : Int)] := fun x hx => by
          rw [eq1] at hx
          rcases List.mem_append.mp hx with hx | hx
          · exact .inl hx
          · exact .inr (List.mem_singleton.mp hx)
        have fresh : (t, u) ∉ k.map (·.1) := dlook_none.mp (by
          cases z : dlook k (t, u) with
          | none => rfl
          | some _ => rw [z] at known; exact absurd rfl known)
        refine ⟨dset k (t, u) (), L ++ [v ++ [(b : Int)]], ?_, ⟨⟨?_, ?_, ?_, ?_, ?_, ?_⟩, ?_, ?_, ?_⟩⟩
        · rw [List.map_append]
          show _ = (_, _ ++ [entOf R O (v ++ [(b : Int)])])
          unfold entOf
          rw [(Prod.mk.inj pw).1, (Prod.mk.inj pw).2]
        · intro x hx
          rcases back x hx with hx | rfl
          · exact p.bth x hx
          · exact bw
        · rw [eq1, List.pairwise_append]
          exact ⟨p.asc, List.pairwise_singleton _ _, fun x hx y hy => by rw [List.mem_singleton.mp hy]; exact p.top hx⟩
        · exact mono _ p.root
        · intro t' u'
          rw [dlook_set]
          by_cases z : (t, u) = (t', u')
          · rw [if_pos z]
            exact ⟨fun _ => ⟨_, last, hw, pw.trans (by cases z; rfl)⟩, fun _ => rfl⟩
          · rw [if_neg z, p.kn]
            constructor
            · rintro ⟨x, hx, q⟩
              exact ⟨x, mono x hx, q⟩
            · rintro ⟨x, hx, q1, q2⟩
              rcases back x hx with hx | rfl
              · exact ⟨x, hx, q1, q2⟩
              · rw [pw] at q2
                cases q2
                exact absurd rfl z
        · exact dset_nodup p.nd
        · intro y hy h h0 h9 q
          obtain ⟨a1, x, hx, a2⟩ := p.way y hy h h0 h9 q
          exact ⟨a1, x, mono x hx, a2⟩
        · intro x hx
          rcases back x hx with hx | rfl
          · rcases p.gen x hx with z | z | ⟨g, hg, z⟩
            · exact .inl z
            · exact .inr (.inl z)
            · exact .inr (.inr ⟨g, by omega, z⟩)
          · exact .inr (.inr ⟨(b : Int), by omega, rfl⟩)
        · rw [eq1, List.length_append, p.few, dset_new fresh, List.length_append]; rfl
        · intro h h0 hb' q
          by_cases z : h = (b : Int)
          · rw [z, c]
            exact ⟨rfl, _, last, .inl rfl, rfl⟩
          · obtain ⟨a1, x, hx, a2⟩ := p.wayv h h0 (by omega) q
            exact ⟨a1, x, mono x hx, a2⟩
/-- all ways on of one -/
theorem visit_part {R O : Ru} {vis : List (List Int)} {v : List Int} {rest : List (List Int)} : ∀ (n b : Nat) (L : List (List Int)) (k : Kn), b + n = 10 → Part R O vis v (rest ++ L) k b → match visitT O v (endSt O v) (((List.range' b n).filterMap fun (h : Nat) => slept R (endSt R v) (h : Int))) (k, L.map (entOf R O)) with
      | .inl s' => ∃ k' L', s' = (k', L'.map (entOf R O)) ∧ Part R O vis v (rest ++ L') k' 10
      | .inr w => Least R O w
  | 0, b, L, k, hb, p => ⟨k, L, rfl, by rw [← hb]; exact p⟩
  | n + 1, b, L, k, hb, p => by
    rw [List.range'_succ]
    obtain ⟨h1, h2⟩ := step_part (by omega) p
    cases e : slept R (endSt R v) (b : Int) with
    | none =>
      simp only [List.filterMap_cons, e]
      exact visit_part n (b + 1) L k (by omega) (h1 e)
    | some t =>
      simp only [List.filterMap_cons, e]
      have q := h2 t e
      unfold visitT
      cases z : stepT O v (endSt O v) (k, L.map (entOf R O)) t with
      | inr w => rw [z] at q; exact q
      | inl s' =>
        rw [z] at q
        obtain ⟨k', L', rfl, p'⟩ := q
        exact visit_part n (b + 1) L' k' (by omega) p'
structure Sr (R O : Ru) (vis pend : List (List Int)) (k : Kn) : Prop extends Srch R O vis pend k where
  gen : ∀ x ∈ vis ++ pend, x = [] ∨ ∃ y ∈ vis, ∃ g, x = y ++ [g]
  few : (vis ++ pend).length = k.length + 1
theorem Sr.part {R O : Ru} {vis : List (List Int)} {v : List Int} {pend : List (List Int)} {k : Kn} (s : Sr R O vis (v :: pend) k) : Part R O vis v pend k 0 :=
  ⟨s.toSrch, fun x hx => by
    rcases s.gen x hx with z | z
    · exact .inl z
    · exact .inr (.inl z), s.few, fun h h0 hb _ => by omega⟩
theorem Part.done {R O : Ru} {vis : List (List Int)} {v : List Int} {pend : List (List Int)} {k : Kn} (p : Part R O vis v pend k 10) : Sr R O (vis ++ [v]) pend k := by
  have e : (vis ++ [v]) ++ pend = vis ++ v :: pend := by rw [List.append_assoc]; rfl
  refine ⟨⟨?_, ?_, ?_, ?_, p.nd, ?_⟩, ?_, ?_⟩
  · rw [e]; exact p.bth
  · rw [e]; exact p.asc
  · rw [e]; exact p.root
  · rw [e]; exact p.kn
  · rw [e]
    intro y hy h h0 h9 q
    rcases List.mem_append.mp hy with hy | hy
    · exact p.way y hy h h0 h9 q
    · rw [List.mem_singleton.mp hy] at q ⊢
      exact p.wayv h h0 (by omega) q
  · rw [e]
    intro x hx
    rcases p.gen x hx with z | ⟨y, hy, z⟩ | ⟨g, _, z⟩
    · exact .inl z
    · exact .inr ⟨y, List.mem_append_left _ hy, z⟩
    · exact .inr ⟨v, List.mem_append_right _ (List.mem_singleton.mpr rfl), g, z⟩
  · rw [e]; exact p.few
/-- a whole line -/
theorem visitL_sr {R O : Ru} : ∀ (ws : List (List Int)) (vis L : List (List Int)) (k : Kn), Sr R O vis (ws ++ L) k → match visitL R O (ws.map (entOf R O)) (k, L.map (entOf R O)) with
      | .inl s' => ∃ k' L', s' = (k', L'.map (entOf R O)) ∧ Sr R O (vis ++ ws) L' k'
      | .inr w => Least R O w
  | [], vis, L, k, s => ⟨k, L, rfl, by rw [List.append_nil]; exact s⟩
  | v :: ws, vis, L, k, s => by
    have q := visit_part 10 0 L k rfl s.part
    rw [← List.range_eq_range'] at q
    rw [List.map_cons]
    unfold visitL
    show match (match visitT O v (endSt O v) (nexts R (endSt R v)) (k, L.map (entOf R O)) with | .inl s' => visitL R O (ws.map (entOf R O)) s' | .inr w => .inr w) with
      | .inl s' => ∃ k' L', s' = (k', L'.map (entOf R O)) ∧ Sr R O (vis ++ v :: ws) L' k'
      | .inr w => Least R O w
    unfold nexts
    cases z : visitT O v (endSt O v) ((List.range 10).filterMap fun (h : Nat) => slept R (endSt R v) (h : Int)) (k, L.map (entOf R O)) with
    | inr w => rw [z] at q; exact q
    | inl s' =>
      rw [z] at q
      obtain ⟨k', L', rfl, p⟩ := q
      have := visitL_sr ws (vis ++ [v]) L' k' p.done
      rw [List.append_assoc] at this
      exact this
theorem Sr.small {R O : Ru} (lr : Rul R) (lo : Rul O) {vis pend : List (List Int)} {k : Kn} (s : Sr R O vis pend k) : k.length ≤ 360 := by
  have := nodup_len (ys := allPr) s.nd fun x hx => by
    obtain ⟨t, u⟩ := x
    have hs : (dlook k (t, u)).isSome = true := by
      cases z : dlook k (t, u) with
      | none => exact absurd hx (dlook_none.mp z)
      | some _ => rfl
    obtain ⟨w, hw, _, e⟩ := (s.kn t u).mp hs
    exact pr_in lr lo (s.bth w hw) e
  rwa [List.length_map, allPr_len] at this
theorem bfs_sr {R O : Ru} (lr : Rul R) (lo : Rul O) : ∀ (n : Nat) (vis pend : List (List Int)) (k : Kn), Sr R O vis pend k → 362 ≤ n + vis.length → ∃ r, bfs R O n k (pend.map (entOf R O)) = some r ∧ match r with
      | none => ∀ w, ¬ dist R O w
      | some w => Least R O w
  | 0, vis, pend, k, s, h => by
    have h1 := s.small lr lo
    have h2 := s.few
    rw [List.length_append] at h2
    omega
  | n + 1, vis, [], k, s, h => ⟨none, rfl, fun w d => none_left s.toSrch d⟩
  | n + 1, vis, v :: pend, k, s, h => by
    have q := visitL_sr (v :: pend) vis [] k (by rw [List.append_nil]; exact s)
    rw [List.map_cons] at q ⊢
    unfold bfs
    rw [List.map_nil] at q
    cases z : visitL R O (entOf R O v :: pend.map (entOf R O)) (k, []) with
    | inr w =>
      rw [z] at q
      exact ⟨some w, rfl, q⟩
    | inl s' =>
      rw [z] at q
      obtain ⟨k', L', rfl, s2⟩ := q
      exact bfs_sr lr lo n _ L' k' s2 (by rw [List.length_append, List.length_cons]; omega)
theorem sr_first (R O : Ru) : Sr R O [] [[]] [] := by
  refine ⟨⟨fun w hw => ?_, List.pairwise_singleton _ _, List.mem_singleton.mpr rfl, fun t u => ⟨fun h => (by cases h), ?_⟩, List.nodup_nil, fun v hv => (by cases hv)⟩, fun x hx => .inl (List.mem_singleton.mp hx), rfl⟩
  · rw [List.mem_singleton.mp hw]
    exact ⟨fun _ h => (by cases h), rfl, rfl⟩
  · rintro ⟨w, hw, hn, _⟩
    exact absurd (List.mem_singleton.mp hw) hn
/-- what is let by the one alone: the first of the shortest, or none -/
def unl (R O : Ru) : Option (List Int) := (bfs R O 362 [] [([], none, none)]).getD none
theorem unl_spec {R O : Ru} (lr : Rul R) (lo : Rul O) : match unl R O with
    | none => ∀ w, ¬ dist R O w
    | some w => Least R O w := by
  obtain ⟨r, e, q⟩ := bfs_sr lr lo 362 [] [[]] [] (sr_first R O) (by show 362 ≤ 362 + 0; decide)
  have e2 : unl R O = r := by
    unfold unl
    show (bfs R O 362 [] ([[]].map (entOf R O))).getD none = r
    rw [e]; rfl
  rw [e2]
  exact q
/-! ### short words -/
def slow : Nat → List Int
  | 0 => [0]
  | s + 1 => slow s ++ [((s + 1 : Nat) : Int), ((s + 1 : Nat) : Int)]
theorem slow_len : ∀ s, (slow s).length = 2 * s + 1
  | 0 => rfl
  | s + 1 => by
    show (slow s ++ [_, _]).length = _
    rw [List.length_append, slow_len s]; show _ + 2 = _; omega
theorem slow_ht : ∀ s, s ≤ 9 → Hts (slow s)
  | 0, _ => fun h hh => by rw [List.mem_singleton.mp hh]; decide
  | s + 1, hs => fun h hh => by
    rcases List.mem_append.mp hh with hh | hh
    · exact slow_ht s (by omega) h hh
    · have : h = ((s + 1 : Nat) : Int) := by
        rcases List.mem_cons.mp hh with e | e
        · exact e
        · exact List.mem_singleton.mp e
      omega
theorem slept_one {R : Ru} (l : Rul R) {s : Nat} : ∃ x : Int, slept R (some ((s : Int), 0)) ((s + 1 : Nat) : Int) = some (((s + 1 : Nat) : Int), x) := by
  unfold slept
  by_cases c : ((s + 1 : Nat) : Int) ≤ R.1
  · rw [if_pos c]; exact ⟨0, rfl⟩
  · rw [if_neg c]
    have r1 := l.r1
    have n1 := l.n1
    show ∃ x, (if (decide ((s : Int) + R.2.1 < ((s + 1 : Nat) : Int)) || (decide ((s : Int) < ((s + 1 : Nat) : Int)) && decide (R.2.2 ≤ 0))) = true then none else some (((s + 1 : Nat) : Int), if (s : Int) < ((s + 1 : Nat) : Int) then (0 : Int) + 1 else 0)) = _
    rw [decide_eq_false (p := (s : Int) + R.2.1 < ((s + 1 : Nat) : Int)) (by omega), decide_eq_false (p := R.2.2 ≤ 0) (by omega), Bool.and_false, Bool.or_false, if_neg Bool.false_ne_true]
    exact ⟨_, rfl⟩
theorem slept_still {R : Ru} (l : Rul R) {h g x : Int} (hg : h ≤ g) : slept R (some (g, x)) h = some (h, 0) := by
  unfold slept
  by_cases c : h ≤ R.1
  · rw [if_pos c]
  · rw [if_neg c]
    have r1 := l.r1
    show (if (decide (g + R.2.1 < h) || (decide (g < h) && decide (R.2.2 ≤ x))) = true then none else some (h, if g < h then x + 1 else 0)) = _
    rw [decide_eq_false (p := g + R.2.1 < h) (by omega), decide_eq_false (p := g < h) (by omega), Bool.false_and, Bool.or_false, if_neg Bool.false_ne_true, if_neg (by omega)]
theorem slow_end {R : Ru} (l : Rul R) : ∀ s, keptP R (slow s) ∧ endSt R (slow s) = some ((s : Int), 0)
  | 0 => by
    have e : slept R none 0 = some (0, 0) := by
      unfold slept
      rw [if_pos l.f0]
    refine ⟨?_, e⟩
    show broken R none 0 [0] = none
    unfold broken
    rw [e]; rfl
  | s + 1 => by
    obtain ⟨k, e⟩ := slow_end l s
    obtain ⟨x, e1⟩ := slept_one l (s := s)
    have e2 := slept_still (R := R) l (h := ((s + 1 : Nat) : Int)) (g := ((s + 1 : Nat) : Int)) (x := x) (Int.le_refl _)
    have sp : slow (s + 1) = (slow s ++ [((s + 1 : Nat) : Int)]) ++ [((s + 1 : Nat) : Int)] := by
      show slow s ++ [_, _] = _
      rw [List.append_assoc]; rfl
    have n1 : endSt R (slow s ++ [((s + 1 : Nat) : Int)]) = some (((s + 1 : Nat) : Int), x) := by rw [endSt_snoc, e, e1]
    rw [sp]
    refine ⟨(kept_snoc R _ _).mpr ⟨(kept_snoc R _ _).mpr ⟨k, by rw [e, e1]; rfl⟩, by rw [n1, e2]; rfl⟩, by rw [endSt_snoc, n1, e2]⟩
/-- a row that rises from s -/
def Rise : Int → List Int → Prop
  | _, [] => True
  | s, h :: r => s < h ∧ h ≤ 9 ∧ Rise h r
theorem rise_len : ∀ {r : List Int} {s : Int}, Rise s r → (r.length : Int) ≤ 9 - s ∨ r = []
  | [], _, _ => .inr rfl
  | h :: r, s, ⟨h1, h2, h3⟩ => by
    left
    rcases rise_len h3 with q | q
    · rw [List.length_cons]; omega
    · rw [q]; show ((0 + 1 : Nat) : Int) ≤ _; omega
theorem rise_snoc : ∀ {r : List Int} {s h : Int}, Rise s r → (s :: r).getLast (by simp) < h → h ≤ 9 → Rise s (r ++ [h])
  | [], _, _, _, h1, h2 => ⟨h1, h2, trivial⟩
  | x :: r, s, h, ⟨a, b, c⟩, h1, h2 => ⟨a, b, rise_snoc c (by rw [List.getLast_cons (by simp)] at h1; exact h1) h2⟩
theorem rise_ht : ∀ {r : List Int} {s : Int}, 0 ≤ s → Rise s r → Hts r
  | [], _, _, _ => fun _ h => by cases h
  | x :: r, s, h0, ⟨a, b, c⟩ => fun h hh => by
    rcases List.mem_cons.mp hh with e | hh
    · rw [e]; exact ⟨by omega, b⟩
    · exact rise_ht (by omega) c h hh
theorem lastD_snoc (u : List Int) (h : Int) : (u ++ [h]).getLastD 0 = h := by
  rw [List.getLastD_eq_getLast?]; simp
/-- each pair of states comes behind a short word -/
theorem short_rep {R O : Ru} (lr : Rul R) (lo : Rul O) : ∀ (n : Nat) (u : List Int), u.length = n → both R O u → u ≠ [] → ∃ (s : Nat) (r : List Int), s ≤ 9 ∧ Rise (s : Int) r ∧ both R O (slow s ++ r) ∧ pr R O (slow s ++ r) = pr R O u ∧ (((s : Int) :: r).getLast (by simp) = u.getLastD 0) := by
  intro n
  induction n with
  | zero =>
    intro u hu _ hn
    exact absurd (List.length_eq_zero_iff.mp hu) hn
  | succ n ih =>
    intro w hn hb _
    obtain ⟨u, h, rfl⟩ : ∃ u h, w = u ++ [h] := by
      rcases List.eq_nil_or_concat w with e | ⟨u, h, e⟩
      · rw [e] at hn; cases hn
      · exact ⟨u, h, by rw [e, List.concat_eq_append]⟩
    obtain ⟨b1, b2, b3, b4⟩ := both_snoc.mp hb
    have lastw : (u ++ [h]).getLastD 0 = h := lastD_snoc u h
    have flat : pr R O (u ++ [h]) = (some (h, 0), some (h, 0)) → ∃ (s : Nat) (r : List Int), s ≤ 9 ∧ Rise (s : Int) r ∧ both R O (slow s ++ r) ∧ pr R O (slow s ++ r) = pr R O (u ++ [h]) ∧ (((s : Int) :: r).getLast (by simp) = (u ++ [h]).getLastD 0) := fun e => by
      have hs : h.toNat ≤ 9 := by omega
      obtain ⟨k1, e1⟩ := slow_end lr h.toNat
      obtain ⟨k2, e2⟩ := slow_end lo h.toNat
      refine ⟨h.toNat, [], hs, trivial, ?_, ?_, ?_⟩
      · rw [List.append_nil]; exact ⟨slow_ht _ hs, k1, k2⟩
      · rw [List.append_nil, e]
        unfold pr
        rw [e1, e2, Int.toNat_of_nonneg b2.1]
      · rw [lastw]
        show (h.toNat : Int) = h
        exact Int.toNat_of_nonneg b2.1
    by_cases hu : u = []
    · subst hu
      refine flat ?_
      have f : ∀ {Q : Ru}, (slept Q (endSt Q []) h).isSome = true → endSt Q ([] ++ [h]) = some (h, 0) := fun {Q} q => by
        rw [endSt_snoc]
        have q : (slept Q none h).isSome = true := q
        show slept Q none h = _
        unfold slept at q ⊢
        by_cases c : h ≤ Q.1
        · rw [if_pos c]
        · rw [if_neg c] at q; cases q
      unfold pr
      rw [f b3, f b4]
    · obtain ⟨s, r, hs, hr, hb2, ep, el⟩ := ih u (by rw [List.length_append] at hn; exact Nat.succ.inj hn) b1 hu
      obtain ⟨p, hp⟩ := (end_ok lr _ u rfl b1.1 b1.2.1).2 hu
      obtain ⟨q, hq⟩ := (end_ok lo _ u rfl b1.1 b1.2.2).2 hu
      have heights : p.1 = u.getLastD 0 ∧ q.1 = u.getLastD 0 := by
        rcases List.eq_nil_or_concat u with z | ⟨v, g, z⟩
        · exact absurd z hu
        · rw [List.concat_eq_append] at z
          subst z
          rw [endSt_snoc] at hp hq
          have : (v ++ [g]).getLastD 0 = g := lastD_snoc v g
          rw [this, slept_ht hp, slept_ht hq]
          exact ⟨rfl, rfl⟩
      by_cases c : h ≤ u.getLastD 0
      · refine flat ?_
        unfold pr
        rw [endSt_snoc, endSt_snoc, hp, hq, slept_still lr (g := p.1) (x := p.2) (by rw [heights.1]; exact c), slept_still lo (g := q.1) (x := q.2) (by rw [heights.2]; exact c)]
      · have e1 : endSt R (slow s ++ r) = endSt R u := (Prod.mk.inj ep).1
        have e2 : endSt O (slow s ++ r) = endSt O u := (Prod.mk.inj ep).2
        refine ⟨s, r ++ [h], hs, rise_snoc hr (by rw [el]; omega) b2.2, ?_, ?_, ?_⟩
        · rw [← List.append_assoc]
          exact both_snoc.mpr ⟨hb2, b2, by rw [e1]; exact b3, by rw [e2]; exact b4⟩
        · rw [← List.append_assoc]
          unfold pr
          rw [endSt_snoc, endSt_snoc, endSt_snoc, endSt_snoc, e1, e2]
        · rw [lastw]
          show ((((s : Int) :: r) ++ [h]).getLast (by simp)) = h
          exact List.getLast_concat
/-- the least is short -/
theorem least_short {R O : Ru} (lr : Rul R) (lo : Rul O) {w : List Int} (l : Least R O w) : w.length ≤ 29 := by
  obtain ⟨u, h, b, hh, q1, q2, _⟩ := dist_begin l.1
  have go : ∀ u2 : List Int, both R O u2 → pr R O u2 = pr R O u → u2.length ≤ 28 → w.length ≤ 29 := fun u2 b2 ep hl => by
    have e1 : endSt R u2 = endSt R u := (Prod.mk.inj ep).1
    have e2 : endSt O u2 = endSt O u := (Prod.mk.inj ep).2
    have d : dist R O (u2 ++ [h]) := ⟨fun x hx => by
      rcases List.mem_append.mp hx with hx | hx
      · exact b2.1 x hx
      · rw [List.mem_singleton.mp hx]; exact hh, (kept_snoc R u2 h).mpr ⟨b2.2.1, by rw [e1]; exact q1⟩, fun z => by
      have := ((kept_snoc O u2 h).mp z).2
      rw [e2, q2] at this
      cases this⟩
    rcases l.2 _ d with z | z
    · rw [z, List.length_append]; show _ + 1 ≤ _; omega
    · have : w.length ≤ (u2 ++ [h]).length := by
        rcases z with z | ⟨z, _⟩
        · omega
        · omega
      rw [List.length_append] at this
      have : w.length ≤ u2.length + 1 := this
      omega
  by_cases hu : u = []
  · subst hu
    exact go [] b rfl (Nat.zero_le _)
  · obtain ⟨s, r, hs, hr, hb, ep, _⟩ := short_rep lr lo _ u rfl b hu
    refine go _ hb ep ?_
    rw [List.length_append, slow_len]
    rcases rise_len hr with q | q
    · omega
    · rw [q]; show _ + 0 ≤ _; omega
end HG.Ni
end
section
set_option maxHeartbeats 1000000
/-! HGNi6: harder rules let less; the law's rules; pieces of rows. -/
namespace HG.Ni
open PySem HG.Z
local macro_rules | `(tactic| walk_at "gv") => `(tactic| first | assumption | exact rfl | (refine (sg_other ?_ _).trans ?_; decide; walk_at "gv") | (refine (wg_other ?_ _).trans ?_; decide; walk_at "gv") | (refine sg_self ?_ _; walk_at "len") | (refine wg_self ?_ _; walk_at "len"))
local macro_rules | `(tactic| walk_at "len") => `(tactic| first | decide | (simp only [List.length_set, wlen]; omega) | (simp only [List.length_set, wlen, *]; decide) | assumption)
local macro_rules | `(tactic| walk_at "op") => `(tactic| first | assumption | exact rfl | exact le_int _ _ | exact ge_int _ _ | exact lt_int' _ _ | exact gt_int' _ _ | exact eq_int _ _ | exact ne_int _ _ | exact abs_int _ | exact len_tuple _ | exact len_list _)
local macro_rules | `(tactic| walk_at "dens") => `(tactic| first | exact es_nil | (apply es_cons; walk_at "den"; walk_at "dens"))
local macro_rules | `(tactic| walk_at "den") => `(tactic| first | assumption | exact lit_den _ | (apply var_den; walk_at "gv") | (apply glb_den; assumption) | (apply bin_pu; walk_at "den"; walk_at "den"; walk_at "op") | (apply cmp_pu; walk_at "den"; walk_at "den"; walk_at "op") | (apply idx_pu; walk_at "den"; walk_at "den"; walk_at "op") | (apply neg_pu; walk_at "den"; walk_at "op") | (apply nt_den; walk_at "den") | (apply an_pu; walk_at "den"; intro _; walk_at "den") | (apply or_pu; walk_at "den"; intro _; walk_at "den") | (apply ite_pu; walk_at "den"; intro _; walk_at "den"; intro _; walk_at "den") | (apply call_pu; walk_at "dens"; walk_at "op") | (apply bi_pu; walk_at "dens"; walk_at "op") | (apply tup_den; walk_at "dens") | (apply lst_den; walk_at "dens") | (apply slc_pu; walk_at "den"; walk_at "den"; exact rfl; walk_at "den"; exact rfl; walk_at "op"))
local macro_rules | `(tactic| walk_at "dn") => `(tactic| (apply den_eq; walk_at "den"; first | exact rfl | (simp only [Bool.false_or, Bool.or_false, Bool.true_and, Bool.and_true, Bool.not_true, Bool.not_false])))
theorem slept_mono {f r n r' n' : Int} (hr : r' ≤ r) (hn : n' ≤ n) {s : Stt} {h : Int} {p : Int × Int} (e : slept (f, r', n') s h = some p) : slept (f, r, n) s h = some p := by
  unfold slept at e ⊢
  by_cases c : h ≤ f
  · rw [if_pos (show h ≤ (f, r', n').1 from c)] at e
    rw [if_pos (show h ≤ (f, r, n).1 from c)]
    exact e
  · rw [if_neg (show ¬ h ≤ (f, r', n').1 from c)] at e
    rw [if_neg (show ¬ h ≤ (f, r, n).1 from c)]
    cases s with
    | none => exact e
    | some q =>
      have e : (if (decide (q.1 + r' < h) || (decide (q.1 < h) && decide (n' ≤ q.2))) = true then none else some (h, if q.1 < h then q.2 + 1 else 0)) = some p := e
      show (if (decide (q.1 + r < h) || (decide (q.1 < h) && decide (n ≤ q.2))) = true then none else some (h, if q.1 < h then q.2 + 1 else 0)) = some p
      by_cases d : (decide (q.1 + r' < h) || (decide (q.1 < h) && decide (n' ≤ q.2))) = true
      · rw [if_pos d] at e; cases e
      · rw [if_neg d] at e
        rw [if_neg]
        · exact e
        · intro z
          refine d ?_
          rw [Bool.or_eq_true, Bool.and_eq_true, decide_eq_true_eq, decide_eq_true_eq, decide_eq_true_eq] at z ⊢
          rcases z with z | z
          · left; omega
          · right; exact ⟨z.1, by omega⟩
theorem broken_mono {f r n r' n' : Int} (hr : r' ≤ r) (hn : n' ≤ n) : ∀ (ns : List Int) (s : Stt) (k : Nat), broken (f, r', n') s k ns = none → broken (f, r, n) s k ns = none
  | [], _, _, _ => rfl
  | h :: ns, s, k, e => by
    unfold broken at e ⊢
    cases c : slept (f, r', n') s h with
    | none => rw [c] at e; cases e
    | some p =>
      rw [c] at e
      rw [slept_mono hr hn c]
      exact broken_mono hr hn ns (some p) (k + 1) e
section
variable {C : Nat → List PV → M PV} {G : List PV}
theorem b_lrules {a : Nat} (hs : S_some C a) {Q E : PV → Prop} (q : ∀ R, Rul R → Q (ruE R)) : endF (denB C G (k__law_rules a) (startE 1 [cupV])) Q E := by
  unfold k__law_rules
  show denB C G _ _ (fun f => endK f Q E) E
  refine ret_dn ?_
  show Dn C G E _ _ Q
  refine dn_tup (dns_cons (P1 := IntIn 0 9) (P2 := fun vs => ∃ x y : Int, vs = [.int x, .int y] ∧ (1 ≤ x ∧ x ≤ 9) ∧ 1 ≤ y ∧ y ≤ 5) ?_ (dns_cons (P1 := IntIn 1 9) (P2 := fun vs => ∃ y : Int, vs = [.int y] ∧ 1 ≤ y ∧ y ≤ 5) ?_ (dns_cons (P1 := IntIn 1 5) (P2 := fun vs => vs = []) ?_ (dns_nil rfl) ?_) ?_) ?_)
  · refine dn_some hs rfl (fun e he => ?_) (by decide) (by decide)
    simp only [List.mem_cons, List.not_mem_nil, or_false] at he
    rcases he with rfl | rfl | rfl | rfl
    · exact dn_int rfl (by decide) (by decide)
    · exact dn_int rfl (by decide) (by decide)
    · exact dn_int rfl (by decide) (by decide)
    · exact dn_roll_in rfl (by decide) (by decide)
  · refine dn_imp (dn_more (dn_roll_by (lo := 2) (hi := 9) rfl (dn_some hs rfl (fun e he => ?_) (by decide) (by decide)) (by decide) (by decide))) fun v h => h
    simp only [List.mem_cons, List.not_mem_nil, or_false] at he
    rcases he with rfl | rfl | rfl
    · exact dn_int rfl (by decide) (by decide)
    · exact dn_int rfl (by decide) (by decide)
    · exact dn_int rfl (by decide) (by decide)
  · refine dn_imp (dn_more (dn_roll_by (lo := 2) (hi := 5) rfl (dn_some hs rfl (fun e he => ?_) (by decide) (by decide)) (by decide) (by decide))) fun v h => h
    simp only [List.mem_cons, List.not_mem_nil, or_false] at he
    rcases he with rfl | rfl
    · exact dn_int rfl (by decide) (by decide)
    · exact dn_int rfl (by decide) (by decide)
  · rintro x xs ⟨y, e, h1, h2⟩ h
    subst e
    subst h
    exact ⟨y, rfl, h1, h2⟩
  · rintro x xs ⟨y, e, h1, h2⟩ ⟨z, h, h3, h4⟩
    subst e
    subst h
    exact ⟨y, z, rfl, ⟨h1, h2⟩, h3, h4⟩
  · rintro x xs ⟨w, e, h1, h2⟩ ⟨y, z, h, h3, h4, h5⟩
    subst e
    subst h
    exact q (w, y, z) ⟨h1, h2, h3.1, h3.2, h4, h5⟩
end
theorem slc_last (ns : List Int) : pSlc (rowE ns) .none (.int (-1)) = pu (rowE ns.dropLast) := by
  show bd (ofO (clipI (ns.map PyData.int).length 0 .none)) _ = _
  have e : clipI (ns.map PyData.int).length (ns.map PyData.int).length (.int (-1)) = some ((ns.map PyData.int).length - 1) := by
    show some (if (-1 : Int) < 0 then _ else _) = _
    rw [if_pos (by decide)]
    congr 1
    omega
  show bd (ofO (clipI (ns.map PyData.int).length (ns.map PyData.int).length (.int (-1)))) (fun h => pu (PyData.tuple (cut (ns.map PyData.int) 0 h))) = _
  rw [e, ofO_some, bd_pu]
  unfold cut rowE
  rw [List.drop_zero, Nat.sub_zero, List.length_map, List.map_dropLast, List.dropLast_eq_take, List.length_map]
end HG.Ni
end
section
set_option maxHeartbeats 1000000
/-! K35A: unlike, and the law's own search. -/
namespace HG.R35
open PySem HG.Z HG.Ni
local macro_rules | `(tactic| walk_at "gv") => `(tactic| first | assumption | exact rfl | (refine (sg_other ?_ _).trans ?_; decide; walk_at "gv") | (refine (wg_other ?_ _).trans ?_; decide; walk_at "gv") | (refine sg_self ?_ _; walk_at "len") | (refine wg_self ?_ _; walk_at "len"))
local macro_rules | `(tactic| walk_at "len") => `(tactic| first | decide | (simp only [List.length_set, wlen]; omega) | (simp only [List.length_set, wlen, *]; decide) | assumption)
local macro_rules | `(tactic| walk_at "op") => `(tactic| first | assumption | exact rfl | exact le_int _ _ | exact ge_int _ _ | exact lt_int' _ _ | exact gt_int' _ _ | exact eq_int _ _ | exact ne_int _ _ | exact abs_int _ | exact len_tuple _ | exact len_list _)
local macro_rules | `(tactic| walk_at "dens") => `(tactic| first | exact es_nil | (apply es_cons; walk_at "den"; walk_at "dens"))
local macro_rules | `(tactic| walk_at "den") => `(tactic| first | assumption | exact lit_den _ | (apply var_den; walk_at "gv") | (apply glb_den; assumption) | (apply bin_pu; walk_at "den"; walk_at "den"; walk_at "op") | (apply cmp_pu; walk_at "den"; walk_at "den"; walk_at "op") | (apply idx_pu; walk_at "den"; walk_at "den"; walk_at "op") | (apply neg_pu; walk_at "den"; walk_at "op") | (apply nt_den; walk_at "den") | (apply an_pu; walk_at "den"; intro _; walk_at "den") | (apply or_pu; walk_at "den"; intro _; walk_at "den") | (apply ite_pu; walk_at "den"; intro _; walk_at "den"; intro _; walk_at "den") | (apply call_pu; walk_at "dens"; walk_at "op") | (apply bi_pu; walk_at "dens"; walk_at "op") | (apply tup_den; walk_at "dens") | (apply lst_den; walk_at "dens") | (apply slc_pu; walk_at "den"; walk_at "den"; exact rfl; walk_at "den"; exact rfl; walk_at "op"))
local macro_rules | `(tactic| walk_at "dn") => `(tactic| (apply den_eq; walk_at "den"; first | exact rfl | (simp only [Bool.false_or, Bool.or_false, Bool.true_and, Bool.and_true, Bool.not_true, Bool.not_false])))
/-- rules, other; slots rules other known line later row one two there pair -/
def k_unlike (i_need_rules i_nexts_in i_slept : Nat) : List St := [.ex (.call i_need_rules [.var 0]),
  .ex (.call i_need_rules [.var 1]),
  .asgT [2, 3] [true, false] [.dct [] [], .lst [.tup [.tup [], .lit .none, .lit .none]]],
  .whl (.cmp .ne (.var 3) (.lst [])) [.own 4 (.lst []),
    .for_ (.tp [.nm 5, .nm 6, .nm 7]) (.var 3) [.for_ (.nm 8) (.call i_nexts_in [.var 0, .var 6]) [.asg (.nm 9) (.tup [.var 8, .call i_slept [.var 1, .var 7, .idx (.var 8) (.lit (.int 0))]]),
    .ite (.cmp .is_ (.idx (.var 9) (.lit (.int 1))) (.lit .none)) [.ret (.bin .add (.var 5) (.slc (.var 8) (.lit .none) (.lit (.int 1))))] [],
    .ite (.cmp .notin (.var 9) (.var 2)) [.seti 2 (.var 9) (.lit (.bool true)),
    .app 4 (.tup [.bin .add (.var 5) (.slc (.var 8) (.lit .none) (.lit (.int 1))), .idx (.var 9) (.lit (.int 0)), .idx (.var 9) (.lit (.int 1))])] []]],
    .frz [4],
    .asg (.nm 3) (.var 4)],
  .ret (.lit .none)]
/-- rules, other, most; slots rules other most many good row -/
def k__law_unlike (i__law_rows i__law_broken : Nat) : List St := [.for_ (.nm 3) (.rng2 (.lit (.int 1)) (.bin .add (.var 2) (.lit (.int 1)))) [.asg (.nm 4) (.lc1 (.var 5) (.nm 5) (.call i__law_rows [.var 0, .var 3]) (.cmp .isnot (.call i__law_broken [.var 1, .var 5]) (.lit .none))),
    .ite (.cmp .ne (.var 4) (.lst [])) [.ret (.idx (.var 4) (.lit (.int 0)))] []],
  .ret (.lit .none)]
/-- cup; slots cup rules other third hard told due -/
def k__law_right (i__law_rules i__law_some i_unlike i__law_unlike i__law_same i_is_kept i_count_nights : Nat) : List St := [.asg (.nm 1) (.call i__law_rules [.var 0]),
  .asg (.nm 2) (.call i__law_some [.var 0, .lst [.call i__law_rules [.var 0], .bin .add (.slc (.var 1) (.lit .none) (.lit (.int 2))) (.tup [.bin .add (.lit (.int 1)) (.roll (.var 0) (.lit (.int 5)))]), .tup [.idx (.var 1) (.lit (.int 0)), .bin .add (.lit (.int 1)) (.roll (.var 0) (.lit (.int 9))), .idx (.var 1) (.lit (.int 2))], .var 1]]),
  .asgT [5, 6] [false, false] [.call i_unlike [.var 1, .var 2], .call i__law_unlike [.var 1, .var 2, .lit (.int 3)]],
  .ite (.or_ (.an (.cmp .isnot (.var 6) (.lit .none)) (.nt (.call i__law_same [.var 5, .var 6]))) (.an (.cmp .is_ (.var 6) (.lit .none)) (.an (.cmp .isnot (.var 5) (.lit .none)) (.cmp .lt (.bi .len [.var 5]) (.lit (.int 4)))))) [.ret (.lit (.bool false))] [],
  .ite (.an (.cmp .isnot (.var 5) (.lit .none)) (.or_ (.cmp .isnot (.call i_is_kept [.var 1, .var 5]) (.lit (.bool true))) (.or_ (.cmp .isnot (.call i_is_kept [.var 2, .var 5]) (.lit (.bool false))) (.cmp .isnot (.call i_is_kept [.var 2, .slc (.var 5) (.lit .none) (.neg (.lit (.int 1)))]) (.lit (.bool true)))))) [.ret (.lit (.bool false))] [],
  .ite (.an (.cmp .is_ (.var 5) (.lit .none)) (.cmp .gt (.call i_count_nights [.var 1, .lit (.int 12)]) (.call i_count_nights [.var 2, .lit (.int 12)]))) [.ret (.lit (.bool false))] [],
  .ite (.or_ (.cmp .isnot (.call i_unlike [.var 1, .var 1]) (.lit .none)) (.an (.cmp .is_ (.var 5) (.lit .none)) (.an (.cmp .is_ (.call i_unlike [.var 2, .var 1]) (.lit .none)) (.cmp .ne (.call i_count_nights [.var 1, .lit (.int 9)]) (.call i_count_nights [.var 2, .lit (.int 9)]))))) [.ret (.lit (.bool false))] [],
  .asg (.nm 3) (.call i__law_rules [.var 0]),
  .ite (.an (.cmp .is_ (.var 5) (.lit .none)) (.an (.cmp .is_ (.call i_unlike [.var 2, .var 3]) (.lit .none)) (.cmp .isnot (.call i_unlike [.var 1, .var 3]) (.lit .none)))) [.ret (.lit (.bool false))] [],
  .asg (.nm 4) (.tup [.idx (.var 1) (.lit (.int 0)), .bin .add (.lit (.int 1)) (.roll (.var 0) (.idx (.var 1) (.lit (.int 1)))), .bin .add (.lit (.int 1)) (.roll (.var 0) (.idx (.var 1) (.lit (.int 2))))]),
  .ret (.cmp .is_ (.call i_unlike [.var 4, .var 1]) (.lit .none))]
/-! ### plain -/
theorem sle_anti {a b : List Int} (h1 : sle a b) (h2 : sle b a) : a = b := by
  rcases h1 with h1 | h1
  · exact h1
  · rcases h2 with h2 | h2
    · exact h2.symm
    · exact (slt_irrefl (slt_trans h1 h2)).elim
theorem unl_none {R O : Ru} (lr : Rul R) (lo : Rul O) (h : ∀ w, ¬ dist R O w) : unl R O = none := by
  have q := unl_spec lr lo
  cases e : unl R O with
  | none => rfl
  | some w => rw [e] at q; exact absurd q.1 (h w)
theorem none_unl {R O : Ru} (lr : Rul R) (lo : Rul O) (h : unl R O = none) : ∀ w, ¬ dist R O w := by
  have q := unl_spec lr lo
  rw [h] at q
  exact q
theorem some_unl {R O : Ru} (lr : Rul R) (lo : Rul O) {w : List Int} (h : unl R O = some w) : Least R O w := by
  have q := unl_spec lr lo
  rw [h] at q
  exact q
theorem least_unl {R O : Ru} (lr : Rul R) (lo : Rul O) {w : List Int} (h : Least R O w) : unl R O = some w := by
  have q := unl_spec lr lo
  cases e : unl R O with
  | none => rw [e] at q; exact absurd h.1 (q w)
  | some w' =>
    rw [e] at q
    rw [sle_anti (q.2 w h.1) (h.2 w' q.1)]
theorem lrows_mem {R : Ru} : ∀ (n : Nat) (w : List Int), w ∈ lrows R n ↔ w.length = n ∧ Hts w ∧ keptP R w
  | 0, w => by
    constructor
    · intro h
      rw [List.mem_singleton.mp h]
      exact ⟨rfl, fun _ h => (by cases h), rfl⟩
    · rintro ⟨h, _⟩
      exact List.mem_singleton.mpr (List.length_eq_zero_iff.mp h)
  | n + 1, w => by
    rw [lrows_succ]
    constructor
    · intro h
      obtain ⟨u, h1, h2⟩ := List.mem_flatMap.mp h
      obtain ⟨x, hx, rfl⟩ := List.mem_map.mp h2
      obtain ⟨q1, q2, q3⟩ := (lrows_mem n u).mp h1
      obtain ⟨hx1, hx2⟩ := List.mem_filter.mp hx
      rw [List.mem_range] at hx1
      refine ⟨by rw [List.length_append, q1]; rfl, fun y hy => ?_, Option.isNone_iff_eq_none.mp hx2⟩
      rcases List.mem_append.mp hy with hy | hy
      · exact q2 y hy
      · rw [List.mem_singleton.mp hy]; exact ⟨by omega, by omega⟩
    · rintro ⟨h1, h2, h3⟩
      obtain ⟨u, h, rfl⟩ : ∃ u h, w = u ++ [h] := by
        rcases List.eq_nil_or_concat w with e | ⟨u, h, e⟩
        · rw [e] at h1; cases h1
        · exact ⟨u, h, by rw [e, List.concat_eq_append]⟩
      have hh := h2 h (List.mem_append_right _ (List.mem_singleton.mpr rfl))
      have hk := ((kept_snoc R u h).mp h3).1
      refine List.mem_flatMap.mpr ⟨u, (lrows_mem n u).mpr ⟨by rw [List.length_append] at h1; exact Nat.succ.inj h1, fun x hx => h2 x (List.mem_append_left _ hx), hk⟩, List.mem_map.mpr ⟨h.toNat, List.mem_filter.mpr ⟨List.mem_range.mpr (by omega), ?_⟩, ?_⟩⟩
      · rw [Int.toNat_of_nonneg hh.1]
        exact Option.isNone_iff_eq_none.mpr h3
      · rw [Int.toNat_of_nonneg hh.1]
theorem pairwise_flat {α β : Type} {r : β → β → Prop} {f : α → List β} {p : α → α → Prop} : ∀ {xs : List α}, xs.Pairwise p → (∀ x ∈ xs, (f x).Pairwise r) → (∀ x ∈ xs, ∀ y ∈ xs, p x y → ∀ a ∈ f x, ∀ b ∈ f y, r a b) → (xs.flatMap f).Pairwise r
  | [], _, _, _ => List.Pairwise.nil
  | x :: xs, h, h1, h2 => by
    rw [List.pairwise_cons] at h
    rw [List.flatMap_cons, List.pairwise_append]
    refine ⟨h1 x List.mem_cons_self, pairwise_flat h.2 (fun y hy => h1 y (List.mem_cons_of_mem _ hy)) fun y hy z hz => h2 y (List.mem_cons_of_mem _ hy) z (List.mem_cons_of_mem _ hz), fun a ha b hb => ?_⟩
    obtain ⟨y, hy, hb⟩ := List.mem_flatMap.mp hb
    exact h2 x List.mem_cons_self y (List.mem_cons_of_mem _ hy) (h.1 y hy) a ha b hb
theorem range_pw (n : Nat) : (List.range n).Pairwise (· < ·) := List.pairwise_lt_range
theorem lrows_asc {R : Ru} : ∀ n, (lrows R n).Pairwise lexlt
  | 0 => List.pairwise_singleton _ _
  | n + 1 => by
    rw [lrows_succ]
    refine pairwise_flat (lrows_asc n) (fun u _ => ?_) fun u hu v hv lt a ha b hb => ?_
    · unfold growR
      rw [List.pairwise_map]
      refine ((range_pw 10).filter _).imp fun {x y} h => lexlt_snoc (by omega)
    · obtain ⟨x, _, rfl⟩ := List.mem_map.mp ha
      obtain ⟨y, _, rfl⟩ := List.mem_map.mp hb
      exact lexlt_app _ _ (by rw [lrows_len R n u hu, lrows_len R n v hv]) lt
theorem lrows_nodup {R : Ru} (n : Nat) : (lrows R n).Nodup := (lrows_asc n).imp fun {a b} h e => by
  subst e
  exact lexlt_irrefl h
/-- no more rows, if all that R lets O lets -/
theorem rows_le {R O : Ru} (h : ∀ w, ¬ dist R O w) (n : Nat) : (lrows R n).length ≤ (lrows O n).length := nodup_len (lrows_nodup n) fun w hw => by
  obtain ⟨q1, q2, q3⟩ := (lrows_mem n w).mp hw
  refine (lrows_mem n w).mpr ⟨q1, q2, ?_⟩
  by_cases k : keptP O w
  · exact k
  · exact absurd ⟨q2, q3, k⟩ (h w)
def goodL (R O : Ru) (m : Nat) : List (List Int) := (lrows R m).filter fun row => !(broken O none 0 row).isNone
theorem good_mem {R O : Ru} {m : Nat} {w : List Int} : w ∈ goodL R O m ↔ w.length = m ∧ dist R O w := by
  unfold goodL
  rw [List.mem_filter, lrows_mem]
  unfold dist keptP
  constructor
  · rintro ⟨⟨h1, h2, h3⟩, h4⟩
    exact ⟨h1, h2, h3, fun z => by rw [z] at h4; cases h4⟩
  · rintro ⟨h1, h2, h3, h4⟩
    refine ⟨⟨h1, h2, h3⟩, ?_⟩
    cases e : broken O none 0 w with
    | none => exact absurd e h4
    | some _ => rfl
/-- the first of the first lot that is not empty, from m on, n lots -/
def lunl (R O : Ru) : Nat → Nat → Option (List Int)
  | _, 0 => none
  | m, n + 1 => match goodL R O m with
    | [] => lunl R O (m + 1) n
    | w :: _ => some w
theorem lunl_spec {R O : Ru} : ∀ (n m : Nat), (∀ w, dist R O w → m ≤ w.length) → match lunl R O m n with
    | none => ∀ w, dist R O w → m + n ≤ w.length
    | some w => Least R O w
  | 0, m, h => h
  | n + 1, m, h => by
    unfold lunl
    cases e : goodL R O m with
    | nil =>
      have h2 : ∀ w, dist R O w → m + 1 ≤ w.length := fun w d => by
        rcases Nat.lt_or_eq_of_le (h w d) with z | z
        · exact z
        · have : w ∈ goodL R O m := good_mem.mpr ⟨z.symm, d⟩
          rw [e] at this; cases this
      have ih := lunl_spec n (m + 1) h2
      show match lunl R O (m + 1) n with
        | none => ∀ w, dist R O w → m + (n + 1) ≤ w.length
        | some w => Least R O w
      cases z : lunl R O (m + 1) n with
      | none =>
        rw [z] at ih
        intro w d
        have ih : ∀ w, dist R O w → (m + 1) + n ≤ w.length := ih
        have := ih w d
        omega
      | some w => rw [z] at ih; exact ih
    | cons w ws =>
      show Least R O w
      have hw : w ∈ goodL R O m := by rw [e]; exact List.mem_cons_self
      obtain ⟨lw, dw⟩ := good_mem.mp hw
      refine ⟨dw, fun w' d => ?_⟩
      rcases Nat.lt_or_eq_of_le (h w' d) with z | z
      · exact .inr (.inl (by omega))
      · have hw' : w' ∈ goodL R O m := good_mem.mpr ⟨z.symm, d⟩
        rw [e] at hw'
        rcases List.mem_cons.mp hw' with q | q
        · exact .inl q.symm
        · have pw : (goodL R O m).Pairwise lexlt := (lrows_asc m).filter _
          rw [e, List.pairwise_cons] at pw
          exact .inr (.inr ⟨by omega, pw.1 w' q⟩)
theorem dist_pos {R O : Ru} {w : List Int} (d : dist R O w) : 1 ≤ w.length := by
  cases w with
  | nil => exact absurd rfl d.2.2
  | cons x xs => exact Nat.succ_pos _
/-! ### codes -/
def prE (x : Pl × Pl) : PV := .tuple [plE x.1, plE x.2]
theorem kenc_pr : KEnc prE := ⟨fun a b => by
  show (PyData.eqv (plE a.1) (plE b.1) && (PyData.eqv (plE a.2) (plE b.2) && true)) = _
  have h1 : PyData.eqv (plE a.1) (plE b.1) = decide (a.1 = b.1) := eqP_pl a.1 b.1
  have h2 : PyData.eqv (plE a.2) (plE b.2) = decide (a.2 = b.2) := eqP_pl a.2 b.2
  rw [h1, h2, Bool.and_true]
  obtain ⟨a1, a2⟩ := a
  obtain ⟨b1, b2⟩ := b
  by_cases p : a1 = b1
  · by_cases q : a2 = b2
    · subst p; subst q
      rw [decide_eq_true rfl, decide_eq_true rfl, decide_eq_true rfl]; rfl
    · simp [p, q]
  · simp [p], .inl fun _ => rfl⟩
def tE : Unit → PV := fun _ => .bool true
def knE (k : Kn) : PV := dG prE tE k
def entE (e : Ent) : PV := .tuple [rowE e.1, stE e.2.1, stE e.2.2]
def linE (es : List Ent) : PV := .list (es.map entE)
def wE : Option (List Int) → PV
  | none => .none
  | some w => rowE w
def KnOk (k : Kn) : Prop := (k.map (·.1)).Nodup ∧ ∀ x ∈ k.map (·.1), x ∈ allPr
theorem KnOk.len {k : Kn} (h : KnOk k) : k.length ≤ 360 := by
  have := nodup_len (ys := allPr) h.1 h.2
  rwa [List.length_map, allPr_len] at this
def EntOk (m : Nat) (e : Ent) : Prop := e.1.length ≤ m ∧ SOk e.2.1 ∧ SOk e.2.2
structure StOk (m : Nat) (s : Kn × List Ent) : Prop where
  kn : KnOk s.1
  le : s.2.length ≤ s.1.length
  en : ∀ e ∈ s.2, EntOk (m + 1) e
theorem pr_all {t u : Pl} (ht : InS t) (hu : InS u) (e : t.1 = u.1) : (t, u) ∈ allPr := by
  obtain ⟨a, b⟩ := t
  obtain ⟨a', c⟩ := u
  have same : a = a' := e
  subst same
  obtain ⟨⟨a0, a9⟩, b0, b5⟩ := ht
  obtain ⟨_, c0, c5⟩ := hu
  have a0 : 0 ≤ a := a0
  have a9 : a ≤ 9 := a9
  have b0 : 0 ≤ b := b0
  have b5 : b ≤ 5 := b5
  have c0 : 0 ≤ c := c0
  have c5 : c ≤ 5 := c5
  refine List.mem_flatMap.mpr ⟨a.toNat, List.mem_range.mpr (by omega), List.mem_flatMap.mpr ⟨b.toNat, List.mem_range.mpr (by omega), List.mem_map.mpr ⟨c.toNat, List.mem_range.mpr (by omega), ?_⟩⟩⟩
  rw [Int.toNat_of_nonneg a0, Int.toNat_of_nonneg b0, Int.toNat_of_nonneg c0]
section
variable {C : Nat → List PV → M PV} {G : List PV}
def S_unlike (C : Nat → List PV → M PV) (i : Nat) : Prop := ∀ R O, Rul R → Rul O → ∀ Q E : PV → Prop, Q (wE (unl R O)) → C i [ruE R, ruE O] Q E
def S_lunl (C : Nat → List PV → M PV) (i : Nat) : Prop := ∀ R O, C i [ruE R, ruE O, .int 3] = pu (wE (lunl R O 1 3))
def kT (b : Nat) : List St := [.asg (.nm 9) (.tup [.var 8, .call b [.var 1, .var 7, .idx (.var 8) (.lit (.int 0))]]),
    .ite (.cmp .is_ (.idx (.var 9) (.lit (.int 1))) (.lit .none)) [.ret (.bin .add (.var 5) (.slc (.var 8) (.lit .none) (.lit (.int 1))))] [],
    .ite (.cmp .notin (.var 9) (.var 2)) [.seti 2 (.var 9) (.lit (.bool true)),
    .app 4 (.tup [.bin .add (.var 5) (.slc (.var 8) (.lit .none) (.lit (.int 1))), .idx (.var 9) (.lit (.int 0)), .idx (.var 9) (.lit (.int 1))])] []]
abbrev ev (R O : Ru) (line : PV) (s : Kn × List Ent) (a b d e f : Option PV) : Env := [some (ruE R), some (ruE O), some (knE s.1), some line, some (linE s.2), a, b, d, e, f]
def fT (O : Ru) (row : List Int) (two : Stt) (s : Kn × List Ent) (t : Pl) : (Kn × List Ent) ⊕ PV := match stepT O row two s t with
  | .inl s' => .inl s'
  | .inr w => .inr (rowE w)
theorem t_turn {b : Nat} (h1 : S_slept C b) {R O : Ru} (lo : Rul O) {line : PV} {row : List Int} {m : Nat} (hr : row.length ≤ m) (hm : m ≤ 1000) {one two : Stt} (h2 : SOk two) {s : Kn × List Ent} (hs : StOk m s) {t : Pl} (ht : InS t) {o8 o9 : Option PV} :
    (∀ s', fT O row two s t = .inl s' → ∃ ρ', denB C G (kT b) ((ev R O line s (some (rowE row)) (some (stE one)) (some (stE two)) o8 o9).set 8 (some (plE t))) = pu (.nx ρ') ∧ StOk m s' ∧ ∃ o8 o9, ρ' = ev R O line s' (some (rowE row)) (some (stE one)) (some (stE two)) o8 o9) ∧
    (∀ v, fT O row two s t = .inr v → denB C G (kT b) ((ev R O line s (some (rowE row)) (some (stE one)) (some (stE two)) o8 o9).set 8 (some (plE t))) = pu (.rt v)) := by
  have tb := h1 O two t.1
  have e1 : denS C G (.asg (.nm 9) (.tup [.var 8, .call b [.var 1, .var 7, .idx (.var 8) (.lit (.int 0))]])) ((ev R O line s (some (rowE row)) (some (stE one)) (some (stE two)) o8 o9).set 8 (some (plE t))) = pu (.nx (ev R O line s (some (rowE row)) (some (stE one)) (some (stE two)) (some (plE t)) (some (.tuple [plE t, stE (slept O two t.1)])))) := asg_of (by walk_at "den")
  have sl : pSlc (plE t) .none (.int 1) = pu (.tuple [.int t.1]) := rfl
  have ad : pBin .add (rowE row) (.tuple [.int t.1]) = pu (rowE (row ++ [t.1])) := (add_tups _ _ (by
    rw [List.length_map]
    show _ + 1 ≤ _
    omega)).trans (by unfold rowE; rw [List.map_append]; rfl)
  unfold kT
  cases c : slept O two t.1 with
  | none =>
    rw [c] at e1
    have hf : fT O row two s t = .inr (rowE (row ++ [t.1])) := by unfold fT stepT; rw [c]
    rw [hf]
    refine ⟨fun s' z => (by cases z), fun v z => ?_⟩
    cases z
    exact sqs e1 (sq_ret (by walk_at "dn") (by walk_at "den"))
  | some u =>
    rw [c] at e1
    have hu : InS u := by
      refine slept_in lo h2 ?_ ?_ c
      · exact ht.1.1
      · exact ht.1.2
    have no : denE C G (.cmp .is_ (.idx (.var 9) (.lit (.int 1))) (.lit .none)) (ev R O line s (some (rowE row)) (some (stE one)) (some (stE two)) (some (plE t)) (some (prE (t, u)))) = pu (.bool false) := by walk_at "dn"
    have ni : denE C G (.cmp .notin (.var 9) (.var 2)) (ev R O line s (some (rowE row)) (some (stE one)) (some (stE two)) (some (plE t)) (some (prE (t, u)))) = pu (.bool (!(dlook s.1 (t, u)).isSome)) := (cmp_den rfl rfl).trans (g_notin kenc_pr s.1 (t, u))
    by_cases k : (dlook s.1 (t, u)).isSome = true
    · have hf : fT O row two s t = .inl s := by
        unfold fT stepT
        rw [c]
        show (match (if (dlook s.1 (t, u)).isSome = true then Sum.inl s else _ : (Kn × List Ent) ⊕ List Int) with | .inl s' => Sum.inl s' | .inr w => .inr (rowE w)) = _
        rw [if_pos k]
      rw [hf]
      rw [k] at ni
      exact ⟨fun s' z => (by cases z; exact ⟨_, sqs e1 (sq_go no (sq_go ni rfl)), hs, _, _, rfl⟩), fun v z => (by cases z)⟩
    · have hf : fT O row two s t = .inl (dset s.1 (t, u) (), s.2 ++ [(row ++ [t.1], some t, some u)]) := by
        unfold fT stepT
        rw [c]
        show (match (if (dlook s.1 (t, u)).isSome = true then Sum.inl s else _ : (Kn × List Ent) ⊕ List Int) with | .inl s' => Sum.inl s' | .inr w => .inr (rowE w)) = _
        rw [if_neg k]
      rw [hf]
      have k2 : (dlook s.1 (t, u)).isSome = false := by
        cases z : (dlook s.1 (t, u)).isSome with
        | true => exact absurd z k
        | false => rfl
      rw [k2] at ni
      have fresh : (t, u) ∉ s.1.map (·.1) := dlook_none.mp (by
        cases z : dlook s.1 (t, u) with
        | none => rfl
        | some _ => rw [z] at k2; cases k2)
      refine ⟨fun s' z => ?_, fun v z => (by cases z)⟩
      cases z
      have kl := hs.kn.len
      have sl2 := hs.le
      have f2 : denS C G (.seti 2 (.var 9) (.lit (.bool true))) (ev R O line s (some (rowE row)) (some (stE one)) (some (stE two)) (some (plE t)) (some (prE (t, u)))) = pu (.nx (ev R O line (dset s.1 (t, u) (), s.2) (some (rowE row)) (some (stE one)) (some (stE two)) (some (plE t)) (some (prE (t, u))))) := g_seti kenc_pr (D := s.1) (k := (t, u)) (v := ()) (by omega) rfl rfl rfl
      have f3 : denS C G (.app 4 (.tup [.bin .add (.var 5) (.slc (.var 8) (.lit .none) (.lit (.int 1))), .idx (.var 9) (.lit (.int 0)), .idx (.var 9) (.lit (.int 1))])) (ev R O line (dset s.1 (t, u) (), s.2) (some (rowE row)) (some (stE one)) (some (stE two)) (some (plE t)) (some (prE (t, u)))) = pu (.nx (ev R O line (dset s.1 (t, u) (), s.2 ++ [(row ++ [t.1], some t, some u)]) (some (rowE row)) (some (stE one)) (some (stE two)) (some (plE t)) (some (prE (t, u))))) := by
        refine (app_of (xs := s.2.map entE) (v := entE (row ++ [t.1], some t, some u)) rfl (by walk_at "den") (by rw [List.length_map]; omega)).trans ?_
        show pu (Fl.nx _) = pu (Fl.nx _)
        unfold ev linE
        rw [List.map_append]
        rfl
      refine ⟨_, sqs e1 (sq_go no (sqs ((if_yes ni).trans (sqs f2 (sqs f3 rfl))) rfl)), ⟨⟨dset_nodup hs.kn.1, fun x hx => ?_⟩, ?_, fun e he => ?_⟩, _, _, rfl⟩
      · rcases dset_mem hx with q | q
        · exact hs.kn.2 x q
        · rw [q]; exact pr_all ht hu (slept_ht c).symm
      · show (s.2 ++ [_]).length ≤ (dset s.1 (t, u) ()).length
        rw [dset_new fresh, List.length_append, List.length_append]
        exact Nat.succ_le_succ sl2
      · rcases List.mem_append.mp he with he | he
        · exact hs.en e he
        · rw [List.mem_singleton.mp he]
          refine ⟨?_, fun p q => (by cases q; exact ht), fun p q => (by cases q; exact hu)⟩
          show (row ++ [t.1]).length ≤ m + 1
          rw [List.length_append]
          exact Nat.succ_le_succ hr
theorem run_T (O : Ru) (row : List Int) (two : Stt) : ∀ (ts : List Pl) (s : Kn × List Ent), runF (fT O row two) s ts = match visitT O row two ts s with | .inl s' => .inl s' | .inr w => .inr (rowE w)
  | [], s => rfl
  | t :: ts, s => by
    unfold runF visitT fT
    cases e : stepT O row two s t with
    | inr w => rfl
    | inl s' => exact run_T O row two ts s'
def kE (a b : Nat) : List St := [.for_ (.nm 8) (.call a [.var 0, .var 6]) (kT b)]
def fE (R O : Ru) (s : Kn × List Ent) (e : Ent) : (Kn × List Ent) ⊕ PV := match visitT O e.1 e.2.2 (nexts R e.2.1) s with | .inl s' => .inl s' | .inr w => .inr (rowE w)
theorem run_E (R O : Ru) : ∀ (es : List Ent) (s : Kn × List Ent), runF (fE R O) s es = match visitL R O es s with | .inl s' => .inl s' | .inr w => .inr (rowE w)
  | [], s => rfl
  | e :: es, s => by
    unfold runF visitL fE
    cases z : visitT O e.1 e.2.2 (nexts R e.2.1) s with
    | inr w => rfl
    | inl s' => exact run_E R O es s'
theorem e_turn {a b : Nat} (h0 : S_nexts C a) (h1 : S_slept C b) {R O : Ru} (lr : Rul R) (lo : Rul O) {line : PV} {m : Nat} (hm : m ≤ 1000) {e : Ent} (he : EntOk m e) {s : Kn × List Ent} (hs : StOk m s) {o8 o9 : Option PV} :
    (∀ s', fE R O s e = .inl s' → ∃ ρ', denB C G (kE a b) (ev R O line s (some (rowE e.1)) (some (stE e.2.1)) (some (stE e.2.2)) o8 o9) = pu (.nx ρ') ∧ StOk m s' ∧ ∃ o8 o9, ρ' = ev R O line s' (some (rowE e.1)) (some (stE e.2.1)) (some (stE e.2.2)) o8 o9) ∧
    (∀ v, fE R O s e = .inr v → denB C G (kE a b) (ev R O line s (some (rowE e.1)) (some (stE e.2.1)) (some (stE e.2.2)) o8 o9) = pu (.rt v)) := by
  obtain ⟨row, one, two⟩ := e
  have t0 := h0 R one
  have it : denE C G (.call a [.var 0, .var 6]) (ev R O line s (some (rowE row)) (some (stE one)) (some (stE two)) o8 o9) = pu (.list ((nexts R one).map plE)) := by walk_at "den"
  have lp := forL_run (b := fun x ρ => bd (bindT (.nm 8) x ρ) (denB C G (kT b))) (en := plE) (f := fT O row two) (xs := nexts R one)
    (fun s ρ => StOk m s ∧ ∃ o8 o9, ρ = ev R O line s (some (rowE row)) (some (stE one)) (some (stE two)) o8 o9) (s := s) (ρ := ev R O line s (some (rowE row)) (some (stE one)) (some (stE two)) o8 o9) ⟨hs, _, _, rfl⟩ fun t ht s ρ ⟨hs, o8, o9, er⟩ => by
      subst er
      rw [bindT_nm, bd_pu]
      exact t_turn h1 lo he.1 hm he.2.2 hs (nexts_in lr he.2.1 ht)
  rw [run_T] at lp
  unfold kE fE
  show (∀ s', (match visitT O row two (nexts R one) s with | .inl s' => Sum.inl s' | .inr w => .inr (rowE w)) = Sum.inl s' → _) ∧ _
  refine ⟨fun s' z => ?_, fun v z => ?_⟩
  · obtain ⟨ρ', q1, q2⟩ := lp.1 s' z
    exact ⟨ρ', sqs ((for_den it rfl).trans q1) rfl, q2⟩
  · exact sq_rt ((for_den it rfl).trans (lp.2 v z))
def wF (ρ : Env) : Option (List Int) → M Fl
  | none => pu (.nx ρ)
  | some w => pu (.rt (rowE w))
def kW (a b : Nat) : List St := [.own 4 (.lst []),
    .for_ (.tp [.nm 5, .nm 6, .nm 7]) (.var 3) (kE a b),
    .frz [4],
    .asg (.nm 3) (.var 4)]
theorem while_run {a b : Nat} (h0 : S_nexts C a) (h1 : S_slept C b) {R O : Ru} (lr : Rul R) (lo : Rul O) : ∀ (n m : Nat) (k : Kn) (es : List Ent) (r : Option (List Int)) (o4 o5 o6 o7 o8 o9 : Option PV), KnOk k → (∀ e ∈ es, EntOk m e) → m + n ≤ 1000 → bfs R O n k es = some r → ∃ ρ', whileN (denE C G (.cmp .ne (.var 3) (.lst []))) (denB C G (kW a b)) n [some (ruE R), some (ruE O), some (knE k), some (linE es), o4, o5, o6, o7, o8, o9] = wF ρ' r
  | 0, m, k, es, r, o4, o5, o6, o7, o8, o9, hk, he, hm, hb => by cases hb
  | n + 1, m, k, [], r, o4, o5, o6, o7, o8, o9, hk, he, hm, hb => by
    cases hb
    refine ⟨[some (ruE R), some (ruE O), some (knE k), some (linE []), o4, o5, o6, o7, o8, o9], ?_⟩
    unfold whileN
    have c : denE C G (.cmp .ne (.var 3) (.lst [])) [some (ruE R), some (ruE O), some (knE k), some (linE []), o4, o5, o6, o7, o8, o9] = pu (.bool false) := (cmp_den rfl rfl).trans (ne_nil PyData.int (fun i => flat_int i) ([] : List Int))
    rw [c, bd_pu, asB_bool, if_neg Bool.false_ne_true]
    rfl
  | n + 1, m, k, e :: es, r, o4, o5, o6, o7, o8, o9, hk, he, hm, hb => by
    have fl : ∀ e : Ent, Flat 2 (entE e) := fun e => flat_tuple fun x hx => by
      simp only [List.mem_cons, List.not_mem_nil, or_false] at hx
      have fs : ∀ s : Stt, Flat 1 (stE s) := fun s => by
        cases s with
        | none => exact flat_none.mono (by decide)
        | some p => exact flat_pl p
      rcases hx with rfl | rfl | rfl
      · exact flat_rowE _
      · exact fs _
      · exact fs _
    have c : denE C G (.cmp .ne (.var 3) (.lst [])) [some (ruE R), some (ruE O), some (knE k), some (linE (e :: es)), o4, o5, o6, o7, o8, o9] = pu (.bool true) := by
      refine (cmp_den rfl rfl).trans ?_
      show pCmp .ne (.list (entE e :: es.map entE)) (.list []) = _
      rw [ne_flat (n := 1) (m := 3) (flat_list fun y hy => by
        have : y ∈ (e :: es).map entE := hy
        obtain ⟨x, _, rfl⟩ := List.mem_map.mp this
        exact fl x) (flat_list fun _ h => by cases h) (by decide) (by decide) (.inl rfl)]
      rfl
    have it : iterV (linE (e :: es)) = pu ((e :: es).map entE) := rfl
    have lp := forL_run (b := fun x ρ => bd (bindT (.tp [.nm 5, .nm 6, .nm 7]) x ρ) (denB C G (kE a b))) (en := entE) (f := fE R O) (xs := e :: es)
      (fun s ρ => StOk m s ∧ ∃ o5 o6 o7 o8 o9, ρ = ev R O (linE (e :: es)) s o5 o6 o7 o8 o9) (s := (k, [])) (ρ := ev R O (linE (e :: es)) (k, []) o5 o6 o7 o8 o9) ⟨⟨hk, Nat.zero_le _, fun _ h => by cases h⟩, _, _, _, _, _, rfl⟩ fun x hx s ρ ⟨hs, o5, o6, o7, o8, o9, er⟩ => by
        subst er
        have eb : bindT (.tp [.nm 5, .nm 6, .nm 7]) (entE x) (ev R O (linE (e :: es)) s o5 o6 o7 o8 o9) = pu (ev R O (linE (e :: es)) s (some (rowE x.1)) (some (stE x.2.1)) (some (stE x.2.2)) o8 o9) := bindT_3 5 6 7 _ _ _ _
        rw [eb, bd_pu]
        obtain ⟨q1, q2⟩ := e_turn (C := C) (G := G) h0 h1 lr lo (line := linE (e :: es)) (by omega) (he x hx) hs (o8 := o8) (o9 := o9)
        refine ⟨fun s' z => ?_, q2⟩
        obtain ⟨ρ', r1, r2, p8, p9, r3⟩ := q1 s' z
        exact ⟨ρ', r1, r2, _, _, _, p8, p9, r3⟩
    rw [run_E] at lp
    unfold whileN
    rw [c, bd_pu, asB_bool, if_pos rfl]
    unfold bfs at hb
    have hb : (match visitL R O (e :: es) (k, []) with | .inl (k', l') => bfs R O n k' l' | .inr w => some (some w)) = some r := hb
    have f0 : denS C G (.own 4 (.lst [])) [some (ruE R), some (ruE O), some (knE k), some (linE (e :: es)), o4, o5, o6, o7, o8, o9] = pu (.nx (ev R O (linE (e :: es)) (k, []) o5 o6 o7 o8 o9)) := own_of rfl
    cases z : visitL R O (e :: es) (k, []) with
    | inr w =>
      rw [z] at hb lp
      cases hb
      refine ⟨[], ?_⟩
      have q := lp.2 _ rfl
      have body : denB C G (kW a b) [some (ruE R), some (ruE O), some (knE k), some (linE (e :: es)), o4, o5, o6, o7, o8, o9] = pu (.rt (rowE w)) := sqs f0 (sq_rt ((for_den rfl it).trans q))
      rw [body]
      rfl
    | inl s' =>
      obtain ⟨k', l'⟩ := s'
      rw [z] at hb lp
      obtain ⟨ρ', q, hs, p5, p6, p7, p8, p9, er⟩ := lp.1 _ rfl
      subst er
      have body : denB C G (kW a b) [some (ruE R), some (ruE O), some (knE k), some (linE (e :: es)), o4, o5, o6, o7, o8, o9] = pu (.nx [some (ruE R), some (ruE O), some (knE k'), some (linE l'), some (linE l'), p5, p6, p7, p8, p9]) := sqs f0 (sqs ((for_den rfl it).trans q) (sqs (by rfl) (sqs (asg_of (v := linE l') rfl) rfl)))
      rw [body, bd_pu, loopK_nx]
      exact while_run h0 h1 lr lo n (m + 1) k' l' r _ _ _ _ _ _ hs.kn hs.en (by omega) hb
theorem b_unlike {a b d : Nat} (h1 : S_need_rules C a) (h2 : S_nexts C b) (h3 : S_slept C d) {R O : Ru} (lr : Rul R) (lo : Rul O) {Q E : PV → Prop} (q : Q (wE (unl R O))) : endF (denB C G (k_unlike a b d) (startE 10 [ruE R, ruE O])) Q E := by
  have t1 := h1 R lr
  have t2 := h1 O lo
  have code : k_unlike a b d = [.ex (.call a [.var 0]), .ex (.call a [.var 1]), .asgT [2, 3] [true, false] [.dct [] [], .lst [.tup [.tup [], .lit .none, .lit .none]]], .whl (.cmp .ne (.var 3) (.lst [])) (kW b d), .ret (.lit .none)] := rfl
  rw [code]
  show denB C G _ _ (fun f => endK f Q E) E
  refine sq (ex_of (v := .none) (by walk_at "den")) (sq (ex_of (v := .none) (by walk_at "den")) (sq (asgT_of (vs := [.dict [], .list [.tuple [.tuple [], .none, .none]]]) rfl) ?_))
  have hb : ∃ r, bfs R O 362 [] [([], none, none)] = some r ∧ unl R O = r := by
    obtain ⟨r, e, _⟩ := bfs_sr lr lo 362 [] [[]] [] (sr_first R O) (by show 362 ≤ 362 + 0; decide)
    refine ⟨r, e, ?_⟩
    unfold unl
    have e : bfs R O 362 [] [([], none, none)] = some r := e
    rw [e]; rfl
  obtain ⟨r, hb, er⟩ := hb
  obtain ⟨ρ', w⟩ := while_run (C := C) (G := G) h2 h3 lr lo 362 0 [] [([], none, none)] r none none none none none none ⟨List.nodup_nil, fun _ h => by cases h⟩ (fun e he => by
    rw [List.mem_singleton.mp he]
    exact ⟨Nat.le_refl _, (fun p z => by cases z), (fun p z => by cases z)⟩) (by decide) hb
  refine sqd ?_
  have z : denS C G (.whl (.cmp .ne (.var 3) (.lst [])) (kW b d)) [some (ruE R), some (ruE O), some (.dict []), some (.list [.tuple [.tuple [], .none, .none]]), none, none, none, none, none, none] = fun Q E => ∃ n, whileN (denE C G (.cmp .ne (.var 3) (.lst []))) (denB C G (kW b d)) n [some (ruE R), some (ruE O), some (.dict []), some (.list [.tuple [.tuple [], .none, .none]]), none, none, none, none, none, none] Q E := rfl
  show denS C G (.whl (.cmp .ne (.var 3) (.lst [])) (kW b d)) [some (ruE R), some (ruE O), some (.dict []), some (.list [.tuple [.tuple [], .none, .none]]), none, none, none, none, none, none] _ E
  rw [z]
  refine ⟨362, ?_⟩
  have w : whileN (denE C G (.cmp .ne (.var 3) (.lst []))) (denB C G (kW b d)) 362 [some (ruE R), some (ruE O), some (.dict []), some (.list [.tuple [.tuple [], .none, .none]]), none, none, none, none, none, none] = wF ρ' r := w
  rw [w]
  rw [er] at q
  cases r with
  | none => exact q
  | some v => exact q
/-! ### the law's own search -/
def fL (R O : Ru) (_ : Unit) (m : Nat) : Unit ⊕ PV := match goodL R O m with
  | [] => .inl ()
  | w :: _ => .inr (rowE w)
theorem run_L (R O : Ru) : ∀ (n m : Nat), (lunl R O m n = none → runF (fL R O) () (List.range' m n) = .inl ()) ∧ ∀ w, lunl R O m n = some w → runF (fL R O) () (List.range' m n) = .inr (rowE w)
  | 0, m => ⟨fun _ => rfl, fun w h => by cases h⟩
  | n + 1, m => by
    rw [List.range'_succ]
    unfold lunl runF fL
    cases e : goodL R O m with
    | nil => exact run_L R O n (m + 1)
    | cons w ws => exact ⟨fun h => (by cases h), fun v h => (by cases h; rfl)⟩
theorem b_lunl {a b : Nat} (h1 : S_lrows C a) (h2 : S_lbroken C b) {R O : Ru} : endF (denB C G (k__law_unlike a b) (startE 6 [ruE R, ruE O, .int 3])) = pu (wE (lunl R O 1 3)) := by
  refine endF_ret ?_
  unfold k__law_unlike
  have it : denE C G (.rng2 (.lit (.int 1)) (.bin .add (.var 2) (.lit (.int 1)))) (startE 6 [ruE R, ruE O, .int 3]) = pu (.list ((List.range' 1 3).map natI)) := rng2_den (m := 1) (n := 4) rfl (by walk_at "dn") ⟨by decide, by decide⟩ ⟨by decide, by decide⟩
  have lp := forL_run (b := fun x ρ => bd (bindT (.nm 3) x ρ) (denB C G [.asg (.nm 4) (.lc1 (.var 5) (.nm 5) (.call a [.var 0, .var 3]) (.cmp .isnot (.call b [.var 1, .var 5]) (.lit .none))), .ite (.cmp .ne (.var 4) (.lst [])) [.ret (.idx (.var 4) (.lit (.int 0)))] []])) (en := natI) (f := fL R O) (xs := List.range' 1 3)
    (fun _ ρ => ∃ o3 o4, ρ = [some (ruE R), some (ruE O), some (.int 3), o3, o4, none]) (s := ()) (ρ := startE 6 [ruE R, ruE O, .int 3]) ⟨_, _, rfl⟩ fun x hx s ρ ⟨o3, o4, er⟩ => by
      subst er
      rw [bindT_nm, bd_pu]
      have x3 : x ≤ 3 := by
        have := List.mem_range'_1.mp hx
        omega
      have t1 := h1 R x (by omega)
      have lc : denE C G (.lc1 (.var 5) (.nm 5) (.call a [.var 0, .var 3]) (.cmp .isnot (.call b [.var 1, .var 5]) (.lit .none))) (([some (ruE R), some (ruE O), some (.int 3), o3, o4, none] : Env).set 3 (some (natI x))) = pu (.list ((goodL R O x).map rowE)) := by
        refine lc1_filter (v := .list ((lrows R x).map rowE)) (xs := lrows R x) (en := rowE) (p := fun row => !(broken O none 0 row).isNone) (by walk_at "den") rfl (fun v => rfl) fun row hrow => ?_
        have hl := lrows_len R x row hrow
        have t := h2 O row (by omega)
        refine (by walk_at "den" : denE C G _ _ = pu (.bool (!isNone (optE (broken O none 0 row))))).trans ?_
        rw [optE_none]
      have e1 := asg_of (i := 4) lc
      have c2 : denE C G (.cmp .ne (.var 4) (.lst [])) [some (ruE R), some (ruE O), some (.int 3), some (natI x), some (.list ((goodL R O x).map rowE)), none] = pu (.bool (!(goodL R O x).isEmpty)) := by
        refine (cmp_den rfl rfl).trans ?_
        rw [ne_flat (n := 1) (m := 2) (flat_list fun y hy => by
          obtain ⟨z, _, rfl⟩ := List.mem_map.mp hy
          exact flat_rowE z) (flat_list fun _ h => by cases h) (by decide) (by decide) (.inl rfl)]
        cases goodL R O x <;> rfl
      unfold fL
      cases z : goodL R O x with
      | nil =>
        rw [z] at e1 c2
        exact ⟨fun s' q => ⟨_, sqs e1 (sq_go c2 rfl), _, _, rfl⟩, fun v q => (by cases q)⟩
      | cons w ws =>
        rw [z] at e1 c2
        exact ⟨fun s' q => (by cases q), fun v q => (by cases q; exact sqs e1 (sq_ret c2 rfl))⟩
  obtain ⟨r1, r2⟩ := run_L R O 3 1
  cases c : lunl R O 1 3 with
  | none =>
    obtain ⟨ρ', e, _⟩ := lp.1 _ (r1 c)
    exact sqs ((for_den it rfl).trans e) rfl
  | some w => exact sq_rt ((for_den it rfl).trans (lp.2 _ (r2 w c)))
end
end HG.R35
end
section
set_option maxHeartbeats 1000000
/-! K35L: the law of k35. -/
namespace HG.R35
open PySem HG.Z HG.Ni
local macro_rules | `(tactic| walk_at "gv") => `(tactic| first | assumption | exact rfl | (refine (sg_other ?_ _).trans ?_; decide; walk_at "gv") | (refine (wg_other ?_ _).trans ?_; decide; walk_at "gv") | (refine sg_self ?_ _; walk_at "len") | (refine wg_self ?_ _; walk_at "len"))
local macro_rules | `(tactic| walk_at "len") => `(tactic| first | decide | (simp only [List.length_set, wlen]; omega) | (simp only [List.length_set, wlen, *]; decide) | assumption)
local macro_rules | `(tactic| walk_at "op") => `(tactic| first | assumption | exact rfl | exact le_int _ _ | exact ge_int _ _ | exact lt_int' _ _ | exact gt_int' _ _ | exact eq_int _ _ | exact ne_int _ _ | exact abs_int _ | exact len_tuple _ | exact len_list _)
local macro_rules | `(tactic| walk_at "dens") => `(tactic| first | exact es_nil | (apply es_cons; walk_at "den"; walk_at "dens"))
local macro_rules | `(tactic| walk_at "den") => `(tactic| first | assumption | exact lit_den _ | (apply var_den; walk_at "gv") | (apply glb_den; assumption) | (apply bin_pu; walk_at "den"; walk_at "den"; walk_at "op") | (apply cmp_pu; walk_at "den"; walk_at "den"; walk_at "op") | (apply idx_pu; walk_at "den"; walk_at "den"; walk_at "op") | (apply neg_pu; walk_at "den"; walk_at "op") | (apply nt_den; walk_at "den") | (apply an_pu; walk_at "den"; intro _; walk_at "den") | (apply or_pu; walk_at "den"; intro _; walk_at "den") | (apply ite_pu; walk_at "den"; intro _; walk_at "den"; intro _; walk_at "den") | (apply call_pu; walk_at "dens"; walk_at "op") | (apply bi_pu; walk_at "dens"; walk_at "op") | (apply tup_den; walk_at "dens") | (apply lst_den; walk_at "dens") | (apply slc_pu; walk_at "den"; walk_at "den"; exact rfl; walk_at "den"; exact rfl; walk_at "op"))
local macro_rules | `(tactic| walk_at "dn") => `(tactic| (apply den_eq; walk_at "den"; first | exact rfl | (simp only [Bool.false_or, Bool.or_false, Bool.true_and, Bool.and_true, Bool.not_true, Bool.not_false])))
structure Hk35 (C : Nat → List PV → M PV) : Prop where
  kept : S_kept C 11
  count : S_count C 12
  unlike : S_unlike C 13
  sm : S_some C 14
  same : S_same 9 C 15
  rules : S_lrules C 16
  lun : S_lunl C 19
def S_right (C : Nat → List PV → M PV) (i : Nat) : Prop := ∀ (Q E : PV → Prop), Q (.bool true) → C i [cupV] Q E
/-! ### plain -/
theorem unl_self {R : Ru} (l : Rul R) : unl R R = none := unl_none l l fun w d => d.2.2 d.2.1
theorem no_trans {R O T : Ru} (h1 : ∀ w, ¬ dist R O w) (h2 : ∀ w, ¬ dist O T w) : ∀ w, ¬ dist R T w := fun w d => by
  by_cases k : keptP O w
  · exact h2 w ⟨d.1, k, d.2.2⟩
  · exact h1 w ⟨d.1, d.2.1, k⟩
theorem no_hard {f r n r' n' : Int} (hr : r' ≤ r) (hn : n' ≤ n) : ∀ w, ¬ dist (f, r', n') (f, r, n) w := fun w d => d.2.2 (broken_mono hr hn w none 0 d.2.1)
theorem least_last {R O : Ru} {w : List Int} (l : Least R O w) : keptP O w.dropLast := by
  rcases List.eq_nil_or_concat w with e | ⟨u, h, e⟩
  · subst e; exact absurd (dist_pos l.1) (by decide)
  · rw [List.concat_eq_append] at e
    subst e
    rw [List.dropLast_concat]
    by_cases k : keptP O u
    · exact k
    · have q := l.2 u ⟨fun x hx => l.1.1 x (List.mem_append_left _ hx), ((kept_snoc R u h).mp l.1.2.1).1, k⟩
      exact absurd (slt_grow u h) fun g => by
        rcases q with q | q
        · rw [q] at g; exact slt_irrefl g
        · exact slt_irrefl (slt_trans g q)
theorem told_due {R O : Ru} (lr : Rul R) (lo : Rul O) {w : List Int} (h : lunl R O 1 3 = some w) : unl R O = some w := by
  have q := lunl_spec (R := R) (O := O) 3 1 fun w d => dist_pos d
  rw [h] at q
  exact least_unl lr lo q
theorem told_far {R O : Ru} (lr : Rul R) (lo : Rul O) (h : lunl R O 1 3 = none) {w : List Int} (e : unl R O = some w) : 4 ≤ w.length := by
  have q := lunl_spec (R := R) (O := O) 3 1 fun w d => dist_pos d
  rw [h] at q
  exact q w (some_unl lr lo e).1
theorem ngh_least {R O : Ru} (lr : Rul R) (lo : Rul O) {w : List Int} (l : Least R O w) : Ngh w := ⟨by have := least_short lr lo l; omega, l.1.1⟩
theorem ngh_last {w : List Int} (h : Ngh w) : Ngh w.dropLast := ⟨by rw [List.length_dropLast]; have := h.len; omega, fun x hx => h.ht x (List.dropLast_subset _ hx)⟩
section
variable {C : Nat → List PV → M PV} {G : List PV} {E : PV → Prop} {ρ : Env} {P : PV → Prop}
def RuP (v : PV) : Prop := ∃ R, Rul R ∧ v = ruE R
theorem dn_rules (hr : S_lrules C 16) (hc : getV ρ 0 = pu cupV) : Dn C G E (.call 16 [.var 0]) ρ RuP := dn_call (dns_pu (vs := [cupV]) (es1 hc) fun Q hq => hr Q _ fun R l => hq _ ⟨R, l, rfl⟩)
theorem dn_unl (h : S_unlike C 13) {a b : Ex} {R O : Ru} (lr : Rul R) (lo : Rul O) (h1 : denE C G a ρ = pu (ruE R)) (h2 : denE C G b ρ = pu (ruE O)) (p : P (wE (unl R O))) : Dn C G E (.call 13 [a, b]) ρ P := dn_call (dns_pu (vs := [ruE R, ruE O]) (es2 h1 h2) fun Q hq => h R O lr lo Q _ (hq _ p))
theorem flat_wE (w : Option (List Int)) : Flat 1 (wE w) := by
  cases w with
  | none => exact flat_none.mono (by decide)
  | some w => exact flat_rowE w
abbrev ev7 (R O : Ru) (a b : Option PV) (u d : Option (List Int)) : Env := [some cupV, some (ruE R), some (ruE O), a, b, some (wE u), some (wE d)]
theorem test1 (hs : S_same 9 C 15) {R O : Ru} {u d : Option (List Int)} (h1 : ∀ w, d = some w → u = some w) (h2 : d = none → ∀ w, u = some w → 4 ≤ w.length) (hl : ∀ w, u = some w → w.length ≤ 29) : denE C G (.or_ (.an (.cmp .isnot (.var 6) (.lit .none)) (.nt (.call 15 [.var 5, .var 6]))) (.an (.cmp .is_ (.var 6) (.lit .none)) (.an (.cmp .isnot (.var 5) (.lit .none)) (.cmp .lt (.bi .len [.var 5]) (.lit (.int 4)))))) (ev7 R O none none u d) = pu (.bool false) := by
  cases d with
  | some w =>
    have hw := hl w (h1 w rfl)
    rw [h1 w rfl]
    refine or_no ((an_yes (by walk_at "dn")).trans (same_no (n := 1) hs (tell_row (r := w) (by omega)) (flat_rowE w) (by decide) rfl rfl)) (an_no (by walk_at "dn"))
  | none =>
    refine or_no (an_no (by walk_at "dn")) ((an_yes (by walk_at "dn")).trans ?_)
    cases u with
    | none => exact an_no (by walk_at "dn")
    | some w =>
      refine (an_yes (by walk_at "dn")).trans ?_
      have := h2 rfl w rfl
      refine (by walk_at "den" : denE C G _ _ = pu (.bool (decide (((w.map PyData.int).length : Int) < 4)))).trans ?_
      rw [decide_eq_false (by rw [List.length_map]; omega)]
theorem test2 (hk : S_kept C 11) {R O : Ru} (lr : Rul R) (lo : Rul O) {u d : Option (List Int)} (h : ∀ w, u = some w → Least R O w) : denE C G (.an (.cmp .isnot (.var 5) (.lit .none)) (.or_ (.cmp .isnot (.call 11 [.var 1, .var 5]) (.lit (.bool true))) (.or_ (.cmp .isnot (.call 11 [.var 2, .var 5]) (.lit (.bool false))) (.cmp .isnot (.call 11 [.var 2, .slc (.var 5) (.lit .none) (.neg (.lit (.int 1)))]) (.lit (.bool true)))))) (ev7 R O none none u d) = pu (.bool false) := by
  cases u with
  | none => exact an_no (by walk_at "dn")
  | some w =>
    have l := h w rfl
    have ng := ngh_least lr lo l
    have k1 := hk R w lr ng
    have k2 := hk O w lo ng
    have k3 := hk O w.dropLast lo (ngh_last ng)
    have e1 : broken R none 0 w = none := l.1.2.1
    have e3 : broken O none 0 w.dropLast = none := least_last l
    have e2 : (broken O none 0 w).isNone = false := by
      cases c : broken O none 0 w with
      | none => exact absurd c l.1.2.2
      | some _ => rfl
    rw [e1] at k1
    rw [e2] at k2
    rw [e3] at k3
    have sl := slc_last w
    refine (an_yes (by walk_at "dn")).trans (or_no (by walk_at "dn") (or_no (by walk_at "dn") ?_))
    walk_at "dn"
theorem test3 (hc : S_count C 12) {R O : Ru} (lr : Rul R) (lo : Rul O) {u d : Option (List Int)} (h : u = none → ∀ w, ¬ dist R O w) : denE C G (.an (.cmp .is_ (.var 5) (.lit .none)) (.cmp .gt (.call 12 [.var 1, .lit (.int 12)]) (.call 12 [.var 2, .lit (.int 12)]))) (ev7 R O none none u d) = pu (.bool false) := by
  cases u with
  | some w => exact an_no (by walk_at "dn")
  | none =>
    have c1 := hc R 12 lr (by decide) (by decide)
    have c2 := hc O 12 lo (by decide) (by decide)
    have le := rows_le (h rfl) 12
    generalize (lrows R 12).length = x at *
    generalize (lrows O 12).length = y at *
    have c1 : C 12 [ruE R, .int 12] = pu (.int (x : Int)) := c1
    have c2 : C 12 [ruE O, .int 12] = pu (.int (y : Int)) := c2
    refine (an_yes (by walk_at "dn")).trans ((by walk_at "den" : denE C G _ _ = pu (.bool (decide ((y : Int) < x)))).trans ?_)
    rw [decide_eq_false (by omega)]
theorem b_right (hk : Hk35 C) {Q : PV → Prop} (q : Q (.bool true)) : endF (denB C G (k__law_right 16 14 13 19 15 11 12) (startE 7 [cupV])) Q E := by
  unfold k__law_right
  show denB C G _ _ (fun f => endK f Q E) E
  refine asg_dn (dn_rules hk.rules rfl) ?_
  rintro v ⟨R, lr, rfl⟩
  show denB C G _ [some cupV, some (ruE R), none, none, none, none, none] _ _
  refine asg_dn (P := RuP) (dn_some hk.sm rfl (fun e he => ?_) (by decide) (by decide)) ?_
  · simp only [List.mem_cons, List.not_mem_nil, or_false] at he
    rcases he with rfl | rfl | rfl | rfl
    · exact dn_rules hk.rules rfl
    · refine dn_bin (P1 := fun v => v = .tuple [.int R.1, .int R.2.1]) (P2 := fun v => ∃ y : Int, v = .tuple [.int y] ∧ 1 ≤ y ∧ y ≤ 5) (dn_pu (slc_pu rfl rfl rfl rfl rfl (show pSlc (ruE R) .none (.int 2) = pu (.tuple [.int R.1, .int R.2.1]) from rfl)) rfl) (dn_tup (dns_cons (P1 := IntIn 1 5) (P2 := fun vs => vs = []) (dn_imp (dn_more (dn_roll_in (n := 5) rfl (by decide) (by decide))) fun v h => h) (dns_nil rfl) ?_)) ?_
      · rintro x xs ⟨y, rfl, h1, h2⟩ rfl
        exact ⟨y, rfl, h1, h2⟩
      · rintro x y rfl ⟨y, rfl, h1, h2⟩
        exact ⟨_, add_tups _ _ (by show 2 + 1 ≤ _; decide), (R.1, R.2.1, y), ⟨lr.f0, lr.f9, lr.r1, lr.r9, h1, h2⟩, rfl⟩
    · refine dn_tup (dns_cons (P1 := fun v => v = .int R.1) (P2 := fun vs => ∃ y : Int, vs = [.int y, .int R.2.2] ∧ 1 ≤ y ∧ y ≤ 9) (dn_pu rfl rfl) (dns_cons (P1 := IntIn 1 9) (P2 := fun vs => vs = [.int R.2.2]) (dn_imp (dn_more (dn_roll_in (n := 9) rfl (by decide) (by decide))) fun v h => h) (dns_pu rfl rfl) ?_) ?_)
      · rintro x xs ⟨y, rfl, h1, h2⟩ rfl
        exact ⟨y, rfl, h1, h2⟩
      · rintro x xs rfl ⟨y, rfl, h1, h2⟩
        exact ⟨(R.1, y, R.2.2), ⟨lr.f0, lr.f9, h1, h2, lr.n1, lr.n5⟩, rfl⟩
    · exact dn_pu rfl ⟨R, lr, rfl⟩
  rintro v ⟨O, lo, rfl⟩
  show denB C G _ [some cupV, some (ruE R), some (ruE O), none, none, none, none] _ _
  have tl := hk.lun R O
  refine asgT_dn (P := fun vs => vs = [wE (unl R O), wE (lunl R O 1 3)]) (dns_cons (P1 := fun v => v = wE (unl R O)) (P2 := fun vs => vs = [wE (lunl R O 1 3)]) (dn_unl hk.unlike lr lo rfl rfl rfl) (dns_pu (es1 (by walk_at "den")) rfl) (by rintro x xs rfl rfl; rfl)) ?_
  rintro vs rfl
  show denB C G _ (ev7 R O none none (unl R O) (lunl R O 1 3)) _ _
  refine no_dn (dn_pu (test1 hk.same (fun w e => told_due lr lo e) (fun e w z => told_far lr lo e z) fun w e => least_short lr lo (some_unl lr lo e)) rfl) ?_
  refine no_dn (dn_pu (test2 hk.kept lr lo fun w e => some_unl lr lo e) rfl) ?_
  refine no_dn (dn_pu (test3 hk.count lr lo fun e => none_unl lr lo e) rfl) ?_
  have ln : ∀ e : unl R O = none, ∀ w, ¬ dist R O w := fun e => none_unl lr lo e
  generalize lunl R O 1 3 = d
  generalize unl R O = u at ln
  refine no_dn ?_ ?_
  · refine dn_or ?_
    refine dn_cmp (P1 := fun v => v = .none) (P2 := fun v => v = .none) (dn_unl hk.unlike lr lr rfl rfl (by rw [unl_self lr]; rfl)) (dn_pu rfl rfl) ?_
    rintro x y rfl rfl
    refine ⟨.bool false, rfl, false, rfl, (fun z => by cases z), fun _ => ?_⟩
    cases u with
    | some w => exact dn_pu (an_no (by walk_at "dn")) rfl
    | none =>
      refine dn_an (dn_pu (v := .bool true) (by walk_at "dn") ⟨true, rfl, (fun z => by cases z), fun _ => ?_⟩)
      refine dn_an ?_
      refine dn_cmp (P1 := fun v => v = wE (unl O R)) (P2 := fun v => v = .none) (dn_unl hk.unlike lo lr rfl rfl rfl) (dn_pu rfl rfl) ?_
      rintro x y rfl rfl
      cases c : unl O R with
      | some w => exact ⟨.bool false, rfl, false, rfl, (fun _ => rfl), fun z => by cases z⟩
      | none =>
        refine ⟨.bool true, rfl, true, rfl, (fun z => by cases z), fun _ => ?_⟩
        have c1 := hk.count R 9 lr (by decide) (by decide)
        have c2 := hk.count O 9 lo (by decide) (by decide)
        have le1 := rows_le (ln rfl) 9
        have le2 := rows_le (none_unl lo lr c) 9
        generalize (lrows R 9).length = x at *
        generalize (lrows O 9).length = y at *
        have c1 : C 12 [ruE R, .int 9] = pu (.int (x : Int)) := c1
        have c2 : C 12 [ruE O, .int 9] = pu (.int (y : Int)) := c2
        refine dn_pu ((by walk_at "den" : denE C G _ _ = pu (.bool (!decide ((x : Int) = y)))).trans ?_) rfl
        rw [decide_eq_true (by omega)]
        rfl
  refine asg_dn (dn_rules hk.rules rfl) ?_
  rintro v ⟨T, lt, rfl⟩
  show denB C G _ (ev7 R O (some (ruE T)) none u d) _ _
  refine no_dn ?_ ?_
  · cases u with
    | some w => exact dn_pu (an_no (by walk_at "dn")) rfl
    | none =>
      refine dn_an (dn_pu (v := .bool true) (by walk_at "dn") ⟨true, rfl, (fun z => by cases z), fun _ => ?_⟩)
      refine dn_an ?_
      refine dn_cmp (P1 := fun v => v = wE (unl O T)) (P2 := fun v => v = .none) (dn_unl hk.unlike lo lt rfl rfl rfl) (dn_pu rfl rfl) ?_
      rintro x y rfl rfl
      cases c : unl O T with
      | some w => exact ⟨.bool false, rfl, false, rfl, (fun _ => rfl), fun z => by cases z⟩
      | none =>
        refine ⟨.bool true, rfl, true, rfl, (fun z => by cases z), fun _ => ?_⟩
        refine dn_cmp (P1 := fun v => v = .none) (P2 := fun v => v = .none) (dn_unl hk.unlike lr lt rfl rfl (by rw [unl_none lr lt (no_trans (ln rfl) (none_unl lo lt c))]; rfl)) (dn_pu rfl rfl) ?_
        rintro x y rfl rfl
        exact ⟨.bool false, rfl, rfl⟩
  refine asg_dn (P := fun v => ∃ a b : Int, v = ruE (R.1, a, b) ∧ (1 ≤ a ∧ a ≤ R.2.1) ∧ 1 ≤ b ∧ b ≤ R.2.2) (dn_tup (dns_cons (P1 := fun v => v = .int R.1) (P2 := fun vs => ∃ a b : Int, vs = [.int a, .int b] ∧ (1 ≤ a ∧ a ≤ R.2.1) ∧ 1 ≤ b ∧ b ≤ R.2.2) (dn_pu rfl rfl) (dns_cons (P1 := IntIn 1 R.2.1) (P2 := fun vs => ∃ b : Int, vs = [.int b] ∧ 1 ≤ b ∧ b ≤ R.2.2) ?_ (dns_cons (P1 := IntIn 1 R.2.2) (P2 := fun vs => vs = []) ?_ (dns_nil rfl) ?_) ?_) ?_)) ?_
  · have a1 := lr.r1
    have a2 := lr.r9
    refine dn_imp (dn_more (dn_roll_by (lo := R.2.1) (hi := R.2.1) rfl (dn_int rfl (Int.le_refl _) (Int.le_refl _)) (by omega) (by omega))) ?_
    rintro v ⟨i, rfl, h1, h2⟩
    exact ⟨i, rfl, by omega, by omega⟩
  · have a1 := lr.n1
    have a2 := lr.n5
    refine dn_imp (dn_more (dn_roll_by (lo := R.2.2) (hi := R.2.2) rfl (dn_int rfl (Int.le_refl _) (Int.le_refl _)) (by omega) (by omega))) ?_
    rintro v ⟨i, rfl, h1, h2⟩
    exact ⟨i, rfl, by omega, by omega⟩
  · rintro x xs ⟨y, rfl, h1, h2⟩ rfl
    exact ⟨y, rfl, h1, h2⟩
  · rintro x xs ⟨y, rfl, h1, h2⟩ ⟨z, rfl, h3⟩
    exact ⟨y, z, rfl, ⟨h1, h2⟩, h3⟩
  · rintro x xs rfl ⟨y, z, rfl, h3⟩
    exact ⟨y, z, rfl, h3⟩
  rintro v ⟨a, b, rfl, ⟨h1, h2⟩, h3, h4⟩
  have lh : Rul (R.1, a, b) := ⟨lr.f0, lr.f9, h1, Int.le_trans h2 lr.r9, h3, Int.le_trans h4 lr.n5⟩
  show denB C G _ (ev7 R O (some (ruE T)) (some (ruE (R.1, a, b))) u d) _ _
  refine ret_dn (dn_cmp (P1 := fun v => v = .none) (P2 := fun v => v = .none) (dn_unl hk.unlike lh lr rfl rfl (by rw [unl_none lh lr (no_hard (f := R.1) (r := R.2.1) (n := R.2.2) h2 h4)]; rfl)) (dn_pu rfl rfl) ?_)
  rintro x y rfl rfl
  exact ⟨.bool true, rfl, q⟩
/-! ### the law -/
def kLaw35 : List St := [.for_ (.nm 2) (.rng1 (.lit (.int 6))) [.ite (.nt (.call 20 [.var 1])) [.ret (.lit (.bool false))] []],
  .asg (.nm 3) (.bin .add (.lit (.int 1)) (.roll (.var 1) (.lit (.int 4)))),
  .asg (.nm 4) (.bin .add (.tup [.lit (.int 0)]) (.bi .tuple [.rng2 (.lit (.int 1)) (.bin .add (.var 3) (.lit (.int 2)))])),
  .asg (.nm 5) (.tup [.call 13 [.tup [.lit (.int 0), .lit (.int 1), .bin .add (.var 3) (.lit (.int 1))], .tup [.lit (.int 0), .lit (.int 1), .var 3]], .call 13 [.tup [.lit (.int 0), .lit (.int 1), .var 3], .tup [.lit (.int 0), .lit (.int 1), .bin .add (.var 3) (.lit (.int 1))]], .call 13 [.tup [.lit (.int 1), .lit (.int 1), .lit (.int 1)], .tup [.lit (.int 0), .lit (.int 1), .lit (.int 1)]], .call 13 [.tup [.lit (.int 9), .lit (.int 1), .lit (.int 1)], .tup [.lit (.int 9), .lit (.int 9), .lit (.int 5)]], .call 13 [.tup [.lit (.int 0), .lit (.int 2), .lit (.int 1)], .tup [.lit (.int 0), .lit (.int 1), .lit (.int 1)]]]),
  .ret (.call 15 [.var 5, .tup [.var 4, .lit .none, .tup [.lit (.int 1)], .lit .none, .tup [.lit (.int 0), .lit (.int 2)]]])]
def upTo : Int → List Int
  | 1 => [0, 1, 2]
  | 2 => [0, 1, 2, 3]
  | 3 => [0, 1, 2, 3, 4]
  | _ => [0, 1, 2, 3, 4, 5]
theorem law_vals {n : Int} (h1 : 1 ≤ n) (h2 : n ≤ 4) : unl (0, 1, n + 1) (0, 1, n) = some (upTo n) := by
  have : n = 1 ∨ n = 2 ∨ n = 3 ∨ n = 4 := by omega
  rcases this with rfl | rfl | rfl | rfl <;> decide +kernel
theorem unl_a : unl (1, 1, 1) (0, 1, 1) = some [1] := by decide +kernel
theorem unl_b : unl (9, 1, 1) (9, 9, 5) = none := by decide +kernel
theorem unl_c : unl (0, 2, 1) (0, 1, 1) = some [0, 2] := by decide +kernel
theorem b_law35 (hk : Hk35 C) (hr : S_right C 20) {ρ : Env} (e0 : ∃ o0 : Option PV, ρ = [o0, some cupV, none, none, none, none]) : endF (denB C G kLaw35 ρ) (fun p => p = .bool true) fun _ => False := by
  obtain ⟨o0, rfl⟩ := e0
  unfold kLaw35
  show denB C G _ _ (fun f => endK f (fun p => p = .bool true) fun _ => False) fun _ => False
  refine for_dn (γ := Nat) (en := natI) (fun n ρ => ∃ o2, ρ = [o0, some cupV, o2, none, none, none]) (dn_pu (range_den (n := 6) (by decide) rfl) ⟨List.range 6, rfl, ⟨none, rfl⟩, ?_, ?_⟩)
  · rintro ρ' ⟨o2, rfl⟩
    refine asg_dn (P := IntIn 1 4) (dn_imp (dn_more (dn_roll_in (n := 4) rfl (by decide) (by decide))) fun v h => h) ?_
    rintro v ⟨n, rfl, h1, h2⟩
    show denB C G _ [o0, some cupV, o2, some (.int n), none, none] _ _
    refine asg_dn (P := fun v => v = rowE (upTo n)) (dn_pu (v := rowE (upTo n)) ?_ rfl) ?_
    · have : n = 1 ∨ n = 2 ∨ n = 3 ∨ n = 4 := by omega
      have z : ∀ m : Int, RB (m + 2) → (PyData.tuple (.int 0 :: rng 1 (m + 2))) = rowE (upTo m) → (rng 1 (m + 2)).length ≤ 1000 → denE C G (.bin .add (.tup [.lit (.int 0)]) (.bi .tuple [.rng2 (.lit (.int 1)) (.bin .add (.var 3) (.lit (.int 2)))])) [o0, some cupV, o2, some (.int m), none, none] = pu (rowE (upTo m)) := fun m rb e hl => by
        refine bin_pu (x := .tuple [.int 0]) (y := .tuple (rng 1 (m + 2))) (by walk_at "den") (bi_pu (es1 (rng2_den (m := 1) (n := m + 2) rfl (by walk_at "dn") ⟨by decide, by decide⟩ rb)) (gd_yes (by show _ ≤ 16777216; omega))) ?_
        rw [add_tups _ _ (by show 1 + _ ≤ _; omega), ← e]
        rfl
      rcases this with rfl | rfl | rfl | rfl <;> exact z _ ⟨by decide, by decide⟩ rfl (by decide)
    rintro v rfl
    show denB C G _ [o0, some cupV, o2, some (.int n), some (rowE (upTo n)), none] _ _
    have l0 : Rul (0, 1, n) := ⟨Int.le_refl 0, (by decide : (0 : Int) ≤ 9), Int.le_refl 1, (by decide : (1 : Int) ≤ 9), h1, by show n ≤ 5; omega⟩
    have l1 : Rul (0, 1, n + 1) := ⟨Int.le_refl 0, (by decide : (0 : Int) ≤ 9), Int.le_refl 1, (by decide : (1 : Int) ≤ 9), by show 1 ≤ n + 1; omega, by show n + 1 ≤ 5; omega⟩
    have l2 : Rul (1, 1, 1) := ⟨by decide, by decide, by decide, by decide, by decide, by decide⟩
    have l3 : Rul (0, 1, 1) := ⟨by decide, by decide, by decide, by decide, by decide, by decide⟩
    have l4 : Rul (9, 1, 1) := ⟨by decide, by decide, by decide, by decide, by decide, by decide⟩
    have l5 : Rul (9, 9, 5) := ⟨by decide, by decide, by decide, by decide, by decide, by decide⟩
    have l6 : Rul (0, 2, 1) := ⟨by decide, by decide, by decide, by decide, by decide, by decide⟩
    have fl : ∀ w : List Int, Flat 1 (rowE w) := flat_rowE
    refine asg_dn (P := fun v => v = .tuple [rowE (upTo n), .none, rowE [1], .none, rowE [0, 2]]) (dn_tup (dns_cons (P1 := fun v => v = rowE (upTo n)) (P2 := fun vs => vs = [.none, rowE [1], .none, rowE [0, 2]]) (dn_unl hk.unlike l1 l0 rfl rfl (by rw [law_vals h1 h2]; rfl)) (dns_cons (P1 := fun v => v = .none) (P2 := fun vs => vs = [rowE [1], .none, rowE [0, 2]]) (dn_unl hk.unlike l0 l1 rfl rfl (by rw [unl_none l0 l1 (no_hard (f := 0) (Int.le_refl 1) (by omega))]; rfl)) (dns_cons (P1 := fun v => v = rowE [1]) (P2 := fun vs => vs = [.none, rowE [0, 2]]) (dn_unl hk.unlike l2 l3 rfl rfl (by rw [unl_a]; rfl)) (dns_cons (P1 := fun v => v = .none) (P2 := fun vs => vs = [rowE [0, 2]]) (dn_unl hk.unlike l4 l5 rfl rfl (by rw [unl_b]; rfl)) (dns_cons (P1 := fun v => v = rowE [0, 2]) (P2 := fun vs => vs = []) (dn_unl hk.unlike l6 l3 rfl rfl (by rw [unl_c]; rfl)) (dns_nil rfl) ?_) ?_) ?_) ?_) ?_)) ?_
    · rintro x xs rfl rfl; rfl
    · rintro x xs rfl rfl; rfl
    · rintro x xs rfl rfl; rfl
    · rintro x xs rfl rfl; rfl
    · rintro x xs rfl rfl; rfl
    rintro v rfl
    show denB C G _ [o0, some cupV, o2, some (.int n), some (rowE (upTo n)), some (.tuple [rowE (upTo n), .none, rowE [1], .none, rowE [0, 2]])] _ _
    have ts := hk.same (.tuple [rowE (upTo n), .none, rowE [1], .none, rowE [0, 2]]) (by
      have : n = 1 ∨ n = 2 ∨ n = 3 ∨ n = 4 := by omega
      rcases this with rfl | rfl | rfl | rfl <;> rfl) (by
      have : n = 1 ∨ n = 2 ∨ n = 3 ∨ n = 4 := by omega
      rcases this with rfl | rfl | rfl | rfl <;> decide)
    refine ret_dn (dn_pu (v := .bool true) ?_ rfl)
    have e : C 15 [.tuple [rowE (upTo n), .none, rowE [1], .none, rowE [0, 2]], .tuple [rowE (upTo n), .none, .tuple [.int 1], .none, .tuple [.int 0, .int 2]]] = pu (.bool true) := ts
    walk_at "dn"
  · rintro x hx n ρ' hn ⟨o2, rfl⟩ R2 r2
    refine no_dn (dn_nt (dn_call (dns_pu (vs := [cupV]) rfl fun Q hq => hr Q _ (hq _ ⟨true, rfl, rfl⟩)))) (r2 _ ⟨some (natI x), rfl⟩)
end
end HG.R35
end
section
set_option maxHeartbeats 0
namespace HG.K35
open PySem PySem.Spec PyProof.Rows L2
def top (i : Nat) : Stmt := PySem.Challenge.pw_highground_k35_whole_rules_beside_rules.main.body.getD i (.Pass ⟨0, 0, 0, 0⟩)
def c_is_whole : List St := [.ret (.an (.isi (.var 0) .int) (.an (.nt (.isi (.var 0) .bool)) (.chn .le .le (.var 1) (.var 0) (.var 2))))]
def d_is_whole : Df := ⟨"is_whole", ["value", "low", "high"], ["value", "low", "high"], defArgs (top 6), (defBody (top 6)), defScope (top 6), c_is_whole⟩
def c_is_tuple_of : List St := [.ret (.an (.isi (.var 0) .tuple) (.chn .le .le (.var 1) (.bi .len [.var 0]) (.var 2)))]
def d_is_tuple_of : Df := ⟨"is_tuple_of", ["value", "low", "high"], ["value", "low", "high"], defArgs (top 7), (defBody (top 7)), defScope (top 7), c_is_tuple_of⟩
def c_fits_rules : List St := [.ite (.or_ (.nt (.call 1 [.var 0, .lit (.int 3), .lit (.int 3)])) (.or_ (.nt (.call 0 [.idx (.var 0) (.lit (.int 0)), .lit (.int 0), .glb 0])) (.nt (.call 0 [.idx (.var 0) (.lit (.int 1)), .lit (.int 1), .glb 1])))) [.ret (.lit (.bool false))] [],
  .ret (.call 0 [.idx (.var 0) (.lit (.int 2)), .lit (.int 1), .glb 2])]
def d_fits_rules : Df := ⟨"fits_rules", ["value"], ["value"], defArgs (top 13), (defBody (top 13)), defScope (top 13), c_fits_rules⟩
def c_need_rules : List St := [.ite (.nt (.call 2 [.var 0])) [.rai 2 []] []]
def d_need_rules : Df := ⟨"need_rules", ["rules"], ["rules"], defArgs (top 14), (defBody (top 14)), defScope (top 14), c_need_rules⟩
def c_fits_nights : List St := [.ret (.an (.call 1 [.var 0, .lit (.int 0), .glb 3]) (.bi .all [.lc1 (.call 0 [.var 1, .lit (.int 0), .glb 0]) (.nm 1) (.var 0) (.lit (.bool true))]))]
def d_fits_nights : Df := ⟨"fits_nights", ["value"], ["value", "one"], defArgs (top 15), (defBody (top 15)), defScope (top 15), c_fits_nights⟩
def c_need_nights : List St := [.ite (.nt (.call 4 [.var 0])) [.rai 2 []] []]
def d_need_nights : Df := ⟨"need_nights", ["nights"], ["nights"], defArgs (top 16), (defBody (top 16)), defScope (top 16), c_need_nights⟩
def c_need_many : List St := [.ite (.nt (.call 0 [.var 0, .lit (.int 1), .glb 4])) [.rai 1 []] []]
def d_need_many : Df := ⟨"need_many", ["many"], ["many"], defArgs (top 17), (defBody (top 17)), defScope (top 17), c_need_many⟩
def c_slept : List St := [.asg (.tp [.nm 3, .nm 4, .nm 5]) (.var 0),
  .ite (.cmp .le (.var 2) (.var 3)) [.ret (.tup [.var 2, .lit (.int 0)])] [],
  .ite (.or_ (.cmp .is_ (.var 1) (.lit .none)) (.or_ (.cmp .gt (.var 2) (.bin .add (.idx (.var 1) (.lit (.int 0))) (.var 4))) (.an (.cmp .gt (.var 2) (.idx (.var 1) (.lit (.int 0)))) (.cmp .ge (.idx (.var 1) (.lit (.int 1))) (.var 5))))) [.ret (.lit .none)] [],
  .ret (.tup [.var 2, .ite (.cmp .gt (.var 2) (.idx (.var 1) (.lit (.int 0)))) (.bin .add (.idx (.var 1) (.lit (.int 1))) (.lit (.int 1))) (.lit (.int 0))])]
def d_slept : Df := ⟨"slept", ["rules", "state", "height"], ["rules", "state", "height", "free", "rise", "runs"], defArgs (top 18), (defBody (top 18)), defScope (top 18), c_slept⟩
def c_nexts_in : List St := [.asg (.nm 2) (.lc1 (.call 7 [.var 0, .var 1, .var 3]) (.nm 3) (.rng1 (.bin .add (.glb 0) (.lit (.int 1)))) (.lit (.bool true))),
  .ret (.lc1 (.var 4) (.nm 4) (.var 2) (.cmp .isnot (.var 4) (.lit .none)))]
def d_nexts_in : Df := ⟨"nexts_in", ["rules", "state"], ["rules", "state", "rows", "height", "row"], defArgs (top 19), (defBody (top 19)), defScope (top 19), c_nexts_in⟩
def c_broken_in : List St := [.asg (.nm 2) (.lit .none),
  .for_ (.tp [.nm 3, .nm 4]) (.enm (.var 1)) [.asg (.nm 2) (.call 7 [.var 0, .var 2, .var 4]),
    .ite (.cmp .is_ (.var 2) (.lit .none)) [.ret (.var 3)] []],
  .ret (.lit .none)]
def d_broken_in : Df := ⟨"broken_in", ["rules", "nights"], ["rules", "nights", "state", "at", "height"], defArgs (top 20), (defBody (top 20)), defScope (top 20), c_broken_in⟩
def c_levels_in : List St := [.asg (.nm 2) (.dct [.lit .none] [.lit (.int 1)]),
  .for_ (.nm 3) (.rng1 (.var 1)) [.own 4 (.dct [] []),
    .for_ (.nm 5) (.var 2) [.for_ (.nm 6) (.call 8 [.var 0, .var 5]) [.seti 4 (.var 6) (.bin .add (.met .get2 (.var 4) [.var 6, .lit (.int 0)]) (.idx (.var 2) (.var 5)))]],
    .frz [4],
    .asg (.nm 2) (.var 4)],
  .ret (.var 2)]
def d_levels_in : Df := ⟨"levels_in", ["rules", "many"], ["rules", "many", "line", "turn", "later", "state", "there"], defArgs (top 21), (defBody (top 21)), defScope (top 21), c_levels_in⟩
def c_is_kept : List St := [.ex (.call 3 [.var 0]),
  .ex (.call 5 [.var 1]),
  .ret (.cmp .is_ (.call 9 [.var 0, .var 1]) (.lit .none))]
def d_is_kept : Df := ⟨"is_kept", ["rules", "nights"], ["rules", "nights"], defArgs (top 22), (defBody (top 22)), defScope (top 22), c_is_kept⟩
def c_count_nights : List St := [.ex (.call 3 [.var 0]),
  .ex (.call 6 [.var 1]),
  .asg (.nm 2) (.call 10 [.var 0, .var 1]),
  .ret (.bi .sum [.lc1 (.idx (.var 2) (.var 3)) (.nm 3) (.var 2) (.lit (.bool true))])]
def d_count_nights : Df := ⟨"count_nights", ["rules", "many"], ["rules", "many", "found", "state"], defArgs (top 23), (defBody (top 23)), defScope (top 23), c_count_nights⟩
def c_unlike : List St := [.ex (.call 3 [.var 0]),
  .ex (.call 3 [.var 1]),
  .asgT [2, 3] [true, false] [.dct [] [], .lst [.tup [.tup [], .lit .none, .lit .none]]],
  .whl (.cmp .ne (.var 3) (.lst [])) [.own 4 (.lst []),
    .for_ (.tp [.nm 5, .nm 6, .nm 7]) (.var 3) [.for_ (.nm 8) (.call 8 [.var 0, .var 6]) [.asg (.nm 9) (.tup [.var 8, .call 7 [.var 1, .var 7, .idx (.var 8) (.lit (.int 0))]]),
    .ite (.cmp .is_ (.idx (.var 9) (.lit (.int 1))) (.lit .none)) [.ret (.bin .add (.var 5) (.slc (.var 8) (.lit .none) (.lit (.int 1))))] [],
    .ite (.cmp .notin (.var 9) (.var 2)) [.seti 2 (.var 9) (.lit (.bool true)),
    .app 4 (.tup [.bin .add (.var 5) (.slc (.var 8) (.lit .none) (.lit (.int 1))), .idx (.var 9) (.lit (.int 0)), .idx (.var 9) (.lit (.int 1))])] []]],
    .frz [4],
    .asg (.nm 3) (.var 4)],
  .ret (.lit .none)]
def d_unlike : Df := ⟨"unlike", ["rules", "other"], ["rules", "other", "known", "line", "later", "row", "one", "two", "there", "pair"], defArgs (top 24), (defBody (top 24)), defScope (top 24), c_unlike⟩
def c__law_some : List St := [.ret (.idx (.var 1) (.roll (.var 0) (.bi .len [.var 1])))]
def d__law_some : Df := ⟨"_law_some", ["cup", "things"], ["cup", "things"], defArgs (top 28), (defBody (top 28)), defScope (top 28), c__law_some⟩
def c__law_same : List St := [.ite (.isi (.var 1) .tuple) [.ite (.or_ (.nt (.isi (.var 0) .tuple)) (.cmp .ne (.bi .len [.var 0]) (.bi .len [.var 1]))) [.ret (.lit (.bool false))] [],
    .ret (.bi .all [.lc1 (.call 15 [.idx (.var 0) (.var 2), .idx (.var 1) (.var 2)]) (.nm 2) (.rng1 (.bi .len [.var 1])) (.lit (.bool true))])] [],
  .ite (.cmp .is_ (.var 1) (.lit .none)) [.ret (.cmp .is_ (.var 0) (.lit .none))] [],
  .ite (.isi (.var 1) .bool) [.ret (.ite (.var 1) (.cmp .is_ (.var 0) (.lit (.bool true))) (.cmp .is_ (.var 0) (.lit (.bool false))))] [],
  .ite (.isi (.var 1) .int) [.ret (.an (.isi (.var 0) .int) (.an (.nt (.isi (.var 0) .bool)) (.cmp .eq (.bi .int [.var 0]) (.var 1))))] [],
  .ret (.an (.isi (.var 0) .str) (.cmp .eq (.bi .str [.var 0]) (.var 1)))]
def d__law_same : Df := ⟨"_law_same", ["told", "due"], ["told", "due", "at"], defArgs (top 29), (defBody (top 29)), defScope (top 29), c__law_same⟩
def c__law_rules : List St := [.ret (.tup [.call 14 [.var 0, .lst [.lit (.int 0), .lit (.int 1), .lit (.int 2), .roll (.var 0) (.lit (.int 10))]], .bin .add (.lit (.int 1)) (.roll (.var 0) (.call 14 [.var 0, .lst [.lit (.int 2), .lit (.int 4), .lit (.int 9)]])), .bin .add (.lit (.int 1)) (.roll (.var 0) (.call 14 [.var 0, .lst [.lit (.int 2), .lit (.int 5)]]))])]
def d__law_rules : Df := ⟨"_law_rules", ["cup"], ["cup"], defArgs (top 30), (defBody (top 30)), defScope (top 30), c__law_rules⟩
def c__law_broken : List St := [.asg (.tp [.nm 2, .nm 3, .nm 4]) (.var 0),
  .for_ (.tp [.nm 5, .nm 6]) (.enm (.var 1)) [.ite (.cmp .gt (.var 6) (.var 2)) [.asg (.nm 7) (.lit (.int 0)),
    .for_ (.nm 8) (.rngd (.bin .sub (.var 5) (.lit (.int 1))) (.lit (.int 0))) [.ite (.an (.cmp .gt (.idx (.var 1) (.var 8)) (.var 2)) (.an (.cmp .gt (.idx (.var 1) (.var 8)) (.idx (.var 1) (.bin .sub (.var 8) (.lit (.int 1))))) (.cmp .eq (.var 7) (.bin .sub (.bin .sub (.var 5) (.lit (.int 1))) (.var 8))))) [.asg (.nm 7) (.bin .add (.var 7) (.lit (.int 1)))] []],
    .ite (.or_ (.cmp .eq (.var 5) (.lit (.int 0))) (.or_ (.cmp .gt (.var 6) (.bin .add (.idx (.var 1) (.bin .sub (.var 5) (.lit (.int 1)))) (.var 3))) (.an (.cmp .gt (.var 6) (.idx (.var 1) (.bin .sub (.var 5) (.lit (.int 1))))) (.cmp .ge (.var 7) (.var 4))))) [.ret (.var 5)] []] []],
  .ret (.lit .none)]
def d__law_broken : Df := ⟨"_law_broken", ["rules", "nights"], ["rules", "nights", "free", "rise", "runs", "at", "height", "run", "back"], defArgs (top 31), (defBody (top 31)), defScope (top 31), c__law_broken⟩
def c__law_rows : List St := [.asg (.nm 2) (.lst [.tup []]),
  .for_ (.nm 3) (.rng1 (.var 1)) [.asg (.nm 4) (.lst []),
    .for_ (.nm 5) (.var 2) [.asg (.nm 4) (.bin .add (.var 4) (.lc1 (.bin .add (.var 5) (.tup [.var 6])) (.nm 6) (.rng1 (.lit (.int 10))) (.cmp .is_ (.call 17 [.var 0, .bin .add (.var 5) (.tup [.var 6])]) (.lit .none))))],
    .asg (.nm 2) (.var 4)],
  .ret (.var 2)]
def d__law_rows : Df := ⟨"_law_rows", ["rules", "many"], ["rules", "many", "found", "turn", "longer", "row", "height"], defArgs (top 32), (defBody (top 32)), defScope (top 32), c__law_rows⟩
def c__law_unlike : List St := [.for_ (.nm 3) (.rng2 (.lit (.int 1)) (.bin .add (.var 2) (.lit (.int 1)))) [.asg (.nm 4) (.lc1 (.var 5) (.nm 5) (.call 18 [.var 0, .var 3]) (.cmp .isnot (.call 17 [.var 1, .var 5]) (.lit .none))),
    .ite (.cmp .ne (.var 4) (.lst [])) [.ret (.idx (.var 4) (.lit (.int 0)))] []],
  .ret (.lit .none)]
def d__law_unlike : Df := ⟨"_law_unlike", ["rules", "other", "most"], ["rules", "other", "most", "many", "good", "row"], defArgs (top 33), (defBody (top 33)), defScope (top 33), c__law_unlike⟩
def c__law_right : List St := [.asg (.nm 1) (.call 16 [.var 0]),
  .asg (.nm 2) (.call 14 [.var 0, .lst [.call 16 [.var 0], .bin .add (.slc (.var 1) (.lit .none) (.lit (.int 2))) (.tup [.bin .add (.lit (.int 1)) (.roll (.var 0) (.lit (.int 5)))]), .tup [.idx (.var 1) (.lit (.int 0)), .bin .add (.lit (.int 1)) (.roll (.var 0) (.lit (.int 9))), .idx (.var 1) (.lit (.int 2))], .var 1]]),
  .asgT [5, 6] [false, false] [.call 13 [.var 1, .var 2], .call 19 [.var 1, .var 2, .lit (.int 3)]],
  .ite (.or_ (.an (.cmp .isnot (.var 6) (.lit .none)) (.nt (.call 15 [.var 5, .var 6]))) (.an (.cmp .is_ (.var 6) (.lit .none)) (.an (.cmp .isnot (.var 5) (.lit .none)) (.cmp .lt (.bi .len [.var 5]) (.lit (.int 4)))))) [.ret (.lit (.bool false))] [],
  .ite (.an (.cmp .isnot (.var 5) (.lit .none)) (.or_ (.cmp .isnot (.call 11 [.var 1, .var 5]) (.lit (.bool true))) (.or_ (.cmp .isnot (.call 11 [.var 2, .var 5]) (.lit (.bool false))) (.cmp .isnot (.call 11 [.var 2, .slc (.var 5) (.lit .none) (.neg (.lit (.int 1)))]) (.lit (.bool true)))))) [.ret (.lit (.bool false))] [],
  .ite (.an (.cmp .is_ (.var 5) (.lit .none)) (.cmp .gt (.call 12 [.var 1, .lit (.int 12)]) (.call 12 [.var 2, .lit (.int 12)]))) [.ret (.lit (.bool false))] [],
  .ite (.or_ (.cmp .isnot (.call 13 [.var 1, .var 1]) (.lit .none)) (.an (.cmp .is_ (.var 5) (.lit .none)) (.an (.cmp .is_ (.call 13 [.var 2, .var 1]) (.lit .none)) (.cmp .ne (.call 12 [.var 1, .lit (.int 9)]) (.call 12 [.var 2, .lit (.int 9)]))))) [.ret (.lit (.bool false))] [],
  .asg (.nm 3) (.call 16 [.var 0]),
  .ite (.an (.cmp .is_ (.var 5) (.lit .none)) (.an (.cmp .is_ (.call 13 [.var 2, .var 3]) (.lit .none)) (.cmp .isnot (.call 13 [.var 1, .var 3]) (.lit .none)))) [.ret (.lit (.bool false))] [],
  .asg (.nm 4) (.tup [.idx (.var 1) (.lit (.int 0)), .bin .add (.lit (.int 1)) (.roll (.var 0) (.idx (.var 1) (.lit (.int 1)))), .bin .add (.lit (.int 1)) (.roll (.var 0) (.idx (.var 1) (.lit (.int 2))))]),
  .ret (.cmp .is_ (.call 13 [.var 4, .var 1]) (.lit .none))]
def d__law_right : Df := ⟨"_law_right", ["cup"], ["cup", "rules", "other", "third", "hard", "told", "due"], defArgs (top 34), (defBody (top 34)), defScope (top 34), c__law_right⟩
def c_law : List St := [.for_ (.nm 2) (.rng1 (.lit (.int 6))) [.ite (.nt (.call 20 [.var 1])) [.ret (.lit (.bool false))] []],
  .asg (.nm 3) (.bin .add (.lit (.int 1)) (.roll (.var 1) (.lit (.int 4)))),
  .asg (.nm 4) (.bin .add (.tup [.lit (.int 0)]) (.bi .tuple [.rng2 (.lit (.int 1)) (.bin .add (.var 3) (.lit (.int 2)))])),
  .asg (.nm 5) (.tup [.call 13 [.tup [.lit (.int 0), .lit (.int 1), .bin .add (.var 3) (.lit (.int 1))], .tup [.lit (.int 0), .lit (.int 1), .var 3]], .call 13 [.tup [.lit (.int 0), .lit (.int 1), .var 3], .tup [.lit (.int 0), .lit (.int 1), .bin .add (.var 3) (.lit (.int 1))]], .call 13 [.tup [.lit (.int 1), .lit (.int 1), .lit (.int 1)], .tup [.lit (.int 0), .lit (.int 1), .lit (.int 1)]], .call 13 [.tup [.lit (.int 9), .lit (.int 1), .lit (.int 1)], .tup [.lit (.int 9), .lit (.int 9), .lit (.int 5)]], .call 13 [.tup [.lit (.int 0), .lit (.int 2), .lit (.int 1)], .tup [.lit (.int 0), .lit (.int 1), .lit (.int 1)]]]),
  .ret (.call 15 [.var 5, .tup [.var 4, .lit .none, .tup [.lit (.int 1)], .lit .none, .tup [.lit (.int 0), .lit (.int 2)]]])]
def d_law : Df := ⟨"law", ["script"], ["script", "cup", "turn", "runs", "row", "told"], defArgs (top 35), (defBody (top 35)).tail, defScope (top 35), c_law⟩
def ds : List Df := [d_is_whole, d_is_tuple_of, d_fits_rules, d_need_rules, d_fits_nights, d_need_nights, d_need_many, d_slept, d_nexts_in, d_broken_in, d_levels_in, d_is_kept, d_count_nights, d_unlike, d__law_some, d__law_same, d__law_rules, d__law_broken, d__law_rows, d__law_unlike, d__law_right]
def Gn : List Str := ["HEIGHT", "RISE", "RUNS", "NIGHTS", "MANY"]
def En : List Str := ["LandError", "InvalidNumber", "InvalidRules"]
def G : List PV := [.int 9, .int 9, .int 5, .int 60, .int 30]
def lawD : LawD := ⟨ds, Gn, En, G, ⟨("_law_cup", none), "_law_cup", "_law_cup", defArgs (top 26), defBody (top 26), defScope (top 26), [], []⟩, ⟨("_law_roll", none), "_law_roll", "_law_roll", defArgs (top 27), defBody (top 27), defScope (top 27), [], []⟩, ⟨("law", none), "law", "law", defArgs (top 35), defBody (top 35), defScope (top 35), [], []⟩, ⟨179, 433, 4201, 2077503307, 263, 31091, 8087, 2147483399, 349, 2147483563, 947⟩, d_law⟩
theorem b_is_whole : BindOk d_is_whole.defD d_is_whole.ps := fun _ _ _ _ _ _ us hl => match us, hl with | [_, _, _], _ => rfl
theorem b_is_tuple_of : BindOk d_is_tuple_of.defD d_is_tuple_of.ps := fun _ _ _ _ _ _ us hl => match us, hl with | [_, _, _], _ => rfl
theorem b_fits_rules : BindOk d_fits_rules.defD d_fits_rules.ps := fun _ _ _ _ _ _ us hl => match us, hl with | [_], _ => rfl
theorem b_need_rules : BindOk d_need_rules.defD d_need_rules.ps := fun _ _ _ _ _ _ us hl => match us, hl with | [_], _ => rfl
theorem b_fits_nights : BindOk d_fits_nights.defD d_fits_nights.ps := fun _ _ _ _ _ _ us hl => match us, hl with | [_], _ => rfl
theorem b_need_nights : BindOk d_need_nights.defD d_need_nights.ps := fun _ _ _ _ _ _ us hl => match us, hl with | [_], _ => rfl
theorem b_need_many : BindOk d_need_many.defD d_need_many.ps := fun _ _ _ _ _ _ us hl => match us, hl with | [_], _ => rfl
theorem b_slept : BindOk d_slept.defD d_slept.ps := fun _ _ _ _ _ _ us hl => match us, hl with | [_, _, _], _ => rfl
theorem b_nexts_in : BindOk d_nexts_in.defD d_nexts_in.ps := fun _ _ _ _ _ _ us hl => match us, hl with | [_, _], _ => rfl
theorem b_broken_in : BindOk d_broken_in.defD d_broken_in.ps := fun _ _ _ _ _ _ us hl => match us, hl with | [_, _], _ => rfl
theorem b_levels_in : BindOk d_levels_in.defD d_levels_in.ps := fun _ _ _ _ _ _ us hl => match us, hl with | [_, _], _ => rfl
theorem b_is_kept : BindOk d_is_kept.defD d_is_kept.ps := fun _ _ _ _ _ _ us hl => match us, hl with | [_, _], _ => rfl
theorem b_count_nights : BindOk d_count_nights.defD d_count_nights.ps := fun _ _ _ _ _ _ us hl => match us, hl with | [_, _], _ => rfl
theorem b_unlike : BindOk d_unlike.defD d_unlike.ps := fun _ _ _ _ _ _ us hl => match us, hl with | [_, _], _ => rfl
theorem b__law_some : BindOk d__law_some.defD d__law_some.ps := fun _ _ _ _ _ _ us hl => match us, hl with | [_, _], _ => rfl
theorem b__law_same : BindOk d__law_same.defD d__law_same.ps := fun _ _ _ _ _ _ us hl => match us, hl with | [_, _], _ => rfl
theorem b__law_rules : BindOk d__law_rules.defD d__law_rules.ps := fun _ _ _ _ _ _ us hl => match us, hl with | [_], _ => rfl
theorem b__law_broken : BindOk d__law_broken.defD d__law_broken.ps := fun _ _ _ _ _ _ us hl => match us, hl with | [_, _], _ => rfl
theorem b__law_rows : BindOk d__law_rows.defD d__law_rows.ps := fun _ _ _ _ _ _ us hl => match us, hl with | [_, _], _ => rfl
theorem b__law_unlike : BindOk d__law_unlike.defD d__law_unlike.ps := fun _ _ _ _ _ _ us hl => match us, hl with | [_, _, _], _ => rfl
theorem b__law_right : BindOk d__law_right.defD d__law_right.ps := fun _ _ _ _ _ _ us hl => match us, hl with | [_], _ => rfl
theorem b_cup : BindOk lawD.cup ["script"] := fun _ _ _ _ _ _ us hl => match us, hl with | [_], _ => rfl
theorem b_roll : BindOk lawD.roll ["cup", "many"] := fun _ _ _ _ _ _ us hl => match us, hl with | [_, _], _ => rfl
theorem b_law : BindOk lawD.law ["script"] := fun _ _ _ _ _ _ us hl => match us, hl with | [_], _ => rfl
theorem b_ds : ∀ d ∈ lawD.ds, BindOk d.defD d.ps := by
  intro d hd
  have hd : d ∈ ds := hd
  simp only [ds, List.mem_cons, List.not_mem_nil, or_false] at hd
  rcases hd with rfl | rfl | rfl | rfl | rfl | rfl | rfl | rfl | rfl | rfl | rfl | rfl | rfl | rfl | rfl | rfl | rfl | rfl | rfl | rfl | rfl
  · exact b_is_whole
  · exact b_is_tuple_of
  · exact b_fits_rules
  · exact b_need_rules
  · exact b_fits_nights
  · exact b_need_nights
  · exact b_need_many
  · exact b_slept
  · exact b_nexts_in
  · exact b_broken_in
  · exact b_levels_in
  · exact b_is_kept
  · exact b_count_nights
  · exact b_unlike
  · exact b__law_some
  · exact b__law_same
  · exact b__law_rules
  · exact b__law_broken
  · exact b__law_rows
  · exact b__law_unlike
  · exact b__law_right
theorem law_ok0 : lawD.ok = true := by decide +kernel
end HG.K35
end
section
set_option maxHeartbeats 400000
namespace HG.L35
open PySem HG.R35 HG.Ni
def D : List Fd := fdsOf K35.lawD.ds
def T (n : Nat) (i : Nat) (vs : List PV) : M PV := call D K35.lawD.G n i vs
theorem t_at {n i : Nat} {fd : Fd} {vs : List PV} (h : D[i]? = some fd) (hl : vs.length = fd.np) : T (n + 1) i vs = endF (denB (T n) K35.lawD.G fd.body (startE fd.ns vs)) := call_at h hl
theorem at0 : D[0]? = some ⟨3, 3, k_is_whole⟩ := by rfl
theorem at1 : D[1]? = some ⟨3, 3, k_is_tuple_of⟩ := by rfl
theorem at2 : D[2]? = some ⟨1, 1, k_fits_rules 0 1 1 0 2⟩ := by rfl
theorem at3 : D[3]? = some ⟨1, 1, k_need_rules 2 2⟩ := by rfl
theorem at4 : D[4]? = some ⟨1, 2, k_fits_nights 0 1 0 3⟩ := by rfl
theorem at5 : D[5]? = some ⟨1, 1, k_need_nights 4 2⟩ := by rfl
theorem at6 : D[6]? = some ⟨1, 1, k_need_many 0 4 1⟩ := by rfl
theorem at7 : D[7]? = some ⟨3, 6, k_slept⟩ := by rfl
theorem at8 : D[8]? = some ⟨2, 5, k_nexts_in 7 0⟩ := by rfl
theorem at9 : D[9]? = some ⟨2, 5, k_broken_in 7⟩ := by rfl
theorem at10 : D[10]? = some ⟨2, 7, k_levels_in 8⟩ := by rfl
theorem at11 : D[11]? = some ⟨2, 2, k_is_kept 3 5 9⟩ := by rfl
theorem at12 : D[12]? = some ⟨2, 4, k_count_nights 3 6 10⟩ := by rfl
theorem at13 : D[13]? = some ⟨2, 10, k_unlike 3 8 7⟩ := by rfl
theorem at14 : D[14]? = some ⟨2, 2, k__law_some⟩ := by rfl
theorem at15 : D[15]? = some ⟨2, 3, k__law_same 15⟩ := by rfl
theorem at16 : D[16]? = some ⟨1, 1, k__law_rules 14⟩ := by rfl
theorem at17 : D[17]? = some ⟨2, 9, k__law_broken⟩ := by rfl
theorem at18 : D[18]? = some ⟨2, 7, k__law_rows 17⟩ := by rfl
theorem at19 : D[19]? = some ⟨3, 6, k__law_unlike 18 17⟩ := by rfl
theorem at20 : D[20]? = some ⟨1, 7, k__law_right 16 14 13 19 15 11 12⟩ := by rfl
theorem g0 : K35.lawD.G[0]? = some (.int 9) := by rfl
theorem g1 : K35.lawD.G[1]? = some (.int 9) := by rfl
theorem g2 : K35.lawD.G[2]? = some (.int 5) := by rfl
theorem g3 : K35.lawD.G[3]? = some (.int 60) := by rfl
theorem g4 : K35.lawD.G[4]? = some (.int 30) := by rfl
theorem t_whole (n : Nat) : S_is_whole (T (n + 1)) 0 := fun v lo hi hv => by
  rw [t_at at0 (by rfl)]
  exact b_is_whole v lo hi hv
theorem t_tuple (n : Nat) : S_is_tuple_of (T (n + 1)) 1 := fun v lo hi hv => by
  rw [t_at at1 (by rfl)]
  exact b_is_tuple_of v lo hi hv
theorem t_fr (n : Nat) : S_fits_rules (T (n + 2)) 2 := fun R l => by
  rw [t_at at2 (by rfl)]
  exact b_fits_rules (t_whole n) (t_tuple n) g1 g0 g2 l
theorem t_nr (n : Nat) : S_need_rules (T (n + 3)) 3 := fun R l => by
  rw [t_at at3 (by rfl)]
  exact b_need_rules (t_fr n) l
theorem t_fn (n : Nat) : S_fits_nights (T (n + 2)) 4 := fun R l => by
  rw [t_at at4 (by rfl)]
  exact b_fits_nights (t_whole n) (t_tuple n) g0 g3 l
theorem t_nn (n : Nat) : S_need_nights (T (n + 3)) 5 := fun R l => by
  rw [t_at at5 (by rfl)]
  exact b_need_nights (t_fn n) l
theorem t_nm (n : Nat) : S_need_many (T (n + 2)) 6 := fun m m1 m2 => by
  rw [t_at at6 (by rfl)]
  exact b_need_many (t_whole n) g4 m1 m2
theorem t_slept (n : Nat) : S_slept (T (n + 1)) 7 := fun R s h => by
  rw [t_at at7 (by rfl)]
  exact b_slept
theorem t_nexts (n : Nat) : S_nexts (T (n + 2)) 8 := fun R s => by
  rw [t_at at8 (by rfl)]
  exact b_nexts (t_slept n) g0
theorem t_broken (n : Nat) : S_broken (T (n + 2)) 9 := fun R s => by
  rw [t_at at9 (by rfl)]
  exact b_broken (t_slept n)
theorem t_levels (n : Nat) : S_levels (T (n + 3)) 10 := fun R m l hm => by
  rw [t_at at10 (by rfl)]
  exact b_levels (t_nexts n) l hm
theorem t_kept (n : Nat) : S_kept (T (n + 4)) 11 := fun R ns l hn => by
  rw [t_at at11 (by rfl)]
  exact b_kept (t_nr n) (t_nn n) (t_broken (n + 1)) l hn
theorem t_count (n : Nat) : S_count (T (n + 4)) 12 := fun R m l m1 m2 => by
  rw [t_at at12 (by rfl)]
  exact b_count (t_nr n) (t_nm (n + 1)) (t_levels n) l m1 m2
theorem t_unlike (n : Nat) : S_unlike (T (n + 4)) 13 := fun R O lr lo Q E q => by
  rw [t_at at13 (by rfl)]
  exact b_unlike (t_nr n) (t_nexts (n + 1)) (t_slept (n + 2)) lr lo q
theorem t_some (n : Nat) : S_some (T (n + 1)) 14 := fun xs Q E h1 h2 q => by
  rw [t_at at14 (by rfl)]
  exact b_some xs Q E h1 h2 q
theorem t_same : ∀ n : Nat, S_same n (T n) 15
  | 0 => fun v hv hd => absurd hd (Nat.not_lt_zero _)
  | n + 1 => fun v hv hd => by
    rw [t_at at15 (by rfl)]
    exact b_same (t_same n) hv hd
theorem t_lrules (n : Nat) : S_lrules (T (n + 2)) 16 := fun Q E q => by
  rw [t_at at16 (by rfl)]
  exact b_lrules (t_some n) q
theorem t_lb (n : Nat) : S_lbroken (T (n + 1)) 17 := fun R ns hl => by
  rw [t_at at17 (by rfl)]
  exact b_lbroken hl
theorem t_lr (n : Nat) : S_lrows (T (n + 2)) 18 := fun R m hm => by
  rw [t_at at18 (by rfl)]
  exact b_lrows (t_lb n) hm
theorem t_lu (n : Nat) : S_lunl (T (n + 3)) 19 := fun R O => by
  rw [t_at at19 (by rfl)]
  exact b_lunl (t_lr n) (t_lb (n + 1))
theorem hk35 (n : Nat) : Hk35 (T (n + 10)) where
  kept := t_kept (n + 6)
  count := t_count (n + 6)
  unlike := t_unlike (n + 6)
  sm := t_some (n + 9)
  same := fun v hv hd => t_same (n + 10) v hv (by omega)
  rules := t_lrules (n + 8)
  lun := t_lu (n + 7)
theorem t_right (n : Nat) : S_right (T (n + 11)) 20 := fun Q E q => by
  rw [t_at at20 (by rfl)]
  exact b_right (hk35 n) q
theorem code_eq : K35.c_law = kLaw35 := by rfl
theorem hlaw0 : endF (denB (T 20) K35.lawD.G K35.c_law (lawE K35.lawD.d)) (fun p => p = .bool true) fun _ => False := by
  rw [code_eq]
  exact b_law35 (hk35 10) (t_right 9) ⟨none, by rfl⟩
end HG.L35
namespace HG.K35
theorem hlaw : endF (denB (call (fdsOf lawD.ds) lawD.G 20) lawD.G lawD.d.code (lawE lawD.d)) (fun p => p = .bool true) fun _ => False := L35.hlaw0
end HG.K35
end
section
set_option maxHeartbeats 0
namespace HG.K35
open PySem PySem.Spec PyProof.Rows L2
abbrev R : PySem.W.OpenRow := PySem.W.OpenLaw.row PySem.Challenge.rw_highground_k35_whole_rules_beside_rules
abbrev hk : PySem.W.Hook := hookH 4 lawD.fa lawD.fn lawD.gl
def ob (s : PySem.W.SharedT) : He.AlD := obsHG 4 lawD.fa lawD.fn lawD.gl (HandSHeadRun.getT s)
theorem ob_eq (s : PySem.W.SharedT) : ob s = hk.obs s.abs := obsHG_eq (HandSHeadRun.getT_eq s)
def loose : List PySem.Str := (["__name__", "LandError", "InvalidNumber", "InvalidRules", "HEIGHT", "is_whole", "is_tuple_of", "RISE", "RUNS", "NIGHTS", "MANY", "fits_rules", "need_rules", "fits_nights", "need_nights", "need_many", "slept", "nexts_in", "broken_in", "levels_in", "is_kept", "count_nights", "unlike", "_law_cup", "_law_roll", "_law_some", "_law_same", "_law_rules", "_law_broken", "_law_rows"] : List PySem.Str) ++ (["_law_unlike", "_law_right"] : List PySem.Str)
theorem run (w : World) : HandSHeadRun.RunEq R (PySem.W.view R.prog [35]) hk ob 6000 loose w := by
  intro os
  kernel_rfl
end HG.K35
end
set_option maxHeartbeats 0
open PySem PySem.W PySem.Calls PyProof.Rows
theorem PySem.Challenge.cw_highground_k35_whole_rules_beside_rules_holds : PySem.Challenge.rw_highground_k35_whole_rules_beside_rules.Holds := by
  w_on; o_law
  refine HandSHeadRun.head_any (r := OpenLaw.row PySem.Challenge.rw_highground_k35_whole_rules_beside_rules) (q := view (OpenLaw.row PySem.Challenge.rw_highground_k35_whole_rules_beside_rules).prog [35]) (H := HG.K35.hk) (ob := HG.K35.ob) (M := 6000) (loose := HG.K35.loose) (d := HandSHeadRun.topDef (OpenLaw.row PySem.Challenge.rw_highground_k35_whole_rules_beside_rules).prog 35) (kwd := []) HG.K35.ob_eq
    (by kernel_rfl) (fun s => by kernel_rfl) HG.K35.run (by kernel_rfl) (by kernel_rfl) (by kernel_rfl) (by rfl) (by first | assumption | decide +kernel) (by decide +kernel) ⟨rfl, rfl, rfl, rfl, rfl, by decide +kernel⟩ ?hw ?hc
  case hw => w_witness2
  case hc =>
    refine L2.walk_ofE (l := PySem.Challenge.rw_highground_k35_whole_rules_beside_rules) (n := 63) (k := 23) (x := "script") (CX := HG.CXany PySem.Challenge.rw_highground_k35_whole_rules_beside_rules.prog) rfl (by decide) (by kernel_rfl) ⟨rfl, by decide, by decide⟩ ?F ?hX
    case F =>
      intro w mg fa h Y G hmg0
      obtain ⟨K, KX, c⟩ := Y
      have hmg : mg ("law" : PySem.Str) = some (.ref fa) := by
        have e : (HandSHeadRun.topDef (OpenLaw.row PySem.Challenge.rw_highground_k35_whole_rules_beside_rules).prog 35).name = ("law" : PySem.Str) := by kernel_rfl
        rw [← e]
        exact hmg0
      obtain ⟨fd, hb, hF⟩ := HG.facts HG.K35.lawD HG.K35.law_ok0 rfl HG.K35.b_ds HG.K35.b_cup HG.K35.b_roll HG.K35.b_law (by decide +kernel) 20 HG.K35.hlaw (P := (PySem.Challenge.rw_highground_k35_whole_rules_beside_rules).prog) (w := w) KX G hmg c
      exact ⟨K, fd, HG.spLaw K, KX, hb, fun H a ns hl _ hS => ⟨a, ns, rfl, hS, by omega, fun _ => rfl⟩, fun base kb nb => HG.fn_any (hF base kb nb)⟩
    case hX => exact HG.any_no
