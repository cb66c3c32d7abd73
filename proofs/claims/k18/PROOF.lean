import PyProof.Rows.All
import Wide.All
import OpenK.AllK
import Wide.FinOn
import KE.SortData
import KE.DataCmp
import KE.DataMinMax
import KE.DataFind
import KE.DatumMoreOrd
import KE.DatumIndex
import KE.DataAny
import HandS.ForMost
import HandS.Walk
import HandS.TupAny
import HandS.Deep
import HandS.Style
import HandS.IsInst
import HandS.Wide
import HandS.Conv
import HandS.Zip
import KE.GoesMore
import HandS.Small
import HandS.DictTup
import HandS.More
import HandS.Set
import HandS.SetFor
import HandS.Strs
import HandS.DictComp
import KE.KItemsList
import PySem.Challenge.RW_stylepairs_k18_documents_with_inheritanc
set_option Elab.async false
set_option linter.all false
set_option maxRecDepth 100000
/-! DatS: sorting tuples some of which are empty; sorted of a tuple. -/
namespace Dat
open PySem PySem.SeqAt PySem.W PySem.Calls PyProof.Rows

section
variable {prog : Program} {w : World} {A : Around} {E : Value → Shared → Prop} {s : Shared}
theorem call_tuple_lt {Q : Value → Shared → Prop} {l b : Addr} {items items2 : Array Value} {e r : Nat → Bool} (hl : s.heap.IsTuple l items) (hb : s.heap.IsTuple b items2)
    (he : ∀ j (h1 : j < items.size) (h2 : j < items2.size), EqAt A.in1 s items[j] items2[j] (e j)) (hr : ∀ j (h1 : j < items.size) (h2 : j < items2.size), e j = false → RcLt A.in1 s items[j] items2[j] (r j))
    (h : Q (.bool (firstLt e r (decide (items.size < items2.size)) (List.range (min items.size items2.size)))) s) : wpAny (model prog w) A (call (.builtin "tuple.__lt__") [.ref l, .ref b]) Q E s := by
  obtain ⟨⟨cls, dd, data, sl⟩, ho, hc, n, hd⟩ := id hl
  obtain ⟨⟨cls2, dd2, data2, sl2⟩, ho2, hc2, n2, hd2⟩ := id hb
  simp only at hc hd hc2 hd2
  subst hc hd hc2 hd2
  exact call_meets F.slot_tuple_lt ⟨_, ho, rfl⟩ F.entry_tuple_lt (F.args_tuple_lt_2 _ _) (SeqAt.tuple_ltAt l b items items2 n n2 dd dd2 sl sl2 e r) ⟨ho, ho2, he, hr, h⟩

/-- one key against another, both of one type (whatever it is but None) -/
theorem oneLt_any {f : Bool} {da db : PyData} {a b : Value} {as bs : List Addr} {Q : Bool → Shared → Prop} (ra : Reads s.heap a da as) (rb : Reads s.heap b db bs) (h : alike da db = true) (hn : da ≠ .none)
    (hu : A.units + min da.depth db.depth < cLine) (hq : Q (dataLt da db) s) : wpAny (model prog w) A (oneLt' f a b) Q E s := by
  cases f with
  | false => exact oneLt_alike (fun z => nomatch z) ra rb h hn hu hq
  | true =>
    by_cases ht : ∃ xs, da = .tuple xs
    · obtain ⟨xs, rfl⟩ := ht
      cases db with
      | tuple ys =>
        have hal : alikeAll xs ys = true := by simpa [alike] using h
        cases ra with
        | @tuple l o vs n _ as₁ h1 h2 h3 h4 =>
          cases rb with
          | @tuple l' o' vs' n' _ bs₁ k1 k2 k3 k4 =>
            have n1 : vs.size = xs.length := by simpa using ReadsAll.length _ _ _ h4
            have n2 : vs'.size = ys.length := by simpa using ReadsAll.length _ _ _ k4
            rw [dataLt_tuple, ← firstLt_toks xs ys hal, ← n1, ← n2] at hq
            rw [oneLt'_eq]
            simp only [if_true]
            refine wpAny_bind (wpAny_cRoomFor (room_here hu) ?_)
            refine wpAny_bind (wpAny_callSpecialIfBound?_slot (T := "tuple") ⟨_, h1, h2⟩ F.slot_tuple_lt (call_tuple_lt (e := pairEq xs ys) (r := fun j => dataLt (xs.getD j .none) (ys.getD j .none)) ⟨_, h1, h2, _, h3⟩ ⟨_, k1, k2, _, k3⟩ (fun j j1 j2 => ?_) (fun j j1 j2 hj => ?_) ?_))
            · have := eqAt_alikeAll xs ys A.in1 s vs.toList vs'.toList _ _ h4 k4 hal (room_in hu) j (by simpa using j1) (by simpa using j2)
              simpa using this
            · have := rcLt_alikeAll xs ys A.in1 s vs.toList vs'.toList _ _ h4 k4 hal (room_in hu) j (by simpa using j1) (by simpa using j2) hj
              simpa using this
            · exact wpAny_truthy_bool hq
      | _ => exact absurd h (by simp [alike])
    · exact oneLt_alike (fun _ xs e => ht ⟨xs, e⟩) ra rb h hn hu hq

def tupFull : PyData → Bool
  | .tuple (_ :: _) => true
  | _ => false
/-- the first items of tuples, where there are any -/
theorem firsts_any : ∀ {vs : List Value} {ds : List PyData} {Q : List (Option Value) → Shared → Prop}, EachIs (fun v d => ∃ as, Reads s.heap v d as) vs ds → (∀ d, d ∈ ds → ∃ xs, d = .tuple xs) →
    (∀ fs, fs.map Option.isSome = ds.map tupFull → Q fs s) → wpAny (model prog w) A (vs.mapM firstOfTuple') Q E s
  | _, _, Q, .nil, _, h => by rw [List.mapM_nil]; exact wpAny_pure (h [] rfl)
  | _, _, Q, .cons (a := v) (b := d) ⟨as, r⟩ t, ht, h => by
    obtain ⟨xs, rfl⟩ := ht d (List.mem_cons_self ..)
    rw [List.mapM_cons]
    refine wpAny_bind ?_
    cases r with
    | @tuple a o vs' n _ _ ho hc hd hr =>
      rw [kas_first_eq]
      refine wpAny_bind (Looks.here (show Looks (model prog w) s.heap (typeOf (.ref a)) o.cls from (Looks.ld ho).andThen .now) ?_)
      rw [hc, if_neg (by first | decide | simp)]
      refine wpAny_bind (listItems_at ho hd (wpAny_pure ?_))
      refine wpAny_bind (firsts_any t (fun d hd => ht d (List.mem_cons_of_mem _ hd)) fun fs hf => wpAny_pure (h _ ?_))
      rw [List.map_cons, List.map_cons, hf]
      congr 1
      have hl : vs'.size = xs.length := by simpa using ReadsAll.length _ _ _ hr
      cases xs with
      | nil =>
        have e : vs'[0]? = none := Array.getElem?_eq_none (by rw [hl]; exact Nat.zero_le _)
        rw [e]
        rfl
      | cons x xs =>
        have e : ∃ v, vs'[0]? = some v := ⟨_, Array.getElem?_eq_getElem (by rw [hl]; exact Nat.zero_lt_succ _)⟩
        obtain ⟨v, e⟩ := e
        rw [e]
        rfl
theorem map_head {α β γ : Type} {f : α → γ} {g : β → γ} : ∀ {xs : List α} {ys : List β}, xs.map f = ys.map g → (xs[0]?).map f = (ys[0]?).map g
  | [], [], _ => rfl
  | [], _ :: _, h => by simp at h
  | _ :: _, [], h => by simp at h
  | x :: xs, y :: ys, h => by
    simp only [List.map_cons, List.cons.injEq] at h
    simp [h.1]
/-- which kind sorting takes for tuples, not all of them full -/
theorem kind_some {vs : List Value} {ds : List PyData} {Q : SortKind → Shared → Prop} (e : EachIs (fun v d => ∃ as, Reads s.heap v d as) vs ds) (ht : ∀ d, d ∈ ds → ∃ xs, d = .tuple xs) (hne : ds.all tupFull = false)
    (h : Q (if (ds[0]?.map tupFull) = some true then general' else oneType') s) : wpAny (model prog w) A (keyKind' vs.toArray) Q E s := by
  rw [keyKind'_eq, List.mapM_toArray, map_eq_pure_bind]
  refine wpAny_bind (wpAny_bind (firsts_any e ht fun fs hf => wpAny_pure ?_))
  have hall : (fs.toArray.all fun x => x.isSome) = false := by
    have q : (fs.map Option.isSome).all id = ds.all tupFull := by rw [hf, List.all_map]; rfl
    rw [List.all_map] at q
    simp only [List.all_toArray]
    rw [← hne, ← q]
    rfl
  rw [if_neg (by rw [hall]; exact Bool.false_ne_true)]
  have h0 : ((fs.toArray[0]?.bind id).isSome) = decide ((ds[0]?.map tupFull) = some true) := by
    have q := map_head hf
    rw [← q]
    simp only [List.getElem?_toArray]
    cases fs[0]? with
    | none => rfl
    | some x => cases x <;> rfl
  by_cases hd : (ds[0]?.map tupFull) = some true
  · rw [if_pos hd] at h
    rw [h0, decide_eq_true hd, if_pos rfl]
    exact wpAny_pure h
  · rw [if_neg hd] at h
    rw [h0, decide_eq_false hd, if_neg Bool.false_ne_true]
    cases vs with
    | nil =>
      cases e
      simp at hne
    | cons v₁ rest =>
      have hT : ∀ v ∈ (v₁ :: rest), Looks (model prog w) s.heap (typeOf v) (Value.type "tuple") := fun v hv => by
        obtain ⟨d, hd, as, r⟩ := e.left v hv
        obtain ⟨xs, rfl⟩ := ht d hd
        exact looks_reads r
      rw [oneTypeOnly'_eq, List.mapM_toArray, map_eq_pure_bind]
      refine wpAny_bind (wpAny_bind (wpAny_bind (kas_mapM (r := Value.type "tuple") _ (fun v hv Q' hq => (hT v hv).here hq) (wpAny_pure ?_))))
      have hall : ((List.map (fun _ => Value.type "tuple") (v₁ :: rest)).toArray.all fun x => x == Value.type "tuple") = true := by
        simp only [List.all_toArray, List.all_map, List.all_eq_true]
        intro _ _
        rfl
      have h0 : (List.map (fun _ => Value.type "tuple") (v₁ :: rest)).toArray[0]? = some (Value.type "tuple") := by simp
      rw [h0]
      simp only [hall, if_true]
      exact wpAny_pure (wpAny_pure h)
theorem keyLt_general (x y : Value) : keyLt' general' x y = oneLt' false x y := rfl

/-- values that read as alike data (none of them None) can be sorted -/
theorem SortsAt.any {vs : List Value} {ds : List PyData} (e : EachIs (fun v d => ∃ as, Reads s.heap v d as) vs ds) (hal : AllAlike ds) (hn : ∀ d, d ∈ ds → d ≠ .none) (hu : ∀ d, d ∈ ds → A.units + d.depth < cLine) : SortsAt prog w A s (dataKind s.heap ds) vs := by
  by_cases h1 : ∀ d, d ∈ ds → ∀ xs, d ≠ .tuple xs
  · exact SortsAt.data e hal (.inr fun d hd => ⟨hn d hd, h1 d hd⟩) hu
  · have ht : ∀ d, d ∈ ds → ∃ xs, d = .tuple xs := by
      have ⟨d0, hd0, xs0, e0⟩ : ∃ d, d ∈ ds ∧ ∃ xs, d = .tuple xs := by
        apply Classical.byContradiction
        intro q
        exact h1 fun d hd xs e => q ⟨d, hd, xs, e⟩
      intro d hd
      have q := hal d hd d0 hd0
      rw [e0] at q
      cases d with
      | tuple xs => exact ⟨xs, rfl⟩
      | _ => exact absurd q (by simp [alike])
    by_cases h2 : ds.all tupFull = true
    · refine SortsAt.data e hal (.inl fun d hd => ?_) hu
      obtain ⟨xs, rfl⟩ := ht d hd
      have q := List.all_eq_true.mp h2 _ hd
      cases xs with
      | nil => cases q
      | cons x r => exact ⟨x, r, rfl⟩
    · have h3 : ds.all tupFull = false := by simpa using h2
      refine ⟨fun v hv => ?_, (if (ds[0]?.map tupFull) = some true then general' else oneType'), ?_, fun h2 E Q hq => kind_some e ht h3 hq⟩
      · obtain ⟨d, hd, as, r⟩ := e.left v hv
        exact ⟨_, dataKind_some hal hd r⟩
      · intro E x y a b Q ha hb hq
        obtain ⟨d, as, hd, ra, rfl⟩ := dataKind_inv ha
        obtain ⟨d', as', hd', rb, rfl⟩ := dataKind_inv hb
        have hr : A.units + min d.depth d'.depth < cLine := Nat.lt_of_le_of_lt (Nat.add_le_add_left (Nat.min_le_left _ _) _) (hu d hd)
        split
        · rw [keyLt_general]
          exact oneLt_any ra rb (hal d hd d' hd') (hn d hd) hr hq
        · rw [keyLt'_oneType]
          exact oneLt_any ra rb (hal d hd d' hd') (hn d hd) hr hq

theorem collect_tuple {l : Addr} {vs : List Value} {Q : List Value → Shared → Prop} (hl : s.heap.IsTuple l vs.toArray)
    (h : Q vs { s with heap := (s.heap.push (seqObj "list" #[] 0)).update s.heap.objs.size (Obj.mapSeq (· ++ vs.toArray)) }) (hsz : vs.length ≤ sizeLine) :
    wpAny (model prog w) A (collect (.ref l)) Q E s := by
  obtain ⟨o, ho, hc, n, hd⟩ := id hl
  unfold collect
  refine wpAny_bind (wpAny_runValue (codeAny_builtin entry_proto_collect' ?_))
  show wpAny _ _ (do again (.builtin "list.__iadd__" ⟨[← newList [], .ref l], []⟩)) _ _ s
  refine wpAny_bind (wpAny_newList (wpAny_pure ⟨Code.quiet_builtin _ (by decide +kernel), codeAny_builtin entry_list_iadd' ?_⟩))
  show wpAny _ _ (Builtin.List.listExtendWith (.ref s.heap.objs.size) (.ref l) (.ref s.heap.objs.size)) _ _ { s with heap := s.heap.push (seqObj "list" #[] 0) }
  unfold Builtin.List.listExtendWith
  have ho' : (s.heap.push (seqObj "list" #[] 0)).get? l = some o := Heap.get?_push_of_some _ ho
  refine wpAny_bind (wpAny_typeOf (T := "tuple") ⟨o, ho', hc⟩ ?_)
  have ht : (Value.type "tuple" == Value.type "tuple") = true := by rfl
  rw [if_pos (by rw [ht]; simp)]
  refine wpAny_bind (listItems_at ho' hd ?_)
  refine wpAny_bind (listItems_at (xs := #[]) (n := 0) (Heap.get?_push_size _ rfl) rfl ?_)
  rw [if_neg (by simp)]
  refine wpAny_bind (listUpdate_at (xs := #[]) (n := 0) (Heap.get?_push_size _ rfl) rfl ?_ (Nat.zero_le _) (by show (#[] ++ vs.toArray).size ≤ sizeLine + 1; simp only [Array.size_append, List.size_toArray, List.length_nil]; omega))
  refine wpAny_pure ?_
  show wpAny (model prog w) A (do
      let o ← load s.heap.objs.size
      match o.data with
      | .seq xs _ => pure xs.toList
      | _ => unsupported "internal:collect") Q E { s with heap := (s.heap.push (seqObj "list" #[] 0)).update s.heap.objs.size (Obj.mapSeq (· ++ vs.toArray)) }
  refine wpAny_bind (wpAny_load (get?_update_seq (Heap.get?_push_size _ rfl) _) ?_)
  show wpAny _ _ (pure ((#[] : Array Value) ++ vs.toArray).toList) Q E _
  rw [show ((#[] : Array Value) ++ vs.toArray).toList = vs by simp]
  exact wpAny_pure h
/-- sorted(t) is list.sort on a new list of t's items -/
theorem sorted_of_tuple {l : Addr} {vs : List Value} {Q : Value → Shared → Prop} (hl : s.heap.IsTuple l vs.toArray) (hL : vs.length ≤ sizeLine)
    (body : ∀ E' : Value → Shared → Prop, wpAny (model prog w) A.in1.in1 (Builtin.«list.sort» ⟨[.ref (s.heap.objs.size + 1)], []⟩) (fun f s' => f = .done (.ret .none) ∧ Q (.ref (s.heap.objs.size + 1)) s') E' { s with heap := copyHeap s.heap vs }) :
    wpAny (model prog w) A (call (.builtin "sorted") [.ref l]) Q E s := by
  refine call_function_entry_kw kind_sorted plain_sorted entry_sorted (args_sorted1 _) ?_
  unfold Builtin.«sorted»
  refine wpAny_bind (m := checkCount "sorted" 1 1 _) (wpAny_pure ?_)
  refine wpAny_bind (collect_tuple hl ?_ hL)
  refine wpAny_bind (wpAny_newList ?_ hL)
  have hsz : ((s.heap.push (seqObj "list" #[] 0)).update s.heap.objs.size (Obj.mapSeq (· ++ vs.toArray))).objs.size = s.heap.objs.size + 1 := by
    rw [Heap.size_update, size_push']
  show wpAny _ _ _ _ _ { s with heap := copyHeap s.heap vs }
  rw [hsz]
  refine wpAny_bind (wpAny_holding (wpAny_call_entry_kw slot_list_sort ⟨_, copyHeap_at s.heap vs, rfl⟩ entry_list_sort ?body (args_list_sort _)))
  case body =>
    show wpAny (model prog w) A.in1.in1 (Builtin.«list.sort» ⟨[.ref (s.heap.objs.size + 1)], []⟩) _ _ _
    refine wpAny_mono (body _) (fun f s' hf => ?_) fun _ _ e => e
    obtain ⟨rfl, hq⟩ := hf
    exact ⟨_, rfl, wpAny_pure ⟨_, rfl, hq⟩⟩

/-- the least comes first; equal ones keep their turns -/
def dLe (a b : PyData) : Bool := !dataLt b a
theorem dLe_eq : dataLe false (id : PyData → PyData) = dLe := by
  funext a b
  rfl
theorem reads_each {h : Heap} : ∀ {vs : List Value} {ds : List PyData} {as : List Addr}, ReadsAll h vs ds as → EachIs (fun v d => ∃ as, Reads h v d as) vs ds
  | _, [], _, r => by
    cases r
    exact .nil
  | _, b :: bs, _, r => by
    cases r with
    | cons h1 h2 => exact .cons ⟨_, h1⟩ (reads_each h2)
/-- sorted(xs), xs a list or a tuple of alike data: R is what the items are known to stand for -/
theorem sorted_any {l : Addr} {vs : List Value} {ds : List PyData} {R : Value → PyData → Prop} {Q : Value → Shared → Prop} (hl : s.heap.IsList l vs.toArray ∨ s.heap.IsTuple l vs.toArray) (e : EachIs R vs ds)
    (er : EachIs (fun v d => ∃ as, Reads s.heap v d as) vs ds) (hal : AllAlike ds) (hn : ∀ d, d ∈ ds → d ≠ .none) (hL : ds.length ≤ sizeLine) (hu : ∀ d, d ∈ ds → A.units + 2 + d.depth < cLine)
    (h : ∀ out, out.length = ds.length → EachIs R out (ds.mergeSort dLe) → Q (.ref (s.heap.objs.size + 1)) { s with heap := sortedAll s.heap vs (List.toArray out) }) :
    wpAny (model prog w) A (call (.builtin "sorted") [.ref l]) Q E s := by
  have er' : EachIs (fun v d => ∃ as, Reads (sortingHeap (copyHeap s.heap vs) (s.heap.objs.size + 1) vs) v d as) vs ds := er.mono fun _ _ ⟨as, r⟩ => ⟨as, PyProof.Rows.Reads.keeps (fun _ _ => sorting_copy_old) r⟩
  have hlen := e.length
  have S : SortsAt prog w A.in1.in1 { s with heap := sortingHeap (copyHeap s.heap vs) (s.heap.objs.size + 1) vs } (dataKind (sortingHeap (copyHeap s.heap vs) (s.heap.objs.size + 1) vs) ds) vs :=
    SortsAt.any (s := { s with heap := sortingHeap (copyHeap s.heap vs) (s.heap.objs.size + 1) vs }) er' hal hn hu
  have hout : Q (.ref (s.heap.objs.size + 1)) { s with heap := sortedAll s.heap vs (sortVals (dataKind (sortingHeap (copyHeap s.heap vs) (s.heap.objs.size + 1) vs) ds) false vs vs).toArray } := by
    refine h _ (by rw [sortVals_length false rfl]; exact e.length) ?_
    have q := sortVals_each (κ := dataKind (sortingHeap (copyHeap s.heap vs) (s.heap.objs.size + 1) vs) ds) (rev := false) (fun b => keyToks b) e (each_keys hal er')
    exact q
  rcases hl with hl | hl
  · exact sorted_vals hl S (by rw [hlen]; exact hL) hout
  · exact sorted_of_tuple hl (by rw [hlen]; exact hL) fun _ => list_sort_vals (s := { s with heap := copyHeap s.heap vs }) (copyHeap_at s.heap vs) S (by rw [hlen]; exact hL) ⟨rfl, hout⟩
end
end Dat

/-! DatA: plain data in the heap, apart from what may change (hot), and a state of slots told by data. -/
namespace Dat
open PySem PySem.Spec PyProof.Rows L2

inductive Kind where
  | tape (L : Addr)
  | intl
  | memo (f : List Nat → Int) (dom : List (List Nat))
abbrev St := L2.St
/-- the hot objects' kinds; a tape's list of numbers is one of them -/
structure Gam where
  f : Addr → Option Kind
  wf : ∀ a L, f a = some (.tape L) → f L = some .intl
instance : CoeFun Gam (fun _ => Addr → Option Kind) := ⟨Gam.f⟩
abbrev Hot := Addr → Prop

mutual
/-- the value v is the datum d, none of its objects hot -/
inductive DA (K : PySem.W.Frag) (A : Hot) (H : Hp) : V → PyData → Prop
  | non : DA K A H .non .none
  | bl (b : Bool) : DA K A H (.bl b) (.bool b)
  | int (i : Int) : DA K A H (.int i) (.int i)
  | str (x : Str) : DA K A H (.str x) (.str x)
  | lst {a : Addr} {xs : List V} {ds : List PyData} : ¬ A a → H a = some (.lst xs) → DAs K A H xs ds → DA K A H (.ref a) (.list ds)
  | tup {a : Addr} {xs : List V} {ds : List PyData} : ¬ A a → H a = some (.tup xs) → DAs K A H xs ds → DA K A H (.ref a) (.tuple ds)
inductive DAs (K : PySem.W.Frag) (A : Hot) (H : Hp) : List V → List PyData → Prop
  | nil : DAs K A H [] []
  | cons {v : V} {vs : List V} {d : PyData} {ds : List PyData} : DA K A H v d → DAs K A H vs ds → DAs K A H (v :: vs) (d :: ds)
end

/-- what is not hot stands as it stood -/
def ExA (A : Hot) (H H' : Hp) : Prop := ∀ a o, ¬ A a → H a = some o → H' a = some o
theorem ExA.refl (A : Hot) (H : Hp) : ExA A H H := fun _ _ _ h => h
theorem ExA.trans {A : Hot} {H H1 H2 : Hp} (a : ExA A H H1) (b : ExA A H1 H2) : ExA A H H2 := fun x o n h => b x o n (a x o n h)
theorem ExA.weak {A B : Hot} {H H' : Hp} (h : ExA A H H') (w : ∀ a, A a → B a) : ExA B H H' := fun a o n e => h a o (fun z => n (w a z)) e
theorem ExA.new {A : Hot} {H : Hp} {p : Addr} {o : HO} (h : H p = none) : ExA A H (upd H p o) := fun a u _ e => by
  rw [upd_ne (ne_of_none e h)]
  exact e
theorem ExA.hot {A : Hot} {H : Hp} {p : Addr} {o : HO} (h : A p) : ExA A H (upd H p o) := fun a u n e => by
  rw [upd_ne (fun z => n (by rw [z]; exact h))]
  exact e
abbrev Gh (Γ : Gam) : Hot := fun a => Γ a ≠ none
abbrev Ext (Γ : Gam) (H H' : Hp) : Prop := ExA (Gh Γ) H H'

section
variable {K : PySem.W.Frag} {A B : Hot} {H H' : Hp}
theorem exA_rd {a : Addr} {u : HO} (e : ExA A H H') (n : ¬ A a) (h : Rd H a u) : Rd H' a u := by
  rcases h with h | ⟨o, h⟩
  · exact Or.inl (e a _ n h)
  · exact Or.inr ⟨o, e a _ n h⟩
theorem exA_l {a : Addr} {xs : List V} (e : ExA A H H') (n : ¬ A a) (h : SqL K H a xs) : SqL K H' a xs := by
  rcases h with h | h
  · exact Or.inl (exA_rd e n h)
  · exact Or.inr h
theorem exA_t {a : Addr} {xs : List V} (e : ExA A H H') (n : ¬ A a) (h : SqT K H a xs) : SqT K H' a xs := by
  rcases h with h | h
  · exact Or.inl (exA_rd e n h)
  · exact Or.inr h
mutual
theorem DA.ext (e : ExA A H H') : ∀ {d : PyData} {v : V}, DA K A H v d → DA K A H' v d
  | .none, _, h => by cases h; exact .non
  | .bool _, _, h => by cases h; exact .bl _
  | .int _, _, h => by cases h; exact .int _
  | .str _, _, h => by cases h; exact .str _
  | .list ds, _, h => by
    cases h with
    | lst n s hs => exact .lst n (e _ _ n s) (DAs.ext e hs)
  | .tuple ds, _, h => by
    cases h with
    | tup n s hs => exact .tup n (e _ _ n s) (DAs.ext e hs)
  | .dict _, _, h => by cases h
theorem DAs.ext (e : ExA A H H') : ∀ {ds : List PyData} {vs : List V}, DAs K A H vs ds → DAs K A H' vs ds
  | [], _, h => by cases h; exact .nil
  | d :: ds, _, h => by
    cases h with
    | cons h1 h2 => exact .cons (DA.ext e h1) (DAs.ext e h2)
end
mutual
theorem DA.weak (w : ∀ a, A a → B a) : ∀ {d : PyData} {v : V}, DA K B H v d → DA K A H v d
  | .none, _, h => by cases h; exact .non
  | .bool _, _, h => by cases h; exact .bl _
  | .int _, _, h => by cases h; exact .int _
  | .str _, _, h => by cases h; exact .str _
  | .list ds, _, h => by
    cases h with
    | lst n s hs => exact .lst (fun z => n (w _ z)) s (DAs.weak w hs)
  | .tuple ds, _, h => by
    cases h with
    | tup n s hs => exact .tup (fun z => n (w _ z)) s (DAs.weak w hs)
  | .dict _, _, h => by cases h
theorem DAs.weak (w : ∀ a, A a → B a) : ∀ {ds : List PyData} {vs : List V}, DAs K B H vs ds → DAs K A H vs ds
  | [], _, h => by cases h; exact .nil
  | d :: ds, _, h => by
    cases h with
    | cons h1 h2 => exact .cons (DA.weak w h1) (DAs.weak w h2)
end
mutual
theorem DA.dp : ∀ {d : PyData} {v : V}, DA K A H v d → Dp K H v d
  | .none, _, h => by cases h; exact .non
  | .bool _, _, h => by cases h; exact .bl _
  | .int _, _, h => by cases h; exact .int _
  | .str _, _, h => by cases h; exact .str _
  | .list ds, _, h => by
    cases h with
    | lst n s hs => exact .lst (SqL.of s) (DAs.dp hs)
  | .tuple ds, _, h => by
    cases h with
    | tup n s hs => exact .tup (SqT.of s) (DAs.dp hs)
  | .dict _, _, h => by cases h
theorem DAs.dp : ∀ {ds : List PyData} {vs : List V}, DAs K A H vs ds → DpAll K H vs ds
  | [], _, h => by cases h; exact .nil
  | d :: ds, _, h => by
    cases h with
    | cons h1 h2 => exact .cons (DA.dp h1) (DAs.dp h2)
end
theorem DAs.length : ∀ {vs : List V} {ds : List PyData}, DAs K A H vs ds → vs.length = ds.length
  | _, [], h => by cases h; rfl
  | _, _ :: ds, h => by
    cases h with
    | cons _ t => rw [List.length_cons, List.length_cons, DAs.length t]
theorem DAs.at : ∀ {vs : List V} {ds : List PyData} {i : Nat} {d : PyData}, DAs K A H vs ds → ds[i]? = some d → ∃ v, vs[i]? = some v ∧ DA K A H v d
  | _, [], i, d, _, e => by simp at e
  | _, d0 :: ds, 0, d, h, e => by
    cases h with
    | cons h1 _ => simp at e; subst e; exact ⟨_, rfl, h1⟩
  | _, d0 :: ds, i + 1, d, h, e => by
    cases h with
    | cons _ t =>
      obtain ⟨v, h1, h2⟩ := DAs.at (i := i) (d := d) t (by simpa using e)
      exact ⟨v, by simpa using h1, h2⟩
theorem DAs.at' : ∀ {vs : List V} {ds : List PyData} {i : Nat} {v : V}, DAs K A H vs ds → vs[i]? = some v → ∃ d, ds[i]? = some d ∧ DA K A H v d
  | [], _, i, v, _, e => by simp at e
  | v0 :: vs, ds, 0, v, h, e => by
    cases h with
    | cons h1 _ => simp at e; subst e; exact ⟨_, rfl, h1⟩
  | v0 :: vs, ds, i + 1, v, h, e => by
    cases h with
    | cons _ t =>
      obtain ⟨d, h1, h2⟩ := DAs.at' (i := i) (v := v) t (by simpa using e)
      exact ⟨d, by simpa using h1, h2⟩
theorem DAs.of : ∀ {vs : List V} {ds : List PyData}, vs.length = ds.length → (∀ (i : Nat) (v : V) (d : PyData), vs[i]? = some v → ds[i]? = some d → DA K A H v d) → DAs K A H vs ds
  | [], [], _, _ => .nil
  | [], _ :: _, e, _ => by simp at e
  | _ :: _, [], e, _ => by simp at e
  | v :: vs, d :: ds, e, h => .cons (h 0 v d rfl rfl) (DAs.of (by simpa using e) fun i v' d' h1 h2 => h (i + 1) v' d' (by simpa using h1) (by simpa using h2))
theorem DAs.append : ∀ {vs ws : List V} {ds es : List PyData}, DAs K A H vs ds → DAs K A H ws es → DAs K A H (vs ++ ws) (ds ++ es)
  | [], _, ds, _, h, t => by cases h; exact t
  | v :: vs, _, ds, _, h, t => by
    cases h with
    | cons h1 h2 => exact .cons h1 (DAs.append h2 t)
theorem DAs.take : ∀ {vs : List V} {ds : List PyData} (n : Nat), DAs K A H vs ds → DAs K A H (vs.take n) (ds.take n)
  | _, _, 0, _ => .nil
  | [], _, n + 1, h => by cases h; exact .nil
  | v :: vs, _, n + 1, h => by
    cases h with
    | cons h1 h2 => exact .cons h1 (DAs.take n h2)
theorem DAs.drop : ∀ {vs : List V} {ds : List PyData} (n : Nat), DAs K A H vs ds → DAs K A H (vs.drop n) (ds.drop n)
  | _, _, 0, h => h
  | [], _, n + 1, h => by cases h; exact .nil
  | v :: vs, _, n + 1, h => by
    cases h with
    | cons h1 h2 => exact DAs.drop n h2
theorem DAs.reverse {vs : List V} {ds : List PyData} (h : DAs K A H vs ds) : DAs K A H vs.reverse ds.reverse := by
  have el := h.length
  refine DAs.of (by simp [el]) fun i v d h1 h2 => ?_
  have hi : i < vs.length := by
    have := (List.getElem?_eq_some_iff.mp h1).1
    simpa using this
  rw [List.getElem?_reverse hi] at h1
  rw [List.getElem?_reverse (by omega)] at h2
  obtain ⟨d', e1, e2⟩ := h.at' h1
  rw [el, h2] at e1
  cases e1
  exact e2
theorem DAs.set {v : V} {d : PyData} (hd : DA K A H v d) : ∀ {vs : List V} {ds : List PyData} (i : Nat), DAs K A H vs ds → DAs K A H (vs.set i v) (ds.set i d)
  | [], _, _, h => by cases h; exact .nil
  | _ :: _, _, 0, h => by
    cases h with
    | cons _ h2 => exact .cons hd h2
  | _ :: _, _, i + 1, h => by
    cases h with
    | cons h1 h2 => exact .cons h1 (DAs.set hd i h2)
theorem DAs.eraseIdx : ∀ {vs : List V} {ds : List PyData} (i : Nat), DAs K A H vs ds → DAs K A H (vs.eraseIdx i) (ds.eraseIdx i)
  | [], _, _, h => by cases h; exact .nil
  | _ :: _, _, 0, h => by
    cases h with
    | cons _ h2 => exact h2
  | _ :: _, _, i + 1, h => by
    cases h with
    | cons h1 h2 => exact .cons h1 (DAs.eraseIdx i h2)
theorem DAs.dropLast {vs : List V} {ds : List PyData} (h : DAs K A H vs ds) : DAs K A H vs.dropLast ds.dropLast := by
  rw [List.dropLast_eq_take, List.dropLast_eq_take, h.length]
  exact h.take _
theorem DAs.cut {vs : List V} {ds : List PyData} (lo hi : Option Int) (h : DAs K A H vs ds) :
    DAs K A H (cutV vs lo hi) ((ds.drop (HT.sIx ds.length 0 lo)).take (HT.sIx ds.length ds.length hi - HT.sIx ds.length 0 lo)) := by
  unfold cutV
  rw [h.length]
  exact (h.drop _).take _
theorem DAs.intsE : ∀ {vs : List V} {ns : List Int}, DAs K A H vs (ns.map PyData.int) → vs = ns.map V.int
  | _, [], h => by cases h; rfl
  | _, n :: ns, h => by
    cases h with
    | cons h1 h2 => cases h1; rw [List.map_cons, DAs.intsE h2]
theorem DAs.ofInts : ∀ (ns : List Int), DAs K A H (ns.map V.int) (ns.map PyData.int)
  | [] => .nil
  | n :: ns => .cons (.int n) (DAs.ofInts ns)
theorem DAs.strsE : ∀ {vs : List V} {xs : List Str}, DAs K A H vs (xs.map PyData.str) → vs = xs.map V.str
  | _, [], h => by cases h; rfl
  | _, n :: ns, h => by
    cases h with
    | cons h1 h2 => cases h1; rw [List.map_cons, DAs.strsE h2]
theorem DAs.ofStrs : ∀ (xs : List Str), DAs K A H (xs.map V.str) (xs.map PyData.str)
  | [] => .nil
  | n :: ns => .cons (.str n) (DAs.ofStrs ns)
mutual
theorem DA.plain : ∀ {d : PyData} {v : V}, DA K A H v d → d.plain = true
  | .none, _, _ => rfl
  | .bool _, _, _ => rfl
  | .int _, _, _ => rfl
  | .str _, _, h => rfl
  | .list ds, _, h => by
    cases h with
    | lst n s hs => exact DAs.plain hs
  | .tuple ds, _, h => by
    cases h with
    | tup n s hs => exact DAs.plain hs
  | .dict _, _, h => by cases h
theorem DAs.plain : ∀ {ds : List PyData} {vs : List V}, DAs K A H vs ds → PyData.plainAll ds = true
  | [], _, _ => rfl
  | d :: ds, _, h => by
    cases h with
    | cons h1 h2 =>
      rw [PyData.plainAll, DA.plain h1, DAs.plain h2]
      rfl
end
theorem DAs.bools : ∀ {vs : List V} {bs : List Bool}, DAs K A H vs (bs.map PyData.bool) → vs = bs.map V.bl
  | _, [], h => by cases h; rfl
  | _, n :: ns, h => by
    cases h with
    | cons h1 h2 => cases h1; rw [List.map_cons, DAs.bools h2]
end

/-! ### what changes: kinds, kept by every step -/
def KOk (H : Hp) (a : Addr) : Kind → Prop
  | .tape L => ∃ (i s : Int), H a = some (.lst [.ref L, .int i, .int s]) ∧ 0 ≤ i ∧ 0 ≤ s
  | .intl => ∃ ns : List Int, H a = some (.lst (ns.map V.int))
  | .memo f dom => ∃ kvs : List (List Key × V), H a = some (.dT kvs) ∧ (kvs.map (·.1)).Nodup ∧ ∀ p ∈ kvs, ∃ pl : List Nat, pl ∈ dom ∧ p.1 = pl.map (fun n : Nat => (Sum.inl (n : Int) : Key)) ∧ p.2 = .int (f pl)
theorem KOk.there {H : Hp} {a : Addr} {k : Kind} (h : KOk H a k) : H a ≠ none := by
  cases k with
  | tape L => obtain ⟨_, _, e, _⟩ := h; rw [e]; simp
  | intl => obtain ⟨_, e⟩ := h; rw [e]; simp
  | memo f dom => obtain ⟨_, e, _⟩ := h; rw [e]; simp
theorem KOk.ntup {H : Hp} {a : Addr} {k : Kind} (h : KOk H a k) (ts : List V) : H a ≠ some (.tup ts) := by
  cases k with
  | tape L => obtain ⟨_, _, e, _⟩ := h; rw [e]; simp
  | intl => obtain ⟨_, e⟩ := h; rw [e]; simp
  | memo f dom => obtain ⟨_, e, _⟩ := h; rw [e]; simp
theorem KOk.same {H H' : Hp} {a : Addr} {k : Kind} (h : KOk H a k) (e : H' a = H a) : KOk H' a k := by
  cases k with
  | tape L => obtain ⟨i, s, e1, e3⟩ := h; exact ⟨i, s, e.trans e1, e3⟩
  | intl => obtain ⟨ns, e1⟩ := h; exact ⟨ns, e.trans e1⟩
  | memo f dom => obtain ⟨kvs, e1, e2⟩ := h; exact ⟨kvs, e.trans e1, e2⟩
def GOk (Γ : Gam) (H : Hp) : Prop := ∀ a k, Γ a = some k → KOk H a k
theorem GOk.same {Γ : Gam} {H H' : Hp} (g : GOk Γ H) (e : ∀ a, Γ a ≠ none → H' a = H a) : GOk Γ H' := fun a k h => (g a k h).same (e a (by rw [h]; simp))
theorem GOk.new {Γ : Gam} {H : Hp} {p : Addr} {o : HO} (g : GOk Γ H) (h : H p = none) : GOk Γ (upd H p o) := g.same fun a ha => by
  refine upd_ne fun z => ?_
  subst z
  cases q : Γ a with
  | none => exact ha q
  | some k => exact (g a k q).there h
theorem GOk.put {Γ : Gam} {H : Hp} {p : Addr} {o : HO} (g : GOk Γ H) (h : Γ p = none) : GOk Γ (upd H p o) := g.same fun a ha => upd_ne fun z => ha (z ▸ h)

/-! ### a state of slots told by data -/
inductive Cell where
  | d (x : PyData)
  | obj (a : Addr) (k : Kind)
  | lst (xs : List PyData)
  | dT (kvs : List (List Key × PyData))
  | dK (kvs : List (Key × PyData))
abbrev Env := List (Option Cell)

def CellOk (K : PySem.W.Frag) (Γ : Gam) (A : Hot) (H : Hp) (v : V) : Cell → Prop
  | .d x => DA K A H v x
  | .obj a k => v = .ref a ∧ Γ a = some k
  | .lst xs => ∃ (a : Addr) (vs : List V), v = .ref a ∧ A a ∧ Γ a = none ∧ H a = some (.lst vs) ∧ DAs K A H vs xs
  | .dT kvs => ∃ (a : Addr) (ws : List (List Key × V)), v = .ref a ∧ A a ∧ Γ a = none ∧ H a = some (.dT ws) ∧ ws.map (·.1) = kvs.map (·.1) ∧ DAs K A H (ws.map (·.2)) (kvs.map (·.2))
  | .dK kvs => ∃ (a : Addr) (ws : List (Key × V)), v = .ref a ∧ A a ∧ Γ a = none ∧ H a = some (.dK ws) ∧ ws.map (·.1) = kvs.map (·.1) ∧ DAs K A H (ws.map (·.2)) (kvs.map (·.2))
theorem CellOk.ext {K : PySem.W.Frag} {Γ : Gam} {A : Hot} {H H' : Hp} {v : V} {c : Cell} (gd : ∀ a, Γ a ≠ none → A a) (e : Ext Γ H H') (h : CellOk K Γ A H v c) : CellOk K Γ A H' v c := by
  have eA : ExA A H H' := e.weak gd
  cases c with
  | d x => exact DA.ext eA h
  | obj a k => exact h
  | lst xs => obtain ⟨a, vs, h1, h2, h3, h4, h5⟩ := h; exact ⟨a, vs, h1, h2, h3, e a _ (by simp [h3]) h4, h5.ext eA⟩
  | dT kvs => obtain ⟨a, vs, h1, h2, h3, h4, h5, h6⟩ := h; exact ⟨a, vs, h1, h2, h3, e a _ (by simp [h3]) h4, h5, h6.ext eA⟩
  | dK kvs => obtain ⟨a, vs, h1, h2, h3, h4, h5, h6⟩ := h; exact ⟨a, vs, h1, h2, h3, e a _ (by simp [h3]) h4, h5, h6.ext eA⟩

/-- what is known of the heap at a place: the kinds hold, the hot things stand -/
structure Sit (Γ : Gam) (A : Hot) (H : Hp) : Prop where
  gok : GOk Γ H
  gdom : ∀ a, Γ a ≠ none → A a
  adom : ∀ a, A a → H a ≠ none
  nt : ∀ (a : Addr) (ts : List V), A a → H a ≠ some (.tup ts)
theorem there_ext {Γ : Gam} {H H' : Hp} (e : Ext Γ H H') (g : GOk Γ H') {a : Addr} (h : H a ≠ none) : H' a ≠ none := by
  cases q : Γ a with
  | none =>
    cases r : H a with
    | none => exact absurd r h
    | some o => rw [e a o (by simp [q]) r]; simp
  | some k => exact (g a k q).there
theorem Sit.ext {Γ : Gam} {A : Hot} {H H' : Hp} (S : Sit Γ A H) (e : Ext Γ H H') (g : GOk Γ H') : Sit Γ A H' := ⟨g, S.gdom, fun a h => there_ext e g (S.adom a h), fun a ts h z => by
  cases q : Γ a with
  | none =>
    cases r : H a with
    | none => exact S.adom a h r
    | some o =>
      have e2 := e a o (by simp [q]) r
      rw [z] at e2
      cases e2
      exact S.nt a ts h r
  | some k => exact (g a k q).ntup ts z⟩
theorem Sit.cold {Γ : Gam} {A : Hot} {H : Hp} (S : Sit Γ A H) {p : Addr} (h : H p = none) : ¬ A p := fun z => S.adom p z h
theorem Sit.gcold {Γ : Gam} {A : Hot} {H : Hp} (S : Sit Γ A H) {p : Addr} (h : H p = none) : Γ p = none := by
  cases q : Γ p with
  | none => rfl
  | some k => exact absurd h (S.gok p k q).there
/-- one more hot thing -/
def hadd (A : Hot) (p : Addr) : Hot := fun a => A a ∨ a = p
mutual
/-- data that stand do not lean on what does not stand -/
theorem DA.avoid {K : PySem.W.Frag} {A B : Hot} {H : Hp} (w : ∀ a, B a → ¬ A a → H a = none) : ∀ {d : PyData} {v : V}, DA K A H v d → DA K B H v d
  | .none, _, h => by cases h; exact .non
  | .bool _, _, h => by cases h; exact .bl _
  | .int _, _, h => by cases h; exact .int _
  | .str _, _, h => by cases h; exact .str _
  | .list ds, _, h => by
    cases h with
    | lst n s hs => exact .lst (fun z => by rw [w _ z n] at s; cases s) s (DAs.avoid w hs)
  | .tuple ds, _, h => by
    cases h with
    | tup n s hs => exact .tup (fun z => by rw [w _ z n] at s; cases s) s (DAs.avoid w hs)
  | .dict _, _, h => by cases h
theorem DAs.avoid {K : PySem.W.Frag} {A B : Hot} {H : Hp} (w : ∀ a, B a → ¬ A a → H a = none) : ∀ {ds : List PyData} {vs : List V}, DAs K A H vs ds → DAs K B H vs ds
  | [], _, h => by cases h; exact .nil
  | d :: ds, _, h => by
    cases h with
    | cons h1 h2 => exact .cons (DA.avoid w h1) (DAs.avoid w h2)
end
theorem hadd_avoid {A : Hot} {H : Hp} {p : Addr} (h : H p = none) : ∀ a, hadd A p a → ¬ A a → H a = none := fun a q n => q.elim (fun z => absurd z n) fun z => by rw [z]; exact h

structure RepE (K : PySem.W.Frag) (Γ : Gam) (A : Hot) (σ : St) (H : Hp) (ρ : Env) : Prop where
  sit : Sit Γ A H
  len : ρ.length = σ.length
  cells : ∀ (i : Nat) (c : Cell), ρ[i]? = some (some c) → ∃ v, σ[i]? = some (some v) ∧ CellOk K Γ A H v c
section
variable {K : PySem.W.Frag} {Γ : Gam} {A : Hot} {σ : St} {H H' : Hp} {ρ : Env}
theorem RepE.ext (R : RepE K Γ A σ H ρ) (e : Ext Γ H H') (g : GOk Γ H') : RepE K Γ A σ H' ρ :=
  ⟨R.sit.ext e g, R.len, fun i c q => let ⟨v, h1, h2⟩ := R.cells i c q; ⟨v, h1, h2.ext R.sit.gdom e⟩⟩
theorem RepE.set (R : RepE K Γ A σ H ρ) {i : Nat} {v : V} {c : Cell} (h : CellOk K Γ A H v c) : RepE K Γ A (σ.set i (some v)) H (ρ.set i (some c)) := by
  refine ⟨R.sit, by rw [List.length_set, List.length_set]; exact R.len, fun j c' q => ?_⟩
  by_cases hj : i = j
  · subst hj
    have hi : i < ρ.length := by
      have := (List.getElem?_eq_some_iff.mp q).1
      simpa using this
    rw [List.getElem?_set_self hi] at q
    cases q
    exact ⟨v, List.getElem?_set_self (by rw [← R.len]; exact hi), h⟩
  · rw [List.getElem?_set_ne hj] at q
    rw [List.getElem?_set_ne hj]
    exact R.cells j c' q
def wipeE (ρ : Env) : List Nat → Env
  | [] => ρ
  | v :: vs => (wipeE ρ vs).set v none
theorem RepE.unset (R : RepE K Γ A σ H ρ) (i : Nat) : RepE K Γ A (σ.set i none) H (ρ.set i none) := by
  refine ⟨R.sit, by rw [List.length_set, List.length_set]; exact R.len, fun j c' q => ?_⟩
  by_cases hj : i = j
  · subst hj
    have hi : i < ρ.length := by
      have := (List.getElem?_eq_some_iff.mp q).1
      simpa using this
    rw [List.getElem?_set_self hi] at q
    cases q
  · rw [List.getElem?_set_ne hj] at q
    rw [List.getElem?_set_ne hj]
    exact R.cells j c' q
theorem RepE.wipe (R : RepE K Γ A σ H ρ) : ∀ vs : List Nat, RepE K Γ A (wipe σ vs) H (wipeE ρ vs)
  | [] => R
  | v :: vs => (R.wipe vs).unset v
/-- one more hot thing that was not there -/
theorem CellOk.add {v : V} {c : Cell} {p : Addr} (h : CellOk K Γ A H v c) (hp : H p = none) : CellOk K Γ (hadd A p) H v c := by
  have w := hadd_avoid (A := A) hp
  cases c with
  | d x => exact DA.avoid w h
  | obj a k => exact h
  | lst xs => obtain ⟨a, vs, h1, h2, h3, h4, h5⟩ := h; exact ⟨a, vs, h1, .inl h2, h3, h4, h5.avoid w⟩
  | dT kvs => obtain ⟨a, vs, h1, h2, h3, h4, h5, h6⟩ := h; exact ⟨a, vs, h1, .inl h2, h3, h4, h5, h6.avoid w⟩
  | dK kvs => obtain ⟨a, vs, h1, h2, h3, h4, h5, h6⟩ := h; exact ⟨a, vs, h1, .inl h2, h3, h4, h5, h6.avoid w⟩
theorem ext_new {p : Addr} {o : HO} (hp : H p = none) : Ext Γ H (upd H p o) := ExA.new hp
/-- the new object dropped, or turned cold -/
theorem RepE.cool {p : Addr} (hA : ∀ a, A a → hadd A p a) (R : RepE K Γ A σ H ρ) (e : Ext Γ H H') (g : GOk Γ H') : RepE K Γ A σ H' ρ := R.ext e g
end
end Dat

/-! DatB: expressions whose values are told as data. -/
namespace Dat
open PySem PySem.Spec PyProof.Rows L2

abbrev WE := Env → (PyData → Prop) → Prop
abbrev WT := Env → (Bool → Prop) → Prop
abbrev WL := Env → (List PyData → Prop) → Prop
abbrev WA := Env → (List Cell → Prop) → Prop

/-- a value that is read, not kept: a datum, or a hot list of data -/
def DBd (K : PySem.W.Frag) (Γ : Gam) (A : Hot) (H : Hp) (v : V) (d : PyData) : Prop :=
  DA K A H v d ∨ ∃ (a : Addr) (vs : List V) (xs : List PyData), v = .ref a ∧ d = .list xs ∧ Γ a = none ∧ H a = some (.lst vs) ∧ DAs K A H vs xs
def PostE (K : PySem.W.Frag) (Γ : Gam) (A : Hot) (H : Hp) (Q : VK) (P : PyData → Prop) : Prop := ∀ v d H', Ext Γ H H' → GOk Γ H' → DA K A H' v d → P d → Q v H'
def PostB (K : PySem.W.Frag) (Γ : Gam) (A : Hot) (H : Hp) (Q : VK) (P : PyData → Prop) : Prop := ∀ v d H', Ext Γ H H' → GOk Γ H' → DBd K Γ A H' v d → P d → Q v H'
def PostF (K : PySem.W.Frag) (Γ : Gam) (A : Hot) (H : Hp) (Q : VK) (P : List PyData → Prop) : Prop :=
  ∀ p vs xs H', H p = none → Ext Γ H H' → GOk Γ H' → H' p = some (.lst vs) → DAs K (hadd A p) H' vs xs → P xs → Q (.ref p) H'
def PostT (Γ : Gam) (H : Hp) (Q : Bool → Hp → Prop) (P : Bool → Prop) : Prop := ∀ b H', Ext Γ H H' → GOk Γ H' → P b → Q b H'
def tE (K : PySem.W.Frag) (w : WE) : TE := fun σ H Q => ∃ Γ A ρ P, RepE K Γ A σ H ρ ∧ w ρ P ∧ PostE K Γ A H Q P
def tBr (K : PySem.W.Frag) (w : WE) : TE := fun σ H Q => ∃ Γ A ρ P, RepE K Γ A σ H ρ ∧ w ρ P ∧ PostB K Γ A H Q P
def tFr (K : PySem.W.Frag) (w : WL) : TE := fun σ H Q => ∃ Γ A ρ P, RepE K Γ A σ H ρ ∧ w ρ P ∧ PostF K Γ A H Q P
def tTs (K : PySem.W.Frag) (w : WT) : TT := fun σ H Q => ∃ Γ A ρ P, RepE K Γ A σ H ρ ∧ w ρ P ∧ PostT Γ H Q P
/-- an expression kept; read; a new list; a test -/
abbrev DE (X : Cx) (e : Expr) (w : WE) : Prop := PE X e (tE X.K w)
abbrev DB (X : Cx) (e : Expr) (w : WE) : Prop := PE X e (tBr X.K w)
abbrev DF (X : Cx) (e : Expr) (w : WL) : Prop := PE X e (tFr X.K w)
abbrev DT (X : Cx) (e : Expr) (w : WT) : Prop := PT X e (tTs X.K w)
abbrev DW (X : Cx) (e : Expr) (w : WT) : Prop := PW X e (tTs X.K w)

theorem peC {X : Cx} {e : Expr} {t t' : TE} (h : PE X e t) (c : ∀ σ H Q, t' σ H Q → t σ H Q) : PE X e t' := ⟨fun pins s σ H Q I q => h.run pins s σ H Q I (c σ H Q q)⟩
theorem ptC {X : Cx} {e : Expr} {t t' : TT} (h : PT X e t) (c : ∀ σ H Q, t' σ H Q → t σ H Q) : PT X e t' := ⟨fun pins s σ H Q I q => h.run pins s σ H Q I (c σ H Q q)⟩
theorem pwC {X : Cx} {e : Expr} {t t' : TT} (h : PW X e t) (c : ∀ σ H Q, t' σ H Q → t σ H Q) : PW X e t' := ⟨fun wh pins s σ H Q I q => h.run wh pins s σ H Q I (c σ H Q q)⟩
theorem paC {X : Cx} {es : List Expr} {t t' : TA} (h : PA X es t) (c : ∀ σ H Q, t' σ H Q → t σ H Q) : PA X es t' := ⟨fun pos pins s σ H Q I q => h.run pos pins s σ H Q I (c σ H Q q)⟩
theorem psC {X : Cx} {st : Stmt} {t t' : TS} (h : PS X st t) (c : ∀ D σ H, t' D σ H → t D σ H) : PS X st t' := ⟨fun pins s σ H D I q => h.run pins s σ H D I (c D σ H q)⟩
theorem pssC {X : Cx} {st : List Stmt} {t t' : TS} (h : PSs X st t) (c : ∀ D σ H, t' D σ H → t D σ H) : PSs X st t' := ⟨fun pins s σ H D I q => h.run pins s σ H D I (c D σ H q)⟩

section
variable {K : PySem.W.Frag} {Γ : Gam} {A : Hot} {H H' : Hp} {v : V} {d : PyData}
theorem DBd.ext (S : Sit Γ A H) (e : Ext Γ H H') (h : DBd K Γ A H v d) : DBd K Γ A H' v d := by
  have eA : ExA A H H' := e.weak S.gdom
  rcases h with h | ⟨a, vs, xs, h1, h2, h3, h4, h5⟩
  · exact .inl (h.ext eA)
  · exact .inr ⟨a, vs, xs, h1, h2, h3, e a _ (by simp [h3]) h4, h5.ext eA⟩
theorem DBd.dp (h : DBd K Γ A H v d) : Dp K H v d := by
  rcases h with h | ⟨a, vs, xs, h1, h2, h3, h4, h5⟩
  · exact h.dp
  · subst h1 h2; exact .lst (SqL.of h4) h5.dp
theorem DBd.plain (h : DBd K Γ A H v d) : d.plain = true := by
  rcases h with h | ⟨a, vs, xs, h1, h2, h3, h4, h5⟩
  · exact h.plain
  · subst h2; exact h5.plain
theorem DBd.lst {xs : List PyData} (S : Sit Γ A H) (h : DBd K Γ A H v (.list xs)) : ∃ (a : Addr) (vs : List V), v = .ref a ∧ H a = some (.lst vs) ∧ DAs K A H vs xs ∧ Γ a = none := by
  rcases h with h | ⟨a, vs, xs, h1, h2, h3, h4, h5⟩
  · cases h with
    | lst n s hs =>
      refine ⟨_, _, rfl, s, hs, ?_⟩
      cases q : Γ _ with
      | none => rfl
      | some k => exact absurd (S.gdom _ (by rw [q]; simp)) n
  · cases h2
    exact ⟨a, vs, h1, h4, h5, h3⟩
theorem DBd.tup {xs : List PyData} (h : DBd K Γ A H v (.tuple xs)) : ∃ (a : Addr) (vs : List V), v = .ref a ∧ ¬ A a ∧ H a = some (.tup vs) ∧ DAs K A H vs xs := by
  rcases h with h | ⟨a, vs, xs, h1, h2, h3, h4, h5⟩
  · cases h with
    | tup n s hs => exact ⟨_, _, rfl, n, s, hs⟩
  · cases h2
theorem DBd.da (h : DBd K Γ A H v d) (n : ∀ xs, d ≠ .list xs) : DA K A H v d := by
  rcases h with h | ⟨a, vs, xs, h1, h2, h3, h4, h5⟩
  · exact h
  · exact absurd h2 (n xs)
theorem DBd.int {i : Int} (h : DBd K Γ A H v (.int i)) : v = .int i := by
  cases h.da (fun _ q => nomatch q)
  rfl
theorem DBd.str {x : Str} (h : DBd K Γ A H v (.str x)) : v = .str x := by
  cases h.da (fun _ q => nomatch q)
  rfl
theorem DBd.bl {b : Bool} (h : DBd K Γ A H v (.bool b)) : v = .bl b := by
  cases h.da (fun _ q => nomatch q)
  rfl
theorem DBd.non (h : DBd K Γ A H v .none) : v = .non := by
  cases h.da (fun _ q => nomatch q)
  rfl
theorem DA.b (h : DA K A H v d) : DBd K Γ A H v d := .inl h
/-- is None -/
def gNone : PyData → Bool
  | .none => true
  | _ => false
theorem DA.isNone (h : DA K A H v d) : decide (v = .non) = gNone d := by
  cases h <;> rfl
theorem DBd.isNone (h : DBd K Γ A H v d) : decide (v = .non) = gNone d := by
  rcases h with h | ⟨a, vs, xs, h1, h2, h3, h4, h5⟩
  · exact h.isNone
  · subst h1 h2; rfl
end

section
variable {X : Cx} {e : Expr} {w : WE} {wl : WL} {pos : Pos}
/-- kept: may be read -/
theorem de_b (h : DE X e w) : DB X e w := peC h fun σ H Q ⟨Γ, A, ρ, P, R, hw, k⟩ => ⟨Γ, A, ρ, P, R, hw, fun v d H' x g hd hp => k v d H' x g hd.b hp⟩
def wF (wl : WL) : WE := fun ρ P => wl ρ fun xs => P (.list xs)
theorem hadd_l {A : Hot} {p : Addr} : ∀ a, A a → hadd A p a := fun _ h => .inl h
/-- a new list is a datum -/
theorem df_e (h : DF X e wl) : DE X e (wF wl) := peC h fun σ H Q ⟨Γ, A, ρ, P, R, hw, k⟩ => ⟨Γ, A, ρ, fun xs => P (.list xs), R, hw, fun p vs xs H' hp x g hH hd hP =>
  k (.ref p) (.list xs) H' x g (.lst (R.sit.cold hp) hH (hd.weak hadd_l)) hP⟩

/-! ### names and constants -/
def wVar (i : Nat) : WE := fun ρ P => match ρ.getD i none with
  | some (.d d) => P d
  | _ => False
def wOwn (i : Nat) : WE := fun ρ P => match ρ.getD i none with
  | some (.d d) => P d
  | some (.lst xs) => P (.list xs)
  | _ => False
def wC (d : PyData) : WE := fun _ P => P d
theorem getD_some {α : Type} {l : List (Option α)} {i : Nat} {c : α} (h : l.getD i none = some c) : l[i]? = some (some c) := by
  rw [List.getD_eq_getElem?_getD] at h
  cases q : l[i]? with
  | none => rw [q] at h; cases h
  | some x => rw [q] at h; simp at h; rw [h]
theorem de_var {i : Nat} (h : PE X e (tVar i)) : DE X e (wVar i) := peC h fun σ H Q ⟨Γ, A, ρ, P, R, hw, k⟩ => by
  unfold wVar at hw
  split at hw
  · rename_i d q
    obtain ⟨v, h1, h2⟩ := R.cells i _ (getD_some q)
    exact ⟨v, h1, k v d H (ExA.refl _ _) R.sit.gok h2 hw⟩
  · exact hw.elim
theorem db_own {i : Nat} (h : PE X e (tVar i)) : DB X e (wOwn i) := peC h fun σ H Q ⟨Γ, A, ρ, P, R, hw, k⟩ => by
  unfold wOwn at hw
  split at hw
  · rename_i d q
    obtain ⟨v, h1, h2⟩ := R.cells i _ (getD_some q)
    exact ⟨v, h1, k v d H (ExA.refl _ _) R.sit.gok (DA.b h2) hw⟩
  · rename_i xs q
    obtain ⟨v, h1, a, vs, e1, e2, e3, e4, e5⟩ := R.cells i _ (getD_some q)
    exact ⟨v, h1, k v _ H (ExA.refl _ _) R.sit.gok (.inr ⟨a, vs, xs, e1, rfl, e3, e4, e5⟩) hw⟩
  · exact hw.elim
theorem de_int {i j pos} : DE X (.Constant (.int i) j pos) (wC (.int i)) := peC pe_int fun σ H Q ⟨Γ, A, ρ, P, R, hw, k⟩ => k _ _ H (ExA.refl _ _) R.sit.gok (.int i) hw
theorem de_bl {b j pos} : DE X (.Constant (.bool b) j pos) (wC (.bool b)) := peC pe_bl fun σ H Q ⟨Γ, A, ρ, P, R, hw, k⟩ => k _ _ H (ExA.refl _ _) R.sit.gok (.bl b) hw
theorem de_non {j pos} : DE X (.Constant .none j pos) (wC .none) := peC pe_non fun σ H Q ⟨Γ, A, ρ, P, R, hw, k⟩ => k _ _ H (ExA.refl _ _) R.sit.gok .non hw
theorem de_str {x j pos} : DE X (.Constant (.str x) j pos) (wC (.str x)) := peC pe_str fun σ H Q ⟨Γ, A, ρ, P, R, hw, k⟩ => k _ _ H (ExA.refl _ _) R.sit.gok (.str x) hw
/-- a module's constant -/
theorem de_glob {x : Str} {v : V} {d : PyData} {u : Value} {pos : Pos} (hg : Gl X x) (hm : X.mg x = some u) (r : RelV v u) (hv : ∀ A H, DA X.K A H v d) (hd : (x == ("__debug__" : Str)) = false := by decide) : DE X (.Name x pos) (wC d) :=
  peC (pe_glob hg hm r hd) fun σ H Q ⟨Γ, A, ρ, P, R, hw, k⟩ => k v d H (ExA.refl _ _) R.sit.gok (hv A H) hw

/-! ### two-place operations on values -/
abbrev G2 := PyData → PyData → (PyData → Prop) → Prop
/-- what the rule r asks is given by g -/
def DR2 (K : PySem.W.Frag) (r : R2) (g : G2) : Prop := ∀ (Γ : Gam) (A : Hot) (H : Hp) (x y : V) (d e : PyData) (Q : VK) (P : PyData → Prop), Sit Γ A H → DBd K Γ A H x d → DBd K Γ A H y e → g d e P → PostE K Γ A H Q P → r x y H Q
def w2 (g : G2) (wa wb : WE) : WE := fun ρ P => wa ρ fun d => wb ρ fun e => g d e P
theorem PostE.back {K : PySem.W.Frag} {Γ : Gam} {A : Hot} {H H' : Hp} {Q : VK} {P : PyData → Prop} (k : PostE K Γ A H Q P) (e : Ext Γ H H') : PostE K Γ A H' Q P := fun v d H2 x g h p => k v d H2 (e.trans x) g h p
theorem PostB.back {K : PySem.W.Frag} {Γ : Gam} {A : Hot} {H H' : Hp} {Q : VK} {P : PyData → Prop} (k : PostB K Γ A H Q P) (e : Ext Γ H H') : PostB K Γ A H' Q P := fun v d H2 x g h p => k v d H2 (e.trans x) g h p
theorem PostT.back {Γ : Gam} {H H' : Hp} {Q : Bool → Hp → Prop} {P : Bool → Prop} (k : PostT Γ H Q P) (e : Ext Γ H H') : PostT Γ H' Q P := fun b H2 x g p => k b H2 (e.trans x) g p
variable {a b : Expr} {wa wb : WE} {r : R2} {g : G2}
theorem t_op {K : PySem.W.Frag} (hd : DR2 K r g) : ∀ σ H Q, tE K (w2 g wa wb) σ H Q → tOp r (tBr K wa) (tBr K wb) σ H Q := fun σ H Q ⟨Γ, A, ρ, P, R, hw, k⟩ =>
  ⟨Γ, A, ρ, fun d => wb ρ fun e => g d e P, R, hw, fun v d H1 x1 g1 hv hP => ⟨Γ, A, ρ, fun e => g d e P, R.ext x1 g1, hP, fun u e H2 x2 g2 hu hP2 =>
    hd Γ A H2 v u d e Q P (R.sit.ext (x1.trans x2) g2) (hv.ext (R.sit.ext x1 g1) x2) hu hP2 (k.back (x1.trans x2))⟩⟩
theorem de_op {op : Operator} (ho : OpR X (binaryOp op) r) (hd : DR2 X.K r g) (ha : DB X a wa) (hb : DB X b wb) : DE X (.BinOp a op b pos) (w2 g wa wb) := peC (pe_op ho ha hb) (t_op hd)
theorem de_cmp {op : CmpOp} (ho : OpR X (compareOp op) r) (hd : DR2 X.K r g) (ha : DB X a wa) (hb : DB X b wb) (hm : behindInMarks op b = false) : DE X (.Compare a [op] [b] pos) (w2 g wa wb) := peC (pe_cmpR ho ha hb hm) (t_op hd)
/-- a value that is a truth value, as a test -/
def wTst (w : WE) : WT := fun ρ P => w ρ fun d => match d with
  | .bool b => P b
  | _ => False
theorem t_test {K : PySem.W.Frag} : ∀ σ H Q, tTs K (wTst w) σ H Q → tTest (tE K w) σ H Q := fun σ H Q ⟨Γ, A, ρ, P, R, hw, k⟩ => ⟨Γ, A, ρ, _, R, hw, fun v d H1 x1 g1 hv hP => by
    cases d with
    | bool b =>
      have e := hv.b (Γ := Γ) |>.bl
      exact ⟨b, e, k b H1 x1 g1 hP⟩
    | _ => exact hP.elim⟩
theorem dt_cmp {op : CmpOp} (ho : OpR X (compareOp op) r) (hd : DR2 X.K r g) (ha : DB X a wa) (hb : DB X b wb) (hm : behindInMarks op b = false) : DT X (.Compare a [op] [b] pos) (wTst (w2 g wa wb)) :=
  ptC (pt_cmpR ho ha hb hm) fun σ H Q h => by
    have h2 := t_test σ H Q h
    exact t_op hd σ H _ h2
theorem dt_val {w : WE} (h : DE X e w) (he : ∀ whole, isTrue e X.env whole = (do let v ← whole; standAt e.pos; holding [v] (truthy v)) := by intro _; rfl) : DT X e (wTst w) := ptC (pt_val h he) t_test
def wNot (w : WT) : WT := fun ρ P => w ρ fun b => P (!b)
def wAnd (w1 w2 : WT) : WT := fun ρ P => w1 ρ fun b => if b = true then w2 ρ P else P false
def wOr (w1 w2 : WT) : WT := fun ρ P => w1 ρ fun b => if b = true then P true else w2 ρ P
variable {wt wt1 wt2 : WT} {rest : List Expr}
theorem dt_not (ha : DT X a wt) : DT X (.UnaryOp .Not a pos) (wNot wt) := ptC (pt_not ha) fun σ H Q ⟨Γ, A, ρ, P, R, hw, k⟩ => ⟨Γ, A, ρ, _, R, hw, fun b H1 x g h => k _ H1 x g h⟩
theorem dw_and1 (ha : DT X a wt) : DW X (.BoolOp .And [a] pos) wt := pw_and1 ha
theorem dw_or1 (ha : DT X a wt) : DW X (.BoolOp .Or [a] pos) wt := pw_or1 ha
theorem dw_and (ha : DT X a wt1) (hb : DW X (.BoolOp .And (b :: rest) pos) wt2) : DW X (.BoolOp .And (a :: b :: rest) pos) (wAnd wt1 wt2) :=
  pwC (pw_and ha hb) fun σ H Q ⟨Γ, A, ρ, P, R, hw, k⟩ => ⟨Γ, A, ρ, _, R, hw, fun c H1 x g h => by
    cases c with
    | true => exact ⟨Γ, A, ρ, P, R.ext x g, h, k.back x⟩
    | false => exact k false H1 x g h⟩
theorem dw_or (ha : DT X a wt1) (hb : DW X (.BoolOp .Or (b :: rest) pos) wt2) : DW X (.BoolOp .Or (a :: b :: rest) pos) (wOr wt1 wt2) :=
  pwC (pw_or ha hb) fun σ H Q ⟨Γ, A, ρ, P, R, hw, k⟩ => ⟨Γ, A, ρ, _, R, hw, fun c H1 x g h => by
    cases c with
    | true => exact k true H1 x g h
    | false => exact ⟨Γ, A, ρ, P, R.ext x g, h, k.back x⟩⟩
theorem dw_t (h : DW X e wt) : DT X e wt := PW.pt h
/-- and, or, not as values; all but the last are truth values -/
def wAndV (w1 w2 : WE) : WE := fun ρ P => wTst w1 ρ fun b => if b = true then w2 ρ P else P (.bool false)
def wOrV (w1 w2 : WE) : WE := fun ρ P => wTst w1 ρ fun b => if b = true then P (.bool true) else w2 ρ P
def wNotV (w : WE) : WE := fun ρ P => wTst w ρ fun b => P (.bool (!b))
theorem t_bool {K : PySem.W.Frag} {σ : St} {H : Hp} {R : Bool → Hp → Prop} : tTs K (wTst w) σ H R → tE K w σ H (fun x H1 => ∃ c, x = .bl c ∧ R c H1) := fun h => t_test σ H R h
theorem de_one {op} (h : DE X a wa) : DE X (.BoolOp op [a] pos) wa := pe_one h
theorem de_and (ha : DE X a wa) (hb : DE X (.BoolOp .And (b :: rest) pos) wb) : DE X (.BoolOp .And (a :: b :: rest) pos) (wAndV wa wb) :=
  peC (pe_and ha hb) fun σ H Q ⟨Γ, A, ρ, P, R, hw, k⟩ => t_bool ⟨Γ, A, ρ, _, R, hw, fun c H1 x g h => by
    cases c with
    | true => exact ⟨Γ, A, ρ, P, R.ext x g, h, k.back x⟩
    | false => exact k _ _ H1 x g (.bl false) h⟩
theorem de_or (ha : DE X a wa) (hb : DE X (.BoolOp .Or (b :: rest) pos) wb) : DE X (.BoolOp .Or (a :: b :: rest) pos) (wOrV wa wb) :=
  peC (pe_or ha hb) fun σ H Q ⟨Γ, A, ρ, P, R, hw, k⟩ => t_bool ⟨Γ, A, ρ, _, R, hw, fun c H1 x g h => by
    cases c with
    | true => exact k _ _ H1 x g (.bl true) h
    | false => exact ⟨Γ, A, ρ, P, R.ext x g, h, k.back x⟩⟩
theorem de_not (ha : DE X a wa) : DE X (.UnaryOp .Not a pos) (wNotV wa) :=
  peC (pe_not ha) fun σ H Q ⟨Γ, A, ρ, P, R, hw, k⟩ => t_bool ⟨Γ, A, ρ, _, R, hw, fun c H1 x g h => k _ _ H1 x g (.bl _) h⟩
def wIfE (wt : WT) (wa wb : WE) : WE := fun ρ P => wt ρ fun b => if b = true then wa ρ P else wb ρ P
theorem de_if {c : Expr} (hc : DT X c wt) (ha : DE X a wa) (hb : DE X b wb) : DE X (.IfExp c a b pos) (wIfE wt wa wb) :=
  peC (pe_ifExp hc ha hb) fun σ H Q ⟨Γ, A, ρ, P, R, hw, k⟩ => ⟨Γ, A, ρ, _, R, hw, fun c H1 x g h => by
    cases c with
    | true => exact ⟨Γ, A, ρ, P, R.ext x g, h, k.back x⟩
    | false => exact ⟨Γ, A, ρ, P, R.ext x g, h, k.back x⟩⟩
def wIsN (w : WE) : WE := fun ρ P => w ρ fun d => P (.bool (gNone d))
def wNotN (w : WE) : WE := fun ρ P => w ρ fun d => P (.bool (!gNone d))
theorem de_isN {j pos'} (ha : DB X a wa) : DE X (.Compare a [.Is] [.Constant .none j pos'] pos) (wIsN wa) :=
  peC (pe_cmp (pc_isN ha)) fun σ H Q ⟨Γ, A, ρ, P, R, hw, k⟩ => ⟨Γ, A, ρ, _, R, hw, fun v d H1 x g hv h => by
    dsimp only
    rw [hv.isNone]
    exact k _ _ H1 x g (.bl _) h⟩
theorem de_notN {j pos'} (ha : DB X a wa) : DE X (.Compare a [.IsNot] [.Constant .none j pos'] pos) (wNotN wa) :=
  peC (pe_cmp (pc_notN ha)) fun σ H Q ⟨Γ, A, ρ, P, R, hw, k⟩ => ⟨Γ, A, ρ, _, R, hw, fun v d H1 x g hv h => by
    dsimp only
    rw [hv.isNone]
    exact k _ _ H1 x g (.bl _) h⟩
theorem t_tB {K : PySem.W.Frag} {σ : St} {H : Hp} {Q : Bool → Hp → Prop} {t : TE} (h : t σ H fun x H1 => ∃ c, x = .bl c ∧ Q c H1) : tB t σ H Q := h
theorem dt_isN {j pos'} (ha : DB X a wa) : DT X (.Compare a [.Is] [.Constant .none j pos'] pos) (wTst (wIsN wa)) :=
  ptC (pt_cmp (pc_isN ha)) fun σ H Q ⟨Γ, A, ρ, P, R, hw, k⟩ => ⟨Γ, A, ρ, _, R, hw, fun v d H1 x g hv h => by
    dsimp only
    rw [hv.isNone]
    exact ⟨_, rfl, k _ H1 x g h⟩⟩
theorem dt_notN {j pos'} (ha : DB X a wa) : DT X (.Compare a [.IsNot] [.Constant .none j pos'] pos) (wTst (wNotN wa)) :=
  ptC (pt_cmp (pc_notN ha)) fun σ H Q ⟨Γ, A, ρ, P, R, hw, k⟩ => ⟨Γ, A, ρ, _, R, hw, fun v d H1 x g hv h => by
    dsimp only
    rw [hv.isNone]
    exact ⟨_, rfl, k _ H1 x g h⟩⟩
end
end Dat

/-! DatC: operators, displays, built-ins over data. -/
namespace Dat
open PySem PySem.Spec PyProof.Rows L2

theorem OpRor {X : Cx} {f : Value → Value → Sem Value} {r r' : R2} (h : OpR X f r) (h' : OpR X f r') : OpR X f (fun x y H Q => r x y H Q ∨ r' x y H Q) := fun pins s σ H x y v u Q I rx ry q => q.elim (h pins s σ H x y v u Q I rx ry) (h' pins s σ H x y v u Q I rx ry)

/-! ### operators that read data -/
/-- both are data; what comes is a truth value -/
def rDD (K : PySem.W.Frag) (C : PyData → PyData → Prop) (g : PyData → PyData → Bool) : R2 := fun x y H Q => ∃ d e, Dp K H x d ∧ Dp K H y e ∧ d.plain = true ∧ e.plain = true ∧ C d e ∧ Q (.bl (g d e)) H
def gDD (C : PyData → PyData → Prop) (g : PyData → PyData → Bool) : G2 := fun d e P => C d e ∧ P (.bool (g d e))
theorem opDD {X : Cx} {f : Value → Value → Sem Value} {C : PyData → PyData → Prop} {g : PyData → PyData → Bool}
    (rule : ∀ (s : Shared) (v u : Value) (d e : PyData) (as bs : List Addr) (Q : Value → Shared → Prop) (E : Value → Shared → Prop), Reads s.heap v d as → Reads s.heap u e bs → d.plain = true → e.plain = true → C d e → Q (.bool (g d e)) s → wpAny (model X.prog X.w) X.A (f v u) Q E s) :
    OpR X f (rDD X.K C g) := by
  intro pins s σ H x y v u Q I rx ry h
  obtain ⟨d, e, hd, he, pd, pe, hc, q⟩ := h
  obtain ⟨as, r1⟩ := Dp.reads I d x v hd rx
  obtain ⟨bs, r2⟩ := Dp.reads I e y u he ry
  exact rule s v u d e as bs _ _ r1 r2 pd pe hc ⟨.bl _, H, I, rfl, q⟩
theorem drDD {K : PySem.W.Frag} {C : PyData → PyData → Prop} {g : PyData → PyData → Bool} : DR2 K (rDD K C g) (gDD C g) := fun Γ A H x y d e Q P S hx hy hg k =>
  ⟨d, e, hx.dp, hy.dp, hx.plain, hy.plain, hg.1, k _ _ H (ExA.refl _ _) S.gok (.bl _) hg.2⟩
def cDeep (d e : PyData) : Prop := min d.depth e.depth ≤ 60
def cLt (d e : PyData) : Prop := PySem.W.alike d e = true ∧ d ≠ .none ∧ min d.depth e.depth ≤ 60
def itemsD : PyData → List PyData
  | .list xs => xs
  | .tuple xs => xs
  | _ => []
def isSeq : PyData → Bool
  | .list _ => true
  | .tuple _ => true
  | _ => false
def cIn (d e : PyData) : Prop := isSeq e = true ∧ min (PyData.depthAll (itemsD e)) d.depth ≤ 60
def inD (d e : PyData) : Bool := (itemsD e).any fun y => PyData.eqv y d
section
variable {X : Cx}
theorem op_eqP (hu : X.A.units + 64 < cLine) : OpR X (compareOp .Eq) (rDD X.K cDeep PyData.eqv) := opDD fun s v u d e as bs Q E r1 r2 pd pe hc q => SeqAt.eq_plain r1 r2 pd pe (by have : min d.depth e.depth ≤ 60 := hc; omega) q
theorem op_neP (hu : X.A.units + 64 < cLine) : OpR X (compareOp .NotEq) (rDD X.K cDeep fun d e => !PyData.eqv d e) := opDD fun s v u d e as bs Q E r1 r2 pd pe hc q => SeqAt.ne_plain r1 r2 pd pe (by have : min d.depth e.depth ≤ 60 := hc; omega) q
theorem op_ltP (hu : X.A.units + 64 < cLine) : OpR X (compareOp .Lt) (rDD X.K cLt PySem.W.dataLt) := opDD fun s v u d e as bs Q E r1 r2 pd pe hc q => PySem.W.lt_data r1 r2 hc.1 hc.2.1 (by have := hc.2.2; omega) q
theorem op_gtP (hu : X.A.units + 64 < cLine) : OpR X (compareOp .Gt) (rDD X.K cLt fun d e => PySem.W.dataLt e d) := opDD fun s v u d e as bs Q E r1 r2 pd pe hc q => PySem.W.gt_data r1 r2 hc.1 hc.2.1 (by have := hc.2.2; omega) q
theorem op_leP (hu : X.A.units + 64 < cLine) : OpR X (compareOp .LtE) (rDD X.K cLt fun d e => !PySem.W.dataLt e d) := opDD fun s v u d e as bs Q E r1 r2 pd pe hc q => PySem.W.le_data r1 r2 hc.1 hc.2.1 (by have := hc.2.2; omega) q
theorem op_geP (hu : X.A.units + 64 < cLine) : OpR X (compareOp .GtE) (rDD X.K cLt fun d e => !PySem.W.dataLt d e) := opDD fun s v u d e as bs Q E r1 r2 pd pe hc q => PySem.W.ge_data r1 r2 hc.1 hc.2.1 (by have := hc.2.2; omega) q
theorem op_inP (hu : X.A.units + 64 < cLine) : OpR X (compareOp .In) (rDD X.K cIn inD) := opDD fun s v u d e as bs Q E r1 r2 pd pe hc q => by
  have h2 := hc.2
  cases e with
  | list xs => exact SeqAt.in_list_data r2 r1 pe pd (by have : min (PyData.depthAll xs) d.depth ≤ 60 := h2; omega) q
  | tuple xs => exact SeqAt.in_tuple_data r2 r1 pe pd (by have : min (PyData.depthAll xs) d.depth ≤ 60 := h2; omega) q
  | _ => exact absurd hc.1 (by simp [isSeq])
theorem op_niP (hu : X.A.units + 64 < cLine) : OpR X (compareOp .NotIn) (rDD X.K cIn fun d e => !inD d e) := opDD fun s v u d e as bs Q E r1 r2 pd pe hc q => by
  have h2 := hc.2
  cases e with
  | list xs => exact SeqAt.notIn_list_data r2 r1 pe pd (by have : min (PyData.depthAll xs) d.depth ≤ 60 := h2; omega) q
  | tuple xs => exact SeqAt.notIn_tuple_data r2 r1 pe pd (by have : min (PyData.depthAll xs) d.depth ≤ 60 := h2; omega) q
  | _ => exact absurd hc.1 (by simp [isSeq])
/-- one sign in a text, a text in a text -/
def rStrIn (neg : Bool) : R2 := fun x y H Q => ∃ i j, x = .str i ∧ y = .str j ∧ Q (.bl (if neg then !(!(Builtin.Str.occurrences j i 0 j.length 1).isEmpty) else !(Builtin.Str.occurrences j i 0 j.length 1).isEmpty)) H
def gStrIn : G2 := fun d e P => match d, e with
  | .str i, .str j => P (.bool (!(Builtin.Str.occurrences j i 0 j.length 1).isEmpty))
  | _, _ => False
def gStrNi : G2 := fun d e P => match d, e with
  | .str i, .str j => P (.bool (!(!(Builtin.Str.occurrences j i 0 j.length 1).isEmpty)))
  | _, _ => False
theorem dr_strIn {K : PySem.W.Frag} : DR2 K (fun x y H Q => ∃ i j, x = .str i ∧ y = .str j ∧ Q (.bl (!(Builtin.Str.occurrences j i 0 j.length 1).isEmpty)) H) gStrIn := fun Γ A H x y d e Q P S hx hy hg k => by
  cases d with
  | str i => cases e with
    | str j => exact ⟨i, j, hx.str, hy.str, k _ _ H (ExA.refl _ _) S.gok (.bl _) hg⟩
    | _ => exact hg.elim
  | _ => exact hg.elim
theorem dr_strNi {K : PySem.W.Frag} : DR2 K (fun x y H Q => ∃ i j, x = .str i ∧ y = .str j ∧ Q (.bl (!(!(Builtin.Str.occurrences j i 0 j.length 1).isEmpty))) H) gStrNi := fun Γ A H x y d e Q P S hx hy hg k => by
  cases d with
  | str i => cases e with
    | str j => exact ⟨i, j, hx.str, hy.str, k _ _ H (ExA.refl _ _) S.gok (.bl _) hg⟩
    | _ => exact hg.elim
  | _ => exact hg.elim
/-- is True, is False -/
def gIsB : G2 := fun d e P => match d, e with
  | .bool a, .bool b => P (.bool (decide (a = b)))
  | _, _ => False
def gNotB : G2 := fun d e P => match d, e with
  | .bool a, .bool b => P (.bool (!decide (a = b)))
  | _, _ => False
theorem dr_isB {K : PySem.W.Frag} : DR2 K rIsB gIsB := fun Γ A H x y d e Q P S hx hy hg k => by
  cases d with
  | bool i => cases e with
    | bool j => exact ⟨i, j, hx.bl, hy.bl, k _ _ H (ExA.refl _ _) S.gok (.bl _) hg⟩
    | _ => exact hg.elim
  | _ => exact hg.elim
theorem dr_notB {K : PySem.W.Frag} : DR2 K rNotB gNotB := fun Γ A H x y d e Q P S hx hy hg k => by
  cases d with
  | bool i => cases e with
    | bool j => exact ⟨i, j, hx.bl, hy.bl, k _ _ H (ExA.refl _ _) S.gok (.bl _) hg⟩
    | _ => exact hg.elim
  | _ => exact hg.elim

/-! ### + - * // % ** -/
def gI (C : Int → Int → Prop) (g : Int → Int → Int) : G2 := fun d e P => match d, e with
  | .int i, .int j => C i j ∧ P (.int (g i j))
  | _, _ => False
theorem dr_I {K : PySem.W.Frag} {C : Int → Int → Prop} {g : Int → Int → Int} : DR2 K (rI C fun i j => .int (g i j)) (gI C g) := fun Γ A H x y d e Q P S hx hy hg k => by
  cases d with
  | int i => cases e with
    | int j => exact ⟨i, j, hx.int, hy.int, hg.1, k _ _ H (ExA.refl _ _) S.gok (.int _) hg.2⟩
    | _ => exact hg.elim
  | _ => exact hg.elim
def gSub : G2 := fun d e P => match d, e with
  | .int i, .int j => P (.int (i - j))
  | _, _ => False
theorem dr_sub {K : PySem.W.Frag} : DR2 K (rI0 fun i j => .int (i - j)) gSub := fun Γ A H x y d e Q P S hx hy hg k => by
  cases d with
  | int i => cases e with
    | int j => exact ⟨i, j, hx.int, hy.int, k _ _ H (ExA.refl _ _) S.gok (.int _) hg⟩
    | _ => exact hg.elim
  | _ => exact hg.elim
def gAdd : G2 := fun d e P => match d, e with
  | .int i, .int j => P (.int (i + j))
  | .tuple xs, .tuple ys => xs.length + ys.length ≤ sizeLine ∧ P (.tuple (xs ++ ys))
  | .list xs, .list ys => xs.length + ys.length ≤ sizeLine ∧ P (.list (xs ++ ys))
  | .str x, .str y => x.length + y.length ≤ sizeLine ∧ P (.str (x ++ y))
  | _, _ => False
def rAdd (K : PySem.W.Frag) : R2 := fun x y H Q => (rI0 (fun i j => .int (i + j))) x y H Q ∨ (rCatA K x y H Q ∨ (rCat x y H Q ∨ ∃ i j, x = .str i ∧ y = .str j ∧ i.length + j.length ≤ sizeLine ∧ Q (.str (i ++ j)) H))
theorem op_addD : OpR X (binaryOp .Add) (rAdd X.K) := OpRor op_add (OpRor op_catA (OpRor op_cat op_add_str))
theorem dr_add {K : PySem.W.Frag} : DR2 K (rAdd K) gAdd := fun Γ A H x y d e Q P S hx hy hg k => by
  cases d with
  | int i => cases e with
    | int j => exact .inl ⟨i, j, hx.int, hy.int, k _ _ H (ExA.refl _ _) S.gok (.int _) hg⟩
    | _ => exact hg.elim
  | str i => cases e with
    | str j => exact .inr (.inr (.inr ⟨i, j, hx.str, hy.str, hg.1, k _ _ H (ExA.refl _ _) S.gok (.str _) hg.2⟩))
    | _ => exact hg.elim
  | tuple xs => cases e with
    | tuple ys =>
      obtain ⟨a, vs, rfl, na, ha, hvs⟩ := hx.tup
      obtain ⟨b, ws, rfl, nb, hb, hws⟩ := hy.tup
      have lx := hvs.length
      have ly := hws.length
      refine .inr (.inl ⟨a, b, vs, ws, rfl, rfl, SqT.of ha, SqT.of hb, by rw [lx, ly]; exact hg.1, fun z => ?_, fun _ z => ?_, fun _ _ p hp => ?_⟩)
      · subst z
        cases hvs
        exact k _ _ H (ExA.refl _ _) S.gok (.tup nb hb hws) hg.2
      · subst z
        cases hws
        have h2 := hg.2
        rw [List.append_nil] at h2
        exact k _ _ H (ExA.refl _ _) S.gok (.tup na ha hvs) h2
      · exact k _ _ _ (ExA.new hp) (S.gok.new hp) (.tup (S.cold hp) upd_same ((hvs.append hws).ext (ExA.new hp))) hg.2
    | _ => exact hg.elim
  | list xs => cases e with
    | list ys =>
      obtain ⟨a, vs, rfl, ha, hvs, _⟩ := hx.lst S
      obtain ⟨b, ws, rfl, hb, hws, _⟩ := hy.lst S
      have lx := hvs.length
      have ly := hws.length
      refine .inr (.inr (.inl ⟨a, b, vs, ws, rfl, rfl, ha, hb, by rw [lx, ly]; exact hg.1, fun p hp => ?_⟩))
      exact k _ _ _ (ExA.new hp) (S.gok.new hp) (.lst (S.cold hp) upd_same ((hvs.append hws).ext (ExA.new hp))) hg.2
    | _ => exact hg.elim
  | _ => exact hg.elim
/-- a + b of lists, a new list -/
def wCat (wa wb : WE) : WL := fun ρ P => wa ρ fun d => wb ρ fun e => match d, e with
  | .list xs, .list ys => xs.length + ys.length ≤ sizeLine ∧ P (xs ++ ys)
  | _, _ => False
variable {a b e : Expr} {wa wb w : WE} {pos : Pos}
theorem df_cat (ha : DB X a wa) (hb : DB X b wb) : DF X (.BinOp a .Add b pos) (wCat wa wb) := peC (pe_op op_cat ha hb) fun σ H Q ⟨Γ, A, ρ, P, R, hw, k⟩ =>
  ⟨Γ, A, ρ, _, R, hw, fun v d H1 x1 g1 hv hP => ⟨Γ, A, ρ, _, R.ext x1 g1, hP, fun u e H2 x2 g2 hu hP2 => by
    have S2 := R.sit.ext (x1.trans x2) g2
    have hv2 := hv.ext (R.sit.ext x1 g1) x2
    cases d with
    | list xs => cases e with
      | list ys =>
        obtain ⟨a, vs, rfl, ha, hvs, _⟩ := hv2.lst S2
        obtain ⟨b, ws, rfl, hb, hws, _⟩ := hu.lst S2
        refine ⟨a, b, vs, ws, rfl, rfl, ha, hb, by rw [hvs.length, hws.length]; exact hP2.1, fun p hp => ?_⟩
        have hp0 : H p = none := by
          cases q : H p with
          | none => rfl
          | some o => exact absurd hp (there_ext (x1.trans x2) g2 (by rw [q]; simp))
        exact k p (vs ++ ws) (xs ++ ys) _ hp0 ((x1.trans x2).trans (ExA.new hp)) (g2.new hp) upd_same (((hvs.append hws).avoid (hadd_avoid hp)).ext (ExA.new hp)) hP2.2
      | _ => exact hP2.elim
    | _ => exact hP2.elim⟩⟩

/-! ### displays -/
def tAd (K : PySem.W.Frag) (n : Nat) (w : WL) : TA := fun σ H Q => ∃ Γ A ρ P, RepE K Γ A σ H ρ ∧ w ρ P ∧ ∀ vs ds H', Ext Γ H H' → GOk Γ H' → DAs K A H' vs ds → ds.length = n → P ds → Q vs H'
abbrev DAd (X : Cx) (es : List Expr) (n : Nat) (w : WL) : Prop := PA X es (tAd X.K n w)
def wNil : WL := fun _ P => P []
def wCons (w : WE) (wl : WL) : WL := fun ρ P => w ρ fun d => wl ρ fun ds => P (d :: ds)
variable {es : List Expr} {wl : WL} {n : Nat}
theorem da_nil : DAd X [] 0 wNil := paC pa_nil fun σ H Q ⟨Γ, A, ρ, P, R, hw, k⟩ => k [] [] H (ExA.refl _ _) R.sit.gok .nil rfl hw
theorem da_cons (h : DE X e w) (hr : DAd X es n wl) (hs : starEach (e :: es) X.env = (false, eval e X.env) :: starEach es X.env := by rfl) : DAd X (e :: es) (n + 1) (wCons w wl) := paC (pa_cons h hr hs) fun σ H Q ⟨Γ, A, ρ, P, R, hw, k⟩ =>
  ⟨Γ, A, ρ, _, R, hw, fun v d H1 x1 g1 hv hP => ⟨Γ, A, ρ, _, R.ext x1 g1, hP, fun vs ds H2 x2 g2 hvs hn hP2 => k _ _ H2 (x1.trans x2) g2 (.cons (hv.ext (x2.weak R.sit.gdom)) hvs) (by rw [List.length_cons, hn]) hP2⟩⟩
def wTup (wl : WL) : WE := fun ρ P => wl ρ fun ds => P (.tuple ds)
theorem back_none {Γ : Gam} {H H' : Hp} {p : Addr} (x : Ext Γ H H') (g : GOk Γ H') (hp : H' p = none) : H p = none := by
  cases q : H p with
  | none => rfl
  | some o => exact absurd hp (there_ext x g (by rw [q]; simp))
theorem de_tup {k : Nat} (h : DAd X es n wl) (hn : n ≤ sizeLine := by decide) : DE X (.Tuple es k pos) (wTup wl) := peC (pe_tup h) fun σ H Q ⟨Γ, A, ρ, P, R, hw, k⟩ =>
  ⟨Γ, A, ρ, _, R, hw, fun vs ds H1 x1 g1 hvs hl hP => ⟨by rw [hvs.length, hl]; exact hn, fun p hp =>
    k _ _ _ (x1.trans (ExA.new hp)) (g1.new hp) (.tup (R.sit.cold (back_none x1 g1 hp)) upd_same (hvs.ext (ExA.new hp))) hP⟩⟩
theorem df_lst (h : DAd X es n wl) (hn : n ≤ sizeLine := by decide) : DF X (.List es pos) wl := peC (pe_lst h) fun σ H Q ⟨Γ, A, ρ, P, R, hw, k⟩ =>
  ⟨Γ, A, ρ, _, R, hw, fun vs ds H1 x1 g1 hvs hl hP => ⟨by rw [hvs.length, hl]; exact hn, fun p hp =>
    k p vs ds _ (back_none x1 g1 hp) (x1.trans (ExA.new hp)) (g1.new hp) upd_same ((hvs.avoid (hadd_avoid hp)).ext (ExA.new hp)) hP⟩⟩

/-! ### subscripts and slices -/
def gIx : G2 := fun d e P => match d, e with
  | .list xs, .int i => ∃ x, atI xs i = some x ∧ P x
  | .tuple xs, .int i => ∃ x, atI xs i = some x ∧ P x
  | .str z, .int i => z.length ≤ sizeLine ∧ ∃ c, atI z.cps.toList i = some c ∧ P (.str ⟨#[c]⟩)
  | _, _ => False
theorem atI_some {α : Type} {xs : List α} {i : Int} {x : α} (h : atI xs i = some x) : ∃ j, ixN xs.length i = some j ∧ xs[j]? = some x := by
  unfold atI at h
  cases q : ixN xs.length i with
  | none => rw [q] at h; cases h
  | some j => rw [q] at h; exact ⟨j, rfl, h⟩
theorem DAs.atI {K : PySem.W.Frag} {A : Hot} {H : Hp} {vs : List V} {ds : List PyData} {i : Int} {d : PyData} (h : DAs K A H vs ds) (e : atI ds i = some d) : ∃ v, L2.atI vs i = some v ∧ DA K A H v d := by
  obtain ⟨j, h1, h2⟩ := atI_some e
  obtain ⟨v, h3, h4⟩ := h.at h2
  refine ⟨v, ?_, h4⟩
  unfold L2.atI
  rw [h.length, h1]
  exact h3
theorem dr_ix {K : PySem.W.Frag} : DR2 K (rIx K) gIx := fun Γ A H x y d e Q P S hx hy hg k => by
  cases d with
  | list xs => cases e with
    | int i =>
      obtain ⟨z, h1, h2⟩ := hg
      obtain ⟨a, vs, rfl, ha, hvs, _⟩ := hx.lst S
      obtain ⟨v, h3, h4⟩ := hvs.atI h1
      exact .inl ⟨a, vs, i, v, rfl, hy.int, SqL.of ha, h3, k _ _ H (ExA.refl _ _) S.gok h4 h2⟩
    | _ => exact hg.elim
  | tuple xs => cases e with
    | int i =>
      obtain ⟨z, h1, h2⟩ := hg
      obtain ⟨a, vs, rfl, na, ha, hvs⟩ := hx.tup
      obtain ⟨v, h3, h4⟩ := hvs.atI h1
      exact .inr (.inl ⟨a, vs, i, v, rfl, hy.int, SqT.of ha, h3, k _ _ H (ExA.refl _ _) S.gok h4 h2⟩)
    | _ => exact hg.elim
  | str z => cases e with
    | int i =>
      obtain ⟨hz, c, h1, h2⟩ := hg
      exact .inr (.inr ⟨z, i, c, hx.str, hy.int, hz, h1, k _ _ H (ExA.refl _ _) S.gok (.str _) h2⟩)
    | _ => exact hg.elim
  | _ => exact hg.elim
theorem de_ix (ha : DB X a wa) (hb : DB X b wb) (hs : PlainIx b) : DE X (.Subscript a b pos) (w2 gIx wa wb) := peC (pe_ix ix_seq ha hb hs) (t_op dr_ix)
/-- parts of a slice -/
abbrev WO := Env → (Option Int → Prop) → Prop
def tOp' (K : PySem.W.Frag) (w : WO) : TO := fun σ H Q => ∃ Γ A ρ P, RepE K Γ A σ H ρ ∧ w ρ P ∧ ∀ o H', Ext Γ H H' → GOk Γ H' → P o → Q o H'
abbrev DO (X : Cx) (e : Option Expr) (w : WO) : Prop := PO X e (tOp' X.K w)
theorem poC {e : Option Expr} {t t' : TO} (h : PO X e t) (c : ∀ σ H Q, t' σ H Q → t σ H Q) : PO X e t' := ⟨fun pins s σ H Q I q => h.run pins s σ H Q I (c σ H Q q)⟩
def wO0 : WO := fun _ P => P none
def wO1 (w : WE) : WO := fun ρ P => w ρ fun d => match d with
  | .int i => P (some i)
  | _ => False
theorem do_none : DO X none wO0 := poC po_none fun σ H Q ⟨Γ, A, ρ, P, R, hw, k⟩ => k none H (ExA.refl _ _) R.sit.gok hw
theorem do_some (h : DB X e w) : DO X (some e) (wO1 w) := poC (po_some h) fun σ H Q ⟨Γ, A, ρ, P, R, hw, k⟩ => ⟨Γ, A, ρ, _, R, hw, fun v d H1 x1 g1 hv hP => by
  cases d with
  | int i => exact ⟨i, hv.int, k _ H1 x1 g1 hP⟩
  | _ => exact hP.elim⟩
def cutD (xs : List PyData) (lo hi : Option Int) : List PyData := (xs.drop (HT.sIx xs.length 0 lo)).take (HT.sIx xs.length xs.length hi - HT.sIx xs.length 0 lo)
def gSl : PyData → Option Int → Option Int → (PyData → Prop) → Prop := fun d lo hi P => match d with
  | .list xs => P (.list (cutD xs lo hi))
  | .tuple xs => P (.tuple (cutD xs lo hi))
  | .str z => z.length ≤ sizeLine ∧ P (.str (cutS z lo hi))
  | _ => False
def wSl (w : WE) (wl wh : WO) : WE := fun ρ P => w ρ fun d => wl ρ fun lo => wh ρ fun hi => gSl d lo hi P
theorem cut_len {K : PySem.W.Frag} {A : Hot} {H : Hp} {vs : List V} {ds : List PyData} (h : DAs K A H vs ds) (lo hi : Option Int) : DAs K A H (cutV vs lo hi) (cutD ds lo hi) := h.cut lo hi
theorem cutD_whole {xs : List PyData} {lo hi : Option Int} (h : HT.sIx xs.length 0 lo = 0 ∧ HT.sIx xs.length xs.length hi = xs.length) : cutD xs lo hi = xs := by
  unfold cutD
  rw [h.1, h.2]
  simp
def rSl3 (K : PySem.W.Frag) : V → Option Int → Option Int → Hp → VK → Prop := fun x lo hi H Q => rSlL K x lo hi H Q ∨ (rSlA K x lo hi H Q ∨ rSlS x lo hi H Q)
theorem de_slice {p2 : Pos} {lo hi : Option Expr} {w1 w2 : WO} (ha : DB X a wa) (hl : DO X lo w1) (hh : DO X hi w2) : DE X (.Subscript a (.Slice lo hi none p2) pos) (wSl wa w1 w2) :=
  peC (pe_slice (r := rSl3 X.K) (sl_list.or (sl_tupA.or sl_str)) ha hl hh) fun σ H Q ⟨Γ, A, ρ, P, R, hw, k⟩ =>
  ⟨Γ, A, ρ, _, R, hw, fun v d H1 x1 g1 hv hP => ⟨Γ, A, ρ, _, R.ext x1 g1, hP, fun lo H2 x2 g2 hP2 => ⟨Γ, A, ρ, _, R.ext (x1.trans x2) g2, hP2, fun hi H3 x3 g3 hP3 => by
    have S1 := R.sit.ext x1 g1
    have x13 := x2.trans x3
    have S3 := S1.ext x13 g3
    have hv3 := hv.ext S1 x13
    cases d with
    | list xs =>
      obtain ⟨a, vs, rfl, ha, hvs, _⟩ := hv3.lst S3
      exact .inl ⟨a, vs, rfl, SqL.of ha, fun p hp => k _ _ _ ((x1.trans x13).trans (ExA.new hp)) (g3.new hp) (.lst (S3.cold hp) upd_same ((cut_len hvs lo hi).ext (ExA.new hp))) hP3⟩
    | tuple xs =>
      obtain ⟨a, vs, rfl, na, ha, hvs⟩ := hv3.tup
      refine .inr (.inl ⟨a, vs, rfl, SqT.of ha, fun hw => ?_, fun _ p hp => k _ _ _ ((x1.trans x13).trans (ExA.new hp)) (g3.new hp) (.tup (S3.cold hp) upd_same ((cut_len hvs lo hi).ext (ExA.new hp))) hP3⟩)
      rw [hvs.length] at hw
      have q : P (.tuple (cutD xs lo hi)) := hP3
      rw [cutD_whole hw] at q
      exact k _ _ H3 (x1.trans x13) g3 (.tup na ha hvs) q
    | str z => exact .inr (.inr ⟨z, hv3.str, hP3.1, k _ _ H3 (x1.trans x13) g3 (.str _) hP3.2⟩)
    | _ => exact hP3.elim⟩⟩⟩
/-- xs[::-1] of a list -/
def wRevL (w : WE) : WL := fun ρ P => w ρ fun d => match d with
  | .list xs => P xs.reverse
  | _ => False
theorem df_rev {k : Nat} {p1 p2 p3 : Pos} (he : DB X e w) : DF X (.Subscript e (.Slice none none (some (.UnaryOp .USub (.Constant (.int 1) k p1) p2)) p3) pos) (wRevL w) := peC (pe_revL he) fun σ H Q ⟨Γ, A, ρ, P, R, hw, k⟩ =>
  ⟨Γ, A, ρ, _, R, hw, fun v d H1 x1 g1 hv hP => by
    cases d with
    | list xs =>
      obtain ⟨a, vs, rfl, ha, hvs, _⟩ := hv.lst (R.sit.ext x1 g1)
      exact ⟨a, vs, rfl, SqL.of ha, fun p hp => k p vs.reverse xs.reverse _ (back_none x1 g1 hp) (x1.trans (ExA.new hp)) (g1.new hp) upd_same ((hvs.reverse.avoid (hadd_avoid hp)).ext (ExA.new hp)) hP⟩
    | _ => exact hP.elim⟩
/-- -a -/
def wNeg (w : WE) : WE := fun ρ P => w ρ fun d => match d with
  | .int i => P (.int (-i))
  | _ => False
theorem de_neg (ha : DB X a wa) : DE X (.UnaryOp .USub a pos) (wNeg wa) := peC (pe_un un_neg ha) fun σ H Q ⟨Γ, A, ρ, P, R, hw, k⟩ => ⟨Γ, A, ρ, _, R, hw, fun v d H1 x1 g1 hv hP => by
  cases d with
  | int i => exact ⟨i, hv.int, k _ _ H1 x1 g1 (.int _) hP⟩
  | _ => exact hP.elim⟩

/-! ### built-ins of one argument -/
abbrev G1 := PyData → (PyData → Prop) → Prop
def w1 (g : G1) (wa : WE) : WE := fun ρ P => wa ρ fun d => g d P
def DR1 (K : PySem.W.Frag) (r : List V → Hp → VK → Prop) (g : G1) : Prop := ∀ (Γ : Gam) (A : Hot) (H : Hp) (x : V) (d : PyData) (Q : VK) (P : PyData → Prop), Sit Γ A H → DBd K Γ A H x d → g d P → PostE K Γ A H Q P → r [x] H Q
theorem t_call1 {K : PySem.W.Frag} {r : List V → Hp → VK → Prop} {g : G1} (hd : DR1 K r g) : ∀ σ H Q, tE K (w1 g wa) σ H Q → tCB r (tCons (tBr K wa) tNil) σ H Q := fun σ H Q ⟨Γ, A, ρ, P, R, hw, k⟩ =>
  ⟨Γ, A, ρ, _, R, hw, fun v d H1 x1 g1 hv hP => hd Γ A H1 v d Q P (R.sit.ext x1 g1) hv hP (k.back x1)⟩
theorem de_b1 {id : String} {x : Str} {r : List V → Hp → VK → Prop} {g : G1} {p : Pos} (hc : CallR X (.builtin id) r) (hd : DR1 X.K r g) (hg : Gl X x) (hm : X.mg x = none) (hv : bootBuiltins x = some (.builtin id)) (ha : DB X a wa) (hn : x ≠ "__name__" := by decide) (hdb : (x == ("__debug__" : Str)) = false := by decide)
    (he : starEach [a] X.env = (false, eval a X.env) :: starEach [] X.env := by rfl) (hpl : (backTo pos (starEach [] X.env)).any (·.1) = false := by rfl) : DE X (.Call (.Name x p) [a] [] pos) (w1 g wa) :=
  peC (pe_callB hc hg hm hv (pa_cons ha pa_nil he) hn hdb he hpl) (t_call1 hd)
theorem de_t1 {T : String} {x : Str} {r : List V → Hp → VK → Prop} {g : G1} {p : Pos} (hc : CallR X (.type T) r) (hd : DR1 X.K r g) (hg : Gl X x) (hm : X.mg x = none) (hv : bootBuiltins x = some (.type T)) (ha : DB X a wa) (hn : x ≠ "__name__" := by decide) (hdb : (x == ("__debug__" : Str)) = false := by decide)
    (he : starEach [a] X.env = (false, eval a X.env) :: starEach [] X.env := by rfl) (hpl : (backTo pos (starEach [] X.env)).any (·.1) = false := by rfl) : DE X (.Call (.Name x p) [a] [] pos) (w1 g wa) :=
  peC (pe_callTy hc hg hm hv (pa_cons ha pa_nil he) hn hdb he hpl) (t_call1 hd)
def gLen : G1 := fun d P => match d with
  | .list xs => P (.int xs.length)
  | .tuple xs => P (.int xs.length)
  | .str z => z.length ≤ sizeLine ∧ P (.int z.length)
  | _ => False
theorem dr_len {K : PySem.W.Frag} : DR1 K (fun xs H Q => ∃ x n, xs = [x] ∧ LenV K x H n ∧ Q (.int n) H) gLen := fun Γ A H x d Q P S hx hg k => by
  cases d with
  | list xs =>
    obtain ⟨a, vs, rfl, ha, hvs, _⟩ := hx.lst S
    exact ⟨_, xs.length, rfl, .inl ⟨vs, SqL.of ha, hvs.length.symm⟩, k _ _ H (ExA.refl _ _) S.gok (.int _) hg⟩
  | tuple xs =>
    obtain ⟨a, vs, rfl, na, ha, hvs⟩ := hx.tup
    exact ⟨_, xs.length, rfl, .inr ⟨vs, SqT.of ha, hvs.length.symm⟩, k _ _ H (ExA.refl _ _) S.gok (.int _) hg⟩
  | str z => exact ⟨x, z.length, rfl, by rw [hx.str]; exact ⟨hg.1, rfl⟩, k _ _ H (ExA.refl _ _) S.gok (.int _) hg.2⟩
  | _ => exact hg.elim
def gAll : G1 := fun d P => ∃ bs : List Bool, d = .list (bs.map .bool) ∧ P (.bool (bs.all id))
def gAny : G1 := fun d P => ∃ bs : List Bool, d = .list (bs.map .bool) ∧ P (.bool (bs.any id))
theorem dr_all {K : PySem.W.Frag} : DR1 K (rAll K) gAll := fun Γ A H x d Q P S hx hg k => by
  obtain ⟨bs, rfl, hP⟩ := hg
  obtain ⟨a, vs, rfl, ha, hvs, _⟩ := hx.lst S
  exact ⟨a, bs, rfl, by rw [← hvs.bools]; exact SqL.of ha, k _ _ H (ExA.refl _ _) S.gok (.bl _) hP⟩
theorem dr_any {K : PySem.W.Frag} : DR1 K (rAny K) gAny := fun Γ A H x d Q P S hx hg k => by
  obtain ⟨bs, rfl, hP⟩ := hg
  obtain ⟨a, vs, rfl, ha, hvs, _⟩ := hx.lst S
  exact ⟨a, bs, rfl, by rw [← hvs.bools]; exact SqL.of ha, k _ _ H (ExA.refl _ _) S.gok (.bl _) hP⟩
/-- tuple(x) -/
def gTuple : G1 := fun d P => match d with
  | .list xs => P (.tuple xs)
  | .tuple xs => P (.tuple xs)
  | _ => False
theorem dr_tuple {K : PySem.W.Frag} : DR1 K (fun xs H Q => ∃ p ys, xs = [.ref p] ∧ ((SqL K H p ys ∧ ∀ l, H l = none → Q (.ref l) (upd H l (.tup ys))) ∨ (SqT K H p ys ∧ Q (.ref p) H))) gTuple := fun Γ A H x d Q P S hx hg k => by
  cases d with
  | list xs =>
    obtain ⟨a, vs, rfl, ha, hvs, _⟩ := hx.lst S
    exact ⟨a, vs, rfl, .inl ⟨SqL.of ha, fun p hp => k _ _ _ (ExA.new hp) (S.gok.new hp) (.tup (S.cold hp) upd_same (hvs.ext (ExA.new hp))) hg⟩⟩
  | tuple xs =>
    obtain ⟨a, vs, rfl, na, ha, hvs⟩ := hx.tup
    exact ⟨a, vs, rfl, .inr ⟨SqT.of ha, k _ _ H (ExA.refl _ _) S.gok (.tup na ha hvs) hg⟩⟩
  | _ => exact hg.elim
end
end Dat

/-! DatD: list(x), sorted, min, max, ranges, isinstance over data. -/
namespace Dat
open PySem PySem.Spec PyProof.Rows L2
open PySem.W (EachIs AllAlike)

section
variable {X : Cx}
/-! ### sorted -/
theorem each_of_vals {K : PySem.W.Frag} {A : Hot} {H : Hp} : ∀ {vs : List V} {its : List Value} {ds : List PyData}, Vals vs its → DAs K A H vs ds → EachIs (fun u d => ∃ x, RelV x u ∧ DA K A H x d) its ds
  | _, _, _, .nil, h => by cases h; exact .nil
  | _, _, _, .cons r t, h => by
    cases h with
    | cons h1 h2 => exact .cons ⟨_, r, h1⟩ (each_of_vals t h2)
theorem vals_of_each {K : PySem.W.Frag} {A : Hot} {H : Hp} : ∀ {its : List Value} {ds : List PyData}, EachIs (fun u d => ∃ x, RelV x u ∧ DA K A H x d) its ds → ∃ vs, Vals vs its ∧ DAs K A H vs ds
  | _, _, .nil => ⟨[], .nil, .nil⟩
  | _, _, .cons ⟨x, r, h⟩ t => by
    obtain ⟨vs, h1, h2⟩ := vals_of_each t
    exact ⟨x :: vs, .cons r h1, .cons h h2⟩
def rSortedD (K : PySem.W.Frag) : List V → Hp → VK → Prop := fun xs H Q => ∃ (A : Hot) (a : Addr) (vs : List V) (ds : List PyData), xs = [.ref a] ∧ (H a = some (.lst vs) ∨ H a = some (.tup vs)) ∧ DAs K A H vs ds ∧ AllAlike ds ∧ (∀ d ∈ ds, d ≠ .none ∧ d.depth ≤ 60) ∧
  ∀ p out, H p = none → DAs K A H out (ds.mergeSort dLe) → Q (.ref p) (upd H p (.lst out))
theorem vals1' {x : V} {us : List Value} (r : Vals [x] us) : ∃ u, us = [u] ∧ RelV x u := Vals.one r
theorem cr_sortedD (hu : X.A.units + 64 < cLine) : CallR X (.builtin "sorted") (rSortedD X.K) := by
  intro pins s σ H xs us Q I r h
  obtain ⟨A, a, vs, ds, rfl, hH, hds, hal, hn, q⟩ := h
  obtain ⟨u, rfl, ru⟩ := Vals.one r
  cases ru
  have hl : ∃ its : List Value, Vals vs its ∧ (s.heap.IsList a its.toArray ∨ s.heap.IsTuple a its.toArray) ∧ vs.length ≤ sizeLine := by
    rcases hH with h | h
    · obtain ⟨its, rv, p, hz⟩ := I.list (SqL.of h)
      exact ⟨its, rv, .inl p.isList, hz⟩
    · obtain ⟨its, rv, p, hz⟩ := I.tuple (SqT.of h)
      exact ⟨its, rv, .inr p, hz⟩
  obtain ⟨its, rv, hl, hz⟩ := hl
  have e := each_of_vals rv hds
  refine sorted_any hl e (e.mono fun u d ⟨x, rx, hx⟩ => Dp.reads I d x u hx.dp rx) hal (fun d hd => (hn d hd).1) (by rw [← hds.length]; exact hz) (fun d hd => by have := (hn d hd).2; omega) fun out hlen eo => ?_
  obtain ⟨ws, hw1, hw2⟩ := vals_of_each eo
  obtain ⟨c, hc⟩ := sortedAll_at s.heap its out.toArray
  have hlen2 : ws.length ≤ sizeLine := by rw [hw2.length, List.length_mergeSort, ← hds.length]; exact hz
  exact ⟨.ref (s.heap.objs.size + 1), _, I.laid (t' := s.toks) (fun b o h => sortedAll_old h) (Nat.le_succ _) (show ObjOk X.prog X.w _ _ _ (.lst ws) from ⟨hlen2, out, c, hw1, hc⟩), rfl, q _ ws (I.hok.fresh (Nat.le_succ _)) hw2⟩
abbrev GF1 := PyData → (List PyData → Prop) → Prop
def wF1 (g : GF1) (wa : WE) : WL := fun ρ P => wa ρ fun d => g d P
def DRF (K : PySem.W.Frag) (r : List V → Hp → VK → Prop) (g : GF1) : Prop := ∀ (Γ : Gam) (A : Hot) (H : Hp) (x : V) (d : PyData) (Q : VK) (P : List PyData → Prop), Sit Γ A H → DBd K Γ A H x d → g d P → PostF K Γ A H Q P → r [x] H Q
variable {a e : Expr} {wa wb w : WE} {pos : Pos}
theorem PostF.back {K : PySem.W.Frag} {Γ : Gam} {A : Hot} {H H' : Hp} {Q : VK} {P : List PyData → Prop} (k : PostF K Γ A H Q P) (x : Ext Γ H H') (g : GOk Γ H') : PostF K Γ A H' Q P := fun p vs xs H2 hp x2 g2 h hd hP => k p vs xs H2 (back_none x g hp) (x.trans x2) g2 h hd hP
theorem t_callF {K : PySem.W.Frag} {r : List V → Hp → VK → Prop} {g : GF1} (hd : DRF K r g) : ∀ σ H Q, tFr K (wF1 g wa) σ H Q → tCB r (tCons (tBr K wa) tNil) σ H Q := fun σ H Q ⟨Γ, A, ρ, P, R, hw, k⟩ =>
  ⟨Γ, A, ρ, _, R, hw, fun v d H1 x1 g1 hv hP => hd Γ A H1 v d Q P (R.sit.ext x1 g1) hv hP (k.back x1 g1)⟩
theorem df_b1 {id : String} {x : Str} {r : List V → Hp → VK → Prop} {g : GF1} {p : Pos} (hc : CallR X (.builtin id) r) (hd : DRF X.K r g) (hg : Gl X x) (hm : X.mg x = none) (hv : bootBuiltins x = some (.builtin id)) (ha : DB X a wa) (hn : x ≠ "__name__" := by decide) (hdb : (x == ("__debug__" : Str)) = false := by decide)
    (he : starEach [a] X.env = (false, eval a X.env) :: starEach [] X.env := by rfl) (hpl : (backTo pos (starEach [] X.env)).any (·.1) = false := by rfl) : DF X (.Call (.Name x p) [a] [] pos) (wF1 g wa) :=
  peC (pe_callB hc hg hm hv (pa_cons ha pa_nil he) hn hdb he hpl) (t_callF hd)
theorem df_t1 {T : String} {x : Str} {r : List V → Hp → VK → Prop} {g : GF1} {p : Pos} (hc : CallR X (.type T) r) (hd : DRF X.K r g) (hg : Gl X x) (hm : X.mg x = none) (hv : bootBuiltins x = some (.type T)) (ha : DB X a wa) (hn : x ≠ "__name__" := by decide) (hdb : (x == ("__debug__" : Str)) = false := by decide)
    (he : starEach [a] X.env = (false, eval a X.env) :: starEach [] X.env := by rfl) (hpl : (backTo pos (starEach [] X.env)).any (·.1) = false := by rfl) : DF X (.Call (.Name x p) [a] [] pos) (wF1 g wa) :=
  peC (pe_callTy hc hg hm hv (pa_cons ha pa_nil he) hn hdb he hpl) (t_callF hd)
def gSorted : GF1 := fun d P => isSeq d = true ∧ AllAlike (itemsD d) ∧ (∀ x ∈ itemsD d, x ≠ .none ∧ x.depth ≤ 60) ∧ P ((itemsD d).mergeSort dLe)
theorem dr_sorted {K : PySem.W.Frag} : DRF K (rSortedD K) gSorted := fun Γ A H x d Q P S hx hg k => by
  obtain ⟨h1, h2, h3, h4⟩ := hg
  have fin : ∀ (a : Addr) (vs : List V), (H a = some (.lst vs) ∨ H a = some (.tup vs)) → DAs K A H vs (itemsD d) → rSortedD K [.ref a] H Q := fun a vs hH hvs =>
    ⟨A, a, vs, itemsD d, rfl, hH, hvs, h2, h3, fun p out hp ho => k p out _ _ hp (ExA.new hp) (S.gok.new hp) upd_same ((ho.avoid (hadd_avoid hp)).ext (ExA.new hp)) h4⟩
  cases d with
  | list xs =>
    obtain ⟨a, vs, rfl, ha, hvs, _⟩ := hx.lst S
    exact fin a vs (.inl ha) hvs
  | tuple xs =>
    obtain ⟨a, vs, rfl, na, ha, hvs⟩ := hx.tup
    exact fin a vs (.inr ha) hvs
  | _ => cases h1
/-- list(x) -/
def gList : GF1 := fun d P => isSeq d = true ∧ P (itemsD d)
theorem dr_list {K : PySem.W.Frag} : DRF K (fun xs H Q => ∃ p ys, xs = [.ref p] ∧ (SqL K H p ys ∨ SqT K H p ys) ∧ ∀ l, H l = none → Q (.ref l) (upd H l (.lst ys))) gList := fun Γ A H x d Q P S hx hg k => by
  obtain ⟨h1, h4⟩ := hg
  have fin : ∀ (a : Addr) (vs : List V), (SqL K H a vs ∨ SqT K H a vs) → DAs K A H vs (itemsD d) → ∃ p ys, [V.ref a] = [.ref p] ∧ (SqL K H p ys ∨ SqT K H p ys) ∧ ∀ l, H l = none → Q (.ref l) (upd H l (.lst ys)) := fun a vs hH hvs =>
    ⟨a, vs, rfl, hH, fun p hp => k p vs _ _ hp (ExA.new hp) (S.gok.new hp) upd_same ((hvs.avoid (hadd_avoid hp)).ext (ExA.new hp)) h4⟩
  cases d with
  | list xs =>
    obtain ⟨a, vs, rfl, ha, hvs, _⟩ := hx.lst S
    exact fin a vs (.inl (SqL.of ha)) hvs
  | tuple xs =>
    obtain ⟨a, vs, rfl, na, ha, hvs⟩ := hx.tup
    exact fin a vs (.inr (SqT.of ha)) hvs
  | _ => cases h1

/-! ### min, max of data -/
def rBest (K : PySem.W.Frag) (best : PyData → List PyData → PyData) : List V → Hp → VK → Prop := fun xs H Q => ∃ (A : Hot) (a : Addr) (vs : List V) (d : PyData) (ds : List PyData), xs = [.ref a] ∧ (H a = some (.lst vs) ∨ H a = some (.tup vs)) ∧ DAs K A H vs (d :: ds) ∧
  PySem.W.AlikeAll (d :: ds) ∧ PyData.depthAll (d :: ds) ≤ 60 ∧ ∀ v, DA K A H v (best d ds) → Q v H
theorem readsAll_of {pins : List (Addr × Obj)} {σ : St} {H : Hp} {s : Shared} {K : PySem.W.Frag} {A : Hot} (hK : X.K = K) (I : Inv X pins σ H s) {vs : List V} {its : List Value} {ds : List PyData} (rv : Vals vs its) (h : DAs K A H vs ds) : ∃ as, ReadsAll s.heap its ds as := by
  subst hK
  exact Dp.readsAll I ds vs its h.dp rv
theorem best_item {pins : List (Addr × Obj)} {σ : St} {H : Hp} {s : Shared} {A : Hot} {h' : Heap} (I : Inv X pins σ H s) (k : ∀ b o, s.heap.get? b = some o → h'.get? b = some o) {vs : List V} {its : List Value} {ds : List PyData} (rv : Vals vs its) (h : DAs X.K A H vs ds)
    (hal : ∀ x ∈ ds, ∀ y ∈ ds, PySem.W.alike x y = true) {i : Nat} {u : Value} {d : PyData} {bs : List Addr} (hi : its[i]? = some u) (r : Reads h' u d bs) (hd : d ∈ ds) : ∃ x, RelV x u ∧ DA X.K A H x d := by
  have hlt : i < vs.length := by rw [rv.length]; exact (List.getElem?_eq_some_iff.mp hi).1
  obtain ⟨u', h1, ru⟩ := rv.get (List.getElem?_eq_getElem hlt)
  rw [hi] at h1
  cases h1
  obtain ⟨d', h2, hx⟩ := h.at' (List.getElem?_eq_getElem hlt)
  obtain ⟨as, r'⟩ := Dp.reads I d' _ u hx.dp ru
  have e := PySem.W.alike_unique _ _ _ _ _ (hal _ (List.mem_of_getElem? h2) _ hd) (PyProof.Rows.Reads.keeps k r') r
  subst e
  exact ⟨_, ru, hx⟩
theorem fold_mem {α : Type} (f : α → α → Bool) : ∀ (xs : List α) (x : α), xs.foldl (fun a y => if f a y = true then y else a) x ∈ x :: xs
  | [], x => by simp
  | y :: ys, x => by
    rw [List.foldl_cons]
    have h := fold_mem f ys (if f x y = true then y else x)
    rcases List.mem_cons.mp h with h | h
    · rw [h]
      split <;> simp
    · exact List.mem_cons_of_mem _ (List.mem_cons_of_mem _ h)
theorem minD_mem (d : PyData) (ds : List PyData) : PySem.W.minD d ds ∈ d :: ds := fold_mem (fun a y => PySem.W.dataLt y a) ds d
theorem maxD_mem (d : PyData) (ds : List PyData) : PySem.W.maxD d ds ∈ d :: ds := fold_mem (fun a y => PySem.W.dataLt a y) ds d
theorem cr_minD (hc : X.calm = true) (hu : X.A.units + 64 < cLine) : CallR X (.builtin "min") (rBest X.K PySem.W.minD) := by
  intro pins s σ H xs us Q I r h
  obtain ⟨A, a, vs, d, ds, rfl, hH, hds, hal, hdep, q⟩ := h
  obtain ⟨u, rfl, ru⟩ := Vals.one r
  cases ru
  have fin : ∀ (its : List Value), Vals vs its → ∀ (i : Nat) v h' tk bs, its.toArray[i]? = some v → Reads h' v (PySem.W.minD d ds) bs → (∀ b o, s.heap.get? b = some o → h'.get? b = some o) → EP X pins σ Q v { s with heap := h', toks := tk } := fun its rv i v h' tk bs hi hr k => by
    obtain ⟨x, rx, hx⟩ := best_item I k rv hds hal.1 (by simpa using hi) hr (minD_mem d ds)
    exact ⟨x, H, I.kept k, rx, q x hx⟩
  rcases hH with h | h
  · obtain ⟨its, rv, p, hz⟩ := I.list (SqL.of h)
    obtain ⟨as, hr⟩ := Dp.readsAll I _ vs its hds.dp rv
    exact PySem.W.min_list_data (I.ok.hd hc) p.isList (by simpa using hr) hal (by omega) (fin its rv)
  · obtain ⟨its, rv, p, hz⟩ := I.tuple (SqT.of h)
    obtain ⟨as, hr⟩ := Dp.readsAll I _ vs its hds.dp rv
    exact PySem.W.min_tuple_data (I.ok.hd hc) p (by simpa using hr) hal (by omega) (fin its rv)
theorem cr_maxD (hc : X.calm = true) (hu : X.A.units + 64 < cLine) : CallR X (.builtin "max") (rBest X.K PySem.W.maxD) := by
  intro pins s σ H xs us Q I r h
  obtain ⟨A, a, vs, d, ds, rfl, hH, hds, hal, hdep, q⟩ := h
  obtain ⟨u, rfl, ru⟩ := Vals.one r
  cases ru
  have fin : ∀ (its : List Value), Vals vs its → ∀ (i : Nat) v h' tk bs, its.toArray[i]? = some v → Reads h' v (PySem.W.maxD d ds) bs → (∀ b o, s.heap.get? b = some o → h'.get? b = some o) → EP X pins σ Q v { s with heap := h', toks := tk } := fun its rv i v h' tk bs hi hr k => by
    obtain ⟨x, rx, hx⟩ := best_item I k rv hds hal.1 (by simpa using hi) hr (maxD_mem d ds)
    exact ⟨x, H, I.kept k, rx, q x hx⟩
  rcases hH with h | h
  · obtain ⟨its, rv, p, hz⟩ := I.list (SqL.of h)
    obtain ⟨as, hr⟩ := Dp.readsAll I _ vs its hds.dp rv
    exact PySem.W.max_list_data (I.ok.hd hc) p.isList (by simpa using hr) hal (by omega) (fin its rv)
  · obtain ⟨its, rv, p, hz⟩ := I.tuple (SqT.of h)
    obtain ⟨as, hr⟩ := Dp.readsAll I _ vs its hds.dp rv
    exact PySem.W.max_tuple_data (I.ok.hd hc) p (by simpa using hr) hal (by omega) (fin its rv)
def gBest (best : PyData → List PyData → PyData) : G1 := fun d P => isSeq d = true ∧ ∃ x xs, itemsD d = x :: xs ∧ PySem.W.AlikeAll (x :: xs) ∧ PyData.depthAll (x :: xs) ≤ 60 ∧ P (best x xs)
abbrev gMin : G1 := gBest PySem.W.minD
abbrev gMax : G1 := gBest PySem.W.maxD
theorem dr_best {K : PySem.W.Frag} {best : PyData → List PyData → PyData} : DR1 K (rBest K best) (gBest best) := fun Γ A H x d Q P S hx hg k => by
  obtain ⟨h1, y, ys, h2, h3, h4, h5⟩ := hg
  have fin : ∀ (a : Addr) (vs : List V), (H a = some (.lst vs) ∨ H a = some (.tup vs)) → DAs K A H vs (itemsD d) → rBest K best [.ref a] H Q := fun a vs hH hvs =>
    ⟨A, a, vs, y, ys, rfl, hH, by rw [← h2]; exact hvs, h3, h4, fun v hv => k v _ H (ExA.refl _ _) S.gok hv h5⟩
  cases d with
  | list xs =>
    obtain ⟨a, vs, rfl, ha, hvs, _⟩ := hx.lst S
    exact fin a vs (.inl ha) hvs
  | tuple xs =>
    obtain ⟨a, vs, rfl, na, ha, hvs⟩ := hx.tup
    exact fin a vs (.inr ha) hvs
  | _ => cases h1
/-- max(i, j) -/
def wMax2 (wa wb : WE) : WE := fun ρ P => wa ρ fun d => wb ρ fun e => match d, e with
  | .int i, .int j => P (.int (if j > i then j else i))
  | _, _ => False
theorem de_max2 {b : Expr} {p : Pos} (hc : X.calm = true) (hg : Gl X "max") (hm : X.mg "max" = none) (ha : DE X a wa) (hb : DE X b wb) (he : starEach [a, b] X.env = (false, eval a X.env) :: starEach [b] X.env := by rfl)
    (he2 : starEach [b] X.env = (false, eval b X.env) :: starEach [] X.env := by rfl) (hpl : (backTo pos (starEach [b] X.env)).any (·.1) = false := by rfl) : DE X (.Call (.Name "max" p) [a, b] [] pos) (wMax2 wa wb) :=
  peC (pe_callB (call_max2 hc) hg hm (by decide +kernel) (pa_cons ha (pa_cons hb pa_nil he2) he) (by decide) (by decide) he hpl) fun σ H Q ⟨Γ, A, ρ, P, R, hw, k⟩ =>
  ⟨Γ, A, ρ, _, R, hw, fun v d H1 x1 g1 hv hP => ⟨Γ, A, ρ, _, R.ext x1 g1, hP, fun u e H2 x2 g2 hu hP2 => by
    cases d with
    | int i => cases e with
      | int j => cases hv; cases hu; exact ⟨i, j, rfl, k _ _ H2 (x1.trans x2) g2 (.int _) hP2⟩
      | _ => exact hP2.elim
    | _ => exact hP2.elim⟩⟩

/-! ### ranges -/
def rgD (n : Int) : List PyData := (List.range n.toNat).map fun i => PyData.int (i : Nat)
def wRg1 (w : WE) : WL := fun ρ P => w ρ fun d => match d with
  | .int n => n ≤ 16777216 ∧ -(2 ^ 62) ≤ n ∧ P (rgD n)
  | _ => False
theorem rgV_D {K : PySem.W.Frag} {A : Hot} {H : Hp} (n : Int) : DAs K A H (rgV 0 n) (rgD n) := by
  have e : rgV 0 n = ((List.range n.toNat).map fun i : Nat => (i : Int)).map V.int := by
    unfold rgV
    rw [List.map_map, Int.sub_zero]
    refine List.map_congr_left fun i _ => ?_
    simp
  have e2 : rgD n = ((List.range n.toNat).map fun i : Nat => (i : Int)).map PyData.int := by
    unfold rgD
    rw [List.map_map]
    rfl
  rw [e, e2]
  exact DAs.ofInts _
theorem rgOk {n : Int} (h : n ≤ 16777216) (h2 : -(2 ^ 62) ≤ n) : RgOk 0 n := by
  refine ⟨by omega, by omega, h2, by omega, ?_⟩
  have : ((n - 0).toNat) ≤ 16777216 := by omega
  exact this
theorem df_listRg {p1 p : Pos} {pos1 : Pos} (hc : X.calm = true) (hg : Gl X "list") (hm : X.mg "list" = none) (hg2 : Gl X "range") (hm2 : X.mg "range" = none) (ha : DE X a wa) (na : starEach [a] X.env = (false, eval a X.env) :: starEach [] X.env := by rfl)
    (nb : starEach [.Call (.Name "range" p1) [a] [] pos1] X.env = (false, eval (.Call (.Name "range" p1) [a] [] pos1) X.env) :: starEach [] X.env := by rfl) : DF X (.Call (.Name "list" p) [.Call (.Name "range" p1) [a] [] pos1] [] pos) (wRg1 wa) :=
  peC (pe_listRg hc hg hm (prg_1 hg2 hm2 ha na) nb) fun σ H Q ⟨Γ, A, ρ, P, R, hw, k⟩ => ⟨Γ, A, ρ, _, R, hw, fun v d H1 x1 g1 hv hP => by
    cases d with
    | int n =>
      cases hv
      exact ⟨n, rfl, rgOk hP.1 hP.2.1, fun p hp => k p _ _ _ (back_none x1 g1 hp) (x1.trans (ExA.new hp)) (g1.new hp) upd_same (rgV_D n) hP.2.2⟩
    | _ => exact hP.elim⟩
theorem de_tupRg {p1 p : Pos} {pos1 : Pos} (hc : X.calm = true) (hg : Gl X "tuple") (hm : X.mg "tuple" = none) (hg2 : Gl X "range") (hm2 : X.mg "range" = none) (ha : DE X a wa) (na : starEach [a] X.env = (false, eval a X.env) :: starEach [] X.env := by rfl)
    (nb : starEach [.Call (.Name "range" p1) [a] [] pos1] X.env = (false, eval (.Call (.Name "range" p1) [a] [] pos1) X.env) :: starEach [] X.env := by rfl) : DE X (.Call (.Name "tuple" p) [.Call (.Name "range" p1) [a] [] pos1] [] pos) (wTup (wRg1 wa)) :=
  peC (pe_tupRg hc hg hm (prg_1 hg2 hm2 ha na) nb) fun σ H Q ⟨Γ, A, ρ, P, R, hw, k⟩ => ⟨Γ, A, ρ, _, R, hw, fun v d H1 x1 g1 hv hP => by
    cases d with
    | int n =>
      cases hv
      exact ⟨n, rfl, rgOk hP.1 hP.2.1, fun p hp => k _ _ _ (x1.trans (ExA.new hp)) (g1.new hp) (.tup (R.sit.cold (back_none x1 g1 hp)) upd_same (rgV_D n)) hP.2.2⟩
    | _ => exact hP.elim⟩

/-! ### isinstance of a built-in class -/
def tyN : PyData → String
  | .none => "NoneType"
  | .bool _ => "bool"
  | .int _ => "int"
  | .str _ => "str"
  | .list _ => "list"
  | .tuple _ => "tuple"
  | .dict _ => "dict"
theorem tyX_of {K : PySem.W.Frag} {Γ : Gam} {A : Hot} {H : Hp} {x : V} {d : PyData} (S : Sit Γ A H) (h : DBd K Γ A H x d) : TyX K H x (.type (tyN d)) := by
  cases d with
  | none => rw [h.non]; exact .base .non
  | bool b => rw [h.bl]; exact .base (.bl b)
  | int i => rw [h.int]; exact .base (.int i)
  | str z => rw [h.str]; exact .base (.str z)
  | list xs =>
    obtain ⟨a, vs, rfl, ha, _, _⟩ := h.lst S
    exact .base (.lst ha)
  | tuple xs =>
    obtain ⟨a, vs, rfl, na, ha, _⟩ := h.tup
    exact .base (.tup ha)
  | dict _ => exact absurd h.plain (by simp [PyData.plain])
/-- isinstance(x, T): T one of int, bool, str, list, tuple -/
def isiB (T : String) (d : PyData) : Bool := T == tyN d || (T == "int" && tyN d == "bool")
def wIsi (T : String) (w : WE) : WE := fun ρ P => w ρ fun d => P (.bool (isiB T d))
theorem kit_tab : ∀ n ∈ ["NoneType", "bool", "int", "str", "list", "tuple", "dict"], ∀ T ∈ ["int", "bool", "str", "list", "tuple"], kitB n T = some (T == n || (T == "int" && n == "bool")) := by decide +kernel
theorem kit_all {T : String} (h : T = "int" ∨ T = "bool" ∨ T = "str" ∨ T = "list" ∨ T = "tuple") (d : PyData) : kitB (tyN d) T = some (isiB T d) :=
  kit_tab (tyN d) (by cases d <;> simp [tyN]) T (by simpa using h)
theorem de_isi {T : String} {x : Str} {p p2 : Pos} (hT : T = "int" ∨ T = "bool" ∨ T = "str" ∨ T = "list" ∨ T = "tuple") (hg : Gl X "isinstance") (hm : X.mg "isinstance" = none) (hg2 : Gl X x) (hm2 : X.mg x = none) (hv2 : bootBuiltins x = some (.type T)) (ha : DB X a wa)
    (hn2 : x ≠ "__name__" := by decide) (hd2 : (x == ("__debug__" : Str)) = false := by decide)
    (he : starEach [a, .Name x p2] X.env = (false, eval a X.env) :: starEach [.Name x p2] X.env := by rfl) (he2 : starEach [.Name x p2] X.env = (false, eval (.Name x p2) X.env) :: starEach [] X.env := by rfl)
    (hpl : (backTo pos (starEach [.Name x p2] X.env)).any (·.1) = false := by rfl) : DE X (.Call (.Name "isinstance" p) [a, .Name x p2] [] pos) (wIsi T wa) :=
  peC (pe_callB call_isi hg hm (by decide +kernel) (pa_cons ha (pa_cons (pe_bltn (v := .ty T) hg2 hm2 hv2 rfl hn2 hd2) pa_nil he2) he) (by decide) (by decide) he hpl) fun σ H Q ⟨Γ, A, ρ, P, R, hw, k⟩ =>
  ⟨Γ, A, ρ, _, R, hw, fun v d H1 x1 g1 hv hP => ⟨v, .ty T, .type (tyN d), .type T, isiB T d, rfl, .ty T, tyX_of (R.sit.ext x1 g1) hv, kit_ty (kit_all hT d), k _ _ H1 x1 g1 (.bl _) hP⟩⟩
/-- isinstance(x, (T, U)) -/
def wIsi2 (T U : String) (w : WE) : WE := fun ρ P => w ρ fun d => P (.bool (isiB T d || isiB U d))
theorem de_isi2 {T U : String} {x y : Str} {k1 : Nat} {p p2 p3 pt : Pos} (hT : T = "int" ∨ T = "bool" ∨ T = "str" ∨ T = "list" ∨ T = "tuple") (hU : U = "int" ∨ U = "bool" ∨ U = "str" ∨ U = "list" ∨ U = "tuple") (hg : Gl X "isinstance") (hm : X.mg "isinstance" = none)
    (hg2 : Gl X x) (hm2 : X.mg x = none) (hv2 : bootBuiltins x = some (.type T)) (hg3 : Gl X y) (hm3 : X.mg y = none) (hv3 : bootBuiltins y = some (.type U)) (ha : DB X a wa)
    (hn2 : x ≠ "__name__" := by decide) (hd2 : (x == ("__debug__" : Str)) = false := by decide) (hn3 : y ≠ "__name__" := by decide) (hd3 : (y == ("__debug__" : Str)) = false := by decide)
    (he : starEach [a, .Tuple [.Name x p2, .Name y p3] k1 pt] X.env = (false, eval a X.env) :: starEach [.Tuple [.Name x p2, .Name y p3] k1 pt] X.env := by rfl) (he2 : starEach [.Tuple [.Name x p2, .Name y p3] k1 pt] X.env = (false, eval (.Tuple [.Name x p2, .Name y p3] k1 pt) X.env) :: starEach [] X.env := by rfl)
    (hpl : (backTo pos (starEach [.Tuple [.Name x p2, .Name y p3] k1 pt] X.env)).any (·.1) = false := by rfl)
    (hx : starEach [.Name x p2, .Name y p3] X.env = (false, eval (.Name x p2) X.env) :: starEach [.Name y p3] X.env := by rfl) (hy : starEach [.Name y p3] X.env = (false, eval (.Name y p3) X.env) :: starEach [] X.env := by rfl) :
    DE X (.Call (.Name "isinstance" p) [a, .Tuple [.Name x p2, .Name y p3] k1 pt] [] pos) (wIsi2 T U wa) :=
  peC (pe_callB call_isiT hg hm (by decide +kernel) (pa_cons ha (pa_cons (pe_tup (pa_cons (pe_bltn (v := .ty T) hg2 hm2 hv2 rfl hn2 hd2) (pa_cons (pe_bltn (v := .ty U) hg3 hm3 hv3 rfl hn3 hd3) pa_nil hy) hx)) pa_nil he2) he) (by decide) (by decide) he hpl) fun σ H Q ⟨Γ, A, ρ, P, R, hw, k⟩ =>
  ⟨Γ, A, ρ, _, R, hw, fun v d H1 x1 g1 hv hP => ⟨by show 2 ≤ sizeLine; decide, fun p hp => by
    have S1 := R.sit.ext x1 g1
    refine ⟨v, p, [.ty T, .ty U], .type (tyN d), [.type T, .type U], isiB T d || isiB U d, rfl, upd_same, .cons (.ty T) (.cons (.ty U) .nil), ?_, ?_, k _ _ _ (x1.trans (ExA.new hp)) (g1.new hp) (.bl _) hP⟩
    · exact tyX_of (S1.ext (ExA.new hp) (g1.new hp)) (hv.ext S1 (ExA.new hp))
    · refine kitAny_cons (kit_ty (kit_all hT d)) (fun h => ?_) (fun h => by rw [h]; rfl)
      rw [h, Bool.false_or]
      exact kitAny_cons (kit_ty (kit_all hU d)) (fun h => by rw [h]; exact kitAny_nil) fun h => h⟩⟩
end
end Dat

/-! DatE: what is walked, targets, comprehensions. -/
namespace Dat
open PySem PySem.Spec PyProof.Rows L2

/-- a later place: the hot things more by new ones, all else stands -/
structure LaterS (Γ : Gam) (A : Hot) (H : Hp) (Γ' : Gam) (A' : Hot) (H' : Hp) : Prop where
  a : ∀ x, A x → A' x
  an : ∀ x, A' x → ¬ A x → H x = none
  ex : ExA A' H H'
  g : ∀ x, Γ x ≠ none → Γ' x = Γ x
  gn : ∀ x, Γ x = none → Γ' x ≠ none → H x = none
structure LaterE (Γ : Gam) (A : Hot) (H : Hp) (Γ' : Gam) (A' : Hot) (H' : Hp) : Prop where
  gg : Γ' = Γ
  a : ∀ x, A x → A' x
  an : ∀ x, A' x → ¬ A x → H x = none
  ex : Ext Γ H H'
section
variable {K : PySem.W.Frag} {Γ Γ' Γ2 : Gam} {A A' A2 : Hot} {σ : St} {H H' H2 : Hp} {ρ : Env}
theorem LaterS.refl (Γ : Gam) (A : Hot) (H : Hp) : LaterS Γ A H Γ A H := ⟨fun _ h => h, fun _ h n => absurd h n, ExA.refl _ _, fun _ _ => rfl, fun _ h n => absurd h n⟩
theorem LaterS.of_ext (S : Sit Γ A H) (e : Ext Γ H H') : LaterS Γ A H Γ A H' := ⟨fun _ h => h, fun _ h n => absurd h n, e.weak S.gdom, fun _ _ => rfl, fun _ h n => absurd h n⟩
theorem ExA.there {B : Hot} (e : ExA B H H') {x : Addr} (n : ¬ B x) (h : H x ≠ none) : H' x ≠ none := by
  cases q : H x with
  | none => exact absurd q h
  | some o => rw [e x o n q]; simp
theorem LaterS.trans (S' : Sit Γ' A' H') (l : LaterS Γ A H Γ' A' H') (m : LaterS Γ' A' H' Γ2 A2 H2) : LaterS Γ A H Γ2 A2 H2 := by
  refine ⟨fun x h => m.a x (l.a x h), fun x h n => ?_, fun x o n e => ?_, fun x h => ?_, fun x h n => ?_⟩
  · by_cases hx : A' x
    · exact l.an x hx n
    · have q := m.an x h hx
      cases r : H x with
      | none => rfl
      | some o => rw [l.ex x o hx r] at q; cases q
  · have n' : ¬ A' x := fun z => n (m.a x z)
    exact m.ex x o n (l.ex x o n' e)
  · rw [m.g x (by rw [l.g x h]; exact h), l.g x h]
  · by_cases hx : Γ' x = none
    · have q := m.gn x hx n
      cases r : H x with
      | none => rfl
      | some o =>
        have nA : ¬ A' x := fun z => S'.adom x z q
        rw [l.ex x o nA r] at q
        cases q
    · exact l.gn x h hx
theorem LaterE.s (S : Sit Γ A H) (l : LaterE Γ A H Γ' A' H') : LaterS Γ A H Γ' A' H' := by
  obtain ⟨rfl, a, an, ex⟩ := l
  exact ⟨a, an, ex.weak fun x h => a x (S.gdom x h), fun _ _ => rfl, fun _ h n => absurd h n⟩
theorem LaterS.da {v : V} {d : PyData} (l : LaterS Γ A H Γ' A' H') (h : DA K A H v d) : DA K A' H' v d := (h.avoid fun a h n => l.an a h n).ext l.ex
theorem LaterS.das {vs : List V} {ds : List PyData} (l : LaterS Γ A H Γ' A' H') (h : DAs K A H vs ds) : DAs K A' H' vs ds := (h.avoid fun a h n => l.an a h n).ext l.ex
theorem LaterS.cold {a : Addr} {o : HO} (l : LaterS Γ A H Γ' A' H') (n : ¬ A a) (h : H a = some o) : ¬ A' a ∧ H' a = some o := by
  have n' : ¬ A' a := fun z => by rw [l.an a z n] at h; cases h
  exact ⟨n', l.ex a o n' h⟩
end

/-! ### what is walked -/
structure DWalk (K : PySem.W.Frag) (L : Gam → Hot → Hp → Prop) (J : It) (ds : List PyData) : Prop where
  ex : ∃ Y, Walk J ds.length (fun H => ∃ Γ A, L Γ A H ∧ Sit Γ A H) Y ∧ ∀ i H x H', i < ds.length → Y i H x H' → ∀ Γ A, L Γ A H → Sit Γ A H → Ext Γ H H' ∧ GOk Γ H' ∧ ∃ d, ds[i]? = some d ∧ DA K A H' x d
  small : ds.length ≤ sizeLine
theorem DWalk.mono {K : PySem.W.Frag} {L L' : Gam → Hot → Hp → Prop} {J : It} {ds : List PyData} (h : DWalk K L J ds) (m : ∀ Γ A H, L' Γ A H → L Γ A H) : DWalk K L' J ds := by
  obtain ⟨⟨Y, w, it⟩, sm⟩ := h
  exact ⟨⟨Y, w.mono (fun H ⟨Γ, A, l, S⟩ => ⟨Γ, A, m Γ A H l, S⟩) fun i H x H' _ _ y => y, fun i H x H' hi y Γ A l S => it i H x H' hi y Γ A (m Γ A H l) S⟩, sm⟩
def tI (K : PySem.W.Frag) (w : WL) : TI := fun σ H R => ∃ Γ A ρ P, RepE K Γ A σ H ρ ∧ w ρ P ∧ ∀ J ds H', Ext Γ H H' → GOk Γ H' → DWalk K (LaterS Γ A H') J ds → P ds → R J H'
def tIe (K : PySem.W.Frag) (w : WL) : TI := fun σ H R => ∃ Γ A ρ P, RepE K Γ A σ H ρ ∧ w ρ P ∧ ∀ J ds H', Ext Γ H H' → GOk Γ H' → DWalk K (LaterE Γ A H') J ds → P ds → R J H'
abbrev DI (X : Cx) (tg it : Expr) (w : WL) : Prop := PI X tg it (tI X.K w)
abbrev DIe (X : Cx) (tg it : Expr) (w : WL) : Prop := PI X tg it (tIe X.K w)
theorem piC {X : Cx} {tg e : Expr} {t t' : TI} (h : PI X tg e t) (c : ∀ σ H Q, t' σ H Q → t σ H Q) : PI X tg e t' := ⟨fun pins s σ H Q I q => h.run pins s σ H Q I (c σ H Q q)⟩
theorem di_e {X : Cx} {tg e : Expr} {w : WL} (h : DI X tg e w) : DIe X tg e w := piC h fun σ H Q ⟨Γ, A, ρ, P, R, hw, k⟩ => ⟨Γ, A, ρ, P, R, hw, fun J ds H' x g hw hP => k J ds H' x g (hw.mono fun Γ' A' H2 l => l.s (R.sit.ext x g)) hP⟩
/-- a list or a tuple -/
def iSeq (K : PySem.W.Frag) (tl : TE) : TI := fun σ H R => tl σ H fun x H1 => ∃ a xs, x = .ref a ∧ ((SqL K H1 a xs ∧ (xs.length ≤ sizeLine → R (Itl K a) H1)) ∨ (SqT K H1 a xs ∧ (xs.length ≤ sizeLine → R (Itt K a) H1)))
theorem pi_seq {X : Cx} {tg l : Expr} {tl : TE} (hl : PE X l tl) : PI X tg l (iSeq X.K tl) := by
  refine ⟨fun pins s σ H R I h => ?_⟩
  refine thn (hl.run pins s σ H _ I h) fun v s1 ⟨x, H1, I1, r1, q1⟩ => ?_
  obtain ⟨a, xs, e, ⟨hq, q⟩ | ⟨hq, q⟩⟩ := q1
  · subst e
    cases r1
    obtain ⟨its, rv, p, hz⟩ := I1.list hq
    refine wpAny_pyIter_list p.isList ?_
    refine ⟨s1.heap.objs.size, [s1.heap.objs.size], _, _, H1, rfl, I1.kept (t' := s1.toks) fun b o e => Heap.get?_push_of_some _ e, turn_list a _, ⟨_, Heap.get?_push_size _ rfl, rfl, rfl⟩, fun b hb => ?_, q hz⟩
    have e : b = s1.heap.objs.size := by simpa using hb
    subst e
    exact I1.fpOk (Nat.le_refl _) (I1.hok.fresh (Nat.le_refl _))
  · subst e
    cases r1
    obtain ⟨its, rv, p, hz⟩ := I1.tuple hq
    refine wpAny_pyIter_tuple (show s1.heap.IsTuple a its.toArray from p) ?_
    refine ⟨s1.heap.objs.size, [s1.heap.objs.size], _, _, H1, rfl, I1.kept (t' := s1.toks) fun b o e => Heap.get?_push_of_some _ e, turn_tuple a _, ⟨_, Heap.get?_push_size _ rfl, rfl, rfl⟩, fun b hb => ?_, q hz⟩
    have e : b = s1.heap.objs.size := by simpa using hb
    subst e
    exact I1.fpOk (Nat.le_refl _) (I1.hok.fresh (Nat.le_refl _))
def wSeqI (w : WE) : WL := fun ρ P => w ρ fun d => isSeq d = true ∧ P (itemsD d)
theorem dwalk_list {K : PySem.W.Frag} {L : Gam → Hot → Hp → Prop} {a : Addr} {xs : List V} {ds : List PyData} (hl : xs.length = ds.length) (hz : xs.length ≤ sizeLine) (st : ∀ Γ A H, L Γ A H → Sit Γ A H → H a = some (.lst xs) ∧ DAs K A H xs ds) : DWalk K L (Itl K a) ds := by
  refine ⟨⟨YAt xs, ?_, fun i H x H' hi y Γ A l S => ?_⟩, by rw [← hl]; exact hz⟩
  · rw [← hl]
    exact walk_list.mono (fun H ⟨Γ, A, l, S⟩ => SqL.of (st Γ A H l S).1) fun i H x H' _ _ y => y
  · obtain ⟨rfl, hx⟩ := y
    obtain ⟨d, h1, h2⟩ := (st Γ A _ l S).2.at' hx
    exact ⟨ExA.refl _ _, S.gok, d, h1, h2⟩
theorem dwalk_tup {K : PySem.W.Frag} {L : Gam → Hot → Hp → Prop} {a : Addr} {xs : List V} {ds : List PyData} (hl : xs.length = ds.length) (hz : xs.length ≤ sizeLine) (st : ∀ Γ A H, L Γ A H → Sit Γ A H → H a = some (.tup xs) ∧ DAs K A H xs ds) : DWalk K L (Itt K a) ds := by
  refine ⟨⟨YAt xs, ?_, fun i H x H' hi y Γ A l S => ?_⟩, by rw [← hl]; exact hz⟩
  · rw [← hl]
    exact walk_tup.mono (fun H ⟨Γ, A, l, S⟩ => SqT.of (st Γ A H l S).1) fun i H x H' _ _ y => y
  · obtain ⟨rfl, hx⟩ := y
    obtain ⟨d, h1, h2⟩ := (st Γ A _ l S).2.at' hx
    exact ⟨ExA.refl _ _, S.gok, d, h1, h2⟩
section
variable {X : Cx} {tg e : Expr} {w : WE} {pos : Pos}
theorem di_seq (h : DE X e w) : DI X tg e (wSeqI w) := piC (pi_seq h) fun σ H Q ⟨Γ, A, ρ, P, R, hw, k⟩ => ⟨Γ, A, ρ, _, R, hw, fun v d H1 x g hv hP => by
  obtain ⟨h1, h2⟩ := hP
  cases hv with
  | lst n s hs => exact ⟨_, _, rfl, .inl ⟨SqL.of s, fun hz => k _ _ H1 x g (dwalk_list hs.length hz fun Γ' A' H' l S => ⟨(l.cold n s).2, l.das hs⟩) h2⟩⟩
  | tup n s hs => exact ⟨_, _, rfl, .inr ⟨SqT.of s, fun hz => k _ _ H1 x g (dwalk_tup hs.length hz fun Γ' A' H' l S => ⟨(l.cold n s).2, l.das hs⟩) h2⟩⟩
  | _ => cases h1⟩
/-- read, within a comprehension -/
theorem di_seqB (h : DB X e w) : DIe X tg e (wSeqI w) := piC (pi_seq h) fun σ H Q ⟨Γ, A, ρ, P, R, hw, k⟩ => ⟨Γ, A, ρ, _, R, hw, fun v d H1 x g hv hP => by
  obtain ⟨h1, h2⟩ := hP
  have S1 := R.sit.ext x g
  cases d with
  | list xs =>
    obtain ⟨a, vs, rfl, ha, hvs, na⟩ := hv.lst S1
    exact ⟨a, vs, rfl, .inl ⟨SqL.of ha, fun hz => k _ _ H1 x g (dwalk_list hvs.length hz fun Γ' A' H' l S => ⟨l.ex a _ (by simp [na]) ha, (l.s S1).das hvs⟩) h2⟩⟩
  | tuple xs =>
    obtain ⟨a, vs, rfl, n, ha, hvs⟩ := hv.tup
    exact ⟨a, vs, rfl, .inr ⟨SqT.of ha, fun hz => k _ _ H1 x g (dwalk_tup hvs.length hz fun Γ' A' H' l S => ⟨((l.s S1).cold n ha).2, (l.s S1).das hvs⟩) h2⟩⟩
  | _ => cases h1⟩
/-- for k in range(n) -/
theorem di_range {a : Expr} {p : Pos} (hg : Gl X "range") (hm : X.mg "range" = none) (ha : DE X a w) (h1 : starEach [a] X.env = (false, eval a X.env) :: starEach [] X.env := by rfl) (hs : starEach [a] X.env = [(false, eval a X.env)] := by rfl) : DI X tg (.Call (.Name "range" p) [a] [] pos) (wRg1 w) :=
  piC (pi_range1 hg hm (pa_cons ha pa_nil h1) hs) fun σ H Q ⟨Γ, A, ρ, P, R, hw, k⟩ => ⟨Γ, A, ρ, _, R, hw, fun v d H1 x g hv hP => by
    cases d with
    | int n =>
      cases hv
      obtain ⟨h1, h2, h3⟩ := hP
      refine ⟨n, rfl, h2, by omega, k _ _ H1 x g ⟨⟨YFn fun i => .int (0 + i), ?_, fun i H x H' hi y Γ A l S => ?_⟩, ?_⟩ h3⟩
      · have e : (rgD n).length = n.toNat := by simp [rgD]
        rw [e]
        exact walk_range.mono (fun _ _ => trivial) fun i H x H' _ _ y => y
      · obtain ⟨rfl, rfl⟩ := y
        have hi' : i < n.toNat := by simpa [rgD] using hi
        refine ⟨ExA.refl _ _, S.gok, .int (i : Nat), ?_, ?_⟩
        · unfold rgD
          rw [List.getElem?_map, List.getElem?_range hi']
          rfl
        · dsimp only
          rw [Int.zero_add]
          exact .int _
      · have e : (rgD n).length = n.toNat := by simp [rgD]
        rw [e, sizeLine_eq]
        omega
    | _ => exact hP.elim⟩
end

/-! ### targets -/
abbrev WG := PyData → Env → (Env → Prop) → Prop
abbrev WGs := List PyData → Env → (Env → Prop) → Prop
/-- some slots hold data now, the others stand -/
structure SetsTo (is : List Nat) (σ : St) (ρ : Env) (σ' : St) (ρ' : Env) : Prop where
  len : σ'.length = σ.length
  at' : ∀ j : Nat, (σ'[j]? = σ[j]? ∧ ρ'[j]? = ρ[j]?) ∨ (j ∈ is ∧ ∃ v d, σ'[j]? = some (some v) ∧ ρ'[j]? = some (some (.d d)))
theorem SetsTo.refl (σ : St) (ρ : Env) : SetsTo [] σ ρ σ ρ := ⟨rfl, fun _ => .inl ⟨rfl, rfl⟩⟩
theorem SetsTo.trans {is js : List Nat} {σ σ1 σ2 : St} {ρ ρ1 ρ2 : Env} (a : SetsTo is σ ρ σ1 ρ1) (b : SetsTo js σ1 ρ1 σ2 ρ2) : SetsTo (is ++ js) σ ρ σ2 ρ2 := by
  refine ⟨b.len.trans a.len, fun j => ?_⟩
  rcases b.at' j with ⟨h1, h2⟩ | ⟨h1, h2⟩
  · rcases a.at' j with ⟨h3, h4⟩ | ⟨h3, v, d, h4, h5⟩
    · exact .inl ⟨h1.trans h3, h2.trans h4⟩
    · exact .inr ⟨List.mem_append_left _ h3, v, d, h1.trans h4, h2.trans h5⟩
  · exact .inr ⟨List.mem_append_right _ h1, h2⟩
def tGd (K : PySem.W.Frag) (is : List Nat) (wg : WG) : TG := fun v σ H Q => ∃ Γ A ρ d P, RepE K Γ A σ H ρ ∧ DA K A H v d ∧ wg d ρ P ∧ ∀ σ' ρ', RepE K Γ A σ' H ρ' → SetsTo is σ ρ σ' ρ' → P ρ' → Q σ' H
def tGs (K : PySem.W.Frag) (is : List Nat) (wg : WGs) : TGs := fun vs σ H Q => ∃ Γ A ρ ds P, RepE K Γ A σ H ρ ∧ DAs K A H vs ds ∧ wg ds ρ P ∧ ∀ σ' ρ', RepE K Γ A σ' H ρ' → SetsTo is σ ρ σ' ρ' → P ρ' → Q σ' H
abbrev DG (X : Cx) (tg : Expr) (is : List Nat) (wg : WG) : Prop := PG X tg (tGd X.K is wg)
abbrev DGs (X : Cx) (tg : List Expr) (is : List Nat) (wg : WGs) : Prop := PGs X tg (tGs X.K is wg)
theorem pgC {X : Cx} {e : Expr} {t t' : TG} (h : PG X e t) (c : ∀ v σ H Q, t' v σ H Q → t v σ H Q) : PG X e t' := ⟨fun pins s σ H v u Q I r q => h.run pins s σ H v u Q I r (c v σ H Q q)⟩
theorem pgsC {X : Cx} {e : List Expr} {t t' : TGs} (h : PGs X e t) (c : ∀ v σ H Q, t' v σ H Q → t v σ H Q) : PGs X e t' := ⟨fun pins s σ H v u Q I r q => h.run pins s σ H v u Q I r (c v σ H Q q)⟩
def wGn (i : Nat) : WG := fun d ρ P => P (ρ.set i (some (.d d)))
def wGnil : WGs := fun ds ρ P => ds = [] ∧ P ρ
def wGcons (g : WG) (gs : WGs) : WGs := fun ds ρ P => match ds with
  | d :: ds => g d ρ fun ρ1 => gs ds ρ1 P
  | [] => False
def wGtup (n : Nat) (gs : WGs) : WG := fun d ρ P => match d with
  | .tuple ds => ds.length = n ∧ gs ds ρ P
  | _ => False
theorem SetsTo.one {σ : St} {ρ : Env} {i : Nat} {v : V} {d : PyData} (hl : ρ.length = σ.length) : SetsTo [i] σ ρ (σ.set i (some v)) (ρ.set i (some (.d d))) := by
  refine ⟨List.length_set, fun j => ?_⟩
  by_cases hj : i = j
  · subst hj
    by_cases hi : i < σ.length
    · exact .inr ⟨by simp, v, d, List.getElem?_set_self hi, List.getElem?_set_self (by rw [hl]; exact hi)⟩
    · refine .inl ⟨?_, ?_⟩
      · rw [List.getElem?_eq_none (by simpa using hi), List.getElem?_eq_none (by simpa using hi)]
      · rw [List.getElem?_eq_none (by simp; omega), List.getElem?_eq_none (by omega)]
  · exact .inl ⟨List.getElem?_set_ne hj, List.getElem?_set_ne hj⟩
section
variable {X : Cx} {pos : Pos} {is js : List Nat} {g : WG} {gs : WGs}
theorem dg_name {i : Nat} {x : Str} (h : PG X (.Name x pos) (gName i)) : DG X (.Name x pos) [i] (wGn i) := pgC h fun v σ H Q ⟨Γ, A, ρ, d, P, R, hv, hw, k⟩ => k _ _ (R.set (c := .d d) hv) (SetsTo.one R.len) hw
theorem dgs_nil : DGs X [] [] wGnil := pgsC pgs_nil fun vs σ H Q ⟨Γ, A, ρ, ds, P, R, hv, hw, k⟩ => by
  obtain ⟨rfl, hP⟩ := hw
  cases hv
  exact ⟨rfl, k σ ρ R (SetsTo.refl _ _) hP⟩
theorem dgs_cons {e : Expr} {es : List Expr} (h1 : DG X e is g) (h2 : DGs X es js gs) (hs : (assignEach (e :: es) X.env).map (·.2) = assign e X.env :: (assignEach es X.env).map (·.2) := by rfl) : DGs X (e :: es) (is ++ js) (wGcons g gs) := pgsC (pgs_cons h1 h2 hs) fun vs σ H Q ⟨Γ, A, ρ, ds, P, R, hv, hw, k⟩ => by
  cases ds with
  | nil => exact hw.elim
  | cons d ds =>
    cases hv with
    | cons hd hds =>
      exact ⟨_, _, rfl, Γ, A, ρ, d, _, R, hd, hw, fun σ' ρ' R' st hP => ⟨Γ, A, ρ', ds, P, R', hds, hP, fun σ2 ρ2 R2 st2 hP2 => k σ2 ρ2 R2 (st.trans st2) hP2⟩⟩
theorem dg_tup {es : List Expr} {k n : Nat} (hc : X.calm = true) (h : DGs X es is gs) (hn : (assignEach es X.env).length = n := by rfl) (hst : (assignEach es X.env).findIdx? (·.1) = none := by rfl) : DG X (.Tuple es k pos) is (wGtup n gs) := pgC (pg_tup hc h hn hst) fun v σ H Q ⟨Γ, A, ρ, d, P, R, hv, hw, k⟩ => by
  cases d with
  | tuple ds =>
    cases hv with
    | tup n s hs => exact ⟨_, _, rfl, SqT.of s, by rw [hs.length]; exact hw.1, Γ, A, ρ, ds, P, R, hs, hw.2, k⟩
  | _ => exact hw.elim
end

/-! ### comprehensions -/
theorem wipe_at (σ : St) : ∀ (vs : List Nat) (j : Nat), (wipe σ vs)[j]? = if j ∈ vs ∧ j < σ.length then some none else σ[j]?
  | [], j => by simp [wipe]
  | v :: vs, j => by
    unfold wipe
    by_cases hj : v = j
    · subst hj
      by_cases hl : v < σ.length
      · rw [List.getElem?_set_self (by rw [wipe_length]; exact hl), if_pos ⟨by simp, hl⟩]
      · rw [if_neg (fun h => hl h.2), List.getElem?_eq_none (by simp [wipe_length]; omega), List.getElem?_eq_none (by omega)]
    · rw [List.getElem?_set_ne hj, wipe_at σ vs j]
      by_cases hm : j ∈ vs ∧ j < σ.length
      · rw [if_pos hm, if_pos ⟨List.mem_cons_of_mem _ hm.1, hm.2⟩]
      · rw [if_neg hm, if_neg (fun h => hm ⟨by
          rcases List.mem_cons.mp h.1 with e | e
          · exact absurd e.symm hj
          · exact e, h.2⟩)]
theorem wipe_sets {σ σ' : St} {ρ ρ' : Env} {is vs : List Nat} (h : SetsTo is (wipe σ vs) ρ σ' ρ') (hs : ∀ i ∈ is, i ∈ vs) : wipe σ' vs = wipe σ vs := by
  apply List.ext_getElem?
  intro j
  have hl : σ'.length = σ.length := h.len.trans (wipe_length σ vs)
  rw [wipe_at, wipe_at, hl]
  by_cases hm : j ∈ vs ∧ j < σ.length
  · rw [if_pos hm, if_pos hm]
  · rw [if_neg hm, if_neg hm]
    rcases h.at' j with ⟨h1, _⟩ | ⟨h1, v, d, h2, _⟩
    · rw [h1, wipe_at, if_neg hm]
    · have hv := hs j h1
      have : ¬ j < σ.length := fun z => hm ⟨hv, z⟩
      rw [List.getElem?_eq_none (by omega), List.getElem?_eq_none (by omega)]
theorem RepE.addHot {K : PySem.W.Frag} {Γ : Gam} {A : Hot} {σ : St} {H H' : Hp} {ρ : Env} (R : RepE K Γ A σ H ρ) {D : Addr} (hD : H D = none) (e : Ext Γ H H') (g : GOk Γ H') (hD' : ∃ o, H' D = some o ∧ ∀ ts, o ≠ .tup ts) : RepE K Γ (hadd A D) σ H' ρ :=
  ⟨⟨g, fun a h => .inl (R.sit.gdom a h), fun a h => h.elim (fun z => there_ext e g (R.sit.adom a z)) fun z => by rw [z]; obtain ⟨o, h1, _⟩ := hD'; rw [h1]; simp,
    fun a ts h => h.elim (fun z => (R.sit.ext e g).nt a ts z) fun z q => by obtain ⟨o, h1, h2⟩ := hD'; rw [z, h1] at q; exact h2 ts (Option.some.inj q)⟩, R.len, fun i c q => by
    obtain ⟨v, h1, h2⟩ := R.cells i c q
    exact ⟨v, h1, (h2.add hD).ext (fun a h => .inl (R.sit.gdom a h)) e⟩⟩
def wComp (wg : WG) (wt : WT) (we : WE) (ρ : Env) : List PyData → (List PyData → Prop) → Prop
  | [], P => P []
  | d :: ds, P => wg d ρ fun ρ1 => wt ρ1 fun b => if b = true then we ρ1 fun e => wComp wg wt we ρ ds fun es => P (e :: es) else wComp wg wt we ρ ds P
def wLc (wi : WL) (wg : WG) (wt : WT) (we : WE) (vs : List Nat) : WL := fun ρ P => wi ρ fun ds => wComp wg wt we (wipeE ρ vs) ds P
abbrev DTs (X : Cx) (ifs : List Expr) (w : WT) : Prop := PTs X ifs (tTs X.K w)
def wYes : WT := fun _ P => P true
theorem ptsC {X : Cx} {e : List Expr} {t t' : TT} (h : PTs X e t) (c : ∀ σ H Q, t' σ H Q → t σ H Q) : PTs X e t' := ⟨fun pins s σ H Q I q => h.run pins s σ H Q I (c σ H Q q)⟩
theorem dts_nil {X : Cx} : DTs X [] wYes := ptsC pts_nil fun σ H Q ⟨Γ, A, ρ, P, R, hw, k⟩ => k true H (ExA.refl _ _) R.sit.gok hw
theorem dts_one {X : Cx} {c : Expr} {w : WT} (h : DT X c w) : DTs X [c] w := pts_one h
theorem t_lc {K : PySem.W.Frag} {wi : WL} {wg : WG} {wt : WT} {we : WE} {is vs : List Nat} (hs : ∀ i ∈ is, i ∈ vs) : ∀ σ H Q, tFr K (wLc wi wg wt we vs) σ H Q → tLc (tIe K wi) (tGd K is wg) (tTs K wt) (tE K we) vs σ H Q := fun σ H Q ⟨Γ, A, ρ, P, R, hw, k⟩ =>
  ⟨Γ, A, ρ, _, R, hw, fun J ds H1 x1 g1 hJ hP => fun D hD => by
    obtain ⟨⟨Y, w, it⟩, sm⟩ := hJ
    have hP : wComp wg wt we (wipeE ρ vs) ds P := hP
    have RW := (R.ext x1 g1).wipe vs
    have inv : ∀ H2, Ext Γ H1 H2 → GOk Γ H2 → (∃ acc, H2 D = some (.lst acc)) → RepE K Γ (hadd A D) (wipe σ vs) H2 (wipeE ρ vs) := fun H2 x g ⟨acc, hd⟩ => RW.addHot hD x g ⟨_, hd, fun _ e => nomatch e⟩
    have lat : ∀ H2, Ext Γ H1 H2 → LaterE Γ A H1 Γ (hadd A D) H2 := fun H2 x => ⟨rfl, fun _ h => .inl h, hadd_avoid hD, x⟩
    have gD : Γ D = none := R.sit.gcold (back_none x1 g1 hD)
    refine lc_it w (fun i H2 => ∃ acc es, H2 D = some (.lst acc) ∧ DAs K (hadd A D) H2 acc es ∧ acc.length ≤ i ∧ Ext Γ H1 H2 ∧ GOk Γ H2 ∧ wComp wg wt we (wipeE ρ vs) (ds.drop i) fun r => P (es ++ r))
      ⟨[], [], upd_same, .nil, Nat.le_refl _, ExA.new hD, g1.new hD, by simpa using hP⟩ (fun i H2 _ ⟨acc, es, h1, h2, h3, h4, h5, h6⟩ => ⟨Γ, hadd A D, lat H2 h4, (inv H2 h4 h5 ⟨_, h1⟩).sit⟩) ?_ ?_
    · rintro i x H2 H3 hi ⟨acc, es, h1, h2, h3, h4, h5, h6⟩ hy
      have S2 := (inv H2 h4 h5 ⟨_, h1⟩).sit
      obtain ⟨x3, g3, d, hd, hx⟩ := it i H2 x H3 hi hy Γ (hadd A D) (lat H2 h4) S2
      have hD3 : H3 D = some (.lst acc) := x3 D _ (by simp [gD]) h1
      have x13 := h4.trans x3
      have R3 := inv H3 x13 g3 ⟨_, hD3⟩
      have hdr : ds.drop i = d :: ds.drop (i + 1) := by
        obtain ⟨hlt, e⟩ := List.getElem?_eq_some_iff.mp hd
        rw [List.drop_eq_getElem_cons hlt, e]
      rw [hdr] at h6
      have h6 : wg d (wipeE ρ vs) fun ρ1 => wt ρ1 fun b => if b = true then we ρ1 fun e => wComp wg wt we (wipeE ρ vs) (ds.drop (i + 1)) fun r => P (es ++ (e :: r)) else wComp wg wt we (wipeE ρ vs) (ds.drop (i + 1)) fun r => P (es ++ r) := h6
      refine ⟨Γ, hadd A D, wipeE ρ vs, d, _, R3, hx, h6, fun σ2 ρ2 R4 st hP2 => ⟨wipe_sets st hs, ⟨Γ, hadd A D, ρ2, _, R4, hP2, fun b H4 x4 g4 hb => ?_⟩⟩⟩
      have hD4 : H4 D = some (.lst acc) := x4 D _ (by simp [gD]) hD3
      have x14 := x13.trans x4
      have a34 : DAs K (hadd A D) H4 acc es := (h2.ext ((x3.trans x4).weak S2.gdom))
      cases b with
      | true =>
        refine ⟨Γ, hadd A D, ρ2, _, R4.ext x4 g4, hb, fun y e H5 x5 g5 hy he => ?_⟩
        have hD5 : H5 D = some (.lst acc) := x5 D _ (by simp [gD]) hD4
        refine ⟨acc, hD5, Nat.lt_of_le_of_lt h3 (Nat.lt_of_lt_of_le hi sm), acc ++ [y], es ++ [e], upd_same, ?_, by rw [List.length_append, List.length_singleton]; omega, ?_, g5.put gD, ?_⟩
        · exact ((a34.ext (x5.weak S2.gdom)).append (.cons hy .nil)).ext (ExA.hot (.inr rfl))
        · intro a o n e
          rw [upd_ne (ne_of_none e hD)]
          exact (x14.trans x5) a o n e
        · have q : (fun r => P (es ++ [e] ++ r)) = fun r => P (es ++ (e :: r)) := by
            funext r
            simp
          rw [q]
          exact he
      | false => exact ⟨acc, es, hD4, a34, Nat.le_succ_of_le h3, x14, g4, hb⟩
    · rintro H2 ⟨acc, es, h1, h2, h3, h4, h5, h6⟩
      rw [List.drop_length] at h6
      have h6 : P (es ++ []) := h6
      rw [List.append_nil] at h6
      exact k D acc es H2 (back_none x1 g1 hD) (x1.trans h4) h5 h1 h2 h6⟩
theorem df_lc {X : Cx} {elt tg iter : Expr} {ifs : List Expr} {scope : Scope} {own : List (Str × Nat)} {pos : Pos} {wi : WL} {wg : WG} {wt : WT} {we : WE} {is : List Nat} (hc : X.calm = true) (hN : X.N.Nodup) (hi : DIe X tg iter wi) (ok : BlkOk X.N X.env.scope scope own)
    (hg : ∀ (s : Shared) (H : Hp) (C : Addr) (cl : List (Str × Addr)) (fp : List Addr), DG (X.blk s H scope (compEnvC scope cl C X.env) fp) tg is wg) (ht : ∀ (s : Shared) (H : Hp) (C : Addr) (cl : List (Str × Addr)) (fp : List Addr), DTs (X.blk s H scope (compEnvC scope cl C X.env) fp) ifs wt)
    (he : ∀ (s : Shared) (H : Hp) (C : Addr) (cl : List (Str × Addr)) (fp : List Addr), DE (X.blk s H scope (compEnvC scope cl C X.env) fp) elt we) (hvs : ∀ i ∈ is, i ∈ own.map (·.2) := by decide) (hs : ∀ x, foldedSetIterable iter X.env x = pure x := by intro _; rfl) :
    DF X (.ListComp elt [⟨tg, iter, ifs, 0⟩] scope pos) (wLc wi wg wt we (own.map (·.2))) :=
  peC (pe_lc hc hN hi ok hg ht he hs) (t_lc hvs)
end Dat

/-! DatF: statements, loops, defs and their promises. -/
namespace Dat
open PySem PySem.Spec PyProof.Rows L2

/-- what stood at the def's entry -/
structure Fra where
  Γ : Gam
  A : Hot
  H : Hp
  ad : ∀ a, A a → H a ≠ none
def isOwn : Cell → Bool
  | .lst _ => true
  | .dT _ => true
  | .dK _ => true
  | _ => false
structure Rep (K : PySem.W.Frag) (F : Fra) (Γ : Gam) (A : Hot) (σ : St) (H : Hp) (ρ : Env) : Prop where
  e : RepE K Γ A σ H ρ
  ext : Ext F.Γ F.H H
  g0 : ∀ a, F.Γ a ≠ none → Γ a = F.Γ a
  gn : ∀ a, F.Γ a = none → Γ a ≠ none → F.H a = none
  a0 : ∀ a, F.A a → A a
  own : ∀ (i : Nat) (c : Cell) (a : Addr), ρ[i]? = some (some c) → isOwn c = true → σ[i]? = some (some (.ref a)) → F.H a = none
  inj : ∀ (i j : Nat) (c c' : Cell) (a : Addr), ρ[i]? = some (some c) → isOwn c = true → ρ[j]? = some (some c') → isOwn c' = true → σ[i]? = some (some (.ref a)) → σ[j]? = some (some (.ref a)) → i = j
structure DEnds where
  nx : Env → Prop
  rt : PyData → Prop
  rf : List PyData → Prop
  bk : Env → Prop := fun _ => False
  ct : Env → Prop := fun _ => False
structure EndsOk (K : PySem.W.Frag) (F : Fra) (Γ : Gam) (A : Hot) (H : Hp) (Dd : DEnds) (D : Ends) : Prop where
  nx : ∀ Γ' A' σ' H' ρ', Rep K F Γ' A' σ' H' ρ' → LaterS Γ A H Γ' A' H' → Dd.nx ρ' → D.nx σ' H'
  rt : ∀ v d H', Ext F.Γ F.H H' → GOk F.Γ H' → DA K F.A H' v d → Dd.rt d → D.rt v H'
  rf : ∀ p vs xs H', F.H p = none → Ext F.Γ F.H H' → GOk F.Γ H' → H' p = some (.lst vs) → DAs K (hadd F.A p) H' vs xs → Dd.rf xs → D.rt (.ref p) H'
  bk : ∀ Γ' A' σ' H' ρ', Rep K F Γ' A' σ' H' ρ' → LaterS Γ A H Γ' A' H' → Dd.bk ρ' → D.bk σ' H'
  ct : ∀ Γ' A' σ' H' ρ', Rep K F Γ' A' σ' H' ρ' → LaterS Γ A H Γ' A' H' → Dd.ct ρ' → D.ct σ' H'
abbrev WS := Env → DEnds → Prop
def tS (K : PySem.W.Frag) (w : WS) : TS := fun D σ H => ∃ F Γ A ρ Dd, Rep K F Γ A σ H ρ ∧ w ρ Dd ∧ EndsOk K F Γ A H Dd D
abbrev DS (X : Cx) (st : Stmt) (w : WS) : Prop := PS X st (tS X.K w)
abbrev DSs (X : Cx) (st : List Stmt) (w : WS) : Prop := PSs X st (tS X.K w)

section
variable {K : PySem.W.Frag} {F : Fra} {Γ Γ' : Gam} {A A' : Hot} {σ σ' : St} {H H' : Hp} {ρ ρ' : Env} {D : Ends} {Dd : DEnds}
theorem Rep.sit (R : Rep K F Γ A σ H ρ) : Sit Γ A H := R.e.sit
theorem Rep.back (R : Rep K F Γ A σ H ρ) {p : Addr} (h : H p = none) : F.H p = none := by
  cases q : F.H p with
  | none => rfl
  | some o =>
    by_cases hp : F.Γ p = none
    · rw [R.ext p o (by simp [hp]) q] at h
      cases h
    · have hg := R.g0 p hp
      have := R.sit.gcold h
      rw [hg] at this
      exact absurd this hp
theorem Rep.fext (R : Rep K F Γ A σ H ρ) (e : Ext Γ H H') : Ext F.Γ F.H H' := fun a o n h => by
  have h1 := R.ext a o n h
  refine e a o (fun z => ?_) h1
  have hn : F.Γ a = none := by
    cases q : F.Γ a with
    | none => rfl
    | some k => exact absurd (show F.Γ a ≠ none by rw [q]; simp) n
  rw [R.gn a hn z] at h
  cases h
theorem Rep.fgok (R : Rep K F Γ A σ H ρ) (g : GOk Γ H') : GOk F.Γ H' := fun a k h => g a k (by rw [R.g0 a (by rw [h]; simp)]; exact h)
theorem Rep.step (R : Rep K F Γ A σ H ρ) (e : Ext Γ H H') (g : GOk Γ H') : Rep K F Γ A σ H' ρ := ⟨R.e.ext e g, R.fext e, R.g0, R.gn, R.a0, R.own, R.inj⟩
theorem Rep.setD (R : Rep K F Γ A σ H ρ) {i : Nat} {v : V} {d : PyData} (h : DA K A H v d) : Rep K F Γ A (σ.set i (some v)) H (ρ.set i (some (.d d))) := by
  have ne : ∀ (j : Nat) (c : Cell), (ρ.set i (some (.d d)))[j]? = some (some c) → isOwn c = true → i ≠ j := fun j c h1 h2 z => by
    subst z
    by_cases hi : i < ρ.length
    · rw [List.getElem?_set_self hi] at h1
      cases h1
      cases h2
    · rw [List.getElem?_eq_none (by simpa using hi)] at h1
      cases h1
  refine ⟨R.e.set (c := .d d) h, R.ext, R.g0, R.gn, R.a0, fun j c a h1 h2 h3 => ?_, fun j j' c c' a h1 h2 h3 h4 h5 h6 => ?_⟩
  · have n := ne j c h1 h2
    rw [List.getElem?_set_ne n] at h1 h3
    exact R.own j c a h1 h2 h3
  · have n := ne j c h1 h2
    have n' := ne j' c' h3 h4
    rw [List.getElem?_set_ne n] at h1 h5
    rw [List.getElem?_set_ne n'] at h3 h6
    exact R.inj j j' c c' a h1 h2 h3 h4 h5 h6
theorem Rep.sets (R : Rep K F Γ A σ H ρ) {is : List Nat} (R' : RepE K Γ A σ' H ρ') (h : SetsTo is σ ρ σ' ρ') : Rep K F Γ A σ' H ρ' := by
  have st : ∀ (j : Nat) (c : Cell), ρ'[j]? = some (some c) → isOwn c = true → σ'[j]? = σ[j]? ∧ ρ'[j]? = ρ[j]? := fun j c h1 h2 => by
    rcases h.at' j with q | ⟨_, v, d, q1, q2⟩
    · exact q
    · rw [q2] at h1
      cases h1
      cases h2
  refine ⟨R', R.ext, R.g0, R.gn, R.a0, fun j c a h1 h2 h3 => ?_, fun j j' c c' a h1 h2 h3 h4 h5 h6 => ?_⟩
  · obtain ⟨e1, e2⟩ := st j c h1 h2
    rw [e2] at h1
    rw [e1] at h3
    exact R.own j c a h1 h2 h3
  · obtain ⟨e1, e2⟩ := st j c h1 h2
    obtain ⟨e3, e4⟩ := st j' c' h3 h4
    rw [e2] at h1
    rw [e4] at h3
    rw [e1] at h5
    rw [e3] at h6
    exact R.inj j j' c c' a h1 h2 h3 h4 h5 h6
/-- a new own object at p -/
theorem Rep.setO (R : Rep K F Γ A σ H ρ) {i : Nat} {p : Addr} {c : Cell} (hp : H p = none) (e : Ext Γ H H') (g : GOk Γ H') (hp' : ∃ o, H' p = some o ∧ ∀ ts, o ≠ .tup ts) (hc : CellOk K Γ (hadd A p) H' (.ref p) c) :
    Rep K F Γ (hadd A p) (σ.set i (some (.ref p))) H' (ρ.set i (some c)) := by
  have R1 := R.e.addHot hp e g hp'
  have val : ∀ (j : Nat) (c' : Cell) (a : Addr), ρ[j]? = some (some c') → isOwn c' = true → σ[j]? = some (some (.ref a)) → a ≠ p := fun j c' a h1 h2 h3 z => by
    obtain ⟨v, q1, q2⟩ := R.e.cells j c' h1
    rw [h3] at q1
    cases q1
    subst z
    cases c' with
    | lst xs => obtain ⟨b, vs, e1, e2, _⟩ := q2; cases e1; exact R.sit.adom _ e2 hp
    | dT xs => obtain ⟨b, vs, e1, e2, _⟩ := q2; cases e1; exact R.sit.adom _ e2 hp
    | dK xs => obtain ⟨b, vs, e1, e2, _⟩ := q2; cases e1; exact R.sit.adom _ e2 hp
    | _ => cases h2
  have hb := R.back hp
  have slen := R.e.len
  refine ⟨R1.set hc, R.fext e, R.g0, R.gn, fun a h => .inl (R.a0 a h), fun j c' a h1 h2 h3 => ?_, fun j j' c1 c2 a h1 h2 h3 h4 h5 h6 => ?_⟩
  · by_cases hj : i = j
    · subst hj
      by_cases hi : i < σ.length
      · rw [List.getElem?_set_self hi] at h3
        cases h3
        exact hb
      · rw [List.getElem?_eq_none (by simpa using hi)] at h3
        cases h3
    · rw [List.getElem?_set_ne hj] at h1 h3
      exact R.own j c' a h1 h2 h3
  · by_cases hj : i = j
    · by_cases hj' : i = j'
      · exact hj.symm.trans hj'
      · subst hj
        rw [List.getElem?_set_ne hj'] at h3 h6
        by_cases hi : i < σ.length
        · rw [List.getElem?_set_self hi] at h5
          cases h5
          exact absurd rfl (val j' c2 _ h3 h4 h6)
        · rw [List.getElem?_eq_none (by simpa using hi)] at h5
          cases h5
    · by_cases hj' : i = j'
      · subst hj'
        rw [List.getElem?_set_ne hj] at h1 h5
        by_cases hi : i < σ.length
        · rw [List.getElem?_set_self hi] at h6
          cases h6
          exact absurd rfl (val j c1 _ h1 h2 h5)
        · rw [List.getElem?_eq_none (by simpa using hi)] at h6
          cases h6
      · rw [List.getElem?_set_ne hj] at h1 h5
        rw [List.getElem?_set_ne hj'] at h3 h6
        exact R.inj j j' c1 c2 a h1 h2 h3 h4 h5 h6
/-- an own object changes -/
theorem Rep.putO (R : Rep K F Γ A σ H ρ) {i : Nat} {p : Addr} {o : HO} {c c' : Cell} (hi : ρ[i]? = some (some c)) (ho : isOwn c = true) (hs : σ[i]? = some (some (.ref p))) (hA : A p) (hg : Γ p = none) (hc' : isOwn c' = true) (hT : ∀ ts, o ≠ .tup ts)
    (hc : CellOk K Γ A (upd H p o) (.ref p) c') : Rep K F Γ A σ (upd H p o) (ρ.set i (some c')) ∧ LaterS Γ A H Γ A (upd H p o) := by
  have eA : ExA A H (upd H p o) := ExA.hot hA
  have hF := R.own i c p hi ho hs
  have hil : i < ρ.length := (List.getElem?_eq_some_iff.mp hi).1
  have g : GOk Γ (upd H p o) := R.sit.gok.put hg
  refine ⟨⟨⟨⟨g, R.sit.gdom, fun a h => ?_, fun a ts h => ?_⟩, by rw [List.length_set]; exact R.e.len, fun j c1 q => ?_⟩, fun a u n e => ?_, R.g0, R.gn, R.a0, fun j c1 a h1 h2 h3 => ?_, fun j j' c1 c2 a h1 h2 h3 h4 h5 h6 => ?_⟩,
    ⟨fun _ h => h, fun _ h n => absurd h n, eA, fun _ _ => rfl, fun _ h n => absurd h n⟩⟩
  · by_cases z : a = p
    · rw [z, upd_same]; simp
    · rw [upd_ne z]; exact R.sit.adom a h
  · by_cases z : a = p
    · rw [z, upd_same]
      exact fun q => hT ts (Option.some.inj q)
    · rw [upd_ne z]; exact R.sit.nt a ts h
  · by_cases hj : i = j
    · subst hj
      rw [List.getElem?_set_self hil] at q
      cases q
      exact ⟨_, hs, hc⟩
    · rw [List.getElem?_set_ne hj] at q
      obtain ⟨v, q1, q2⟩ := R.e.cells j c1 q
      refine ⟨v, q1, ?_⟩
      have other : ∀ a, v = .ref a → isOwn c1 = true → a ≠ p := fun a ea h2 z => by
        subst ea z
        exact hj (R.inj i j c c1 _ hi ho q h2 hs q1)
      cases c1 with
      | d x => exact DA.ext eA q2
      | obj a k => exact q2
      | lst xs => obtain ⟨a, vs, e1, e2, e3, e4, e5⟩ := q2; exact ⟨a, vs, e1, e2, e3, by rw [upd_ne (other a e1 rfl)]; exact e4, e5.ext eA⟩
      | dT xs => obtain ⟨a, vs, e1, e2, e3, e4, e5, e6⟩ := q2; exact ⟨a, vs, e1, e2, e3, by rw [upd_ne (other a e1 rfl)]; exact e4, e5, e6.ext eA⟩
      | dK xs => obtain ⟨a, vs, e1, e2, e3, e4, e5, e6⟩ := q2; exact ⟨a, vs, e1, e2, e3, by rw [upd_ne (other a e1 rfl)]; exact e4, e5, e6.ext eA⟩
  · rw [upd_ne (fun z => by subst z; rw [hF] at e; cases e)]
    exact R.ext a u n e
  · by_cases hj : i = j
    · subst hj
      rw [hs] at h3
      cases h3
      exact hF
    · rw [List.getElem?_set_ne hj] at h1
      exact R.own j c1 a h1 h2 h3
  · have back : ∀ (j : Nat) (c1 : Cell), (ρ.set i (some c'))[j]? = some (some c1) → isOwn c1 = true → ∃ c2, ρ[j]? = some (some c2) ∧ isOwn c2 = true := fun j c1 h1 h2 => by
      by_cases hj : i = j
      · subst hj
        exact ⟨c, hi, ho⟩
      · rw [List.getElem?_set_ne hj] at h1
        exact ⟨c1, h1, h2⟩
    obtain ⟨d1, k1, k2⟩ := back j c1 h1 h2
    obtain ⟨d2, k3, k4⟩ := back j' c2 h3 h4
    exact R.inj j j' d1 d2 a k1 k2 k3 k4 h5 h6
theorem EndsOk.later (E : EndsOk K F Γ A H Dd D) (S' : Sit Γ' A' H') (l : LaterS Γ A H Γ' A' H') : EndsOk K F Γ' A' H' Dd D :=
  ⟨fun Γ2 A2 σ2 H2 ρ2 R2 m h => E.nx Γ2 A2 σ2 H2 ρ2 R2 (l.trans S' m) h, E.rt, E.rf, fun Γ2 A2 σ2 H2 ρ2 R2 m h => E.bk Γ2 A2 σ2 H2 ρ2 R2 (l.trans S' m) h, fun Γ2 A2 σ2 H2 ρ2 R2 m h => E.ct Γ2 A2 σ2 H2 ρ2 R2 (l.trans S' m) h⟩
theorem EndsOk.step (E : EndsOk K F Γ A H Dd D) (R : Rep K F Γ A σ H ρ) (e : Ext Γ H H') (g : GOk Γ H') : EndsOk K F Γ A H' Dd D := E.later (R.sit.ext e g) (LaterS.of_ext R.sit e)
end

section
variable {X : Cx} {st : Stmt} {rest : List Stmt} {w u : WS} {we : WE} {wl : WL} {wt : WT} {e : Expr} {pos pos' : Pos}
def sNext : WS := fun ρ D => D.nx ρ
def sSeq (w u : WS) : WS := fun ρ D => w ρ { D with nx := fun ρ' => u ρ' D }
theorem dss_nil : DSs X [] sNext := pssC pss_nil fun D σ H ⟨F, Γ, A, ρ, Dd, R, hw, E⟩ => E.nx Γ A σ H ρ R (LaterS.refl _ _ _) hw
theorem dss_cons (h1 : DS X st w) (h2 : DSs X rest u) : DSs X (st :: rest) (sSeq w u) := pssC (pss_cons h1 h2) fun D σ H ⟨F, Γ, A, ρ, Dd, R, hw, E⟩ =>
  ⟨F, Γ, A, ρ, _, R, hw, ⟨fun Γ' A' σ' H' ρ' R' l h => ⟨F, Γ', A', ρ', Dd, R', h, E.later R'.sit l⟩, E.rt, E.rf, E.bk, E.ct⟩⟩
theorem dss_one (h1 : DS X st w) : DSs X [st] w := pss_one h1
theorem ds_pass : DS X (.Pass pos) sNext := psC ps_pass fun D σ H ⟨F, Γ, A, ρ, Dd, R, hw, E⟩ => E.nx Γ A σ H ρ R (LaterS.refl _ _ _) hw
def sBreak : WS := fun ρ D => D.bk ρ
def sCont : WS := fun ρ D => D.ct ρ
theorem ds_break : DS X (.Break pos) sBreak := psC ps_break fun D σ H ⟨F, Γ, A, ρ, Dd, R, hw, E⟩ => E.bk Γ A σ H ρ R (LaterS.refl _ _ _) hw
theorem ds_continue : DS X (.Continue pos) sCont := psC ps_continue fun D σ H ⟨F, Γ, A, ρ, Dd, R, hw, E⟩ => E.ct Γ A σ H ρ R (LaterS.refl _ _ _) hw
def sDrop (we : WE) : WS := fun ρ D => we ρ fun _ => D.nx ρ
theorem ds_expr (he : DE X e we) (hs : swapsWith e none pos.line X.env = pure false := by rfl) : DS X (.Expr e pos) (sDrop we) := psC (ps_expr he hs) fun D σ H ⟨F, Γ, A, ρ, Dd, R, hw, E⟩ =>
  ⟨Γ, A, ρ, _, R.e, hw, fun v d H1 x g hv hP => E.nx Γ A σ H1 ρ (R.step x g) (LaterS.of_ext R.sit x) hP⟩
def sSet (i : Nat) (we : WE) : WS := fun ρ D => we ρ fun d => D.nx (ρ.set i (some (.d d)))
theorem ds_set {i : Nat} {x : Str} (hN : X.N.Nodup) (hi : X.N[i]? = some x) (hx : Loc X.env.scope x) (he : DE X e we) (hs : swapsWith e (some (.Name x pos')) pos.line X.env = pure false := by rfl) (hf : X.fn x = true ∨ X.env.scope.names.lookup x = some .local := by first | exact .inl rfl | exact .inr rfl) :
    DS X (.Assign [.Name x pos'] e pos) (sSet i we) := psC (ps_set hN hi hx he hs hf) fun D σ H ⟨F, Γ, A, ρ, Dd, R, hw, E⟩ =>
  ⟨Γ, A, ρ, _, R.e, hw, fun v d H1 x g hv hP => E.nx Γ A _ H1 _ ((R.step x g).setD hv) (LaterS.of_ext R.sit x) hP⟩
/-- a new list, changed later on -/
def sSetF (i : Nat) (wl : WL) : WS := fun ρ D => wl ρ fun xs => D.nx (ρ.set i (some (.lst xs)))
theorem later_new {Γ : Gam} {A : Hot} {H H' : Hp} {p : Addr} (S : Sit Γ A H) (hp : H p = none) (e : Ext Γ H H') : LaterS Γ A H Γ (hadd A p) H' :=
  ⟨fun _ h => .inl h, hadd_avoid hp, e.weak fun a h => .inl (S.gdom a h), fun _ _ => rfl, fun _ h n => absurd h n⟩
theorem t_setF {K : PySem.W.Frag} {i : Nat} : ∀ D σ H, tS K (sSetF i wl) D σ H → tAsg (tFr K wl) (gName i) D σ H := fun D σ H ⟨F, Γ, A, ρ, Dd, R, hw, E⟩ =>
  ⟨Γ, A, ρ, _, R.e, hw, fun p vs xs H1 hp x g hH hd hP => E.nx Γ (hadd A p) _ H1 _ (R.setO (c := .lst xs) hp x g ⟨_, hH, fun _ e => nomatch e⟩ ⟨p, vs, rfl, .inr rfl, R.sit.gcold hp, hH, hd⟩) (later_new R.sit hp x) hP⟩
theorem ds_setF {i : Nat} {x : Str} (hN : X.N.Nodup) (hi : X.N[i]? = some x) (hx : Loc X.env.scope x) (he : DF X e wl) (hs : swapsWith e (some (.Name x pos')) pos.line X.env = pure false := by rfl) (hf : X.fn x = true ∨ X.env.scope.names.lookup x = some .local := by first | exact .inl rfl | exact .inr rfl) :
    DS X (.Assign [.Name x pos'] e pos) (sSetF i wl) := psC (ps_set hN hi hx he hs hf) t_setF
def sRet (we : WE) : WS := fun ρ D => we ρ D.rt
theorem ds_ret (he : DE X e we) : DS X (.Return (some e) pos) (sRet we) := psC (ps_ret he) fun D σ H ⟨F, Γ, A, ρ, Dd, R, hw, E⟩ =>
  ⟨Γ, A, ρ, _, R.e, hw, fun v d H1 x g hv hP => E.rt v d H1 (R.fext x) (R.fgok g) (hv.weak R.a0) hP⟩
def sRetN : WS := fun _ D => D.rt .none
theorem ds_retN : DS X (.Return none pos) sRetN := psC ps_retN fun D σ H ⟨F, Γ, A, ρ, Dd, R, hw, E⟩ => E.rt .non .none H R.ext (R.fgok R.sit.gok) .non hw
/-- a new list handed back -/
def sRetF (wl : WL) : WS := fun ρ D => wl ρ D.rf
theorem ds_retF (he : DF X e wl) : DS X (.Return (some e) pos) (sRetF wl) := psC (ps_ret he) fun D σ H ⟨F, Γ, A, ρ, Dd, R, hw, E⟩ =>
  ⟨Γ, A, ρ, _, R.e, hw, fun p vs xs H1 hp x g hH hd hP => E.rf p vs xs H1 (R.back hp) (R.fext x) (R.fgok g) hH (hd.weak fun a h => h.elim (fun z => .inl (R.a0 a z)) .inr) hP⟩
/-- an own list handed back -/
def sRetO (i : Nat) : WS := fun ρ D => match ρ.getD i none with
  | some (.lst xs) => D.rf xs
  | some (.d d) => D.rt d
  | _ => False
theorem ds_retO {i : Nat} (he : PE X e (tVar i)) : DS X (.Return (some e) pos) (sRetO i) := psC (ps_ret he) fun D σ H ⟨F, Γ, A, ρ, Dd, R, hw, E⟩ => by
  unfold sRetO at hw
  split at hw
  · rename_i xs q
    obtain ⟨v, h1, a, vs, e1, e2, e3, e4, e5⟩ := R.e.cells i _ (getD_some q)
    subst e1
    exact ⟨_, h1, E.rf a vs xs H (R.own i _ a (getD_some q) rfl h1) R.ext (R.fgok R.sit.gok) e4 (e5.weak fun b h => h.elim (fun z => R.a0 b z) fun z => by rw [z]; exact e2) hw⟩
  · rename_i d q
    obtain ⟨v, h1, h2⟩ := R.e.cells i _ (getD_some q)
    exact ⟨v, h1, E.rt v d H R.ext (R.fgok R.sit.gok) (DA.weak R.a0 h2) hw⟩
  · exact hw.elim
def sIf (wt : WT) (w u : WS) : WS := fun ρ D => wt ρ fun b => if b = true then w ρ D else u ρ D
theorem ds_if {c : Expr} {a b : List Stmt} (hc : DT X c wt) (ha : DSs X a w) (hb : DSs X b u) : DS X (.If c a b pos) (sIf wt w u) := psC (ps_if hc ha hb) fun D σ H ⟨F, Γ, A, ρ, Dd, R, hw, E⟩ =>
  ⟨Γ, A, ρ, _, R.e, hw, fun b H1 x g hP => by
    cases b with
    | true => exact ⟨F, Γ, A, ρ, Dd, R.step x g, hP, E.step R x g⟩
    | false => exact ⟨F, Γ, A, ρ, Dd, R.step x g, hP, E.step R x g⟩⟩
/-- target = value -/
def sAsg (we : WE) (g : WG) : WS := fun ρ D => we ρ fun d => g d ρ D.nx
theorem ds_asg {tg : Expr} {is : List Nat} {g : WG} (he : DE X e we) (hg : DG X tg is g) (hs : swapsWithSole [tg] e pos.line X.env = pure false := by rfl) (hw : swappedStores [tg] e X.env = pure none := by rfl) (h1 : (assignEach [tg] X.env).map (·.2) = [assign tg X.env] := by rfl) : DS X (.Assign [tg] e pos) (sAsg we g) :=
  psC (ps_asg he hg hs hw h1) fun D σ H ⟨F, Γ, A, ρ, Dd, R, hw, E⟩ => ⟨Γ, A, ρ, _, R.e, hw, fun v d H1 x g1 hv hP => ⟨Γ, A, ρ, d, _, R.e.ext x g1, hv, hP, fun σ' ρ' R' st h =>
    E.nx Γ A σ' H1 ρ' ((R.step x g1).sets R' st) (LaterS.of_ext R.sit x) h⟩⟩
/-- a, b = e1, e2 -/
def sPar (i j : Nat) (wl : WL) : WS := fun ρ D => wl ρ fun ds => match ds with
  | [d, e] => D.nx ((ρ.set i (some (.d d))).set j (some (.d e)))
  | _ => False
theorem ds_par {i j : Nat} {x y : Str} {a b : Expr} {px py pt : Pos} {kt k2 pt2} (hc : X.calm = true) (hN : X.N.Nodup) (hi : X.N[i]? = some x) (hj : X.N[j]? = some y) (hij : i ≠ j)
    (hx : X.env.scope.names.lookup x = some .local) (hy : X.env.scope.names.lookup y = some .local) (ha : DAd X [a, b] 2 wl)
    (hw : swappedStores [.Tuple [.Name x px, .Name y py] kt pt] (.Tuple [a, b] k2 pt2) X.env = pure (some [x, y])) (hs : swapsWithSole [.Tuple [.Name x px, .Name y py] kt pt] (.Tuple [a, b] k2 pt2) pos.line X.env = pure false := by rfl) :
    DS X (.Assign [.Tuple [.Name x px, .Name y py] kt pt] (.Tuple [a, b] k2 pt2) pos) (sPar i j wl) := psC (ps_par hc hN hi hj hij hx hy ha hw hs) fun D σ H ⟨F, Γ, A, ρ, Dd, R, hw, E⟩ =>
  ⟨Γ, A, ρ, _, R.e, hw, fun vs ds H1 x g hvs hl hP => by
    match ds, hvs, hP with
    | [d, e], .cons hd (.cons he .nil), hP => exact ⟨_, _, rfl, E.nx Γ A _ H1 _ (((R.step x g).setD hd).setD he) (LaterS.of_ext R.sit x) hP⟩⟩

/-! ### loops -/
def sLoop (g : WG) (wb : WS) (D : DEnds) : List PyData → Env → Prop
  | [], ρ => D.nx ρ
  | d :: ds, ρ => g d ρ fun ρ1 => wb ρ1 { D with nx := sLoop g wb D ds, ct := sLoop g wb D ds, bk := D.nx }
def sFor (wi : WL) (g : WG) (wb : WS) : WS := fun ρ D => wi ρ fun ds => sLoop g wb D ds ρ
theorem ds_for {tg iter : Expr} {body : List Stmt} {wi : WL} {is : List Nat} {g : WG} {wb : WS} (hp : PassesOwn (model X.prog X.w) X.A X.env X.xe) (hc : X.calm = true) (hi : DI X tg iter wi) (hg : DG X tg is g) (hb : DSs X body wb)
    (hs : ∀ x, foldedSetIterable iter X.env x = pure x := by intro _; rfl) : DS X (.For tg iter body [] pos) (sFor wi g wb) :=
  psC (ps_for hp hc hi hg hb hs) fun D σ H ⟨F, Γ, A, ρ, Dd, R, hw, E⟩ => ⟨Γ, A, ρ, _, R.e, hw, fun J ds H1 x1 g1 hJ hP => by
    obtain ⟨⟨Y, w, it⟩, sm⟩ := hJ
    have hP : sLoop g wb Dd ds ρ := hP
    have R1 := R.step x1 g1
    have E1 := E.step R x1 g1
    refine for_it w (fun i σ2 H2 => ∃ Γ2 A2 ρ2, Rep X.K F Γ2 A2 σ2 H2 ρ2 ∧ LaterS Γ A H1 Γ2 A2 H2 ∧ sLoop g wb Dd (ds.drop i) ρ2) ⟨Γ, A, ρ, R1, LaterS.refl _ _ _, hP⟩ (fun i σ2 H2 _ ⟨Γ2, A2, ρ2, R2, l, _⟩ => ⟨Γ2, A2, l, R2.sit⟩) ?_ ?_
    · rintro i x σ2 H2 H3 hi' ⟨Γ2, A2, ρ2, R2, l, hl⟩ hy
      obtain ⟨x3, g3, d, hd, hx⟩ := it i H2 x H3 hi' hy Γ2 A2 l R2.sit
      have hdr : ds.drop i = d :: ds.drop (i + 1) := by
        obtain ⟨hlt, e⟩ := List.getElem?_eq_some_iff.mp hd
        rw [List.drop_eq_getElem_cons hlt, e]
      rw [hdr] at hl
      have hl : g d ρ2 fun ρ3 => wb ρ3 { Dd with nx := sLoop g wb Dd (ds.drop (i + 1)), ct := sLoop g wb Dd (ds.drop (i + 1)), bk := Dd.nx } := hl
      have R3 := R2.step x3 g3
      have l3 : LaterS Γ A H1 Γ2 A2 H3 := l.trans R2.sit (LaterS.of_ext R2.sit x3)
      refine ⟨Γ2, A2, ρ2, d, _, R3.e, hx, hl, fun σ4 ρ4 R4 st hw4 => ⟨F, Γ2, A2, ρ4, _, R3.sets R4 st, hw4, ?_⟩⟩
      have go : ∀ Γ' A' σ' H' ρ', Rep X.K F Γ' A' σ' H' ρ' → LaterS Γ2 A2 H3 Γ' A' H' → sLoop g wb Dd (ds.drop (i + 1)) ρ' → ∃ Γ2 A2 ρ2, Rep X.K F Γ2 A2 σ' H' ρ2 ∧ LaterS Γ A H1 Γ2 A2 H' ∧ sLoop g wb Dd (ds.drop (i + 1)) ρ2 :=
        fun Γ' A' σ' H' ρ' R' m h => ⟨Γ', A', ρ', R', l3.trans R3.sit m, h⟩
      exact ⟨go, E1.rt, E1.rf, fun Γ' A' σ' H' ρ' R' m h => E1.nx Γ' A' σ' H' ρ' R' (l3.trans R3.sit m) h, go⟩
    · rintro σ2 H2 ⟨Γ2, A2, ρ2, R2, l, hl⟩
      rw [List.drop_length] at hl
      exact E1.nx Γ2 A2 σ2 H2 ρ2 R2 l hl⟩
/-- while -/
def sWhile (wt : WT) (wb : WS) : WS := fun ρ D => ∃ I : Nat → Env → Prop, (∃ m, I m ρ) ∧ ∀ m ρ, I m ρ → wt ρ fun b => if b = true then wb ρ { D with nx := fun ρ' => ∃ m', m' < m ∧ I m' ρ', ct := fun ρ' => ∃ m', m' < m ∧ I m' ρ', bk := D.nx } else D.nx ρ
theorem ds_while {c : Expr} {body : List Stmt} {wb : WS} (hp : PassesOwn (model X.prog X.w) X.A X.env X.xe) (hc : DT X c wt) (hb : DSs X body wb) : DS X (.While c body [] pos) (sWhile wt wb) :=
  psC (ps_while hp hc hb) fun D σ H ⟨F, Γ, A, ρ, Dd, R, hw, E⟩ => by
    obtain ⟨I, ⟨m0, h0⟩, hs⟩ := hw
    refine ⟨fun m σ2 H2 => ∃ Γ2 A2 ρ2, Rep X.K F Γ2 A2 σ2 H2 ρ2 ∧ LaterS Γ A H Γ2 A2 H2 ∧ I m ρ2, ⟨m0, Γ, A, ρ, R, LaterS.refl _ _ _, h0⟩, ?_⟩
    rintro m σ2 H2 ⟨Γ2, A2, ρ2, R2, l, hI⟩
    refine ⟨Γ2, A2, ρ2, _, R2.e, hs m ρ2 hI, fun b H3 x g hP => ?_⟩
    have R3 := R2.step x g
    have l3 : LaterS Γ A H Γ2 A2 H3 := l.trans R2.sit (LaterS.of_ext R2.sit x)
    cases b with
    | false => exact E.nx Γ2 A2 σ2 H3 ρ2 R3 l3 hP
    | true =>
      refine ⟨fun σ' H' => ∃ m', m' < m ∧ ∃ Γ2 A2 ρ2, Rep X.K F Γ2 A2 σ' H' ρ2 ∧ LaterS Γ A H Γ2 A2 H' ∧ I m' ρ2, fun σ' H' h => h, F, Γ2, A2, ρ2, _, R3, hP, ?_⟩
      have go : ∀ Γ' A' σ' H' ρ', Rep X.K F Γ' A' σ' H' ρ' → LaterS Γ2 A2 H3 Γ' A' H' → (∃ m', m' < m ∧ I m' ρ') → ∃ m', m' < m ∧ ∃ Γ2 A2 ρ2, Rep X.K F Γ2 A2 σ' H' ρ2 ∧ LaterS Γ A H Γ2 A2 H' ∧ I m' ρ2 :=
        fun Γ' A' σ' H' ρ' R' k ⟨m', hm, h⟩ => ⟨m', hm, Γ', A', ρ', R', l3.trans R3.sit k, h⟩
      exact ⟨go, E.rt, E.rf, fun Γ' A' σ' H' ρ' R' k h => E.nx Γ' A' σ' H' ρ' R' (l3.trans R3.sit k) h, go⟩

/-! ### own lists change -/
def sApp (i : Nat) (we : WE) : WS := fun ρ D => match ρ.getD i none with
  | some (.lst xs) => we ρ fun d => xs.length < sizeLine ∧ D.nx (ρ.set i (some (.lst (xs ++ [d]))))
  | _ => False
theorem ds_app {i : Nat} {x : Str} {xp : Pos} {apos cpos : Pos} (hp : PE X (.Call (.Attribute (.Name x xp) "append" apos) [e] [] cpos) (tBM X.K "list" rAppend (tVar i) (tCons (tE X.K we) tNil)))
    (hs : swapsWith (.Call (.Attribute (.Name x xp) "append" apos) [e] [] cpos) none pos.line X.env = pure false := by rfl) : DS X (.Expr (.Call (.Attribute (.Name x xp) "append" apos) [e] [] cpos) pos) (sApp i we) :=
  psC (ps_expr hp hs) fun D σ H ⟨F, Γ, A, ρ, Dd, R, hw, E⟩ => by
    unfold sApp at hw
    split at hw
    · rename_i xs q
      obtain ⟨v, h1, a, vs, e1, e2, e3, e4, e5⟩ := R.e.cells i _ (getD_some q)
      subst e1
      refine ⟨_, h1, .inl ⟨rfl, vs, SqL.of e4⟩, Γ, A, ρ, _, R.e, hw, fun u d H1 x g hu hP => ?_⟩
      have hH1 : H1 a = some (.lst vs) := x a _ (by simp [e3]) e4
      have eA : ExA A H H1 := x.weak R.sit.gdom
      have R1 := R.step x g
      obtain ⟨hz, hn⟩ := hP
      refine ⟨a, vs, u, rfl, rfl, hH1, by rw [e5.length]; exact hz, ?_⟩
      obtain ⟨R2, l2⟩ := R1.putO (i := i) (o := .lst (vs ++ [u])) (c' := .lst (xs ++ [d])) (getD_some q) rfl h1 e2 e3 rfl (fun _ e => nomatch e) ⟨a, _, rfl, e2, e3, upd_same, ((e5.ext eA).append (.cons hu .nil)).ext (ExA.hot e2)⟩
      exact E.nx Γ A σ _ _ R2 ((LaterS.of_ext R.sit x).trans R1.sit l2) hn
    · exact hw.elim
end
end Dat

/-! DatG: calls and promises of defs. -/
namespace Dat
open PySem PySem.Spec PyProof.Rows L2

abbrev Con := List Cell → (PyData → Prop) → Prop
abbrev CellsOk (K : PySem.W.Frag) (Γ : Gam) (A : Hot) (H : Hp) : List V → List Cell → Prop := Paired fun v c => CellOk K Γ A H v c
def FreshOk (K : PySem.W.Frag) (A : Hot) (H H' : Hp) (v : V) (d : PyData) : Prop := ∀ a xs, v = .ref a → d = .list xs → H a = none ∧ ∃ vs, H' a = some (.lst vs) ∧ DAs K (hadd A a) H' vs xs
/-- a def's promise over data: fr: lists that it hands back are new -/
def spD (K : PySem.W.Frag) (n : Nat) (fr : Bool) (C : Con) : Sp := fun vs H Q _ => ∃ Γ A cs P, Sit Γ A H ∧ CellsOk K Γ A H vs cs ∧ cs.length = n ∧ C cs P ∧
  ∀ v d H', Ext Γ H H' → GOk Γ H' → DA K A H' v d → (fr = true → FreshOk K A H H' v d) → P d → Q v H'

/-! ### arguments -/
def tAr (K : PySem.W.Frag) (n : Nat) (w : WA) : TA := fun σ H Q => ∃ Γ A ρ P, RepE K Γ A σ H ρ ∧ w ρ P ∧ ∀ vs cs H', Ext Γ H H' → GOk Γ H' → CellsOk K Γ A H' vs cs → cs.length = n → P cs → Q vs H'
def tArB (K : PySem.W.Frag) (n : Nat) (w : WA) : TA := fun σ H Q => ∃ Γ A ρ P, RepE K Γ A σ H ρ ∧ w ρ P ∧ ∀ vs cs H', Ext Γ H H' → GOk Γ H' → CellsOk K Γ (Gh Γ) H' vs cs → cs.length = n → P cs → Q vs H'
abbrev DAr (X : Cx) (es : List Expr) (n : Nat) (w : WA) : Prop := PA X es (tAr X.K n w)
abbrev DArB (X : Cx) (es : List Expr) (n : Nat) (w : WA) : Prop := PA X es (tArB X.K n w)
def aNil : WA := fun _ P => P []
def aD (w : WE) (wa : WA) : WA := fun ρ P => w ρ fun d => wa ρ fun cs => P (.d d :: cs)
def aO (i : Nat) (wa : WA) : WA := fun ρ P => match ρ.getD i none with
  | some (.obj a k) => wa ρ fun cs => P (.obj a k :: cs)
  | _ => False
section
variable {X : Cx} {e : Expr} {es : List Expr} {w : WE} {wa : WA} {n : Nat} {pos : Pos}
theorem ar_nil : DAr X [] 0 aNil := paC pa_nil fun σ H Q ⟨Γ, A, ρ, P, R, hw, k⟩ => k [] [] H (ExA.refl _ _) R.sit.gok .nil rfl hw
theorem arB_nil : DArB X [] 0 aNil := paC pa_nil fun σ H Q ⟨Γ, A, ρ, P, R, hw, k⟩ => k [] [] H (ExA.refl _ _) R.sit.gok .nil rfl hw
theorem ar_d (h : DE X e w) (hr : DAr X es n wa) (hs : starEach (e :: es) X.env = (false, eval e X.env) :: starEach es X.env := by rfl) : DAr X (e :: es) (n + 1) (aD w wa) := paC (pa_cons h hr hs) fun σ H Q ⟨Γ, A, ρ, P, R, hw, k⟩ =>
  ⟨Γ, A, ρ, _, R, hw, fun v d H1 x1 g1 hv hP => ⟨Γ, A, ρ, _, R.ext x1 g1, hP, fun vs cs H2 x2 g2 hvs hn hP2 => k _ _ H2 (x1.trans x2) g2 (.cons (show CellOk X.K Γ A H2 v (.d d) from hv.ext (x2.weak R.sit.gdom)) hvs) (by rw [List.length_cons, hn]) hP2⟩⟩
theorem ar_o {i : Nat} (h : PE X e (tVar i)) (hr : DAr X es n wa) (hs : starEach (e :: es) X.env = (false, eval e X.env) :: starEach es X.env := by rfl) : DAr X (e :: es) (n + 1) (aO i wa) := paC (pa_cons h hr hs) fun σ H Q ⟨Γ, A, ρ, P, R, hw, k⟩ => by
  unfold aO at hw
  split at hw
  · rename_i a kd q
    obtain ⟨v, h1, h2⟩ := R.cells i _ (getD_some q)
    exact ⟨v, h1, Γ, A, ρ, _, R, hw, fun vs cs H2 x2 g2 hvs hn hP2 => k _ _ H2 x2 g2 (.cons (show CellOk X.K Γ A H2 v (.obj a kd) from h2) hvs) (by rw [List.length_cons, hn]) hP2⟩
  · exact hw.elim
theorem DBd.gh {K : PySem.W.Frag} {Γ : Gam} {A : Hot} {H : Hp} {v : V} {d : PyData} (S : Sit Γ A H) (h : DBd K Γ A H v d) : DA K (Gh Γ) H v d := by
  rcases h with h | ⟨a, vs, xs, h1, h2, h3, h4, h5⟩
  · exact h.weak S.gdom
  · subst h1 h2
    exact .lst (by simp [h3]) h4 (h5.weak S.gdom)
theorem arB_d (h : DB X e w) (hr : DArB X es n wa) (hs : starEach (e :: es) X.env = (false, eval e X.env) :: starEach es X.env := by rfl) : DArB X (e :: es) (n + 1) (aD w wa) := paC (pa_cons h hr hs) fun σ H Q ⟨Γ, A, ρ, P, R, hw, k⟩ =>
  ⟨Γ, A, ρ, _, R, hw, fun v d H1 x1 g1 hv hP => ⟨Γ, A, ρ, _, R.ext x1 g1, hP, fun vs cs H2 x2 g2 hvs hn hP2 => k _ _ H2 (x1.trans x2) g2 (.cons (show CellOk X.K Γ (Gh Γ) H2 v (.d d) from (hv.gh (R.sit.ext x1 g1)).ext x2) hvs) (by rw [List.length_cons, hn]) hP2⟩⟩
theorem Sit.gh {Γ : Gam} {A : Hot} {H : Hp} (S : Sit Γ A H) : Sit Γ (Gh Γ) H := ⟨S.gok, fun _ h => h, fun a h => S.adom a (S.gdom a h), fun a ts h => S.nt a ts (S.gdom a h)⟩

/-! ### calls -/
def wCall (C : Con) (wa : WA) : WE := fun ρ P => wa ρ fun cs => C cs P
def wCallL (C : Con) (wa : WA) : WL := fun ρ P => wa ρ fun cs => C cs fun d => match d with
  | .list xs => P xs
  | _ => False
def flatD : PyData → Bool
  | .none => true
  | .bool _ => true
  | .int _ => true
  | .str _ => true
  | _ => false
def wCallB (C : Con) (wa : WA) : WE := fun ρ P => wa ρ fun cs => C cs fun d => flatD d = true ∧ P d
variable {x : Str} {f : Addr} {fd : FuncData} {ps : List Str} {k : Nat} {fr : Bool} {C : Con} {p : Pos}
theorem t_call {K : PySem.W.Frag} : ∀ σ H Q, tE K (wCall C wa) σ H Q → tCall (spD K n fr C) [] E0 (tAr K n wa) σ H Q := fun σ H Q ⟨Γ, A, ρ, P, R, hw, k⟩ =>
  ⟨Γ, A, ρ, _, R, hw, fun vs cs H1 x1 g1 hvs hn hP => by
    dsimp only
    rw [List.append_nil]
    exact ⟨Γ, A, cs, P, R.sit.ext x1 g1, hvs, hn, hP, fun v d H' x g hd _ hP2 => k v d H' (x1.trans x) g hd hP2⟩⟩
theorem t_callL {K : PySem.W.Frag} : ∀ σ H Q, tFr K (wCallL C wa) σ H Q → tCall (spD K n true C) [] E0 (tAr K n wa) σ H Q := fun σ H Q ⟨Γ, A, ρ, P, R, hw, k⟩ =>
  ⟨Γ, A, ρ, _, R, hw, fun vs cs H1 x1 g1 hvs hn hP => by
    dsimp only
    rw [List.append_nil]
    refine ⟨Γ, A, cs, _, R.sit.ext x1 g1, hvs, hn, hP, fun v d H' x g hd hf hP2 => ?_⟩
    cases d with
    | list xs =>
      cases hd with
      | lst n s hs =>
        obtain ⟨q1, ws, q2, q3⟩ := hf rfl _ _ rfl rfl
        exact k _ ws xs H' (back_none x1 g1 q1) (x1.trans x) g q2 q3 hP2
    | _ => exact hP2.elim⟩
theorem flat_da {K : PySem.W.Frag} {A B : Hot} {H : Hp} {v : V} {d : PyData} (h : DA K A H v d) (f : flatD d = true) : DA K B H v d := by
  cases h with
  | non => exact .non
  | bl b => exact .bl b
  | int i => exact .int i
  | str x => exact .str x
  | lst _ _ _ => cases f
  | tup _ _ _ => cases f
theorem t_callB {K : PySem.W.Frag} : ∀ σ H Q, tE K (wCallB C wa) σ H Q → tCall (spD K n fr C) [] E0 (tArB K n wa) σ H Q := fun σ H Q ⟨Γ, A, ρ, P, R, hw, k⟩ =>
  ⟨Γ, A, ρ, _, R, hw, fun vs cs H1 x1 g1 hvs hn hP => by
    dsimp only
    rw [List.append_nil]
    exact ⟨Γ, Gh Γ, cs, _, (R.sit.ext x1 g1).gh, hvs, hn, hP, fun v d H' x g hd _ hP2 => k v d H' (x1.trans x) g (flat_da hd hP2.1) hP2.2⟩⟩
theorem de_call (F : FnOk X.prog X.w X.K X.mg X.base CX0 k f fd ps (spD X.K n fr C)) (hr : Room k X.A) (hg : Gl X x) (hm : X.mg x = some (.ref f)) (hk : PySem.W.keepIn X.K (.ref f) = true) (hb : Binds X.K fd ps [])
    (ha : DAr X (e :: es) n wa) (hdb : (x == ("__debug__" : Str)) = false := by decide) (he : starEach (e :: es) X.env = (false, eval e X.env) :: starEach es X.env := by rfl) (hpl : (backTo pos (starEach es X.env)).any (·.1) = false := by rfl) :
    DE X (.Call (.Name x p) (e :: es) [] pos) (wCall C wa) := peC (pe_call F hr hg hm hk hb .nil pass0 ha hdb he hpl) t_call
theorem df_call (F : FnOk X.prog X.w X.K X.mg X.base CX0 k f fd ps (spD X.K n true C)) (hr : Room k X.A) (hg : Gl X x) (hm : X.mg x = some (.ref f)) (hk : PySem.W.keepIn X.K (.ref f) = true) (hb : Binds X.K fd ps [])
    (ha : DAr X (e :: es) n wa) (hdb : (x == ("__debug__" : Str)) = false := by decide) (he : starEach (e :: es) X.env = (false, eval e X.env) :: starEach es X.env := by rfl) (hpl : (backTo pos (starEach es X.env)).any (·.1) = false := by rfl) :
    DF X (.Call (.Name x p) (e :: es) [] pos) (wCallL C wa) := peC (pe_call F hr hg hm hk hb .nil pass0 ha hdb he hpl) t_callL
theorem de_callB (F : FnOk X.prog X.w X.K X.mg X.base CX0 k f fd ps (spD X.K n fr C)) (hr : Room k X.A) (hg : Gl X x) (hm : X.mg x = some (.ref f)) (hk : PySem.W.keepIn X.K (.ref f) = true) (hb : Binds X.K fd ps [])
    (ha : DArB X (e :: es) n wa) (hdb : (x == ("__debug__" : Str)) = false := by decide) (he : starEach (e :: es) X.env = (false, eval e X.env) :: starEach es X.env := by rfl) (hpl : (backTo pos (starEach es X.env)).any (·.1) = false := by rfl) :
    DE X (.Call (.Name x p) (e :: es) [] pos) (wCallB C wa) := peC (pe_call F hr hg hm hk hb .nil pass0 ha hdb he hpl) t_callB
end

/-! ### a def -/
/-- the slots at the entry -/
def startE (m : Nat) (cs : List Cell) : Env := cs.map some ++ List.replicate (m - cs.length) none
theorem cells_start {K : PySem.W.Frag} {Γ : Gam} {A : Hot} {H : Hp} {vs : List V} {cs : List Cell} (h : CellsOk K Γ A H vs cs) (r : List (Option V)) (r' : List (Option Cell)) (hr : ∀ (i : Nat) (c : Cell), r'[i]? ≠ some (some c)) :
    ∀ (i : Nat) (c : Cell), (cs.map some ++ r')[i]? = some (some c) → ∃ v, (vs.map some ++ r)[i]? = some (some v) ∧ CellOk K Γ A H v c := by
  induction h with
  | nil => intro i c q; exact absurd q (hr i c)
  | cons h1 _ ih =>
    intro i c q
    cases i with
    | zero =>
      simp at q
      subst q
      exact ⟨_, rfl, h1⟩
    | succ i => exact ih i c (by simpa using q)
theorem paired_len {K : PySem.W.Frag} {Γ : Gam} {A : Hot} {H : Hp} {vs : List V} {cs : List Cell} (h : CellsOk K Γ A H vs cs) : vs.length = cs.length := by
  induction h with
  | nil => rfl
  | cons _ _ ih => rw [List.length_cons, List.length_cons, ih]
def noOwn (cs : List Cell) : Prop := ∀ c ∈ cs, isOwn c = false
section
variable {P : Program} {w : World} {K : PySem.W.Frag} {mg : Str → Option Value} {base : Heap}
/-- what is wanted behind a def's body -/
def endD (fr : Bool) (P : PyData → Prop) : DEnds := { nx := fun _ => P .none, rt := fun d => (fr = true → ∀ xs, d ≠ .list xs) ∧ P d, rf := fun xs => P (.list xs) }
theorem start_rep {N : List Str} {Γ : Gam} {A : Hot} {H : Hp} {vs : List V} {cs : List Cell} (S : Sit Γ A H) (h : CellsOk K Γ A H vs cs) (hno : noOwn cs) (hl : cs.length ≤ N.length) : Rep K ⟨Γ, A, H, S.adom⟩ Γ A (L2.start N vs) H (startE N.length cs) := by
  have hv := paired_len h
  have own0 : ∀ (i : Nat) (c : Cell), (startE N.length cs)[i]? = some (some c) → isOwn c = false := fun i c q => by
    unfold startE at q
    by_cases hi : i < cs.length
    · rw [List.getElem?_append_left (by simpa using hi), List.getElem?_map] at q
      cases r : cs[i]? with
      | none => rw [r] at q; cases q
      | some c' =>
        rw [r] at q
        simp at q
        subst q
        exact hno _ (List.mem_of_getElem? r)
    · rw [List.getElem?_append_right (by simpa using Nat.le_of_not_lt hi)] at q
      have := List.mem_of_getElem? q
      rw [List.mem_replicate] at this
      cases this.2
  refine ⟨⟨S, ?_, cells_start h _ _ fun i c q => ?_⟩, ExA.refl _ _, fun _ _ => rfl, fun a h n => absurd h n, fun _ h => h, fun i c a h1 h2 _ => ?_, fun i j c c' a h1 h2 => ?_⟩
  · simp [startE, L2.start, hv]
  · have := List.mem_of_getElem? q
    rw [List.mem_replicate] at this
    cases this.2
  · rw [own0 i c h1] at h2; cases h2
  · rw [own0 i c h1] at h2; cases h2
/-- THE RULE for a def: its body's words, and what they give by data -/
theorem fn_body {x qual : Str} {st : Stmt} {f : Addr} {fd : FuncData} {N ps : List Str} {k n : Nat} {fr : Bool} {C : Con} {ws : WS} (F : Fun K x qual st f fd) (S : FnScope N ps (defScope st)) (hn : n = ps.length) (hN : n ≤ N.length)
    (hb : ∀ (cdv : Value) (A : Around) (outer : List PySem.Env) (s : Shared) (H : Hp) (E : XK), Room k (A.deeper (envOfC qual (defScope st) s.heap.objs.size f cdv)) → DSs (cxOf CX0 P w K mg base N qual (defScope st) f cdv A outer s H E).nox (defBody st) ws)
    (body : ∀ cs P, cs.length = n → C cs P → noOwn cs ∧ ws (startE N.length cs) (endD fr P)) : FnOk P w K mg base CX0 (k + 1) f fd ps (spD K n fr C) := by
  refine F.ok S (fun vs H Q E h => ?_) (fun cdv A outer s H vs Q E hr h => ?_)
  · obtain ⟨Γ, A, cs, P, _, h2, h3, _⟩ := h
    rw [paired_len h2, h3, hn]
  · obtain ⟨Γ, A', cs, P', h1, h2, h3, h4, h5⟩ := h
    obtain ⟨b1, b2⟩ := body cs P' h3 h4
    refine ⟨_, hb cdv A outer s H E hr, ⟨Γ, A', H, h1.adom⟩, Γ, A', startE N.length cs, _, start_rep h1 h2 b1 (by rw [h3]; exact hN), b2, ?_⟩
    refine ⟨fun Γ2 A2 σ2 H2 ρ2 R2 l hP => ?_, fun v d H2 x g hd hP => h5 v d H2 x g hd (fun hf a xs ev ed => absurd ed (hP.1 hf xs)) hP.2, fun p vs xs H2 hp x g hH hd hP => ?_, fun _ _ _ _ _ _ _ h => h.elim, fun _ _ _ _ _ _ _ h => h.elim⟩
    · exact h5 .non .none H2 R2.ext (R2.fgok R2.sit.gok) .non (fun _ a xs e _ => nomatch e) hP
    · refine h5 (.ref p) (.list xs) H2 x g (.lst (h1.cold hp) hH (hd.weak hadd_l)) (fun _ a ys ea ed => ?_) hP
      cases ea
      cases ed
      exact ⟨hp, vs, hH, hd⟩
end
end Dat

/-! DatH: enumerate and zip of tuples, chains, comprehensions given to a name, more calls. -/
namespace Dat
open PySem PySem.Spec PyProof.Rows L2
open AutoSeq1 (wpAny_loadPart')
open RZ

abbrev gEq : G2 := gDD cDeep PyData.eqv
abbrev gNe : G2 := gDD cDeep fun d e => !PyData.eqv d e
abbrev gLt : G2 := gDD cLt PySem.W.dataLt
abbrev gGt : G2 := gDD cLt fun d e => PySem.W.dataLt e d
abbrev gLe : G2 := gDD cLt fun d e => !PySem.W.dataLt e d
abbrev gGe : G2 := gDD cLt fun d e => !PySem.W.dataLt d e
abbrev gIn : G2 := gDD cIn inD
abbrev gNi : G2 := gDD cIn fun d e => !inD d e

/-! ### enumerate of a tuple -/
theorem meets_enumerate_newT (l : Addr) (items : Array Value) (n : Nat) (dct : Option Addr) (sl : Array (Option Value)) :
    Meets (Builtin.«enumerate.__new__» ⟨[.type "enumerate", .ref l], []⟩) (fun _ R s => s.heap.get? l = some { cls := .type "tuple", dict := dct, data := .seq items n, slots := sl } ∧
      R (.ok (.ret (.ref (s.heap.push { cls := .type "tuple_iterator", data := .fields #[.ref l, .int 0 0] }).objs.size)))
        { s with heap := (s.heap.push { cls := .type "tuple_iterator", data := .fields #[.ref l, .int 0 0] }).push { cls := .type "enumerate", data := .fields #[.none, .bool false, .ref s.heap.objs.size, rawInt 0, .none, .none] } }) :=
  .of_wp fun prog w A R s h => by
    obtain ⟨hp, g, d, tk, os⟩ := s; obtain ⟨hl, h⟩ := h
    have hsub := sub_enumerate
    have hL : Heap.IsTuple (Shared.heap ⟨hp, g, d, tk, os⟩) l items := ⟨_, hl, rfl, n, rfl⟩
    wp_walk using wpAny_loadPart' hl
    refine wpAny_stack_any fun st => wpAny_pure ?_
    split
    · rename_i c _ _ _ _ _
      cases (c == Value.type "enumerate")
      · wp_walk using wpAny_loadPart' hl, wpAny_pyIter_tuple hL
        exact ⟨_, rfl, h⟩
      · wp_walk using wpAny_loadPart' hl, wpAny_pyIter_tuple hL
        exact ⟨_, rfl, h⟩
    · wp_walk using wpAny_loadPart' hl, wpAny_pyIter_tuple hL
      exact ⟨_, rfl, h⟩
section
variable {prog : Program} {w : World} {A : Around} {E : Value → Shared → Prop} {s : Shared}
theorem call_enumerate_tuple {l : Addr} {items : Array Value} {Q : Value → Shared → Prop} (hL : s.heap.IsTuple l items)
    (h : ∀ h', IsEnum h' (s.heap.objs.size + 1) s.heap.objs.size 0 .none → h'.IsTupleIter s.heap.objs.size l 0 → h'.objs.size = s.heap.objs.size + 2 →
      (∀ b o, s.heap.get? b = some o → h'.get? b = some o) → Q (.ref (s.heap.objs.size + 1)) { s with heap := h' }) :
    wpAny (model prog w) A (call (.type "enumerate") [.ref l]) Q E s := by
  obtain ⟨⟨c, dct, dt, sl⟩, hl, hc, n, hd⟩ := hL
  replace hc : c = .type "tuple" := hc
  replace hd : dt = .seq items n := hd
  subst hc hd
  refine callType_new F.called_enumerate (by decide) (F.typeCall_enumerate_1 _) (F.newCall_enumerate_1 _) (fun obj => F.args_object_init_2 obj _) F.entry_enumerate_new
    (meets_enumerate_newT l items n dct sl) ⟨hl, ?_⟩
  have hz : (s.heap.push { cls := .type "tuple_iterator", data := .fields #[.ref l, .int 0 0] }).objs.size = s.heap.objs.size + 1 := Heap.size_push ..
  show _ ∧ _
  rw [hz]
  have he : IsEnum ((s.heap.push { cls := .type "tuple_iterator", data := .fields #[.ref l, .int 0 0] }).push
      { cls := .type "enumerate", data := .fields #[.none, .bool false, .ref s.heap.objs.size, rawInt 0, .none, .none] }) (s.heap.objs.size + 1) s.heap.objs.size 0 .none := by
    have := Heap.get?_push_size (s.heap.push { cls := .type "tuple_iterator", data := .fields #[.ref l, .int 0 0] })
      (o := { cls := .type "enumerate", data := .fields #[.none, .bool false, .ref s.heap.objs.size, rawInt 0, .none, .none] }) rfl
    rw [hz] at this; exact this
  refine ⟨⟨_, he, rfl⟩, h _ he ⟨_, Heap.get?_push_of_some _ (Heap.get?_push_size _ rfl), rfl, rfl⟩ (by rw [Heap.size_push, hz]) fun b o x => Heap.get?_push_of_some _ (Heap.get?_push_of_some _ x)⟩
end
/-- the tuple at a, each item in a new pair -/
def IteT (K : PySem.W.Frag) (a : Addr) : It :=
  ⟨fun i H => ∃ (xs : List V) (x : V), SqT K H a xs ∧ xs[i]? = some x, fun i H v H' => ∃ T x, v = .ref T ∧ H T = none ∧ H' = upd H T (.tup [.int (i : Nat), x]) ∧ ∀ xs, SqT K H a xs → xs[i]? = some x, fun i H => ∃ xs : List V, SqT K H a xs ∧ xs.length ≤ i⟩
theorem turn_enumT {P : Program} {w : World} {K : PySem.W.Frag} {elts : List Expr} {kk : Nat} {tpos : Pos} (a e it : Addr) :
    Turn P w K (.Tuple elts kk tpos) (IteT K a) [e, it] e (fun i h => (∃ old, IsEnum h e it ((i : Nat) : Int) old) ∧ h.IsTupleIter it a i ∧ e ≠ it) where
  mem := by simp
  obj := fun i h st b hb => by
    obtain ⟨⟨old, he⟩, ⟨o, ho, hc, hd⟩, _⟩ := st
    have e' : b = e ∨ b = it := by simpa using hb
    rcases e' with z | z
    · rw [z]; exact ⟨_, he, fun v q => nomatch q⟩
    · rw [z]; exact ⟨o, ho, fun v q => by rw [hd] at q; cases q⟩
  keep := fun i h h' st k => let ⟨⟨old, he⟩, hi, hne⟩ := st; ⟨⟨old, k e (by simp) _ he⟩, hi.at fun o q => k it (by simp) o q, hne⟩
  item := by
    intro X hP hw hK hc i pins s σ H E I hf st hg
    subst hP hw hK
    obtain ⟨⟨old, he⟩, hit, hne⟩ := st
    obtain ⟨xs, x, hq, hx⟩ := hg
    obtain ⟨its, rv, p, hz⟩ := I.tuple hq
    obtain ⟨u, hu, ru⟩ := rv.get hx
    have hel : e < s.heap.objs.size := Heap.lt_size he
    have hil : it < s.heap.objs.size := by obtain ⟨_, q, _⟩ := hit; exact Heap.lt_size q
    have pt : s.heap.IsTuple a its.toArray := p
    have hai : a ≠ it := fun z => by
      obtain ⟨o, h1, h2, _⟩ := pt
      obtain ⟨o', h3, h4, _⟩ := hit
      rw [z, h3] at h1
      cases h1
      rw [h2] at h4
      exact absurd h4 (by decide)
    have hea : e ≠ a := fun z => by
      obtain ⟨o, h1, h2, _⟩ := pt
      have he' : s.heap.get? e = some _ := he
      rw [z, h1] at he'
      cases he'
      have h3 : (Value.type "enumerate") = Value.type "tuple" := h2
      exact absurd h3 (by decide)
    have hlt : i < its.toArray.size := by
      have := (List.getElem?_eq_some_iff.mp hu).1
      simpa using this
    refine wpAny_pyNext_enum_itemD (Draws.tuple (A := X.A.in1) (I.ok.hd hc) it a hai its.toArray) he ⟨hit, pt⟩ hlt hne (by simp [hne, hea]) fun y h' tk hy ho hst hT hsz hk => ?_
    have hyu : y = u := by
      rw [List.getElem?_toArray, hu] at hy
      exact (Option.some.inj hy).symm
    subst hyu
    have hit' := hst.1
    refine ⟨_, rfl, wpAny_letOwnedTupleGo_enum (s := { s with heap := h', toks := tk + 1 }) ho fun h'' he' sb => ?_⟩
    have hT2 : h''.get? s.heap.objs.size = some { cls := .type "tuple", data := .seq #[.int i tk, y] } := (sb.2 _ (Nat.ne_of_gt hel)).trans hT
    have new : ObjOk X.prog X.w (upd H s.heap.objs.size (.tup [.int (i : Nat), x])) h'' s.heap.objs.size (.tup [.int (i : Nat), x]) :=
      ⟨by show 2 ≤ sizeLine; decide, [.int i tk, y], .cons ⟨_, rfl⟩ (.cons ru .nil), ⟨_, hT2, rfl, _, rfl⟩⟩
    have I1 : Inv X pins σ (upd H s.heap.objs.size (.tup [.int (i : Nat), x])) { s with heap := h'', toks := tk + 1 } :=
      I.turnedNew (ch := [e, it]) (fun b ob hb q => (sb.2 b (fun z => hb (by simp [z]))).trans (hk b ob (fun z => hb (by simp [z])) (fun z => hb (by simp [z])) q)) hf (Nat.le_refl _) new
    refine ⟨.ref s.heap.objs.size, _, I1, rfl, ⟨_, x, rfl, I.hok.fresh (Nat.le_refl _), rfl, fun ys hy => by rw [I.tuple_inj hy hq]; exact hx⟩, ⟨⟨y, ?_⟩, hit'.at fun o q => (sb.2 it (Ne.symm hne)).trans q, hne⟩, fun b hb => ?_⟩
    · have e1 : ((i + 1 : Nat) : Int) = (i : Int) + 1 := by omega
      rw [e1]; exact he'
    · have hb' : b < s.heap.objs.size := by
        have e' : b = e ∨ b = it := by simpa using hb
        rcases e' with z | z
        · rw [z]; exact hel
        · rw [z]; exact hil
      rw [upd_ne (Nat.ne_of_lt hb')]
      exact (hf b hb).1
  done := by
    intro X hP hw hK hc i pins s σ H E I hf st hg
    subst hP hw hK
    obtain ⟨⟨old, he⟩, hit, hne⟩ := st
    obtain ⟨xs, hq, hx⟩ := hg
    obtain ⟨its, rv, p, hz⟩ := I.tuple hq
    obtain ⟨f0, f1, f2, f3, f4, f5⟩ := hf it (by simp)
    have hl := rv.length
    have pt : s.heap.IsTuple a its.toArray := p
    have hT : s.TypeIs (.ref e) "enumerate" := ⟨_, he, rfl⟩
    unfold pyNext
    refine wpAny_bind (wpAny_attempt (wpAny_callSpecial?_slot (name := Str.ofString "__next__") hT F.slot_enumerate_next
      (wpAny_call_entry F.slot_enumerate_next hT F.entry_enumerate_next ?_ (F.args_enumerate_next_1 _))))
    show wpAny _ _ (field (.ref e) 2 >>= _) _ _ _
    refine wpAny_bind (wpAny_field he rfl (x := .ref it) rfl ?_)
    refine wpAny_bind (wpAny_nextOf_tuple_end (I.ok.hd hc) hit pt (by simp; omega) fun h' y he' hx' => ?_)
    obtain ⟨o, ho, hc⟩ := hx'
    refine wpAny_bind (wpAny_isInstance (T := "StopIteration") (b := true) ⟨o, ho, hc⟩ isSubtype_stop ?_)
    exact wpAny_pure ⟨rfl, I.turned (t' := s.toks) (fun b o hb q => he' b o hb q) f0 f1 f3 f4 f5⟩
  self := fun A i s Q E st h => let ⟨⟨_, he⟩, _⟩ := st; wpAny_pyIter_enum he h
def iEnumA (K : PySem.W.Frag) (ta : TA) : TI := fun σ H R => ta σ H fun vs H1 => ∃ a xs, vs = [.ref a] ∧ ((SqL K H1 a xs ∧ (xs.length ≤ sizeLine → R (Ite K a) H1)) ∨ (SqT K H1 a xs ∧ (xs.length ≤ sizeLine → R (IteT K a) H1)))
theorem pi_enumA {X : Cx} {e : Expr} {ta : TA} {p pos tpos : Pos} {elts : List Expr} {kk : Nat} (hg : Gl X "enumerate") (hm : X.mg "enumerate" = none) (ha : PA X [e] ta) (hs : starEach [e] X.env = [(false, eval e X.env)] := by rfl) :
    PI X (.Tuple elts kk tpos) (.Call (.Name "enumerate" p) [e] [] pos) (iEnumA X.K ta) := by
  refine ⟨fun pins s σ H R I h => ?_⟩
  refine Call_ (ld_blt I hg hm boot_enumerate (PyProof.Rows.callWith_type1 (thn (ha.run pos pins s σ H _ I h) fun us s1 ⟨vs, H1, I1, r1, q1⟩ => ?_) hs rfl))
  obtain ⟨a, xs, ex, q⟩ := q1
  subst ex
  cases r1 with
  | cons r rr =>
    cases rr
    cases r
    have fr : ∀ b ∈ [s1.heap.objs.size + 1, s1.heap.objs.size], FpOk X pins H1 b := fun b hb => by
      have e' : b = s1.heap.objs.size + 1 ∨ b = s1.heap.objs.size := by simpa using hb
      have hle : s1.heap.objs.size ≤ b := by
        rcases e' with z | z
        · rw [z]; exact Nat.le_add_right _ _
        · rw [z]; exact Nat.le_refl _
      exact I1.fpOk hle (I1.hok.fresh hle)
    rcases q with ⟨hq, q⟩ | ⟨hq, q⟩
    · obtain ⟨its, rv, p', hz⟩ := I1.list hq
      refine call_enumerate_list p'.isList fun h' he hit hsz hk => wpAny_pyIter_enum he ?_
      have I2 : Inv X pins σ H1 { s1 with heap := h' } := I1.kept (t' := s1.toks) hk
      exact ⟨s1.heap.objs.size + 1, [s1.heap.objs.size + 1, s1.heap.objs.size], _, _, H1, rfl, I2, turn_enum a (s1.heap.objs.size + 1) s1.heap.objs.size, ⟨⟨.none, he⟩, hit, Nat.succ_ne_self _⟩, fr, q hz⟩
    · obtain ⟨its, rv, p', hz⟩ := I1.tuple hq
      refine call_enumerate_tuple (show s1.heap.IsTuple a its.toArray from p') fun h' he hit hsz hk => wpAny_pyIter_enum he ?_
      have I2 : Inv X pins σ H1 { s1 with heap := h' } := I1.kept (t' := s1.toks) hk
      exact ⟨s1.heap.objs.size + 1, [s1.heap.objs.size + 1, s1.heap.objs.size], _, _, H1, rfl, I2, turn_enumT a (s1.heap.objs.size + 1) s1.heap.objs.size, ⟨⟨.none, he⟩, hit, Nat.succ_ne_self _⟩, fr, q hz⟩
/-- the pairs (i, x) -/
def enumD (xs : List PyData) : List PyData := xs.mapIdx fun i d => .tuple [.int (i : Nat), d]
def wEnum (w : WE) : WL := fun ρ P => w ρ fun d => isSeq d = true ∧ P (enumD (itemsD d))
theorem enumD_len (xs : List PyData) : (enumD xs).length = xs.length := by simp [enumD]
theorem enumD_at {xs : List PyData} {i : Nat} {d : PyData} (h : xs[i]? = some d) : (enumD xs)[i]? = some (.tuple [.int (i : Nat), d]) := by simp [enumD, h]
theorem dwalk_pair {K : PySem.W.Frag} {L : Gam → Hot → Hp → Prop} {J : It} {n : Nat} {G : Hp → Prop} {f g : Nat → Option V} {ds : List PyData} (w : Walk J n G (YPair f g)) (hn : ds.length = n) (hz : ds.length ≤ sizeLine) (hG : ∀ Γ A H, L Γ A H → Sit Γ A H → G H)
    (it : ∀ i x y, i < n → f i = some x → g i = some y → ∃ d e, ds[i]? = some (.tuple [d, e]) ∧ ∀ Γ A H, L Γ A H → Sit Γ A H → DA K A H x d ∧ DA K A H y e) : DWalk K L J ds := by
  refine ⟨⟨YPair f g, ?_, fun i H v H' hi y Γ A l S => ?_⟩, hz⟩
  · rw [hn]
    exact w.mono (fun H ⟨Γ, A, l, S⟩ => hG Γ A H l S) fun i H x H' _ _ y => y
  · obtain ⟨T, x, z, rfl, hT, rfl, h1, h2⟩ := y
    obtain ⟨d, e, hd, hx⟩ := it i x z (by omega) h1 h2
    obtain ⟨hx, hz⟩ := hx Γ A H l S
    exact ⟨ExA.new hT, S.gok.new hT, _, hd, .tup (S.cold hT) upd_same (.cons (hx.ext (ExA.new hT)) (.cons (hz.ext (ExA.new hT)) .nil))⟩
theorem walk_enumT {K : PySem.W.Frag} {a : Addr} {xs : List V} : Walk (IteT K a) xs.length (fun H => SqT K H a xs) (YPair (fun i => some (.int (i : Nat))) (fun i => xs[i]?)) := by
  refine ⟨fun i _ hi q => ⟨xs, xs[i], q, by simp [hi]⟩, fun _ q => ⟨xs, q, Nat.le_refl _⟩, fun i H v H' _ q y => ?_⟩
  obtain ⟨T, x, h1, h2, h3, h4⟩ := y
  exact ⟨T, .int (i : Nat), x, h1, h2, h3, rfl, h4 xs q⟩
theorem walk_zipT {K : PySem.W.Frag} {a b : Addr} {xs ys : List V} {n : Nat} (hn : n = min xs.length ys.length) : Walk (ItzT K a b) n (fun H => SqT K H a xs ∧ SqT K H b ys) (YPair (fun i => xs[i]?) (fun i => ys[i]?)) := by
  subst hn
  refine ⟨fun i _ hi q => ?_, fun _ q => ⟨xs, ys, q.1, q.2, by omega⟩, fun i H v H' _ q y => ?_⟩
  · have h1 : i < xs.length := by omega
    have h2 : i < ys.length := by omega
    exact ⟨xs, ys, xs[i], ys[i], q.1, q.2, by simp [h1], by simp [h2]⟩
  · obtain ⟨T, x, z, h1, h2, h3, h4, h5⟩ := y
    exact ⟨T, x, z, h1, h2, h3, h4 xs q.1, h5 ys q.2⟩
section
variable {X : Cx} {e : Expr} {w : WE} {pos p tpos : Pos} {elts : List Expr} {kk : Nat}
theorem di_enum (hg : Gl X "enumerate") (hm : X.mg "enumerate" = none) (ha : DE X e w) (h1 : starEach [e] X.env = (false, eval e X.env) :: starEach [] X.env := by rfl) (hs : starEach [e] X.env = [(false, eval e X.env)] := by rfl) :
    DI X (.Tuple elts kk tpos) (.Call (.Name "enumerate" p) [e] [] pos) (wEnum w) := piC (pi_enumA hg hm (pa_cons ha pa_nil h1) hs) fun σ H Q ⟨Γ, A, ρ, P, R, hw, k⟩ => ⟨Γ, A, ρ, _, R, hw, fun v d H1 x g hv hP => by
  obtain ⟨h1, h2⟩ := hP
  cases hv with
  | lst n s hs =>
    refine ⟨_, _, rfl, .inl ⟨SqL.of s, fun hz => k _ _ H1 x g (dwalk_pair walk_enum (by rw [enumD_len]; exact hs.length.symm) (by rw [enumD_len]; exact hs.length ▸ hz) (fun Γ' A' H' l S => SqL.of (l.cold n s).2) fun i y z hi e1 e2 => ?_) h2⟩⟩
    cases e1
    obtain ⟨d, hd, hz⟩ := hs.at' e2
    exact ⟨_, d, enumD_at hd, fun Γ' A' H' l S => ⟨.int _, l.da hz⟩⟩
  | tup n s hs =>
    refine ⟨_, _, rfl, .inr ⟨SqT.of s, fun hz => k _ _ H1 x g (dwalk_pair walk_enumT (by rw [enumD_len]; exact hs.length.symm) (by rw [enumD_len]; exact hs.length ▸ hz) (fun Γ' A' H' l S => SqT.of (l.cold n s).2) fun i y z hi e1 e2 => ?_) h2⟩⟩
    cases e1
    obtain ⟨d, hd, hz⟩ := hs.at' e2
    exact ⟨_, d, enumD_at hd, fun Γ' A' H' l S => ⟨.int _, l.da hz⟩⟩
  | _ => cases h1⟩
def zipD : List PyData → List PyData → List PyData
  | x :: xs, y :: ys => .tuple [x, y] :: zipD xs ys
  | _, _ => []
theorem zipD_len : ∀ xs ys : List PyData, (zipD xs ys).length = min xs.length ys.length
  | [], _ => by simp [zipD]
  | _ :: _, [] => by simp [zipD]
  | x :: xs, y :: ys => by simp [zipD, zipD_len xs ys]
theorem zipD_at : ∀ {xs ys : List PyData} {i : Nat} {x y : PyData}, xs[i]? = some x → ys[i]? = some y → (zipD xs ys)[i]? = some (.tuple [x, y])
  | [], _, i, _, _, h, _ => by simp at h
  | _ :: _, [], i, _, _, _, h => by simp at h
  | a :: xs, b :: ys, 0, x, y, h1, h2 => by simp at h1 h2; simp [zipD, h1, h2]
  | a :: xs, b :: ys, i + 1, x, y, h1, h2 => by
    simp only [zipD, List.getElem?_cons_succ]
    exact zipD_at (by simpa using h1) (by simpa using h2)
/-- zip of two tuples -/
def wZip (w1 w2 : WE) : WL := fun ρ P => w1 ρ fun d => w2 ρ fun e => match d, e with
  | .tuple xs, .tuple ys => xs.length ≤ sizeLine ∧ P (zipD xs ys)
  | _, _ => False
theorem di_zip {e2 : Expr} {w2 : WE} (hg : Gl X "zip") (hm : X.mg "zip" = none) (ha : DE X e w) (hb : DE X e2 w2) (h1 : starEach [e, e2] X.env = (false, eval e X.env) :: starEach [e2] X.env := by rfl) (h2 : starEach [e2] X.env = (false, eval e2 X.env) :: starEach [] X.env := by rfl)
    (hpl : (backTo pos (starEach [e2] X.env)).any (·.1) = false := by rfl) : DI X (.Tuple elts kk tpos) (.Call (.Name "zip" p) [e, e2] [] pos) (wZip w w2) :=
  piC (pi_zipA hg hm (pa_cons ha (pa_cons hb pa_nil h2) h1) h1 hpl) fun σ H Q ⟨Γ, A, ρ, P, R, hw, k⟩ => ⟨Γ, A, ρ, _, R, hw, fun v d H1 x1 g1 hv hP => ⟨Γ, A, ρ, _, R.ext x1 g1, hP, fun u e H2 x2 g2 hu hP2 => by
    have hv2 := hv.ext (x2.weak R.sit.gdom)
    cases d with
    | tuple xs => cases e with
      | tuple ys =>
        cases hv2 with
        | tup n s hs =>
          cases hu with
          | tup n' s' hs' =>
            refine ⟨_, _, _, _, rfl, .inr ⟨SqT.of s, SqT.of s', k _ _ H2 (x1.trans x2) g2 (dwalk_pair (walk_zipT rfl) (by rw [zipD_len, hs.length, hs'.length]) (by rw [zipD_len]; have := hP2.1; omega) (fun Γ' A' H' l S => ⟨SqT.of (l.cold n s).2, SqT.of (l.cold n' s').2⟩) fun i y z hi e1 e2 => ?_) hP2.2⟩⟩
            obtain ⟨d, hd, hy⟩ := hs.at' e1
            obtain ⟨d', hd', hz⟩ := hs'.at' e2
            exact ⟨d, d', zipD_at hd hd', fun Γ' A' H' l S => ⟨l.da hy, l.da hz⟩⟩
      | _ => exact hP2.elim
    | _ => exact hP2.elim⟩⟩

/-! ### chains of two comparisons -/
def wChain (g g' : G2) (wa wb wc : WE) : WE := fun ρ P => wa ρ fun d => wb ρ fun e => g d e fun z => match z with
  | .bool true => wc ρ fun f => g' e f P
  | .bool false => P (.bool false)
  | _ => False
variable {a b c : Expr} {wa wb wc : WE} {r r' : R2} {g g' : G2}
theorem t_chain {K : PySem.W.Frag} (hd : DR2 K r g) (hd' : DR2 K r' g') : ∀ σ H Q, tE K (wChain g g' wa wb wc) σ H Q → tChain r r' (tBr K wa) (tBr K wb) (tBr K wc) σ H Q := fun σ H Q ⟨Γ, A, ρ, P, R, hw, k⟩ =>
  ⟨Γ, A, ρ, _, R, hw, fun v d H1 x1 g1 hv hP => ⟨Γ, A, ρ, _, R.ext x1 g1, hP, fun u e H2 x2 g2 hu hP2 => by
    have S1 := R.sit.ext x1 g1
    have S2 := S1.ext x2 g2
    refine hd Γ A H2 v u d e _ _ S2 (hv.ext S1 x2) hu hP2 fun z dz H3 x3 g3 hz hP3 => ?_
    cases dz with
    | bool t =>
      cases hz
      refine ⟨t, rfl, ?_⟩
      cases t with
      | true => exact ⟨Γ, A, ρ, _, R.ext ((x1.trans x2).trans x3) g3, hP3, fun y f H4 x4 g4 hy hP4 => hd' Γ A H4 u y e f Q P ((S2.ext x3 g3).ext x4 g4) ((hu.ext S2 x3).ext (S2.ext x3 g3) x4) hy hP4 (k.back (((x1.trans x2).trans x3).trans x4))⟩
      | false => exact k _ _ H3 ((x1.trans x2).trans x3) g3 (.bl false) hP3
    | _ => exact hP3.elim⟩⟩
theorem de_chain {op op' : CmpOp} (ho : OpR X (compareOp op) r) (ho' : OpR X (compareOp op') r') (hd : DR2 X.K r g) (hd' : DR2 X.K r' g') (ha : DB X a wa) (hb : DB X b wb) (hc : DB X c wc) (hm : lastMarks [op, op'] [b, c] = false := by with_unfolding_all rfl) :
    DE X (.Compare a [op, op'] [b, c] pos) (wChain g g' wa wb wc) := peC (pe_chain ho ho' ha hb hc hm) (t_chain hd hd')
theorem dt_chain {op op' : CmpOp} (ho : OpR X (compareOp op) r) (ho' : OpR X (compareOp op') r') (hd : DR2 X.K r g) (hd' : DR2 X.K r' g') (ha : DB X a wa) (hb : DB X b wb) (hc : DB X c wc) (hm : lastMarks [op, op'] [b, c] = false := by with_unfolding_all rfl) :
    DT X (.Compare a [op, op'] [b, c] pos) (wTst (wChain g g' wa wb wc)) := ptC (pt_chain ho ho' ha hb hc hm) fun σ H Q h => t_chain hd hd' σ H _ (t_test σ H Q h)
end

/-! ### y = [..] -/
section
variable {X : Cx} {i : Nat} {y : Str} {py : Pos} {elt tg iter : Expr} {ifs : List Expr} {scope : Scope} {own : List (Str × Nat)} {pos spos : Pos} {wi : WL} {wg : WG} {wt : WT} {we : WE} {is : List Nat}
theorem ds_lcO (hc : X.calm = true) (hN : X.N.Nodup) (hy : X.N[i]? = some y) (hyl : X.env.scope.names.lookup y = some .local) (hsw : swapsWith (.ListComp elt [⟨tg, iter, ifs, 0⟩] scope pos) (some (.Name y py)) spos.line X.env = pure true) (hi : DIe X tg iter wi) (ok : BlkOk X.N X.env.scope scope own)
    (hg : ∀ (s : Shared) (H : Hp) (C : Addr) (cl : List (Str × Addr)) (fp : List Addr), DG (X.blk s H scope (compEnvC scope cl C X.env) fp) tg is wg) (ht : ∀ (s : Shared) (H : Hp) (C : Addr) (cl : List (Str × Addr)) (fp : List Addr), DTs (X.blk s H scope (compEnvC scope cl C X.env) fp) ifs wt)
    (he : ∀ (s : Shared) (H : Hp) (C : Addr) (cl : List (Str × Addr)) (fp : List Addr), DE (X.blk s H scope (compEnvC scope cl C X.env) fp) elt we) (hvs : ∀ i ∈ is, i ∈ own.map (·.2) := by decide) (hs : ∀ x, foldedSetIterable iter X.env x = pure x := by intro _; rfl) :
    DS X (.Assign [.Name y py] (.ListComp elt [⟨tg, iter, ifs, 0⟩] scope pos) spos) (sSetF i (wLc wi wg wt we (own.map (·.2)))) :=
  psC (ps_setLc hc hN hy hyl hsw hi ok hg ht he hs) fun D σ H h => by
    have q := t_setF (K := X.K) (i := i) D σ H h
    exact t_lc (K := X.K) hvs σ H (fun x H1 => gName i x σ H1 D.nx) q
theorem ds_lc (hc : X.calm = true) (hN : X.N.Nodup) (hy : X.N[i]? = some y) (hyl : X.env.scope.names.lookup y = some .local) (hsw : swapsWith (.ListComp elt [⟨tg, iter, ifs, 0⟩] scope pos) (some (.Name y py)) spos.line X.env = pure true) (hi : DIe X tg iter wi) (ok : BlkOk X.N X.env.scope scope own)
    (hg : ∀ (s : Shared) (H : Hp) (C : Addr) (cl : List (Str × Addr)) (fp : List Addr), DG (X.blk s H scope (compEnvC scope cl C X.env) fp) tg is wg) (ht : ∀ (s : Shared) (H : Hp) (C : Addr) (cl : List (Str × Addr)) (fp : List Addr), DTs (X.blk s H scope (compEnvC scope cl C X.env) fp) ifs wt)
    (he : ∀ (s : Shared) (H : Hp) (C : Addr) (cl : List (Str × Addr)) (fp : List Addr), DE (X.blk s H scope (compEnvC scope cl C X.env) fp) elt we) (hvs : ∀ i ∈ is, i ∈ own.map (·.2) := by decide) (hs : ∀ x, foldedSetIterable iter X.env x = pure x := by intro _; rfl) :
    DS X (.Assign [.Name y py] (.ListComp elt [⟨tg, iter, ifs, 0⟩] scope pos) spos) (sSet i (wF (wLc wi wg wt we (own.map (·.2))))) :=
  psC (ps_setLc hc hN hy hyl hsw hi ok hg ht he hs) fun D σ H ⟨F, Γ, A, ρ, Dd, R, hw, E⟩ => t_lc hvs σ H _ ⟨Γ, A, ρ, _, R.e, hw, fun p vs xs H1 hp x g hH hd hP =>
    E.nx Γ A _ H1 _ ((R.step x g).setD (.lst (R.sit.cold hp) hH (hd.weak hadd_l))) (LaterS.of_ext R.sit x) hP⟩
end
end Dat

/-! DatI: the tape's draw. -/
namespace Dat
open PySem PySem.Spec PyProof.Rows L2

theorem via {X : Cx} {sts : List Stmt} {t t' : TS} (h : PSs X sts t') (e : t' = t) : PSs X sts t := e ▸ h
def C_draw : Con := fun cs P => ∃ T L m, cs = [.obj T (.tape L), .d (.int m)] ∧ 0 < m ∧ m < 2 ^ 64 ∧ ∀ r, 0 ≤ r → r < m → P (.int r)
/-- the heap after a draw -/
theorem ext_tape {Γ : Gam} {H : Hp} {T L : Addr} {i s : Int} (g : GOk Γ H) (hT : Γ T = some (.tape L)) (hi : 0 ≤ i) (hs : 0 ≤ s) : Ext Γ H (upd H T (.lst [.ref L, .int i, .int s])) ∧ GOk Γ (upd H T (.lst [.ref L, .int i, .int s])) := by
  refine ⟨ExA.hot (by show Γ T ≠ none; rw [hT]; simp), fun a k h => ?_⟩
  by_cases e : a = T
  · subst e
    rw [hT] at h
    cases h
    exact ⟨i, s, upd_same, hi, hs⟩
  · exact (g a k h).same (upd_ne e)
theorem upd_upd {H : Hp} {T : Addr} {o o' : HO} : upd (upd H T o) T o' = upd H T o' := by
  funext a
  by_cases e : a = T
  · subst e; rw [upd_same, upd_same]
  · rw [upd_ne e, upd_ne e, upd_ne e]
section
variable {P : Program} {w : World} {K : PySem.W.Frag} {mg : Str → Option Value} {base : Heap} {st : Stmt}
theorem ok_draw_of {N : List Str} {f : Addr} {fd : FuncData} {ws : TS} (F : Fun K "_law_draw" "_law_draw" st f fd) (S : FnScope N ["tape", "many"] (defScope st)) (hN : N.length = 5)
    (hb : ∀ (cdv : Value) (A : Around) (outer : List PySem.Env) (s : Shared) (H : Hp) (E : XK), Room 0 (A.deeper (envOfC "_law_draw" (defScope st) s.heap.objs.size f cdv)) → PSs (cxOf CX0 P w K mg base N "_law_draw" (defScope st) f cdv A outer s H E).nox (defBody st) ws)
    (body : ∀ (H : Hp) (T L : Addr) (ns : List Int) (i s m : Int) (D : Ends), H L = some (.lst (ns.map V.int)) → H T = some (.lst [.ref L, .int i, .int s]) → L ≠ T → 0 ≤ i → 0 ≤ s → 0 < m → m < 2 ^ 64 →
      (∀ i' s' r, 0 ≤ i' → 0 ≤ s' → 0 ≤ r → r < m → D.rt (.int r) (upd H T (.lst [.ref L, .int i', .int s']))) → ws D [some (.ref T), some (.int m), none, none, none] H) :
    FnOk P w K mg base CX0 1 f fd ["tape", "many"] (spD K 2 false C_draw) := by
  refine F.ok S (fun vs H Q E h => ?_) (fun cdv A outer s H vs Q E hr h => ?_)
  · obtain ⟨Γ, A, cs, P, _, h2, h3, _⟩ := h
    rw [paired_len h2, h3]
    rfl
  · obtain ⟨Γ, A', cs, P', S1, h2, h3, ⟨T, L, m, rfl, m0, m64, hP⟩, h5⟩ := h
    cases h2 with
    | cons q1 h2 =>
      cases h2 with
      | cons q2 h2 =>
        cases h2
        obtain ⟨rfl, gT⟩ := q1
        have e2 := DA.b (Γ := Γ) q2 |>.int
        subst e2
        have gL := Γ.wf T L gT
        obtain ⟨i, z, hT, hi, hz⟩ := S1.gok T _ gT
        obtain ⟨ns, hL⟩ := S1.gok L _ gL
        have hne : L ≠ T := fun e => by
          subst e
          rw [gL] at gT
          cases gT
        refine ⟨_, hb cdv A outer s H E hr, ?_⟩
        have es : L2.start N [V.ref T, V.int m] = [some (.ref T), some (.int m), none, none, none] := by
          unfold L2.start
          rw [hN]
          rfl
        rw [es]
        refine body H T L ns i z m _ hL hT hne hi hz m0 m64 fun i' s' r a b c d => ?_
        obtain ⟨x, g⟩ := ext_tape S1.gok gT a b
        exact h5 _ _ _ x g (.int r) (fun e => nomatch e) (hP r c d)
end

section
variable {K : PySem.W.Frag}
def ixT (K : PySem.W.Frag) (i : Int) : TE := tOp (rIxL K) (tVar 0) (tC (.int i))
def lenT (K : PySem.W.Frag) : TE := tCB (fun xs H Q => ∃ p ys, xs = [.ref p] ∧ (SqL K H p ys ∨ SqT K H p ys) ∧ Q (.int ys.length) H) (tCons (ixT K 0) tNil)
def tMod : TE → TE → TE := tOp (rI (fun _ j => 0 < j) fun i j => .int (i % j))
def tPlus : TE → TE → TE := tOp (rI0 fun i j => .int (i + j))
def tMul : TE → TE → TE := tOp (rI CMul fun i j => .int (i * j))
def tMix : TS := tSeq (tAsg (tMod (tPlus (tPlus (tMul (tVar 3) (tVar 3)) (tMul (tC (.int 1181783497276652981)) (tVar 3))) (tC (.int 2049848353892358983))) (tVar 2)) (gName 3)) (tAsg (tMod (tPlus (tMul (tVar 3) (tVar 3)) (tC (.int 1442695040888963407))) (tVar 2)) (gName 3))
def tMix0 (K : PySem.W.Frag) : TS := tSeq (tAsg (tMod (tPlus (tVar 3) (tMul (tC (.int 1000003)) (ixT K 1))) (tVar 2)) (gName 3)) tMix
def tPut (K : PySem.W.Frag) : TS := tSeq (tAsg (tPlus (ixT K 1) (tC (.int 1))) (L2.gSub (tVar 0) (tC (.int 1)) rSetL)) (tAsg (tVar 3) (L2.gSub (tVar 0) (tC (.int 2)) rSetL))
def tEndD (K : PySem.W.Frag) : TS := tSeq (tAsg (tMod (ixT K 2) (tVar 1)) (gName 4)) (tSeq (tAsg (tOp (rI CDivW fun i j => .int (i / j)) (ixT K 2) (tVar 1)) (L2.gSub (tVar 0) (tC (.int 2)) rSetL)) (tRet (tVar 4)))
def tDraw (K : PySem.W.Frag) : TS :=
  tSeq (tAsg (tC (.int 2305843009213693951)) (gName 2))
    (tSeq (tIfS (tTest (tOp (rI0 fun i j => .bl (decide (i < j))) (ixT K 2) (tVar 1)))
      (tSeq (tAsg (tC (.int 0)) (gName 3))
        (tSeq (tIfS (tTest (tOp (rI0 fun i j => .bl (decide (j < i))) (lenT K) (tC (.int 0)))) (tAsg (tOp (rIxL K) (ixT K 0) (tMod (ixT K 1) (lenT K))) (gName 3)) tNext)
          (tSeq (tIfS (tOr (tTest (tOp (rI0 fun i j => .bl (decide (j ≤ i))) (ixT K 1) (lenT K))) (tTest (tOp (rI0 fun i j => .bl (decide (i < j))) (tVar 3) (tOp (rI CPow fun i j => .int (i ^ j.toNat)) (tC (.int 10)) (tC (.int 18)))))) (tMix0 K) tNext)
            (tPut K)))) tNext) (tEndD K))
theorem ixT0 {σ : St} {H : Hp} {Q : VK} {T L : Addr} {i s : Int} (h : σ[0]? = some (some (.ref T))) (hT : H T = some (.lst [.ref L, .int i, .int s])) (q : Q (.ref L) H) : ixT K 0 σ H Q := ⟨.ref T, h, T, _, 0, _, rfl, rfl, SqL.of hT, rfl, q⟩
theorem ixT1 {σ : St} {H : Hp} {Q : VK} {T L : Addr} {i s : Int} (h : σ[0]? = some (some (.ref T))) (hT : H T = some (.lst [.ref L, .int i, .int s])) (q : Q (.int i) H) : ixT K 1 σ H Q := ⟨.ref T, h, T, _, 1, _, rfl, rfl, SqL.of hT, rfl, q⟩
theorem ixT2 {σ : St} {H : Hp} {Q : VK} {T L : Addr} {i s : Int} (h : σ[0]? = some (some (.ref T))) (hT : H T = some (.lst [.ref L, .int i, .int s])) (q : Q (.int s) H) : ixT K 2 σ H Q := ⟨.ref T, h, T, _, 2, _, rfl, rfl, SqL.of hT, rfl, q⟩
theorem lenT_ {σ : St} {H : Hp} {Q : VK} {T L : Addr} {i s : Int} {ns : List Int} (h : σ[0]? = some (some (.ref T))) (hT : H T = some (.lst [.ref L, .int i, .int s])) (hL : H L = some (.lst (ns.map V.int))) (q : Q (.int ns.length) H) : lenT K σ H Q :=
  ixT0 h hT ⟨L, _, rfl, .inl (SqL.of hL), by rw [List.length_map]; exact q⟩
theorem small_mod (x : Int) : 0 ≤ x % 2305843009213693951 ∧ x % 2305843009213693951 < 2305843009213693951 := ⟨Int.emod_nonneg _ (by decide), Int.emod_lt_of_pos _ (by decide)⟩
theorem cmul_small {c : Int} (x : Int) (h0 : 0 ≤ c) (h : c < 2305843009213693951) : CMul c x := .inl ⟨by omega, by omega⟩
theorem mix2_ {T : Addr} {m c : Int} {D : Ends} {y4 : Option V} {H : Hp} (h0 : 0 ≤ c) (h : c < 2305843009213693951) (q : ∀ c, 0 ≤ c → D.nx [some (.ref T), some (.int m), some (.int 2305843009213693951), some (.int c), y4] H) :
    tAsg (tMod (tPlus (tMul (tVar 3) (tVar 3)) (tC (.int 1442695040888963407))) (tVar 2)) (gName 3) D [some (.ref T), some (.int m), some (.int 2305843009213693951), some (.int c), y4] H :=
  ⟨_, rfl, _, rfl, _, _, rfl, rfl, cmul_small _ h0 h, _, _, rfl, rfl, _, rfl, _, _, rfl, rfl, (show (0 : Int) < 2305843009213693951 by decide), q _ (small_mod (c * c + 1442695040888963407)).1⟩
theorem mix_ {T : Addr} {m c : Int} {D : Ends} {y4 : Option V} {H : Hp} (h0 : 0 ≤ c) (h : c < 2305843009213693951) (q : ∀ c, 0 ≤ c → D.nx [some (.ref T), some (.int m), some (.int 2305843009213693951), some (.int c), y4] H) :
    tMix D [some (.ref T), some (.int m), some (.int 2305843009213693951), some (.int c), y4] H :=
  ⟨_, rfl, _, rfl, _, _, rfl, rfl, cmul_small _ h0 h, _, rfl, _, _, rfl, rfl, .inl ⟨by decide, by decide⟩, _, _, rfl, rfl, _, _, rfl, rfl, _, rfl, _, _, rfl, rfl, (show (0 : Int) < 2305843009213693951 by decide), mix2_ (small_mod (c * c + 1181783497276652981 * c + 2049848353892358983)).1 (small_mod (c * c + 1181783497276652981 * c + 2049848353892358983)).2 q⟩
theorem end_ {T L : Addr} {i s m : Int} {y2 y3 y4 : Option V} {D : Ends} {H0 H : Hp} (hT : H T = some (.lst [.ref L, .int i, .int s])) (hH : H = upd H0 T (.lst [.ref L, .int i, .int s])) (hi : 0 ≤ i) (hs : 0 ≤ s) (m0 : 0 < m) (m64 : m < 2 ^ 64)
    (q : ∀ i' s' r, 0 ≤ i' → 0 ≤ s' → 0 ≤ r → r < m → D.rt (.int r) (upd H0 T (.lst [.ref L, .int i', .int s']))) : tEndD K D [some (.ref T), some (.int m), y2, y3, y4] H := by
  refine ixT2 rfl hT ⟨_, rfl, _, _, rfl, rfl, m0, ixT2 rfl hT ⟨_, rfl, _, _, rfl, rfl, ?_, _, rfl, T, _, 2, 2, rfl, rfl, hT, rfl, _, rfl, ?_⟩⟩
  · exact wide_div (b := 64) m0 (by omega) (by decide) (by decide)
  · subst hH
    show D.rt (.int (s % m)) (upd (upd H0 T _) T (.lst [.ref L, .int i, .int (s / m)]))
    rw [upd_upd]
    exact q i (s / m) (s % m) hi (Int.ediv_nonneg hs (Int.le_of_lt m0)) (Int.emod_nonneg _ (by omega)) (Int.emod_lt_of_pos _ m0)
theorem upd_eta {H : Hp} {T : Addr} {o : HO} (h : H T = some o) : H = upd H T o := by
  funext a
  by_cases e : a = T
  · subst e; rw [upd_same, h]
  · rw [upd_ne e]
theorem pick_ {T L : Addr} {ns : List Int} {i s m : Int} {y2 : Option V} {D : Ends} {H : Hp} (hT : H T = some (.lst [.ref L, .int i, .int s])) (hL : H L = some (.lst (ns.map V.int))) (q : ∀ c : Int, D.nx [some (.ref T), some (.int m), y2, some (.int c), none] H) :
    tIfS (tTest (tOp (rI0 fun i j => .bl (decide (j < i))) (lenT K) (tC (.int 0)))) (tAsg (tOp (rIxL K) (ixT K 0) (tMod (ixT K 1) (lenT K))) (gName 3)) tNext D [some (.ref T), some (.int m), y2, some (.int 0), none] H := by
  unfold tIfS tTest tOp
  refine lenT_ rfl hT hL ⟨_, _, rfl, rfl, _, rfl, ite2 (fun h1 => ?_) fun _ => q 0⟩
  have hn : 0 < ns.length := by
    have := of_decide_eq_true h1
    omega
  have r1 : i % (ns.length : Int) < ns.length := Int.emod_lt_of_pos _ (by omega)
  have r0 : 0 ≤ i % (ns.length : Int) := Int.emod_nonneg _ (by omega)
  refine ixT0 rfl hT (ixT1 (T := T) (L := L) (i := i) (s := s) rfl hT (lenT_ (T := T) (L := L) (i := i) (s := s) (ns := ns) rfl hT hL ⟨i, ns.length, rfl, rfl, (show (0 : Int) < ns.length by omega), ?_⟩))
  have hlt : (i % (ns.length : Int)).toNat < ns.length := by omega
  have hx : L2.atI (ns.map V.int) (i % (ns.length : Int)) = some (.int (ns[(i % (ns.length : Int)).toNat]'hlt)) := by
    have e : i % (ns.length : Int) = (((i % (ns.length : Int)).toNat : Nat) : Int) := by omega
    have a := atI_nat (xs := ns.map V.int) (j := (i % (ns.length : Int)).toNat) (v := .int (ns[(i % (ns.length : Int)).toNat]'hlt)) (by rw [List.getElem?_map, List.getElem?_eq_getElem hlt]; rfl)
    rw [← e] at a
    exact a
  exact ⟨L, _, _, _, rfl, rfl, SqL.of hL, hx, q _⟩
theorem body_draw (H : Hp) (T L : Addr) (ns : List Int) (i s m : Int) (D : Ends) (hL : H L = some (.lst (ns.map V.int))) (hT : H T = some (.lst [.ref L, .int i, .int s])) (hne : L ≠ T) (hi : 0 ≤ i) (hs : 0 ≤ s) (m0 : 0 < m) (m64 : m < 2 ^ 64)
    (q : ∀ i' s' r, 0 ≤ i' → 0 ≤ s' → 0 ≤ r → r < m → D.rt (.int r) (upd H T (.lst [.ref L, .int i', .int s']))) : tDraw K D [some (.ref T), some (.int m), none, none, none] H := by
  refine ixT2 rfl hT ⟨_, rfl, _, _, rfl, rfl, _, rfl, ite2 (fun hlt => ?_) fun _ => end_ hT (upd_eta hT) hi hs m0 m64 q⟩
  -- the end of the mixing
  have fin : ∀ c : Int, 0 ≤ c → tPut K { D with nx := fun σ H' => tEndD K D σ H' } [some (.ref T), some (.int m), some (.int 2305843009213693951), some (.int c), none] H := fun c hc => by
    refine ixT1 rfl hT ⟨_, _, rfl, rfl, _, rfl, T, _, 1, 1, rfl, rfl, hT, rfl, _, rfl, _, rfl, T, _, 2, 2, rfl, rfl, upd_same, rfl, ?_⟩
    have e : upd (upd H T (.lst ([V.ref L, .int i, .int s].set 1 (.int (i + 1))))) T (.lst (([V.ref L, .int i, .int s].set 1 (.int (i + 1))).set 2 (.int c))) = upd H T (.lst [.ref L, .int (i + 1), .int c]) := upd_upd
    show tEndD K D _ (upd (upd H T (.lst ([V.ref L, .int i, .int s].set 1 (.int (i + 1))))) T (.lst (([V.ref L, .int i, .int s].set 1 (.int (i + 1))).set 2 (.int c))))
    rw [e]
    exact end_ upd_same rfl (by omega) hc m0 m64 q
  have mid : ∀ c : Int, tSeq (tIfS (tOr (tTest (tOp (rI0 fun i j => .bl (decide (j ≤ i))) (ixT K 1) (lenT K))) (tTest (tOp (rI0 fun i j => .bl (decide (i < j))) (tVar 3) (tOp (rI CPow fun i j => .int (i ^ j.toNat)) (tC (.int 10)) (tC (.int 18)))))) (tMix0 K) tNext)
            (tPut K) { D with nx := fun σ H' => tEndD K D σ H' } [some (.ref T), some (.int m), some (.int 2305843009213693951), some (.int c), none] H := fun c => by
    have mix : tMix0 K { D with nx := fun σ H' => tPut K { D with nx := fun σ H' => tEndD K D σ H' } σ H' } [some (.ref T), some (.int m), some (.int 2305843009213693951), some (.int c), none] H := by
      refine ⟨_, rfl, ixT1 rfl hT ⟨_, _, rfl, rfl, .inl ⟨by decide, by decide⟩, _, _, rfl, rfl, _, rfl, _, _, rfl, rfl, (show (0 : Int) < 2305843009213693951 by decide), ?_⟩⟩
      obtain ⟨a1, a2⟩ := small_mod (c + 1000003 * i)
      exact mix_ a1 a2 fun c hc => fin c hc
    refine ixT1 rfl hT (lenT_ rfl hT hL ⟨_, _, rfl, rfl, _, rfl, ?_⟩)
    by_cases h1 : (ns.length : Int) ≤ i
    · rw [decide_eq_true h1]
      exact mix
    · rw [decide_eq_false h1]
      refine ⟨_, rfl, _, _, rfl, rfl, ⟨by decide, by decide, by decide⟩, _, _, rfl, rfl, _, rfl, ite2 (fun _ => mix) fun h2 => ?_⟩
      have h3 : ¬ c < 10 ^ (18 : Int).toNat := fun z => h2 (decide_eq_true z)
      have h4 : (10 : Int) ^ (18 : Int).toNat = 1000000000000000000 := by decide
      rw [h4] at h3
      exact fin c (by omega)
  exact pick_ hT hL mid
end
end Dat

/-! DatJ: the law's entry; a pop within an append; several names at once. -/
namespace Dat
open PySem PySem.Spec PyProof.Rows L2

/-! ### the law's entry -/
def spLaw (K : PySem.W.Frag) : Sp := fun vs H Q _ => ∃ (a : Addr) (ns : List Int), vs = [.ref a] ∧ SqL K H a (ns.map V.int) ∧ ns.length ≤ 63 ∧ ∀ H', Q (.bl true) H'
def tTape (K : PySem.W.Frag) : TS := tAsg (tLst (tCons (tCB (fun xs H Q => ∃ p ys, xs = [.ref p] ∧ (SqL K H p ys ∨ SqT K H p ys) ∧ ∀ l, H l = none → Q (.ref l) (upd H l (.lst ys))) (tCons (tVar 0) tNil)) (tCons (tC (.int 0)) (tCons (tC (.int 0)) tNil)))) (gName 1)
def gam2 (T L : Addr) (h : L ≠ T) : Gam := ⟨fun a => if a = T then some (.tape L) else if a = L then some .intl else none, fun a L' e => by
  show (if L' = T then some (.tape L) else if L' = L then some Kind.intl else none) = some .intl
  have e : (if a = T then some (Kind.tape L) else if a = L then some .intl else none) = some (.tape L') := e
  by_cases h1 : a = T
  · rw [if_pos h1] at e
    cases e
    rw [if_neg h, if_pos rfl]
  · rw [if_neg h1] at e
    by_cases h2 : a = L
    · rw [if_pos h2] at e; cases e
    · rw [if_neg h2] at e; cases e⟩
def fra0 (H : Hp) : Fra := ⟨⟨fun _ => none, fun _ _ e => by cases e⟩, fun _ => False, H, fun _ h => h.elim⟩
def lawD : DEnds := { nx := fun _ => False, rt := fun d => d = .bool true, rf := fun _ => False }
section
variable {P : Program} {w : World} {K : PySem.W.Frag} {mg : Str → Option Value} {base : Heap} {st : Stmt}
theorem law_of {N' : List Str} {f : Addr} {fd : FuncData} {ws : WS} {k : Nat} (F : Fun K "law" "law" st f fd) (S : FnScope ("script" :: "tape" :: N') ["script"] (defScope st))
    (hb : ∀ (cdv : Value) (A : Around) (outer : List PySem.Env) (s : Shared) (H : Hp) (E : XK), Room k (A.deeper (envOfC "law" (defScope st) s.heap.objs.size f cdv)) → PSs (cxOf CX0 P w K mg base ("script" :: "tape" :: N') "law" (defScope st) f cdv A outer s H E).nox (defBody st) (tSeq (tTape K) (tS K ws)))
    (body : ∀ T L : Addr, ws (none :: some (.obj T (.tape L)) :: List.replicate N'.length none) lawD) : FnOk P w K mg base CX0 (k + 1) f fd ["script"] (spLaw K) := by
  refine F.ok S (fun vs H Q E h => ?_) (fun cdv A outer s H vs Q E hr h => ?_)
  · obtain ⟨a, ns, rfl, _⟩ := h
    rfl
  · obtain ⟨a, ns, rfl, hS, hl, q⟩ := h
    refine ⟨_, hb cdv A outer s H E hr, ?_⟩
    refine ⟨.ref a, rfl, a, _, rfl, .inl hS, fun L hL => ⟨?_, fun T hT => ?_⟩⟩
    · show 3 ≤ sizeLine
      decide
    · have nTL : L ≠ T := fun e => by
        subst e
        rw [upd_same] at hT
        cases hT
      have hT0 : H T = none := by rw [upd_ne nTL.symm] at hT; exact hT
      have hL2 : (upd (upd H L (.lst (ns.map V.int))) T (.lst [.ref L, .int 0, .int 0])) L = some (.lst (ns.map V.int)) := by rw [upd_ne nTL, upd_same]
      have gT : (gam2 T L nTL) T = some (.tape L) := if_pos rfl
      have gL : (gam2 T L nTL) L = some .intl := by
        show (if L = T then _ else if L = L then _ else _) = _
        rw [if_neg nTL, if_pos rfl]
      have gof : ∀ b, (gam2 T L nTL) b ≠ none → b = T ∨ b = L := fun b hb => by
        by_cases h1 : b = T
        · exact .inl h1
        · by_cases h2 : b = L
          · exact .inr h2
          · refine absurd ?_ hb
            show (if b = T then _ else if b = L then _ else _) = none
            rw [if_neg h1, if_neg h2]
      refine ⟨fra0 H, gam2 T L nTL, fun b => b = T ∨ b = L, none :: some (.obj T (.tape L)) :: List.replicate N'.length none, lawD, ?_, body T L, ?_⟩
      · refine ⟨⟨⟨fun b k hk => ?_, gof, fun b hb => ?_, fun b ts hb => ?_⟩, ?_, fun i c hc => ?_⟩, fun b o _ e => ?_, fun _ h => absurd rfl h, fun b _ hb => ?_, fun _ h => h.elim, fun i c b hc ho => ?_, fun i j c c' b hc ho => ?_⟩
        · rcases gof b (by rw [hk]; simp) with e | e
          · subst e
            rw [gT] at hk
            cases hk
            exact ⟨0, 0, upd_same, Int.le_refl _, Int.le_refl _⟩
          · subst e
            rw [gL] at hk
            cases hk
            exact ⟨ns, hL2⟩
        · rcases hb with e | e
          · subst e; rw [upd_same]; simp
          · subst e; rw [hL2]; simp
        · rcases hb with e | e
          · subst e; rw [upd_same]; simp
          · subst e; rw [hL2]; simp
        · simp [L2.start]
        · match i, hc with
          | 1, hc =>
            simp at hc
            subst hc
            exact ⟨.ref T, by simp [L2.start], rfl, gT⟩
          | i + 2, hc =>
            have := List.mem_of_getElem? (show (List.replicate N'.length none)[i]? = some (some c) from hc)
            rw [List.mem_replicate] at this
            cases this.2
        · have h1 : b ≠ T := ne_of_none e hT0
          have h2 : b ≠ L := ne_of_none e hL
          rw [upd_ne h1, upd_ne h2]
          exact e
        · rcases gof b hb with e | e
          · subst e; exact hT0
          · subst e; exact hL
        · match i, hc with
          | 1, hc =>
            simp at hc
            subst hc
            cases ho
          | i + 2, hc =>
            have := List.mem_of_getElem? (show (List.replicate N'.length none)[i]? = some (some c) from hc)
            rw [List.mem_replicate] at this
            cases this.2
        · match i, hc with
          | 1, hc =>
            simp at hc
            subst hc
            cases ho
          | i + 2, hc =>
            have := List.mem_of_getElem? (show (List.replicate N'.length none)[i]? = some (some c) from hc)
            rw [List.mem_replicate] at this
            cases this.2
      · refine ⟨fun _ _ _ _ _ _ _ h => h.elim, fun v d H2 _ _ hd e => ?_, fun _ _ _ _ _ _ _ _ _ h => h.elim, fun _ _ _ _ _ _ _ h => h.elim, fun _ _ _ _ _ _ _ h => h.elim⟩
        have e : d = .bool true := e
        subst e
        have := (DA.b (Γ := ⟨fun _ => none, fun _ _ e => by cases e⟩) hd).bl
        subst this
        exact q H2
end

/-! ### xs.append(ys.pop(e)) -/
def sAppPop (i j : Nat) (we : WE) : WS := fun ρ D => match ρ.getD i none, ρ.getD j none with
  | some (.lst xs), some (.lst ys) => i ≠ j ∧ we ρ fun d => match d with
    | .int n => ∃ k y, seqIndex? n ys.length = some k ∧ ys[k]? = some y ∧ -(2 ^ 63) ≤ n ∧ n < 2 ^ 63 ∧ xs.length < sizeLine ∧ D.nx ((ρ.set j (some (.lst (ys.eraseIdx k)))).set i (some (.lst (xs ++ [y]))))
    | _ => False
  | _, _ => False
section
variable {X : Cx} {e : Expr} {we : WE} {pos : Pos}
theorem ds_appPop {i j : Nat} {x y : Str} {xp yp : Pos} {apos cpos apos2 cpos2 : Pos}
    (hp : PE X (.Call (.Attribute (.Name x xp) "append" apos) [.Call (.Attribute (.Name y yp) "pop" apos2) [e] [] cpos2] [] cpos) (tBM X.K "list" rAppend (tVar i) (tCons (tBM X.K "list" rPopAt (tVar j) (tCons (tE X.K we) tNil)) tNil)))
    (hs : swapsWith (.Call (.Attribute (.Name x xp) "append" apos) [.Call (.Attribute (.Name y yp) "pop" apos2) [e] [] cpos2] [] cpos) none pos.line X.env = pure false := by rfl) : DS X (.Expr (.Call (.Attribute (.Name x xp) "append" apos) [.Call (.Attribute (.Name y yp) "pop" apos2) [e] [] cpos2] [] cpos) pos) (sAppPop i j we) :=
  psC (ps_expr hp hs) fun D σ H ⟨F, Γ, A, ρ, Dd, R, hw, E⟩ => by
    unfold sAppPop at hw
    split at hw
    · rename_i xs ys q1 q2
      obtain ⟨hij, hw⟩ := hw
      obtain ⟨v, s1, a, vs, e1, a2, a3, a4, a5⟩ := R.e.cells i _ (getD_some q1)
      obtain ⟨v', s2, b, ws, e1', b2, b3, b4, b5⟩ := R.e.cells j _ (getD_some q2)
      subst e1 e1'
      have hab : a ≠ b := fun z => by
        subst z
        exact hij (R.inj i j _ _ a (getD_some q1) rfl (getD_some q2) rfl s1 s2)
      refine ⟨_, s1, .inl ⟨rfl, vs, SqL.of a4⟩, _, s2, .inl ⟨rfl, ws, SqL.of b4⟩, Γ, A, ρ, _, R.e, hw, fun u d H1 x g hu hP => ?_⟩
      cases d with
      | int n =>
        obtain ⟨k, y, k1, k2, k3, k4, k5, k6⟩ := hP
        have en := (DA.b (Γ := Γ) hu).int
        subst en
        have R1 := R.step x g
        have eA : ExA A H H1 := x.weak R.sit.gdom
        have hHb : H1 b = some (.lst ws) := x b _ (by simp [b3]) b4
        have hHa : H1 a = some (.lst vs) := x a _ (by simp [a3]) a4
        obtain ⟨w, w1, w2⟩ := b5.at k2
        obtain ⟨R2, l2⟩ := R1.putO (i := j) (o := .lst (ws.eraseIdx k)) (c' := .lst (ys.eraseIdx k)) (getD_some q2) rfl s2 b2 b3 rfl (fun _ e => nomatch e) ⟨b, _, rfl, b2, b3, upd_same, (((b5.ext eA).eraseIdx k)).ext (ExA.hot b2)⟩
        have gi : (ρ.set j (some (.lst (ys.eraseIdx k))))[i]? = some (some (.lst xs)) := by rw [List.getElem?_set_ne hij.symm]; exact getD_some q1
        have hHa2 : (upd H1 b (.lst (ws.eraseIdx k))) a = some (.lst vs) := by rw [upd_ne hab]; exact hHa
        have exA2 : ExA A H (upd H1 b (.lst (ws.eraseIdx k))) := eA.trans (ExA.hot b2)
        obtain ⟨R3, l3⟩ := R2.putO (i := i) (o := .lst (vs ++ [w])) (c' := .lst (xs ++ [y])) gi rfl s1 a2 a3 rfl (fun _ e => nomatch e) ⟨a, _, rfl, a2, a3, upd_same, ((a5.ext exA2).append (.cons (w2.ext exA2) .nil)).ext (ExA.hot a2)⟩
        refine ⟨b, ws, n, k, w, rfl, rfl, hHb, k3, k4, by rw [b5.length]; exact k1, w1, a, vs, w, rfl, rfl, hHa2, by rw [a5.length]; exact k5, ?_⟩
        exact E.nx Γ A σ _ _ R3 (((LaterS.of_ext R.sit x).trans R1.sit l2).trans R2.sit l3) k6
      | _ => exact hP.elim
    · exact hw.elim
end

/-! ### values, some of them new lists -/
structure NewHot (A : Hot) (H : Hp) (A' : Hot) : Prop where
  a : ∀ x, A x → A' x
  n : ∀ x, A' x → ¬ A x → H x = none
/-- an address that is one of the own lists' -/
def OwnAt (vs : List V) (cs : List Cell) (i : Nat) (a : Addr) : Prop := ∃ c, cs[i]? = some c ∧ isOwn c = true ∧ vs[i]? = some (.ref a)
def tAO (K : PySem.W.Frag) (n : Nat) (w : WA) : TA := fun σ H Q => ∃ Γ A ρ P, RepE K Γ A σ H ρ ∧ w ρ P ∧
  ∀ vs cs A' H', NewHot A H A' → Sit Γ A' H' → Ext Γ H H' → CellsOk K Γ A' H' vs cs → cs.length = n → (∀ i a, OwnAt vs cs i a → H a = none) → (∀ i j a, OwnAt vs cs i a → OwnAt vs cs j a → i = j) → P cs → Q vs H'
abbrev DAO (X : Cx) (es : List Expr) (n : Nat) (w : WA) : Prop := PA X es (tAO X.K n w)
def oF (w : WL) (wa : WA) : WA := fun ρ P => w ρ fun xs => wa ρ fun cs => P (.lst xs :: cs)
section
variable {X : Cx} {e : Expr} {es : List Expr} {w : WE} {wl : WL} {wa : WA} {n : Nat} {pos : Pos}
theorem NewHot.refl (A : Hot) (H : Hp) : NewHot A H A := ⟨fun _ h => h, fun _ h n => absurd h n⟩
theorem OwnAt.nil {i : Nat} {a : Addr} : ¬ OwnAt [] [] i a := fun ⟨_, h, _⟩ => by simp at h
theorem ao_nil : DAO X [] 0 aNil := paC pa_nil fun σ H Q ⟨Γ, A, ρ, P, R, hw, k⟩ => k [] [] A H (NewHot.refl _ _) R.sit (ExA.refl _ _) .nil rfl (fun i a h => absurd h OwnAt.nil) (fun i j a h => absurd h OwnAt.nil) hw
theorem ao_d (h : DE X e w) (hr : DAO X es n wa) (hs : starEach (e :: es) X.env = (false, eval e X.env) :: starEach es X.env := by rfl) : DAO X (e :: es) (n + 1) (aD w wa) := paC (pa_cons h hr hs) fun σ H Q ⟨Γ, A, ρ, P, R, hw, k⟩ =>
  ⟨Γ, A, ρ, _, R, hw, fun v d H1 x1 g1 hv hP => ⟨Γ, A, ρ, _, R.ext x1 g1, hP, fun vs cs A' H2 nh S2 x2 hvs hn o1 o2 hP2 => by
    have av : ∀ a, A' a → ¬ A a → H1 a = none := nh.n
    refine k _ _ A' H2 ⟨nh.a, fun a h1 h2 => back_none x1 g1 (nh.n a h1 h2)⟩ S2 (x1.trans x2) (.cons (show CellOk X.K Γ A' H2 v (.d d) from (hv.avoid av).ext (x2.weak S2.gdom)) hvs) (by rw [List.length_cons, hn]) (fun i a h => ?_) (fun i j a h h' => ?_) hP2
    · obtain ⟨c, h1, h2, h3⟩ := h
      cases i with
      | zero => simp at h1; subst h1; cases h2
      | succ i => exact back_none x1 g1 (o1 i a ⟨c, by simpa using h1, h2, by simpa using h3⟩)
    · obtain ⟨c, h1, h2, h3⟩ := h
      obtain ⟨c', h1', h2', h3'⟩ := h'
      cases i with
      | zero => simp at h1; subst h1; cases h2
      | succ i =>
        cases j with
        | zero => simp at h1'; subst h1'; cases h2'
        | succ j => rw [o2 i j a ⟨c, by simpa using h1, h2, by simpa using h3⟩ ⟨c', by simpa using h1', h2', by simpa using h3'⟩]⟩⟩
theorem ao_f (h : DF X e wl) (hr : DAO X es n wa) (hs : starEach (e :: es) X.env = (false, eval e X.env) :: starEach es X.env := by rfl) : DAO X (e :: es) (n + 1) (oF wl wa) := paC (pa_cons h hr hs) fun σ H Q ⟨Γ, A, ρ, P, R, hw, k⟩ =>
  ⟨Γ, A, ρ, _, R, hw, fun p vs0 xs H1 hp x1 g1 hH hd hP => ⟨Γ, hadd A p, ρ, _, R.addHot hp x1 g1 ⟨_, hH, fun _ e => nomatch e⟩, hP, fun vs cs A' H2 nh S2 x2 hvs hn o1 o2 hP2 => by
    have gp : Γ p = none := R.sit.gcold hp
    have hp2 : H2 p = some (.lst vs0) := x2 p _ (by simp [gp]) hH
    have sep : ∀ i, ¬ OwnAt vs cs i p := fun i h => by
      have := o1 i p h
      rw [hH] at this
      cases this
    refine k _ _ A' H2 ⟨fun a h => nh.a a (.inl h), fun a h1 h2 => ?_⟩ S2 (x1.trans x2) (.cons (show CellOk X.K Γ A' H2 (.ref p) (.lst xs) from ⟨p, vs0, rfl, nh.a p (.inr rfl), gp, hp2, (hd.avoid nh.n).ext (x2.weak S2.gdom)⟩) hvs) (by rw [List.length_cons, hn]) (fun i a h => ?_) (fun i j a h h' => ?_) hP2
    · by_cases z : a = p
      · subst z; exact hp
      · exact back_none x1 g1 (nh.n a h1 fun q => q.elim h2 z)
    · obtain ⟨c, h1, h2, h3⟩ := h
      cases i with
      | zero =>
        simp at h3
        subst h3
        exact hp
      | succ i => exact back_none x1 g1 (o1 i a ⟨c, by simpa using h1, h2, by simpa using h3⟩)
    · obtain ⟨c, h1, h2, h3⟩ := h
      obtain ⟨c', h1', h2', h3'⟩ := h'
      cases i with
      | zero =>
        simp at h3
        subst h3
        cases j with
        | zero => rfl
        | succ j => exact absurd ⟨c', by simpa using h1', h2', by simpa using h3'⟩ (sep j)
      | succ i =>
        cases j with
        | zero =>
          simp at h3'
          subst h3'
          exact absurd ⟨c, by simpa using h1, h2, by simpa using h3⟩ (sep i)
        | succ j => rw [o2 i j a ⟨c, by simpa using h1, h2, by simpa using h3⟩ ⟨c', by simpa using h1', h2', by simpa using h3'⟩]⟩⟩
end
section
variable {K : PySem.W.Frag} {F : Fra} {Γ : Gam} {A A' : Hot} {σ : St} {H H' : Hp} {ρ : Env}
/-- more hot things, all new -/
theorem CellOk.hotter {v : V} {c : Cell} (nh : NewHot A H A') (h : CellOk K Γ A H v c) : CellOk K Γ A' H v c := by
  have w := nh.n
  cases c with
  | d x => exact DA.avoid w h
  | obj a k => exact h
  | lst xs => obtain ⟨a, vs, h1, h2, h3, h4, h5⟩ := h; exact ⟨a, vs, h1, nh.a _ h2, h3, h4, h5.avoid w⟩
  | dT kvs => obtain ⟨a, vs, h1, h2, h3, h4, h5, h6⟩ := h; exact ⟨a, vs, h1, nh.a _ h2, h3, h4, h5, h6.avoid w⟩
  | dK kvs => obtain ⟨a, vs, h1, h2, h3, h4, h5, h6⟩ := h; exact ⟨a, vs, h1, nh.a _ h2, h3, h4, h5, h6.avoid w⟩
theorem Rep.hotter (R : Rep K F Γ A σ H ρ) (nh : NewHot A H A') (S : Sit Γ A' H') (x : Ext Γ H H') : Rep K F Γ A' σ H' ρ :=
  ⟨⟨S, R.e.len, fun i c h => let ⟨v, h1, h2⟩ := R.e.cells i c h; ⟨v, h1, (h2.hotter nh).ext S.gdom x⟩⟩, R.fext x, R.g0, R.gn, fun a h => nh.a a (R.a0 a h), R.own, R.inj⟩
theorem Rep.setC (R : Rep K F Γ A σ H ρ) {i : Nat} {v : V} {c : Cell} (hc : CellOk K Γ A H v c) (h1 : ∀ a : Addr, isOwn c = true → v = V.ref a → F.H a = none) (h2 : ∀ (a : Addr) (j : Nat) (c' : Cell), isOwn c = true → v = V.ref a → ρ[j]? = some (some c') → isOwn c' = true → σ[j]? ≠ some (some (V.ref a))) :
    Rep K F Γ A (σ.set i (some v)) H (ρ.set i (some c)) := by
  have hlen := R.e.len
  have at' : ∀ (j : Nat) (c' : Cell) (a : Addr), (ρ.set i (some c))[j]? = some (some c') → (σ.set i (some v))[j]? = some (some (.ref a)) → (i = j ∧ c' = c ∧ v = .ref a) ∨ (i ≠ j ∧ ρ[j]? = some (some c') ∧ σ[j]? = some (some (.ref a))) := fun j c' a q1 q2 => by
    by_cases hj : i = j
    · subst hj
      have hi : i < ρ.length := by
        have := (List.getElem?_eq_some_iff.mp q1).1
        simpa using this
      rw [List.getElem?_set_self hi] at q1
      rw [List.getElem?_set_self (by rw [← hlen]; exact hi)] at q2
      cases q1
      cases q2
      exact .inl ⟨rfl, rfl, rfl⟩
    · rw [List.getElem?_set_ne hj] at q1 q2
      exact .inr ⟨hj, q1, q2⟩
  refine ⟨R.e.set hc, R.ext, R.g0, R.gn, R.a0, fun j c' a q1 ho q2 => ?_, fun j j' c1 c2 a q1 o1 q2 o2 q3 q4 => ?_⟩
  · rcases at' j c' a q1 q2 with ⟨rfl, rfl, e⟩ | ⟨_, q1, q2⟩
    · exact h1 a ho e
    · exact R.own j c' a q1 ho q2
  · rcases at' j c1 a q1 q3 with ⟨e1, e2, e⟩ | ⟨_, q1, q3⟩
    · rcases at' j' c2 a q2 q4 with ⟨e3, e4, e'⟩ | ⟨_, q2, q4⟩
      · exact e1.symm.trans e3
      · exact absurd q4 (h2 a j' c2 (e2 ▸ o1) e q2 o2)
    · rcases at' j' c2 a q2 q4 with ⟨e1, e2, e'⟩ | ⟨_, q2, q4⟩
      · exact absurd q3 (h2 a j c1 (e2 ▸ o2) e' q1 o1)
      · exact R.inj j j' c1 c2 a q1 o1 q2 o2 q3 q4
theorem Rep.own_there (R : Rep K F Γ A σ H ρ) {j : Nat} {c : Cell} {a : Addr} (h1 : ρ[j]? = some (some c)) (h2 : isOwn c = true) (h3 : σ[j]? = some (some (.ref a))) : H a ≠ none := by
  obtain ⟨v, q1, q2⟩ := R.e.cells j c h1
  rw [h3] at q1
  cases q1
  cases c with
  | lst xs => obtain ⟨b, vs, e1, e2, _⟩ := q2; cases e1; exact R.sit.adom _ e2
  | dT xs => obtain ⟨b, vs, e1, e2, _⟩ := q2; cases e1; exact R.sit.adom _ e2
  | dK xs => obtain ⟨b, vs, e1, e2, _⟩ := q2; cases e1; exact R.sit.adom _ e2
  | _ => cases h2
theorem later_hot (nh : NewHot A H A') (S : Sit Γ A H) (S' : Sit Γ A' H') (x : Ext Γ H H') : LaterS Γ A H Γ A' H' := ⟨nh.a, nh.n, x.weak S'.gdom, fun _ _ => rfl, fun _ h n => absurd h n⟩
end
/-- names at once -/
def setAll : List Nat → List Cell → Env → Env
  | i :: is, c :: cs, ρ => setAll is cs (ρ.set i (some c))
  | _, _, ρ => ρ
def setsV : List Nat → List V → St → St
  | i :: is, v :: vs, σ => setsV is vs (σ.set i (some v))
  | _, _, σ => σ
def sMany (is : List Nat) (wa : WA) : WS := fun ρ D => wa ρ fun cs => D.nx (setAll is cs ρ)
section
variable {K : PySem.W.Frag} {F : Fra} {Γ : Gam} {A : Hot} {H0 H : Hp}
theorem Rep.setMany : ∀ {is : List Nat} {vs : List V} {cs : List Cell} {σ : St} {ρ : Env}, Rep K F Γ A σ H ρ → CellsOk K Γ A H vs cs → (∀ i a, OwnAt vs cs i a → H0 a = none ∧ F.H a = none) → (∀ i j a, OwnAt vs cs i a → OwnAt vs cs j a → i = j) →
    (∀ (j : Nat) (c : Cell) (a : Addr) (i : Nat), ρ[j]? = some (some c) → isOwn c = true → σ[j]? = some (some (.ref a)) → ¬ OwnAt vs cs i a) → Rep K F Γ A (setsV is vs σ) H (setAll is cs ρ)
  | [], _, _, _, _, R, _, _, _, _ => by unfold setsV setAll; exact R
  | i :: is, [], cs, σ, ρ, R, h, _, _, _ => by cases h; unfold setsV setAll; exact R
  | i :: is, v :: vs, cs, σ, ρ, R, h, o1, o2, o3 => by
    cases h with
    | cons h1 h2 =>
      rename_i c cs
      have up : ∀ {k a}, OwnAt vs cs k a → OwnAt (v :: vs) (c :: cs) (k + 1) a := fun ⟨c', a1, a2, a3⟩ => ⟨c', by simpa using a1, a2, by simpa using a3⟩
      have me : ∀ a, isOwn c = true → v = .ref a → OwnAt (v :: vs) (c :: cs) 0 a := fun a ho e => ⟨c, rfl, ho, by rw [e]; rfl⟩
      have R1 := R.setC (i := i) h1 (fun a ho e => (o1 0 a (me a ho e)).2) (fun a j c' ho e q1 q2 q3 => o3 j c' a 0 q1 q2 q3 (me a ho e))
      unfold setsV setAll
      refine Rep.setMany R1 h2 (fun k a h => o1 (k + 1) a (up h)) (fun k k' a h h' => Nat.succ.inj (o2 (k + 1) (k' + 1) a (up h) (up h'))) fun j c' a k q1 q2 q3 q4 => ?_
      by_cases hj : i = j
      · subst hj
        have hi : i < ρ.length := by
          have := (List.getElem?_eq_some_iff.mp q1).1
          simpa using this
        rw [List.getElem?_set_self hi] at q1
        rw [List.getElem?_set_self (by rw [← R.e.len]; exact hi)] at q3
        cases q1
        cases q3
        exact absurd (o2 0 (k + 1) a (me a q2 rfl) (up q4)) (by simp)
      · rw [List.getElem?_set_ne hj] at q1 q3
        exact o3 j c' a (k + 1) q1 q2 q3 (up q4)
end
section
variable {X : Cx} {wa : WA} {pos : Pos}
theorem many_ends {K : PySem.W.Frag} {F : Fra} {Γ : Gam} {A A' : Hot} {σ : St} {H H' : Hp} {ρ : Env} {D : Ends} {Dd : DEnds} {is : List Nat} {vs : List V} {cs : List Cell} (R : Rep K F Γ A σ H ρ) (E : EndsOk K F Γ A H Dd D) (nh : NewHot A H A') (S : Sit Γ A' H') (x : Ext Γ H H')
    (h : CellsOk K Γ A' H' vs cs) (o1 : ∀ i a, OwnAt vs cs i a → H a = none) (o2 : ∀ i j a, OwnAt vs cs i a → OwnAt vs cs j a → i = j) (q : Dd.nx (setAll is cs ρ)) : D.nx (setsV is vs σ) H' := by
  have R' := R.hotter nh S x
  have R2 := Rep.setMany (H0 := H) (is := is) R' h (fun i a h => ⟨o1 i a h, R.back (o1 i a h)⟩) o2 fun j c a i q1 q2 q3 q4 => R.own_there q1 q2 q3 (o1 i a q4)
  exact E.nx Γ A' _ H' _ R2 (later_hot nh R.sit S x) q
theorem ds_many2 {i j : Nat} {x y : Str} {a b : Expr} {px py pt : Pos} {kt k2 pt2} (hc : X.calm = true) (hN : X.N.Nodup) (hi : X.N[i]? = some x) (hj : X.N[j]? = some y) (hij : i ≠ j)
    (hx : X.env.scope.names.lookup x = some .local) (hy : X.env.scope.names.lookup y = some .local) (ha : DAO X [a, b] 2 wa)
    (hw : swappedStores [.Tuple [.Name x px, .Name y py] kt pt] (.Tuple [a, b] k2 pt2) X.env = pure (some [x, y])) (hs : swapsWithSole [.Tuple [.Name x px, .Name y py] kt pt] (.Tuple [a, b] k2 pt2) pos.line X.env = pure false := by rfl) :
    DS X (.Assign [.Tuple [.Name x px, .Name y py] kt pt] (.Tuple [a, b] k2 pt2) pos) (sMany [i, j] wa) := psC (ps_par hc hN hi hj hij hx hy ha hw hs) fun D σ H ⟨F, Γ, A, ρ, Dd, R, hw, E⟩ =>
  ⟨Γ, A, ρ, _, R.e, hw, fun vs cs A' H1 nh S x h hl o1 o2 hP => by
    match cs, vs, h, hl with
    | [c1, c2], [v1, v2], h, _ => exact ⟨_, _, rfl, many_ends (is := [i, j]) R E nh S x h o1 o2 hP⟩
    | [_, _], [], h, _ => cases h
    | [_, _], [_], h, _ => cases h; rename_i h; cases h
    | [_, _], _ :: _ :: _ :: _, h, _ => cases h; rename_i h; cases h; rename_i h; cases h⟩
theorem ds_many3 {i j l : Nat} {x y z : Str} {a b c : Expr} {px py pz pt : Pos} {kt k2 pt2} (hc : X.calm = true) (hN : X.N.Nodup) (hi : X.N[i]? = some x) (hj : X.N[j]? = some y) (hl : X.N[l]? = some z) (hij : i ≠ j) (hil : i ≠ l) (hjl : j ≠ l)
    (hx : X.env.scope.names.lookup x = some .local) (hy : X.env.scope.names.lookup y = some .local) (hz : X.env.scope.names.lookup z = some .local) (ha : DAO X [a, b, c] 3 wa)
    (hw : swappedStores [.Tuple [.Name x px, .Name y py, .Name z pz] kt pt] (.Tuple [a, b, c] k2 pt2) X.env = pure (some [x, y, z])) (hs : swapsWithSole [.Tuple [.Name x px, .Name y py, .Name z pz] kt pt] (.Tuple [a, b, c] k2 pt2) pos.line X.env = pure false := by rfl) :
    DS X (.Assign [.Tuple [.Name x px, .Name y py, .Name z pz] kt pt] (.Tuple [a, b, c] k2 pt2) pos) (sMany [i, j, l] wa) := psC (ps_par3 hc hN hi hj hl hij hil hjl hx hy hz ha hw hs) fun D σ H ⟨F, Γ, A, ρ, Dd, R, hw, E⟩ =>
  ⟨Γ, A, ρ, _, R.e, hw, fun vs cs A' H1 nh S x h hl o1 o2 hP => by
    match cs, vs, h, hl with
    | [c1, c2, c3], [v1, v2, v3], h, _ => exact ⟨_, _, _, rfl, many_ends (is := [i, j, l]) R E nh S x h o1 o2 hP⟩
    | [_, _, _], [], h, _ => cases h
    | [_, _, _], [_], h, _ => cases h; rename_i h; cases h
    | [_, _, _], [_, _], h, _ => cases h; rename_i h; cases h; rename_i h; cases h
    | [_, _, _], _ :: _ :: _ :: _ :: _, h, _ => cases h; rename_i h; cases h; rename_i h; cases h; rename_i h; cases h⟩
end
/-- a promise that asks what cannot be -/
theorem fn_never {P : Program} {w : World} {K : PySem.W.Frag} {mg : Str → Option Value} {base : Heap} {f : Addr} {fd : FuncData} {ps : List Str} {k n : Nat} {fr : Bool} {C : Con} (h : ∀ cs P, ¬ C cs P) : FnOk P w K mg base CX0 k f fd ps (spD K n fr C) :=
  ⟨fun _ _ _ _ ⟨_, _, cs, P, _, _, _, hC, _⟩ => absurd hC (h cs P), fun _ _ _ _ _ _ _ _ _ _ _ _ _ ⟨_, _, cs, P, _, _, _, hC, _⟩ => absurd hC (h cs P)⟩
end Dat

/-! Lem: what the words give for data with a Lean type. -/
namespace Dat
open PySem PySem.Spec PyProof.Rows L2

abbrev Tags := PySem.W.Tup Str
abbrev Rule := PySem.W.T4 Tags Int Str Str
abbrev Sheet := PySem.W.Tup Rule
section
variable {α β : Type}
def enumL (xs : List α) : List (Int × α) := xs.mapIdx fun i x => ((i : Int), x)
theorem enumD_map [DecidableEq α] [PySem.W.Datum α] (xs : List α) : enumD (xs.map PySem.W.Datum.toD) = (enumL xs).map PySem.W.Datum.toD := by
  unfold enumD enumL
  apply List.ext_getElem?
  intro i
  simp only [List.getElem?_mapIdx, List.getElem?_map, Option.map_map]
  rfl
theorem enumL_len (xs : List α) : (enumL xs).length = xs.length := by simp [enumL]
theorem enumL_at {xs : List α} {p : Int × α} (h : p ∈ enumL xs) : ∃ i : Nat, p.1 = i ∧ xs[i]? = some p.2 := by
  unfold enumL at h
  obtain ⟨i, hi, e⟩ := List.mem_iff_getElem.mp h
  rw [List.getElem_mapIdx] at e
  rw [List.length_mapIdx] at hi
  exact ⟨i, by rw [← e], by rw [← e, List.getElem?_eq_getElem hi]⟩
theorem enumL_mem {xs : List α} {i : Nat} {x : α} (h : xs[i]? = some x) : ((i : Int), x) ∈ enumL xs := by
  unfold enumL
  obtain ⟨hi, e⟩ := List.getElem?_eq_some_iff.mp h
  rw [List.mem_iff_getElem]
  exact ⟨i, by rw [List.length_mapIdx]; exact hi, by rw [List.getElem_mapIdx, e]⟩
end

theorem ifB {b : Bool} {A B : Prop} (h1 : b = true → A) (h2 : b = false → B) : if b = true then A else B := by
  cases b with
  | true => exact h1 rfl
  | false => exact h2 rfl
section
variable {α : Type} {wg : WG} {wt : WT} {we : WE} {ρ : Env} {P : List PyData → Prop}
/-- a comprehension by a test and an item -/
theorem wComp_fm (f : α → PyData) (p : α → Bool) (h : α → PyData) : ∀ (xs : List α), (∀ x ∈ xs, ∀ (Q : PyData → Prop) (R : Prop), (p x = true → Q (h x)) → (p x = false → R) → wg (f x) ρ fun ρ1 => wt ρ1 fun b => if b = true then we ρ1 Q else R) →
    ∀ {P : List PyData → Prop}, P ((xs.filter p).map h) → wComp wg wt we ρ (xs.map f) P
  | [], _, _, hP => hP
  | x :: xs, step, P, hP => by
    refine step x (List.mem_cons_self ..) _ _ (fun hp => ?_) (fun hp => ?_)
    · refine wComp_fm f p h xs (fun y hy => step y (List.mem_cons_of_mem _ hy)) ?_
      rw [List.filter_cons_of_pos hp] at hP
      exact hP
    · refine wComp_fm f p h xs (fun y hy => step y (List.mem_cons_of_mem _ hy)) ?_
      rw [List.filter_cons_of_neg (by rw [hp]; simp)] at hP
      exact hP
theorem wComp_m (f : α → PyData) (h : α → PyData) (xs : List α) (step : ∀ x ∈ xs, ∀ (Q : PyData → Prop), Q (h x) → wg (f x) ρ fun ρ1 => we ρ1 Q) (hP : P (xs.map h)) : wComp wg wYes we ρ (xs.map f) P :=
  wComp_fm f (fun _ => true) h xs (fun x hx Q R hq _ => step x hx Q (hq rfl)) (by rw [List.filter_eq_self.mpr fun _ _ => rfl]; exact hP)
/-- a loop by an invariant over what is still to come -/
theorem sLoop_inv {g : WG} {wb : WS} {D : DEnds} (f : α → PyData) (I : List α → Env → Prop) (hn : ∀ ρ, I [] ρ → D.nx ρ)
    (step : ∀ x xs ρ, I (x :: xs) ρ → g (f x) ρ fun ρ1 => wb ρ1 { D with nx := sLoop g wb D (xs.map f), ct := sLoop g wb D (xs.map f), bk := D.nx }) : ∀ (xs : List α) (ρ : Env), I xs ρ → (∀ xs ρ, I xs ρ → True) → sLoop g wb D (xs.map f) ρ
  | [], ρ, h, _ => hn ρ h
  | x :: xs, ρ, h, _ => step x xs ρ h
end
section
variable {ρ : Env} {P : PyData → Prop}
theorem atI_nat' {α : Type} {xs : List α} {i : Nat} {x : α} (h : xs[i]? = some x) : L2.atI xs (i : Int) = some x := atI_nat h
theorem atI_map {α β : Type} (f : α → β) {xs : List α} {i : Int} {x : α} (h : L2.atI xs i = some x) : L2.atI (xs.map f) i = some (f x) := by
  unfold L2.atI at h ⊢
  rw [List.length_map]
  cases q : ixN xs.length i with
  | none => rw [q] at h; cases h
  | some j =>
    rw [q] at h
    have h : xs[j]? = some x := h
    show (xs.map f)[j]? = some (f x)
    rw [List.getElem?_map, h]
    rfl
end
open PySem.W in
section
variable {P : PyData → Prop} {α β γ δ : Type} [DecidableEq α] [Datum α] [DecidableEq β] [Datum β] [DecidableEq γ] [Datum γ] [DecidableEq δ] [Datum δ]
theorem gEq_ {a b : α} (hd : Datum.depth α ≤ 60) (h : P (.bool (decide (a = b)))) : gEq (Datum.toD a) (Datum.toD b) P := by
  refine ⟨?_, by rw [Datum.eqv]; exact h⟩
  have := Datum.depth_le a
  unfold cDeep
  omega
theorem gNe_ {a b : α} (hd : Datum.depth α ≤ 60) (h : P (.bool (!decide (a = b)))) : gNe (Datum.toD a) (Datum.toD b) P := by
  refine ⟨?_, by show P (.bool (!PyData.eqv _ _)); rw [Datum.eqv]; exact h⟩
  have := Datum.depth_le a
  unfold cDeep
  omega
theorem inD_list {a : α} {xs : List α} : inD (Datum.toD a) (.list (xs.map Datum.toD)) = decide (a ∈ xs) := by
  unfold inD itemsD
  rw [List.any_map]
  induction xs with
  | nil => simp
  | cons x xs ih =>
    rw [List.any_cons, ih]
    have e : (x = a) = (a = x) := propext ⟨Eq.symm, Eq.symm⟩
    simp only [Function.comp, Datum.eqv, List.mem_cons, Bool.decide_or, e]
theorem gIn_ {a : α} {xs : List α} (hd : Datum.depth α ≤ 60) (h : P (.bool (decide (a ∈ xs)))) : gIn (Datum.toD a) (.list (xs.map Datum.toD)) P := by
  refine ⟨⟨rfl, ?_⟩, ?_⟩
  · have := Datum.depth_le a
    omega
  · rw [inD_list]; exact h
theorem gNi_ {a : α} {xs : List α} (hd : Datum.depth α ≤ 60) (h : P (.bool (!decide (a ∈ xs)))) : gNi (Datum.toD a) (.list (xs.map Datum.toD)) P := by
  refine ⟨⟨rfl, ?_⟩, ?_⟩
  · have := Datum.depth_le a
    omega
  · show P (.bool (!inD _ _))
    rw [inD_list]; exact h
theorem inD_tup {a : PyData} {xs : List PyData} : inD a (.tuple xs) = inD a (.list xs) := rfl
theorem gInT_ {a : α} {xs : Tup α} (hd : Datum.depth α ≤ 60) (h : P (.bool (decide (a ∈ xs.items)))) : gIn (Datum.toD a) (Datum.toD xs) P := by
  refine ⟨⟨rfl, ?_⟩, ?_⟩
  · have := Datum.depth_le a
    omega
  · show P (.bool (inD (Datum.toD a) (.tuple (xs.items.map Datum.toD))))
    rw [inD_tup, inD_list]; exact h
theorem gNiT_ {a : α} {xs : Tup α} (hd : Datum.depth α ≤ 60) (h : P (.bool (!decide (a ∈ xs.items)))) : gNi (Datum.toD a) (Datum.toD xs) P := by
  refine ⟨⟨rfl, ?_⟩, ?_⟩
  · have := Datum.depth_le a
    omega
  · show P (.bool (!inD (Datum.toD a) (.tuple (xs.items.map Datum.toD))))
    rw [inD_tup, inD_list]; exact h
theorem gIxT_ {t : Tup α} {i : Int} {x : α} (h : L2.atI t.items i = some x) (q : P (Datum.toD x)) : gIx (Datum.toD t) (.int i) P := ⟨_, atI_map _ h, q⟩
theorem gIxL_ {t : List α} {i : Int} {x : α} (h : L2.atI t i = some x) (q : P (Datum.toD x)) : gIx (.list (t.map Datum.toD)) (.int i) P := ⟨_, atI_map _ h, q⟩
end
open PySem.W in
section
variable {P : PyData → Prop} {α : Type} [DecidableEq α] [DatumOrd α]
theorem cLt_ (a b : α) (hd : Datum.depth α ≤ 60) : cLt (Datum.toD a) (Datum.toD b) := ⟨DatumOrd.alike a b, DatumOrd.notNone a, by have := Datum.depth_le a; omega⟩
theorem gLt_ {a b : α} (hd : Datum.depth α ≤ 60) (h : P (.bool (DatumOrd.lt a b))) : gLt (Datum.toD a) (Datum.toD b) P := ⟨cLt_ a b hd, by first | (rw [DatumOrd.lt_eq]; exact h) | (show P (.bool (!dataLt _ _)); rw [DatumOrd.lt_eq]; exact h) | (show P (.bool (dataLt _ _)); rw [DatumOrd.lt_eq]; exact h)⟩
theorem gGe_ {a b : α} (hd : Datum.depth α ≤ 60) (h : P (.bool (!DatumOrd.lt a b))) : gGe (Datum.toD a) (Datum.toD b) P := ⟨cLt_ a b hd, by first | (rw [DatumOrd.lt_eq]; exact h) | (show P (.bool (!dataLt _ _)); rw [DatumOrd.lt_eq]; exact h) | (show P (.bool (dataLt _ _)); rw [DatumOrd.lt_eq]; exact h)⟩
theorem gLe_ {a b : α} (hd : Datum.depth α ≤ 60) (h : P (.bool (!DatumOrd.lt b a))) : gLe (Datum.toD a) (Datum.toD b) P := ⟨cLt_ a b hd, by first | (rw [DatumOrd.lt_eq]; exact h) | (show P (.bool (!dataLt _ _)); rw [DatumOrd.lt_eq]; exact h) | (show P (.bool (dataLt _ _)); rw [DatumOrd.lt_eq]; exact h)⟩
theorem gGt_ {a b : α} (hd : Datum.depth α ≤ 60) (h : P (.bool (DatumOrd.lt b a))) : gGt (Datum.toD a) (Datum.toD b) P := ⟨cLt_ a b hd, by first | (rw [DatumOrd.lt_eq]; exact h) | (show P (.bool (!dataLt _ _)); rw [DatumOrd.lt_eq]; exact h) | (show P (.bool (dataLt _ _)); rw [DatumOrd.lt_eq]; exact h)⟩
/-- less or equal, in Python's order -/
def leOf (a b : α) : Bool := !DatumOrd.lt b a
theorem gSorted_ {P : List PyData → Prop} {xs : List α} (hd : Datum.depth α ≤ 60) (h : P ((xs.mergeSort leOf).map Datum.toD)) : gSorted (.list (xs.map Datum.toD)) P := by
  refine ⟨rfl, ?_, ?_, ?_⟩
  · intro x hx y hy
    obtain ⟨a, _, rfl⟩ := List.mem_map.mp hx
    obtain ⟨b, _, rfl⟩ := List.mem_map.mp hy
    exact DatumOrd.alike a b
  · intro x hx
    obtain ⟨a, _, rfl⟩ := List.mem_map.mp hx
    exact ⟨DatumOrd.notNone a, Nat.le_trans (Datum.depth_le a) hd⟩
  · show P ((xs.map Datum.toD).mergeSort dLe)
    rw [← sort_maps Datum.toD (r := leOf) (fun a _ b _ => by unfold leOf dLe; rw [DatumOrd.lt_eq])]
    exact h
end
theorem gSortedT_ {α : Type} [DecidableEq α] [PySem.W.DatumOrd α] {P : List PyData → Prop} {t : PySem.W.Tup α} (hd : PySem.W.Datum.depth α ≤ 60) (h : P ((t.items.mergeSort leOf).map PySem.W.Datum.toD)) : gSorted (PySem.W.Datum.toD t) P := gSorted_ (xs := t.items) hd h
def cutL {α : Type} (xs : List α) (lo hi : Option Int) : List α := (xs.drop (HT.sIx xs.length 0 lo)).take (HT.sIx xs.length xs.length hi - HT.sIx xs.length 0 lo)
theorem cutD_map {α : Type} (f : α → PyData) (xs : List α) (lo hi : Option Int) : cutD (xs.map f) lo hi = (cutL xs lo hi).map f := by
  unfold cutD cutL
  rw [List.length_map, List.map_take, List.map_drop]
theorem cutL_to {α : Type} (xs : List α) (i : Nat) : cutL xs none (some (i : Int)) = xs.take i := by
  unfold cutL
  rw [HT.sIx_none, HT.sIx_nat]
  show xs.take (min i xs.length - 0) = _
  rw [Nat.sub_zero]
  rcases Nat.le_total i xs.length with h | h
  · rw [Nat.min_eq_left h]
  · rw [Nat.min_eq_right h, List.take_of_length_le h, List.take_length]
theorem cutL_from {α : Type} (xs : List α) (i : Nat) : cutL xs (some (i : Int)) none = xs.drop i := by
  unfold cutL
  rw [HT.sIx_none, HT.sIx_nat]
  rcases Nat.le_total i xs.length with h | h
  · rw [Nat.min_eq_left h, List.take_of_length_le (by rw [List.length_drop]; exact Nat.le_refl _)]
  · rw [Nat.min_eq_right h, List.drop_length, List.drop_of_length_le h, List.take_nil]
section
variable {P : PyData → Prop} {α : Type} [DecidableEq α] [PySem.W.Datum α]
theorem gSlL {xs : List α} {lo hi : Option Int} : gSl (.list (xs.map PySem.W.Datum.toD)) lo hi P = P (.list ((cutL xs lo hi).map PySem.W.Datum.toD)) := by
  show P (.list (cutD _ _ _)) = _
  rw [cutD_map]
theorem gSlT {xs : PySem.W.Tup α} {lo hi : Option Int} : gSl (PySem.W.Datum.toD xs) lo hi P = P (PySem.W.Datum.toD (PySem.W.Tup.mk (cutL xs.items lo hi))) := by
  show P (.tuple (cutD _ _ _)) = P (.tuple _)
  rw [cutD_map]
end
section
open PySem.W (Datum Tup)
variable {P : PyData → Prop} {α : Type} [DecidableEq α] [Datum α]
theorem boolC {p : Prop} [Decidable p] {P : PyData → Prop} (h1 : p → P (.bool true)) (h2 : ¬ p → P (.bool false)) : P (.bool (decide p)) := by
  by_cases h : p
  · rw [decide_eq_true h]; exact h1 h
  · rw [decide_eq_false h]; exact h2 h
theorem boolN {p : Prop} [Decidable p] {P : PyData → Prop} (h1 : ¬ p → P (.bool true)) (h2 : p → P (.bool false)) : P (.bool (!decide p)) := by
  by_cases h : p
  · rw [decide_eq_true h]; exact h2 h
  · rw [decide_eq_false h]; exact h1 h
theorem gEqC {a b : α} (hd : Datum.depth α ≤ 60) (h1 : a = b → P (.bool true)) (h2 : a ≠ b → P (.bool false)) : gEq (Datum.toD a) (Datum.toD b) P := gEq_ hd (boolC h1 h2)
theorem gNeC {a b : α} (hd : Datum.depth α ≤ 60) (h1 : a ≠ b → P (.bool true)) (h2 : a = b → P (.bool false)) : gNe (Datum.toD a) (Datum.toD b) P := gNe_ hd (boolN h1 h2)
theorem gInC {a : α} {xs : List α} (hd : Datum.depth α ≤ 60) (h1 : a ∈ xs → P (.bool true)) (h2 : a ∉ xs → P (.bool false)) : gIn (Datum.toD a) (.list (xs.map Datum.toD)) P := gIn_ hd (boolC h1 h2)
theorem gNiC {a : α} {xs : List α} (hd : Datum.depth α ≤ 60) (h1 : a ∉ xs → P (.bool true)) (h2 : a ∈ xs → P (.bool false)) : gNi (Datum.toD a) (.list (xs.map Datum.toD)) P := gNi_ hd (boolN h1 h2)
theorem gInTC {a : α} {xs : Tup α} (hd : Datum.depth α ≤ 60) (h1 : a ∈ xs.items → P (.bool true)) (h2 : a ∉ xs.items → P (.bool false)) : gIn (Datum.toD a) (Datum.toD xs) P := gInT_ hd (boolC h1 h2)
theorem gNiTC {a : α} {xs : Tup α} (hd : Datum.depth α ≤ 60) (h1 : a ∉ xs.items → P (.bool true)) (h2 : a ∈ xs.items → P (.bool false)) : gNi (Datum.toD a) (Datum.toD xs) P := gNiT_ hd (boolN h1 h2)
end
section
variable {P : PyData → Prop} {α : Type} [DecidableEq α] [PySem.W.Datum α]
theorem gSlTto {t : PySem.W.Tup α} {i : Nat} : gSl (PySem.W.Datum.toD t) none (some (i : Int)) P = P (PySem.W.Datum.toD (PySem.W.Tup.mk (t.items.take i))) := by rw [gSlT, cutL_to]
theorem gSlTfrom {t : PySem.W.Tup α} {i : Nat} : gSl (PySem.W.Datum.toD t) (some (i : Int)) none P = P (PySem.W.Datum.toD (PySem.W.Tup.mk (t.items.drop i))) := by rw [gSlT, cutL_from]
end
end Dat

/-! Com: the program's defs over data. -/
namespace Dat
open PySem PySem.Spec PyProof.Rows L2
open PySem.W (Datum DatumOrd Tup)
section
variable {P : PyData → Prop} {α β : Type} [DecidableEq α] [Datum α] [DecidableEq β] [Datum β]
theorem gIx_tuple {xs : List PyData} {i : Int} {x : PyData} (h : L2.atI xs i = some x) : gIx (.tuple xs) (.int i) P = P x := by
  apply propext
  constructor
  · rintro ⟨y, h1, h2⟩
    rw [h] at h1
    cases h1
    exact h2
  · exact fun q => ⟨x, h, q⟩
theorem gTuple_lst {xs : List PyData} : gTuple (.list xs) P = P (.tuple xs) := rfl
theorem gAdd_int {i j : Int} : gAdd (.int i) (.int j) P = P (.int (i + j)) := rfl
theorem gSub_int {i j : Int} : gSub (.int i) (.int j) P = P (.int (i - j)) := rfl
theorem gIxR0 {r : Rule} : gIx (Datum.toD r) (.int 0) P = P (Datum.toD r.a) := gIx_tuple rfl
theorem gIxR1 {r : Rule} : gIx (Datum.toD r) (.int 1) P = P (.int r.b) := gIx_tuple rfl
theorem gIxR2 {r : Rule} : gIx (Datum.toD r) (.int 2) P = P (.str r.c) := gIx_tuple rfl
theorem gIxR3 {r : Rule} : gIx (Datum.toD r) (.int 3) P = P (.str r.d) := gIx_tuple rfl
theorem isSeq_tup {t : Tup α} : isSeq (Datum.toD t) = True := by simp [show isSeq (Datum.toD t) = true from rfl]
theorem isSeq_list {t : List α} : isSeq (Datum.toD t) = True := by simp [show isSeq (Datum.toD t) = true from rfl]
theorem isSeq_lst {t : List PyData} : isSeq (.list t) = True := by simp [show isSeq (.list t) = true from rfl]
theorem isSeq_tp {t : List PyData} : isSeq (.tuple t) = True := by simp [show isSeq (.tuple t) = true from rfl]
theorem itemsD_tup {t : Tup α} : itemsD (Datum.toD t) = t.items.map Datum.toD := rfl
theorem itemsD_list {t : List α} : itemsD (Datum.toD t) = t.map Datum.toD := rfl
theorem itemsD_lst {t : List PyData} : itemsD (.list t) = t := rfl
theorem itemsD_tp {t : List PyData} : itemsD (.tuple t) = t := rfl
theorem gLenTup {t : Tup α} : gLen (Datum.toD t) P = P (.int t.items.length) := by
  show P (.int (t.items.map Datum.toD).length) = _
  rw [List.length_map]
theorem gLenList {t : List α} : gLen (.list (t.map Datum.toD)) P = P (.int t.length) := by
  show P (.int (t.map Datum.toD).length) = _
  rw [List.length_map]
theorem toD_pair {p : α × β} : Datum.toD p = .tuple [Datum.toD p.1, Datum.toD p.2] := rfl
theorem toD_int {i : Int} : Datum.toD i = .int i := rfl
theorem toD_str {i : Str} : Datum.toD i = .str i := rfl
theorem toD_bool {i : Bool} : Datum.toD i = .bool i := rfl
end

def matchB (r : Rule) (e : Tags) : Bool := r.a.items.all fun t => decide (t ∈ e.items)
def levelOf (r : Rule) : Int × Int := (r.b, (r.a.items.length : Int))
def C_matches : Con := fun cs P => ∃ (r : Rule) (e : Tags), cs = [.d (Datum.toD r), .d (Datum.toD e)] ∧ P (.bool (matchB r e))
def C_level : Con := fun cs P => ∃ r : Rule, cs = [.d (Datum.toD r)] ∧ P (Datum.toD (levelOf r))
def matchP (s : Sheet) (e : Tags) : List (Int × Rule) := (enumL s.items).filter fun p => matchB p.2 e
def matchL (s : Sheet) (e : Tags) : List Int := (matchP s e).map (·.1)
def C_matching : Con := fun cs P => ∃ (s : Sheet) (e : Tags), cs = [.d (Datum.toD s), .d (Datum.toD e)] ∧ P (Datum.toD (matchL s e))
def rankRows (s : Sheet) (e : Tags) (n : Str) : List ((Int × Int) × Int) := ((matchP s e).filter fun p => decide (p.2.c = n)).map fun p => (levelOf p.2, p.1)
def rankL (s : Sheet) (e : Tags) (n : Str) : List Int := ((rankRows s e n).mergeSort leOf).reverse.map (·.2)
def C_ranking : Con := fun cs P => ∃ (s : Sheet) (e : Tags) (n : Str), cs = [.d (Datum.toD s), .d (Datum.toD e), .d (.str n)] ∧ P (Datum.toD (rankL s e n))
def winI (s : Sheet) (e : Tags) (n : Str) : Option Int := (rankL s e n).head?
def C_winner : Con := fun cs P => ∃ (s : Sheet) (e : Tags) (n : Str), cs = [.d (Datum.toD s), .d (Datum.toD e), .d (.str n)] ∧ P (Datum.toD (winI s e n))
def valO (s : Sheet) (e : Tags) (n : Str) : Option Str := (winI s e n).bind fun i => (L2.atI s.items i).map (·.d)
def C_value_of : Con := fun cs P => ∃ (s : Sheet) (e : Tags) (n : Str), cs = [.d (Datum.toD s), .d (Datum.toD e), .d (.str n)] ∧ P (Datum.toD (valO s e n))
def namesL (s : Sheet) (e : Tags) : List Str := ((matchP s e).map (·.2.c)).mergeSort leOf
def firstL (xs : List Str) : List Str := ((enumL xs).filter fun p => !decide (p.2 ∈ xs.take p.1.toNat)).map (·.2)
def stylesL (s : Sheet) (e : Tags) : List (Str × Option Str) := (firstL (namesL s e)).map fun n => (n, valO s e n)
def C_styles : Con := fun cs P => ∃ (s : Sheet) (e : Tags), cs = [.d (Datum.toD s), .d (Datum.toD e)] ∧ P (Datum.toD (stylesL s e))

def W_matches : WS :=
  (sRet (w1 gAll (wF (wLc (wSeqI (w2 gIx (wVar 0) (wC (.int 0)))) (wGn 2) wYes (w2 gIn (wVar 2) (wVar 1)) [2]))))

def W_level : WS :=
  (sRet (wTup (wCons (w2 gIx (wVar 0) (wC (.int 1))) (wCons (w1 gLen (w2 gIx (wVar 0) (wC (.int 0)))) wNil))))

def W_matching : WS :=
  (sRetF (wLc (wEnum (wVar 0)) (wGtup 2 (wGcons (wGn 2) (wGcons (wGn 3) wGnil))) (wTst (wCall C_matches (aD (wVar 3) (aD (wVar 1) aNil)))) (wVar 2) [2, 3]))

def W_ranking : WS :=
  (sSeq (sSet 3 (wF (wLc (wSeqI (wCall C_matching (aD (wVar 0) (aD (wVar 1) aNil)))) (wGn 4) (wTst (w2 gEq (w2 gIx (w2 gIx (wVar 0) (wVar 4)) (wC (.int 2))) (wVar 2))) (wTup (wCons (wCall C_level (aD (w2 gIx (wVar 0) (wVar 4)) aNil)) (wCons (wVar 4) wNil))) [4])))
    (sRet (wF (wLc (wSeqI (wF (wRevL (wF (wF1 gSorted (wVar 3)))))) (wGtup 2 (wGcons (wGn 5) (wGcons (wGn 4) wGnil))) wYes (wVar 4) [4, 5]))))

def W_winner : WS :=
  (sSeq (sSet 3 (wCall C_ranking (aD (wVar 0) (aD (wVar 1) (aD (wVar 2) aNil)))))
    (sRet (wIfE (wTst (w2 gNe (wVar 3) (wF wNil))) (w2 gIx (wVar 3) (wC (.int 0))) (wC .none))))

def W_value_of : WS :=
  (sSeq (sSet 3 (wCall C_winner (aD (wVar 0) (aD (wVar 1) (aD (wVar 2) aNil)))))
    (sRet (wIfE (wTst (wNotN (wVar 3))) (w2 gIx (w2 gIx (wVar 0) (wVar 3)) (wC (.int 3))) (wC .none))))

def W_styles : WS :=
  (sSeq (sSet 2 (wF (wF1 gSorted (wF (wLc (wSeqI (wCall C_matching (aD (wVar 0) (aD (wVar 1) aNil)))) (wGn 3) wYes (w2 gIx (w2 gIx (wVar 0) (wVar 3)) (wC (.int 2))) [3])))))
    (sSeq (sSet 4 (wF (wLc (wEnum (wVar 2)) (wGtup 2 (wGcons (wGn 5) (wGcons (wGn 6) wGnil))) (wTst (w2 gNi (wVar 6) (wSl (wVar 2) wO0 (wO1 (wVar 5))))) (wVar 6) [5, 6])))
    (sRet (wF (wLc (wSeqI (wVar 4)) (wGn 6) wYes (wTup (wCons (wVar 6) (wCons (wCall C_value_of (aD (wVar 0) (aD (wVar 1) (aD (wVar 6) aNil)))) wNil))) [6])))))

theorem noOwn1 {a : PyData} : noOwn [.d a] := fun c h => by simp at h; subst h; rfl
theorem noOwn2 {a b : PyData} : noOwn [.d a, .d b] := fun c h => by simp at h; rcases h with h | h <;> subst h <;> rfl
theorem noOwn3 {a b c : PyData} : noOwn [.d a, .d b, .d c] := fun c h => by simp at h; rcases h with h | h | h <;> subst h <;> rfl
theorem body_matches : ∀ cs P, cs.length = 2 → C_matches cs P → noOwn cs ∧ W_matches (startE 3 cs) (endD false P) := by
  rintro cs P _ ⟨r, e, rfl, h⟩
  refine ⟨noOwn2, ?_⟩
  show W_matches [some (.d (Datum.toD r)), some (.d (Datum.toD e)), none] _
  unfold W_matches
  simp only [sSeq, sSet, sSetF, sRet, sRetN, sRetF, sNext, sIf, sFor, sAsg, sDrop, sBreak, sCont, w2, w1, wF1, wF, wC, wTst, wNot, wAnd, wOr, wAndV, wOrV, wNotV, wIfE, wIsN, wNotN, wTup, wCons, wNil, wCall, wCallL, wCallB, aD, aO, aNil, wLc, wSeqI, wEnum, wZip, wRg1, wO0, wO1, wSl, wNeg, wCat, wRevL, wIsi, wIsi2, wGn, wGtup, wGcons, wGnil, wYes, wipeE, endD, lawD, wVar, wOwn, List.getD_cons_zero, List.getD_cons_succ, List.set_cons_zero, List.set_cons_succ, Bool.false_eq_true, false_imp_iff, true_and, and_true, if_true, if_false, List.length_cons, List.length_nil, gTuple_lst, gAdd_int, gSub_int, gIxR0, gIxR1, gIxR2, gIxR3, isSeq_tup, isSeq_list, itemsD_tup, itemsD_list, isSeq_lst, itemsD_lst, isSeq_tp, itemsD_tp, gLenTup, gLenList, enumD_map, toD_pair, toD_int, toD_str, toD_bool, ite_self, reduceIte]
  refine wComp_m Datum.toD (fun t => .bool (decide (t ∈ e.items))) _ (fun t _ Q q => ?_) ?_
  · simp only [sSeq, sSet, sSetF, sRet, sRetN, sRetF, sNext, sIf, sFor, sAsg, sDrop, sBreak, sCont, w2, w1, wF1, wF, wC, wTst, wNot, wAnd, wOr, wAndV, wOrV, wNotV, wIfE, wIsN, wNotN, wTup, wCons, wNil, wCall, wCallL, wCallB, aD, aO, aNil, wLc, wSeqI, wEnum, wZip, wRg1, wO0, wO1, wSl, wNeg, wCat, wRevL, wIsi, wIsi2, wGn, wGtup, wGcons, wGnil, wYes, wipeE, endD, lawD, wVar, wOwn, List.getD_cons_zero, List.getD_cons_succ, List.set_cons_zero, List.set_cons_succ, Bool.false_eq_true, false_imp_iff, true_and, and_true, if_true, if_false, List.length_cons, List.length_nil, gTuple_lst, gAdd_int, gSub_int, gIxR0, gIxR1, gIxR2, gIxR3, isSeq_tup, isSeq_list, itemsD_tup, itemsD_list, isSeq_lst, itemsD_lst, isSeq_tp, itemsD_tp, gLenTup, gLenList, enumD_map, toD_pair, toD_int, toD_str, toD_bool, ite_self, reduceIte]
    exact gInT_ (by decide) q
  · refine ⟨r.a.items.map fun t => decide (t ∈ e.items), by rw [List.map_map]; rfl, ?_⟩
    rw [List.all_map]
    exact h
theorem body_level : ∀ cs P, cs.length = 1 → C_level cs P → noOwn cs ∧ W_level (startE 1 cs) (endD false P) := by
  rintro cs P _ ⟨r, rfl, h⟩
  refine ⟨noOwn1, ?_⟩
  show W_level [some (.d (Datum.toD r))] _
  unfold W_level
  simp only [sSeq, sSet, sSetF, sRet, sRetN, sRetF, sNext, sIf, sFor, sAsg, sDrop, sBreak, sCont, w2, w1, wF1, wF, wC, wTst, wNot, wAnd, wOr, wAndV, wOrV, wNotV, wIfE, wIsN, wNotN, wTup, wCons, wNil, wCall, wCallL, wCallB, aD, aO, aNil, wLc, wSeqI, wEnum, wZip, wRg1, wO0, wO1, wSl, wNeg, wCat, wRevL, wIsi, wIsi2, wGn, wGtup, wGcons, wGnil, wYes, wipeE, endD, lawD, wVar, wOwn, List.getD_cons_zero, List.getD_cons_succ, List.set_cons_zero, List.set_cons_succ, Bool.false_eq_true, false_imp_iff, true_and, and_true, if_true, if_false, List.length_cons, List.length_nil, gTuple_lst, gAdd_int, gSub_int, gIxR0, gIxR1, gIxR2, gIxR3, isSeq_tup, isSeq_list, itemsD_tup, itemsD_list, isSeq_lst, itemsD_lst, isSeq_tp, itemsD_tp, gLenTup, gLenList, enumD_map, toD_pair, toD_int, toD_str, toD_bool, ite_self, reduceIte]
  exact h
theorem mem_atI {xs : List Rule} {p : Int × Rule} (h : p ∈ enumL xs) : L2.atI xs p.1 = some p.2 := by
  obtain ⟨i, h1, h2⟩ := enumL_at h
  rw [h1]
  exact atI_nat h2
theorem body_matching : ∀ cs P, cs.length = 2 → C_matching cs P → noOwn cs ∧ W_matching (startE 4 cs) (endD true P) := by
  rintro cs P _ ⟨s, e, rfl, h⟩
  refine ⟨noOwn2, ?_⟩
  show W_matching [some (.d (Datum.toD s)), some (.d (Datum.toD e)), none, none] _
  unfold W_matching
  simp only [sSeq, sSet, sSetF, sRet, sRetN, sRetF, sNext, sIf, sFor, sAsg, sDrop, sBreak, sCont, w2, w1, wF1, wF, wC, wTst, wNot, wAnd, wOr, wAndV, wOrV, wNotV, wIfE, wIsN, wNotN, wTup, wCons, wNil, wCall, wCallL, wCallB, aD, aO, aNil, wLc, wSeqI, wEnum, wZip, wRg1, wO0, wO1, wSl, wNeg, wCat, wRevL, wIsi, wIsi2, wGn, wGtup, wGcons, wGnil, wYes, wipeE, endD, lawD, wVar, wOwn, List.getD_cons_zero, List.getD_cons_succ, List.set_cons_zero, List.set_cons_succ, Bool.false_eq_true, false_imp_iff, true_and, and_true, if_true, if_false, List.length_cons, List.length_nil, gTuple_lst, gAdd_int, gSub_int, gIxR0, gIxR1, gIxR2, gIxR3, isSeq_tup, isSeq_list, itemsD_tup, itemsD_list, isSeq_lst, itemsD_lst, isSeq_tp, itemsD_tp, gLenTup, gLenList, enumD_map, toD_pair, toD_int, toD_str, toD_bool, ite_self, reduceIte]
  refine wComp_fm Datum.toD (fun p : Int × Rule => matchB p.2 e) (fun p => .int p.1) _ (fun p _ Q R h1 h2 => ?_) ?_
  · simp only [sSeq, sSet, sSetF, sRet, sRetN, sRetF, sNext, sIf, sFor, sAsg, sDrop, sBreak, sCont, w2, w1, wF1, wF, wC, wTst, wNot, wAnd, wOr, wAndV, wOrV, wNotV, wIfE, wIsN, wNotN, wTup, wCons, wNil, wCall, wCallL, wCallB, aD, aO, aNil, wLc, wSeqI, wEnum, wZip, wRg1, wO0, wO1, wSl, wNeg, wCat, wRevL, wIsi, wIsi2, wGn, wGtup, wGcons, wGnil, wYes, wipeE, endD, lawD, wVar, wOwn, List.getD_cons_zero, List.getD_cons_succ, List.set_cons_zero, List.set_cons_succ, Bool.false_eq_true, false_imp_iff, true_and, and_true, if_true, if_false, List.length_cons, List.length_nil, gTuple_lst, gAdd_int, gSub_int, gIxR0, gIxR1, gIxR2, gIxR3, isSeq_tup, isSeq_list, itemsD_tup, itemsD_list, isSeq_lst, itemsD_lst, isSeq_tp, itemsD_tp, gLenTup, gLenList, enumD_map, toD_pair, toD_int, toD_str, toD_bool, ite_self, reduceIte]
    exact ⟨p.2, e, rfl, ifB h1 h2⟩
  · have h : P (.list ((matchL s e).map Datum.toD)) := h
    unfold matchL matchP at h
    rw [List.map_map] at h
    exact h
theorem body_ranking : ∀ cs P, cs.length = 3 → C_ranking cs P → noOwn cs ∧ W_ranking (startE 6 cs) (endD false P) := by
  rintro cs P _ ⟨s, e, n, rfl, h⟩
  refine ⟨noOwn3, ?_⟩
  show W_ranking [some (.d (Datum.toD s)), some (.d (Datum.toD e)), some (.d (.str n)), none, none, none] _
  unfold W_ranking
  simp only [sSeq, sSet, sSetF, sRet, sRetN, sRetF, sNext, sIf, sFor, sAsg, sDrop, sBreak, sCont, w2, w1, wF1, wF, wC, wTst, wNot, wAnd, wOr, wAndV, wOrV, wNotV, wIfE, wIsN, wNotN, wTup, wCons, wNil, wCall, wCallL, wCallB, aD, aO, aNil, wLc, wSeqI, wEnum, wZip, wRg1, wO0, wO1, wSl, wNeg, wCat, wRevL, wIsi, wIsi2, wGn, wGtup, wGcons, wGnil, wYes, wipeE, endD, lawD, wVar, wOwn, List.getD_cons_zero, List.getD_cons_succ, List.set_cons_zero, List.set_cons_succ, Bool.false_eq_true, false_imp_iff, true_and, and_true, if_true, if_false, List.length_cons, List.length_nil, gTuple_lst, gAdd_int, gSub_int, gIxR0, gIxR1, gIxR2, gIxR3, isSeq_tup, isSeq_list, itemsD_tup, itemsD_list, isSeq_lst, itemsD_lst, isSeq_tp, itemsD_tp, gLenTup, gLenList, enumD_map, toD_pair, toD_int, toD_str, toD_bool, ite_self, reduceIte]
  refine ⟨s, e, rfl, ?_⟩
  simp only [sSeq, sSet, sSetF, sRet, sRetN, sRetF, sNext, sIf, sFor, sAsg, sDrop, sBreak, sCont, w2, w1, wF1, wF, wC, wTst, wNot, wAnd, wOr, wAndV, wOrV, wNotV, wIfE, wIsN, wNotN, wTup, wCons, wNil, wCall, wCallL, wCallB, aD, aO, aNil, wLc, wSeqI, wEnum, wZip, wRg1, wO0, wO1, wSl, wNeg, wCat, wRevL, wIsi, wIsi2, wGn, wGtup, wGcons, wGnil, wYes, wipeE, endD, lawD, wVar, wOwn, List.getD_cons_zero, List.getD_cons_succ, List.set_cons_zero, List.set_cons_succ, Bool.false_eq_true, false_imp_iff, true_and, and_true, if_true, if_false, List.length_cons, List.length_nil, gTuple_lst, gAdd_int, gSub_int, gIxR0, gIxR1, gIxR2, gIxR3, isSeq_tup, isSeq_list, itemsD_tup, itemsD_list, isSeq_lst, itemsD_lst, isSeq_tp, itemsD_tp, gLenTup, gLenList, enumD_map, toD_pair, toD_int, toD_str, toD_bool, ite_self, reduceIte]
  unfold matchL
  rw [List.map_map]
  refine wComp_fm (fun p : Int × Rule => .int p.1) (fun p => decide (p.2.c = n)) (fun p => Datum.toD ((levelOf p.2, p.1) : (Int × Int) × Int)) _ (fun p hp Q R h1 h2 => ?_) ?_
  · simp only [sSeq, sSet, sSetF, sRet, sRetN, sRetF, sNext, sIf, sFor, sAsg, sDrop, sBreak, sCont, w2, w1, wF1, wF, wC, wTst, wNot, wAnd, wOr, wAndV, wOrV, wNotV, wIfE, wIsN, wNotN, wTup, wCons, wNil, wCall, wCallL, wCallB, aD, aO, aNil, wLc, wSeqI, wEnum, wZip, wRg1, wO0, wO1, wSl, wNeg, wCat, wRevL, wIsi, wIsi2, wGn, wGtup, wGcons, wGnil, wYes, wipeE, endD, lawD, wVar, wOwn, List.getD_cons_zero, List.getD_cons_succ, List.set_cons_zero, List.set_cons_succ, Bool.false_eq_true, false_imp_iff, true_and, and_true, if_true, if_false, List.length_cons, List.length_nil, gTuple_lst, gAdd_int, gSub_int, gIxR0, gIxR1, gIxR2, gIxR3, isSeq_tup, isSeq_list, itemsD_tup, itemsD_list, isSeq_lst, itemsD_lst, isSeq_tp, itemsD_tp, gLenTup, gLenList, enumD_map, toD_pair, toD_int, toD_str, toD_bool, ite_self, reduceIte]
    have hm := mem_atI (List.mem_filter.mp hp).1
    refine gIxT_ hm ?_
    simp only [sSeq, sSet, sSetF, sRet, sRetN, sRetF, sNext, sIf, sFor, sAsg, sDrop, sBreak, sCont, w2, w1, wF1, wF, wC, wTst, wNot, wAnd, wOr, wAndV, wOrV, wNotV, wIfE, wIsN, wNotN, wTup, wCons, wNil, wCall, wCallL, wCallB, aD, aO, aNil, wLc, wSeqI, wEnum, wZip, wRg1, wO0, wO1, wSl, wNeg, wCat, wRevL, wIsi, wIsi2, wGn, wGtup, wGcons, wGnil, wYes, wipeE, endD, lawD, wVar, wOwn, List.getD_cons_zero, List.getD_cons_succ, List.set_cons_zero, List.set_cons_succ, Bool.false_eq_true, false_imp_iff, true_and, and_true, if_true, if_false, List.length_cons, List.length_nil, gTuple_lst, gAdd_int, gSub_int, gIxR0, gIxR1, gIxR2, gIxR3, isSeq_tup, isSeq_list, itemsD_tup, itemsD_list, isSeq_lst, itemsD_lst, isSeq_tp, itemsD_tp, gLenTup, gLenList, enumD_map, toD_pair, toD_int, toD_str, toD_bool, ite_self, reduceIte]
    refine gEq_ (α := Str) (by decide) ?_
    simp only [sSeq, sSet, sSetF, sRet, sRetN, sRetF, sNext, sIf, sFor, sAsg, sDrop, sBreak, sCont, w2, w1, wF1, wF, wC, wTst, wNot, wAnd, wOr, wAndV, wOrV, wNotV, wIfE, wIsN, wNotN, wTup, wCons, wNil, wCall, wCallL, wCallB, aD, aO, aNil, wLc, wSeqI, wEnum, wZip, wRg1, wO0, wO1, wSl, wNeg, wCat, wRevL, wIsi, wIsi2, wGn, wGtup, wGcons, wGnil, wYes, wipeE, endD, lawD, wVar, wOwn, List.getD_cons_zero, List.getD_cons_succ, List.set_cons_zero, List.set_cons_succ, Bool.false_eq_true, false_imp_iff, true_and, and_true, if_true, if_false, List.length_cons, List.length_nil, gTuple_lst, gAdd_int, gSub_int, gIxR0, gIxR1, gIxR2, gIxR3, isSeq_tup, isSeq_list, itemsD_tup, itemsD_list, isSeq_lst, itemsD_lst, isSeq_tp, itemsD_tp, gLenTup, gLenList, enumD_map, toD_pair, toD_int, toD_str, toD_bool, ite_self, reduceIte]
    refine ifB (fun h => ?_) fun h => h2 h
    refine gIxT_ hm ⟨p.2, rfl, ?_⟩
    simp only [sSeq, sSet, sSetF, sRet, sRetN, sRetF, sNext, sIf, sFor, sAsg, sDrop, sBreak, sCont, w2, w1, wF1, wF, wC, wTst, wNot, wAnd, wOr, wAndV, wOrV, wNotV, wIfE, wIsN, wNotN, wTup, wCons, wNil, wCall, wCallL, wCallB, aD, aO, aNil, wLc, wSeqI, wEnum, wZip, wRg1, wO0, wO1, wSl, wNeg, wCat, wRevL, wIsi, wIsi2, wGn, wGtup, wGcons, wGnil, wYes, wipeE, endD, lawD, wVar, wOwn, List.getD_cons_zero, List.getD_cons_succ, List.set_cons_zero, List.set_cons_succ, Bool.false_eq_true, false_imp_iff, true_and, and_true, if_true, if_false, List.length_cons, List.length_nil, gTuple_lst, gAdd_int, gSub_int, gIxR0, gIxR1, gIxR2, gIxR3, isSeq_tup, isSeq_list, itemsD_tup, itemsD_list, isSeq_lst, itemsD_lst, isSeq_tp, itemsD_tp, gLenTup, gLenList, enumD_map, toD_pair, toD_int, toD_str, toD_bool, ite_self, reduceIte]
    exact h1 h
  · have e1 : List.map (fun p : Int × Rule => Datum.toD ((levelOf p.2, p.1) : (Int × Int) × Int)) (List.filter (fun p => decide (p.2.c = n)) (matchP s e)) = (rankRows s e n).map Datum.toD := by
      unfold rankRows
      rw [List.map_map]
      rfl
    rw [e1]
    refine gSorted_ (by decide) ?_
    rw [← List.map_reverse]
    refine wComp_m Datum.toD (fun p => .int p.2) _ (fun p _ Q q => ?_) ?_
    · simp only [sSeq, sSet, sSetF, sRet, sRetN, sRetF, sNext, sIf, sFor, sAsg, sDrop, sBreak, sCont, w2, w1, wF1, wF, wC, wTst, wNot, wAnd, wOr, wAndV, wOrV, wNotV, wIfE, wIsN, wNotN, wTup, wCons, wNil, wCall, wCallL, wCallB, aD, aO, aNil, wLc, wSeqI, wEnum, wZip, wRg1, wO0, wO1, wSl, wNeg, wCat, wRevL, wIsi, wIsi2, wGn, wGtup, wGcons, wGnil, wYes, wipeE, endD, lawD, wVar, wOwn, List.getD_cons_zero, List.getD_cons_succ, List.set_cons_zero, List.set_cons_succ, Bool.false_eq_true, false_imp_iff, true_and, and_true, if_true, if_false, List.length_cons, List.length_nil, gTuple_lst, gAdd_int, gSub_int, gIxR0, gIxR1, gIxR2, gIxR3, isSeq_tup, isSeq_list, itemsD_tup, itemsD_list, isSeq_lst, itemsD_lst, isSeq_tp, itemsD_tp, gLenTup, gLenList, enumD_map, toD_pair, toD_int, toD_str, toD_bool, ite_self, reduceIte]
      exact q
    · have h : P (.list ((rankL s e n).map Datum.toD)) := h
      unfold rankL at h
      rw [List.map_map] at h
      exact h
theorem atI_zero {α : Type} {x : α} {xs : List α} : L2.atI (x :: xs) 0 = some x := atI_nat (j := 0) rfl
theorem winI_mem {s : Sheet} {e : Tags} {n : Str} {i : Int} (h : i ∈ rankL s e n) : ∃ r, (i, r) ∈ enumL s.items ∧ matchB r e = true ∧ r.c = n := by
  unfold rankL at h
  obtain ⟨q, hq, rfl⟩ := List.mem_map.mp h
  rw [List.mem_reverse, List.mem_mergeSort] at hq
  unfold rankRows at hq
  obtain ⟨p, hp, rfl⟩ := List.mem_map.mp hq
  obtain ⟨h1, h2⟩ := List.mem_filter.mp hp
  obtain ⟨h3, h4⟩ := List.mem_filter.mp h1
  exact ⟨p.2, h3, h4, of_decide_eq_true h2⟩
theorem winI_some {s : Sheet} {e : Tags} {n : Str} {i : Int} (h : winI s e n = some i) : ∃ r, L2.atI s.items i = some r := by
  obtain ⟨r, h1, _⟩ := winI_mem (List.mem_of_head? h)
  exact ⟨r, mem_atI h1⟩
theorem body_winner : ∀ cs P, cs.length = 3 → C_winner cs P → noOwn cs ∧ W_winner (startE 4 cs) (endD false P) := by
  rintro cs P _ ⟨s, e, n, rfl, h⟩
  refine ⟨noOwn3, ?_⟩
  show W_winner [some (.d (Datum.toD s)), some (.d (Datum.toD e)), some (.d (.str n)), none] _
  unfold W_winner
  simp only [sSeq, sSet, sSetF, sRet, sRetN, sRetF, sNext, sIf, sFor, sAsg, sDrop, sBreak, sCont, w2, w1, wF1, wF, wC, wTst, wNot, wAnd, wOr, wAndV, wOrV, wNotV, wIfE, wIsN, wNotN, wTup, wCons, wNil, wCall, wCallL, wCallB, aD, aO, aNil, wLc, wSeqI, wEnum, wZip, wRg1, wO0, wO1, wSl, wNeg, wCat, wRevL, wIsi, wIsi2, wGn, wGtup, wGcons, wGnil, wYes, wipeE, endD, lawD, wVar, wOwn, List.getD_cons_zero, List.getD_cons_succ, List.set_cons_zero, List.set_cons_succ, Bool.false_eq_true, false_imp_iff, true_and, and_true, if_true, if_false, List.length_cons, List.length_nil, gTuple_lst, gAdd_int, gSub_int, gIxR0, gIxR1, gIxR2, gIxR3, isSeq_tup, isSeq_list, itemsD_tup, itemsD_list, isSeq_lst, itemsD_lst, isSeq_tp, itemsD_tp, gLenTup, gLenList, enumD_map, toD_pair, toD_int, toD_str, toD_bool, ite_self, reduceIte]
  refine ⟨s, e, n, rfl, ?_⟩
  simp only [sSeq, sSet, sSetF, sRet, sRetN, sRetF, sNext, sIf, sFor, sAsg, sDrop, sBreak, sCont, w2, w1, wF1, wF, wC, wTst, wNot, wAnd, wOr, wAndV, wOrV, wNotV, wIfE, wIsN, wNotN, wTup, wCons, wNil, wCall, wCallL, wCallB, aD, aO, aNil, wLc, wSeqI, wEnum, wZip, wRg1, wO0, wO1, wSl, wNeg, wCat, wRevL, wIsi, wIsi2, wGn, wGtup, wGcons, wGnil, wYes, wipeE, endD, lawD, wVar, wOwn, List.getD_cons_zero, List.getD_cons_succ, List.set_cons_zero, List.set_cons_succ, Bool.false_eq_true, false_imp_iff, true_and, and_true, if_true, if_false, List.length_cons, List.length_nil, gTuple_lst, gAdd_int, gSub_int, gIxR0, gIxR1, gIxR2, gIxR3, isSeq_tup, isSeq_list, itemsD_tup, itemsD_list, isSeq_lst, itemsD_lst, isSeq_tp, itemsD_tp, gLenTup, gLenList, enumD_map, toD_pair, toD_int, toD_str, toD_bool, ite_self, reduceIte]
  unfold winI at h
  refine gNe_ (α := List Int) (b := []) (by decide) ?_
  simp only [sSeq, sSet, sSetF, sRet, sRetN, sRetF, sNext, sIf, sFor, sAsg, sDrop, sBreak, sCont, w2, w1, wF1, wF, wC, wTst, wNot, wAnd, wOr, wAndV, wOrV, wNotV, wIfE, wIsN, wNotN, wTup, wCons, wNil, wCall, wCallL, wCallB, aD, aO, aNil, wLc, wSeqI, wEnum, wZip, wRg1, wO0, wO1, wSl, wNeg, wCat, wRevL, wIsi, wIsi2, wGn, wGtup, wGcons, wGnil, wYes, wipeE, endD, lawD, wVar, wOwn, List.getD_cons_zero, List.getD_cons_succ, List.set_cons_zero, List.set_cons_succ, Bool.false_eq_true, false_imp_iff, true_and, and_true, if_true, if_false, List.length_cons, List.length_nil, gTuple_lst, gAdd_int, gSub_int, gIxR0, gIxR1, gIxR2, gIxR3, isSeq_tup, isSeq_list, itemsD_tup, itemsD_list, isSeq_lst, itemsD_lst, isSeq_tp, itemsD_tp, gLenTup, gLenList, enumD_map, toD_pair, toD_int, toD_str, toD_bool, ite_self, reduceIte]
  cases q : rankL s e n with
  | nil => rw [q] at h; exact h
  | cons i is =>
    rw [q] at h
    exact gIxL_ (t := i :: is) (i := 0) atI_zero h
theorem body_value_of : ∀ cs P, cs.length = 3 → C_value_of cs P → noOwn cs ∧ W_value_of (startE 4 cs) (endD false P) := by
  rintro cs P _ ⟨s, e, n, rfl, h⟩
  refine ⟨noOwn3, ?_⟩
  show W_value_of [some (.d (Datum.toD s)), some (.d (Datum.toD e)), some (.d (.str n)), none] _
  unfold W_value_of
  simp only [sSeq, sSet, sSetF, sRet, sRetN, sRetF, sNext, sIf, sFor, sAsg, sDrop, sBreak, sCont, w2, w1, wF1, wF, wC, wTst, wNot, wAnd, wOr, wAndV, wOrV, wNotV, wIfE, wIsN, wNotN, wTup, wCons, wNil, wCall, wCallL, wCallB, aD, aO, aNil, wLc, wSeqI, wEnum, wZip, wRg1, wO0, wO1, wSl, wNeg, wCat, wRevL, wIsi, wIsi2, wGn, wGtup, wGcons, wGnil, wYes, wipeE, endD, lawD, wVar, wOwn, List.getD_cons_zero, List.getD_cons_succ, List.set_cons_zero, List.set_cons_succ, Bool.false_eq_true, false_imp_iff, true_and, and_true, if_true, if_false, List.length_cons, List.length_nil, gTuple_lst, gAdd_int, gSub_int, gIxR0, gIxR1, gIxR2, gIxR3, isSeq_tup, isSeq_list, itemsD_tup, itemsD_list, isSeq_lst, itemsD_lst, isSeq_tp, itemsD_tp, gLenTup, gLenList, enumD_map, toD_pair, toD_int, toD_str, toD_bool, ite_self, reduceIte]
  refine ⟨s, e, n, rfl, ?_⟩
  simp only [sSeq, sSet, sSetF, sRet, sRetN, sRetF, sNext, sIf, sFor, sAsg, sDrop, sBreak, sCont, w2, w1, wF1, wF, wC, wTst, wNot, wAnd, wOr, wAndV, wOrV, wNotV, wIfE, wIsN, wNotN, wTup, wCons, wNil, wCall, wCallL, wCallB, aD, aO, aNil, wLc, wSeqI, wEnum, wZip, wRg1, wO0, wO1, wSl, wNeg, wCat, wRevL, wIsi, wIsi2, wGn, wGtup, wGcons, wGnil, wYes, wipeE, endD, lawD, wVar, wOwn, List.getD_cons_zero, List.getD_cons_succ, List.set_cons_zero, List.set_cons_succ, Bool.false_eq_true, false_imp_iff, true_and, and_true, if_true, if_false, List.length_cons, List.length_nil, gTuple_lst, gAdd_int, gSub_int, gIxR0, gIxR1, gIxR2, gIxR3, isSeq_tup, isSeq_list, itemsD_tup, itemsD_list, isSeq_lst, itemsD_lst, isSeq_tp, itemsD_tp, gLenTup, gLenList, enumD_map, toD_pair, toD_int, toD_str, toD_bool, ite_self, reduceIte]
  unfold valO at h
  cases q : winI s e n with
  | none => rw [q] at h; exact h
  | some i =>
    rw [q] at h
    obtain ⟨r, hr⟩ := winI_some q
    have h : P (Datum.toD ((L2.atI s.items i).map (·.d))) := h
    rw [hr] at h
    refine gIxT_ hr ?_
    simp only [sSeq, sSet, sSetF, sRet, sRetN, sRetF, sNext, sIf, sFor, sAsg, sDrop, sBreak, sCont, w2, w1, wF1, wF, wC, wTst, wNot, wAnd, wOr, wAndV, wOrV, wNotV, wIfE, wIsN, wNotN, wTup, wCons, wNil, wCall, wCallL, wCallB, aD, aO, aNil, wLc, wSeqI, wEnum, wZip, wRg1, wO0, wO1, wSl, wNeg, wCat, wRevL, wIsi, wIsi2, wGn, wGtup, wGcons, wGnil, wYes, wipeE, endD, lawD, wVar, wOwn, List.getD_cons_zero, List.getD_cons_succ, List.set_cons_zero, List.set_cons_succ, Bool.false_eq_true, false_imp_iff, true_and, and_true, if_true, if_false, List.length_cons, List.length_nil, gTuple_lst, gAdd_int, gSub_int, gIxR0, gIxR1, gIxR2, gIxR3, isSeq_tup, isSeq_list, itemsD_tup, itemsD_list, isSeq_lst, itemsD_lst, isSeq_tp, itemsD_tp, gLenTup, gLenList, enumD_map, toD_pair, toD_int, toD_str, toD_bool, ite_self, reduceIte]
    exact h
theorem body_styles : ∀ cs P, cs.length = 2 → C_styles cs P → noOwn cs ∧ W_styles (startE 7 cs) (endD false P) := by
  rintro cs P _ ⟨s, e, rfl, h⟩
  refine ⟨noOwn2, ?_⟩
  show W_styles [some (.d (Datum.toD s)), some (.d (Datum.toD e)), none, none, none, none, none] _
  unfold W_styles
  simp only [sSeq, sSet, sSetF, sRet, sRetN, sRetF, sNext, sIf, sFor, sAsg, sDrop, sBreak, sCont, w2, w1, wF1, wF, wC, wTst, wNot, wAnd, wOr, wAndV, wOrV, wNotV, wIfE, wIsN, wNotN, wTup, wCons, wNil, wCall, wCallL, wCallB, aD, aO, aNil, wLc, wSeqI, wEnum, wZip, wRg1, wO0, wO1, wSl, wNeg, wCat, wRevL, wIsi, wIsi2, wGn, wGtup, wGcons, wGnil, wYes, wipeE, endD, lawD, wVar, wOwn, List.getD_cons_zero, List.getD_cons_succ, List.set_cons_zero, List.set_cons_succ, Bool.false_eq_true, false_imp_iff, true_and, and_true, if_true, if_false, List.length_cons, List.length_nil, gTuple_lst, gAdd_int, gSub_int, gIxR0, gIxR1, gIxR2, gIxR3, isSeq_tup, isSeq_list, itemsD_tup, itemsD_list, isSeq_lst, itemsD_lst, isSeq_tp, itemsD_tp, gLenTup, gLenList, enumD_map, toD_pair, toD_int, toD_str, toD_bool, ite_self, reduceIte]
  refine ⟨s, e, rfl, ?_⟩
  simp only [sSeq, sSet, sSetF, sRet, sRetN, sRetF, sNext, sIf, sFor, sAsg, sDrop, sBreak, sCont, w2, w1, wF1, wF, wC, wTst, wNot, wAnd, wOr, wAndV, wOrV, wNotV, wIfE, wIsN, wNotN, wTup, wCons, wNil, wCall, wCallL, wCallB, aD, aO, aNil, wLc, wSeqI, wEnum, wZip, wRg1, wO0, wO1, wSl, wNeg, wCat, wRevL, wIsi, wIsi2, wGn, wGtup, wGcons, wGnil, wYes, wipeE, endD, lawD, wVar, wOwn, List.getD_cons_zero, List.getD_cons_succ, List.set_cons_zero, List.set_cons_succ, Bool.false_eq_true, false_imp_iff, true_and, and_true, if_true, if_false, List.length_cons, List.length_nil, gTuple_lst, gAdd_int, gSub_int, gIxR0, gIxR1, gIxR2, gIxR3, isSeq_tup, isSeq_list, itemsD_tup, itemsD_list, isSeq_lst, itemsD_lst, isSeq_tp, itemsD_tp, gLenTup, gLenList, enumD_map, toD_pair, toD_int, toD_str, toD_bool, ite_self, reduceIte]
  unfold matchL
  rw [List.map_map]
  refine wComp_m (fun p : Int × Rule => .int p.1) (fun p => Datum.toD p.2.c) _ (fun p hp Q q => ?_) ?_
  · simp only [sSeq, sSet, sSetF, sRet, sRetN, sRetF, sNext, sIf, sFor, sAsg, sDrop, sBreak, sCont, w2, w1, wF1, wF, wC, wTst, wNot, wAnd, wOr, wAndV, wOrV, wNotV, wIfE, wIsN, wNotN, wTup, wCons, wNil, wCall, wCallL, wCallB, aD, aO, aNil, wLc, wSeqI, wEnum, wZip, wRg1, wO0, wO1, wSl, wNeg, wCat, wRevL, wIsi, wIsi2, wGn, wGtup, wGcons, wGnil, wYes, wipeE, endD, lawD, wVar, wOwn, List.getD_cons_zero, List.getD_cons_succ, List.set_cons_zero, List.set_cons_succ, Bool.false_eq_true, false_imp_iff, true_and, and_true, if_true, if_false, List.length_cons, List.length_nil, gTuple_lst, gAdd_int, gSub_int, gIxR0, gIxR1, gIxR2, gIxR3, isSeq_tup, isSeq_list, itemsD_tup, itemsD_list, isSeq_lst, itemsD_lst, isSeq_tp, itemsD_tp, gLenTup, gLenList, enumD_map, toD_pair, toD_int, toD_str, toD_bool, ite_self, reduceIte]
    have hm := mem_atI (List.mem_filter.mp hp).1
    refine gIxT_ hm ?_
    simp only [sSeq, sSet, sSetF, sRet, sRetN, sRetF, sNext, sIf, sFor, sAsg, sDrop, sBreak, sCont, w2, w1, wF1, wF, wC, wTst, wNot, wAnd, wOr, wAndV, wOrV, wNotV, wIfE, wIsN, wNotN, wTup, wCons, wNil, wCall, wCallL, wCallB, aD, aO, aNil, wLc, wSeqI, wEnum, wZip, wRg1, wO0, wO1, wSl, wNeg, wCat, wRevL, wIsi, wIsi2, wGn, wGtup, wGcons, wGnil, wYes, wipeE, endD, lawD, wVar, wOwn, List.getD_cons_zero, List.getD_cons_succ, List.set_cons_zero, List.set_cons_succ, Bool.false_eq_true, false_imp_iff, true_and, and_true, if_true, if_false, List.length_cons, List.length_nil, gTuple_lst, gAdd_int, gSub_int, gIxR0, gIxR1, gIxR2, gIxR3, isSeq_tup, isSeq_list, itemsD_tup, itemsD_list, isSeq_lst, itemsD_lst, isSeq_tp, itemsD_tp, gLenTup, gLenList, enumD_map, toD_pair, toD_int, toD_str, toD_bool, ite_self, reduceIte]
    exact q
  · have e1 : List.map (fun p : Int × Rule => Datum.toD p.2.c) (matchP s e) = ((matchP s e).map (·.2.c)).map Datum.toD := by
      rw [List.map_map]
      rfl
    rw [e1]
    refine gSorted_ (by decide) ?_
    simp only [sSeq, sSet, sSetF, sRet, sRetN, sRetF, sNext, sIf, sFor, sAsg, sDrop, sBreak, sCont, w2, w1, wF1, wF, wC, wTst, wNot, wAnd, wOr, wAndV, wOrV, wNotV, wIfE, wIsN, wNotN, wTup, wCons, wNil, wCall, wCallL, wCallB, aD, aO, aNil, wLc, wSeqI, wEnum, wZip, wRg1, wO0, wO1, wSl, wNeg, wCat, wRevL, wIsi, wIsi2, wGn, wGtup, wGcons, wGnil, wYes, wipeE, endD, lawD, wVar, wOwn, List.getD_cons_zero, List.getD_cons_succ, List.set_cons_zero, List.set_cons_succ, Bool.false_eq_true, false_imp_iff, true_and, and_true, if_true, if_false, List.length_cons, List.length_nil, gTuple_lst, gAdd_int, gSub_int, gIxR0, gIxR1, gIxR2, gIxR3, isSeq_tup, isSeq_list, itemsD_tup, itemsD_list, isSeq_lst, itemsD_lst, isSeq_tp, itemsD_tp, gLenTup, gLenList, enumD_map, toD_pair, toD_int, toD_str, toD_bool, ite_self, reduceIte]
    rw [show ((matchP s e).map (·.2.c)).mergeSort leOf = namesL s e from rfl]
    refine wComp_fm Datum.toD (fun p : Int × Str => !decide (p.2 ∈ (namesL s e).take p.1.toNat)) (fun p => Datum.toD p.2) _ (fun p hp Q R h1 h2 => ?_) ?_
    · obtain ⟨i, hi, hx⟩ := enumL_at hp
      obtain ⟨k, x⟩ := p
      subst hi
      simp only [sSeq, sSet, sSetF, sRet, sRetN, sRetF, sNext, sIf, sFor, sAsg, sDrop, sBreak, sCont, w2, w1, wF1, wF, wC, wTst, wNot, wAnd, wOr, wAndV, wOrV, wNotV, wIfE, wIsN, wNotN, wTup, wCons, wNil, wCall, wCallL, wCallB, aD, aO, aNil, wLc, wSeqI, wEnum, wZip, wRg1, wO0, wO1, wSl, wNeg, wCat, wRevL, wIsi, wIsi2, wGn, wGtup, wGcons, wGnil, wYes, wipeE, endD, lawD, wVar, wOwn, List.getD_cons_zero, List.getD_cons_succ, List.set_cons_zero, List.set_cons_succ, Bool.false_eq_true, false_imp_iff, true_and, and_true, if_true, if_false, List.length_cons, List.length_nil, gTuple_lst, gAdd_int, gSub_int, gIxR0, gIxR1, gIxR2, gIxR3, isSeq_tup, isSeq_list, itemsD_tup, itemsD_list, isSeq_lst, itemsD_lst, isSeq_tp, itemsD_tp, gLenTup, gLenList, enumD_map, toD_pair, toD_int, toD_str, toD_bool, ite_self, reduceIte]
      rw [show gSl (.list ((namesL s e).map Datum.toD)) none (some (i : Int)) = fun P => P (.list (((namesL s e).take i).map Datum.toD)) from funext fun P => by rw [gSlL, cutL_to]]
      refine gNi_ (α := Str) (by decide) ?_
      exact ifB h1 h2
    · have e2 : List.map (fun p : Int × Str => Datum.toD p.2) (List.filter (fun p : Int × Str => !decide (p.2 ∈ (namesL s e).take p.1.toNat)) (enumL (namesL s e))) = (firstL (namesL s e)).map Datum.toD := by
        unfold firstL
        rw [List.map_map]
        rfl
      rw [e2]
      refine wComp_m Datum.toD (fun n => Datum.toD ((n, valO s e n) : Str × Option Str)) _ (fun n _ Q q => ?_) ?_
      · simp only [sSeq, sSet, sSetF, sRet, sRetN, sRetF, sNext, sIf, sFor, sAsg, sDrop, sBreak, sCont, w2, w1, wF1, wF, wC, wTst, wNot, wAnd, wOr, wAndV, wOrV, wNotV, wIfE, wIsN, wNotN, wTup, wCons, wNil, wCall, wCallL, wCallB, aD, aO, aNil, wLc, wSeqI, wEnum, wZip, wRg1, wO0, wO1, wSl, wNeg, wCat, wRevL, wIsi, wIsi2, wGn, wGtup, wGcons, wGnil, wYes, wipeE, endD, lawD, wVar, wOwn, List.getD_cons_zero, List.getD_cons_succ, List.set_cons_zero, List.set_cons_succ, Bool.false_eq_true, false_imp_iff, true_and, and_true, if_true, if_false, List.length_cons, List.length_nil, gTuple_lst, gAdd_int, gSub_int, gIxR0, gIxR1, gIxR2, gIxR3, isSeq_tup, isSeq_list, itemsD_tup, itemsD_list, isSeq_lst, itemsD_lst, isSeq_tp, itemsD_tp, gLenTup, gLenList, enumD_map, toD_pair, toD_int, toD_str, toD_bool, ite_self, reduceIte]
        exact ⟨s, e, n, rfl, q⟩
      · have h : P (.list ((stylesL s e).map Datum.toD)) := h
        unfold stylesL at h
        rw [List.map_map] at h
        exact h
end Dat

/-! Pl: Python's order on typed data is a total order; sorting. -/
namespace Dat
open PySem PySem.Spec PyProof.Rows L2
open PySem.W (Datum DatumOrd Tup)

/-- Python's order is a strict total order -/
class LeL (α : Type) [DecidableEq α] [DatumOrd α] : Prop where
  irrefl : ∀ a : α, DatumOrd.lt a a = false
  trans : ∀ a b c : α, DatumOrd.lt a b = true → DatumOrd.lt b c = true → DatumOrd.lt a c = true
  tri : ∀ a b : α, DatumOrd.lt a b = false → DatumOrd.lt b a = false → a = b
instance : LeL Int where
  irrefl a := decide_eq_false (Int.lt_irrefl a)
  trans a b c h1 h2 := decide_eq_true (Int.lt_trans (of_decide_eq_true h1) (of_decide_eq_true h2))
  tri a b h1 h2 := by
    have := of_decide_eq_false h1
    have := of_decide_eq_false h2
    omega
theorem strLt {a b : Str} : DatumOrd.lt a b = decide (a.cps.toList < b.cps.toList) := rfl
instance : LeL Str where
  irrefl a := by rw [strLt]; exact decide_eq_false (List.lt_irrefl _)
  trans a b c h1 h2 := by
    rw [strLt] at *
    exact decide_eq_true (List.lt_trans (of_decide_eq_true h1) (of_decide_eq_true h2))
  tri a b h1 h2 := by
    rw [strLt] at *
    have e : a.cps.toList = b.cps.toList := List.le_antisymm (List.not_lt.mp (of_decide_eq_false h2)) (List.not_lt.mp (of_decide_eq_false h1))
    cases a
    cases b
    exact congrArg Str.mk (Array.ext' e)
section
variable {α β : Type} [DecidableEq α] [DatumOrd α] [DecidableEq β] [DatumOrd β]
theorem pairLt {p q : α × β} : DatumOrd.lt p q = if p.1 = q.1 then DatumOrd.lt p.2 q.2 else DatumOrd.lt p.1 q.1 := rfl
instance [LeL α] [LeL β] : LeL (α × β) where
  irrefl a := by rw [pairLt, if_pos rfl]; exact LeL.irrefl _
  trans a b c h1 h2 := by
    rw [pairLt] at *
    by_cases e1 : a.1 = b.1
    · by_cases e2 : b.1 = c.1
      · rw [if_pos e1] at h1
        rw [if_pos e2] at h2
        rw [if_pos (e1.trans e2)]
        exact LeL.trans _ _ _ h1 h2
      · rw [if_neg e2] at h2
        rw [if_neg (fun e => e2 (e1.symm.trans e)), e1]
        exact h2
    · rw [if_neg e1] at h1
      by_cases e2 : b.1 = c.1
      · rw [if_neg (fun e => e1 (e.trans e2.symm)), ← e2]
        exact h1
      · rw [if_neg e2] at h2
        have h3 := LeL.trans _ _ _ h1 h2
        rw [if_neg fun e => ?_]
        · exact h3
        · rw [e, LeL.irrefl] at h3
          cases h3
  tri a b h1 h2 := by
    rw [pairLt] at *
    by_cases e1 : a.1 = b.1
    · rw [if_pos e1] at h1
      rw [if_pos e1.symm] at h2
      exact Prod.ext e1 (LeL.tri _ _ h1 h2)
    · rw [if_neg e1] at h1
      rw [if_neg (Ne.symm e1)] at h2
      exact absurd (LeL.tri _ _ h1 h2) e1
theorem listLt_irrefl [LeL α] : ∀ a : List α, PySem.W.listLt a a = false
  | [] => rfl
  | x :: xs => by
    unfold PySem.W.listLt
    rw [if_pos rfl]
    exact listLt_irrefl xs
theorem listLt_trans [LeL α] : ∀ a b c : List α, PySem.W.listLt a b = true → PySem.W.listLt b c = true → PySem.W.listLt a c = true
  | [], [], _, h, _ => by cases h
  | [], _ :: _, [], _, h => by cases h
  | [], _ :: _, _ :: _, _, _ => rfl
  | _ :: _, [], _, h, _ => by cases h
  | _ :: _, _ :: _, [], _, h => by cases h
  | x :: xs, y :: ys, z :: zs, h1, h2 => by
    unfold PySem.W.listLt at *
    by_cases e1 : x = y
    · by_cases e2 : y = z
      · rw [if_pos e1] at h1
        rw [if_pos e2] at h2
        rw [if_pos (e1.trans e2)]
        exact listLt_trans _ _ _ h1 h2
      · rw [if_neg e2] at h2
        rw [if_neg (fun e => e2 (e1.symm.trans e)), e1]
        exact h2
    · rw [if_neg e1] at h1
      by_cases e2 : y = z
      · rw [if_neg (fun e => e1 (e.trans e2.symm)), ← e2]
        exact h1
      · rw [if_neg e2] at h2
        have h3 := LeL.trans _ _ _ h1 h2
        rw [if_neg fun e => ?_]
        · exact h3
        · rw [e, LeL.irrefl] at h3
          cases h3
theorem listLt_tri [LeL α] : ∀ a b : List α, PySem.W.listLt a b = false → PySem.W.listLt b a = false → a = b
  | [], [], _, _ => rfl
  | [], _ :: _, h, _ => by cases h
  | _ :: _, [], _, h => by cases h
  | x :: xs, y :: ys, h1, h2 => by
    unfold PySem.W.listLt at *
    by_cases e1 : x = y
    · rw [if_pos e1] at h1
      rw [if_pos e1.symm] at h2
      rw [e1, listLt_tri xs ys h1 h2]
    · rw [if_neg e1] at h1
      rw [if_neg (Ne.symm e1)] at h2
      exact absurd (LeL.tri _ _ h1 h2) e1
instance [LeL α] : LeL (List α) where
  irrefl a := listLt_irrefl a
  trans a b c := listLt_trans a b c
  tri a b := listLt_tri a b
instance [LeL α] : LeL (Tup α) where
  irrefl a := listLt_irrefl a.items
  trans a b c := listLt_trans a.items b.items c.items
  tri a b h1 h2 := by
    have := listLt_tri a.items b.items h1 h2
    cases a
    cases b
    exact congrArg Tup.mk this
theorem leOf_refl [LeL α] (a : α) : leOf a a = true := by unfold leOf; rw [LeL.irrefl]; rfl
theorem leOf_total [LeL α] (a b : α) : leOf a b = true ∨ leOf b a = true := by
  unfold leOf
  cases h1 : DatumOrd.lt b a with
  | false => exact .inl rfl
  | true =>
    cases h2 : DatumOrd.lt a b with
    | false => exact .inr rfl
    | true =>
      have := LeL.trans _ _ _ h1 h2
      rw [LeL.irrefl] at this
      cases this
theorem leOf_anti [LeL α] {a b : α} (h1 : leOf a b = true) (h2 : leOf b a = true) : a = b := by
  unfold leOf at *
  exact LeL.tri _ _ (by simpa using h2) (by simpa using h1)
theorem lt_leOf [LeL α] {a b : α} (h : DatumOrd.lt a b = true) : leOf a b = true := by
  unfold leOf
  cases h2 : DatumOrd.lt b a with
  | false => rfl
  | true =>
    have := LeL.trans _ _ _ h h2
    rw [LeL.irrefl] at this
    cases this
theorem leOf_trans [LeL α] {a b c : α} (h1 : leOf a b = true) (h2 : leOf b c = true) : leOf a c = true := by
  by_cases e : a = b
  · rw [e]; exact h2
  · cases q : DatumOrd.lt a b with
    | false =>
      unfold leOf at h1
      exact absurd (LeL.tri _ _ q (by simpa using h1)) e
    | true =>
      by_cases e2 : b = c
      · rw [← e2]; exact h1
      · cases q2 : DatumOrd.lt b c with
        | false =>
          unfold leOf at h2
          exact absurd (LeL.tri _ _ q2 (by simpa using h2)) e2
        | true => exact lt_leOf (LeL.trans _ _ _ q q2)
theorem leOf_tot [LeL α] : PySem.W.TotalLe (leOf : α → α → Bool) := ⟨fun _ _ _ => leOf_trans, leOf_total⟩
theorem sorted_pair [LeL α] (l : List α) : (l.mergeSort leOf).Pairwise (fun a b => leOf a b = true) := PySem.W.sort_pairwise leOf_tot l
/-- the head of the list sorted downwards is the greatest -/
theorem sort_head [LeL α] {l : List α} {m : α} (hm : m ∈ l) (h : ∀ y ∈ l, leOf y m = true) : (l.mergeSort leOf).reverse.head? = some m := by
  rw [List.head?_reverse]
  have hmem : m ∈ l.mergeSort leOf := List.mem_mergeSort.mpr hm
  cases q : (l.mergeSort leOf).getLast? with
  | none =>
    rw [List.getLast?_eq_none_iff] at q
    rw [q] at hmem
    cases hmem
  | some z =>
    obtain ⟨ys, e⟩ := List.getLast?_eq_some_iff.mp q
    have hz : z ∈ l := by
      have : z ∈ l.mergeSort leOf := by rw [e]; simp
      exact List.mem_mergeSort.mp this
    have hp := sorted_pair l
    rw [e, List.pairwise_append] at hp
    have hmz : leOf m z = true := by
      rw [e] at hmem
      rcases List.mem_append.mp hmem with h1 | h1
      · exact hp.2.2 m h1 z (List.mem_singleton_self _)
      · rw [List.mem_singleton.mp h1]; exact leOf_refl _
    rw [leOf_anti (h z hz) hmz]
/-- two sorted lists with the same items, each once, are one -/
theorem sort_nodup_eq [LeL α] {l m : List α} (hl : l.Nodup) (hm : m.Nodup) (hp : m.Pairwise fun a b => leOf a b = true) (h : ∀ a, a ∈ l ↔ a ∈ m) : l.mergeSort leOf = m := by
  have hperm : (l.mergeSort leOf).Perm m := (List.mergeSort_perm l leOf).trans ((List.perm_ext_iff_of_nodup hl hm).mpr h)
  exact hperm.eq_of_pairwise (fun a b _ _ h1 h2 => leOf_anti h1 h2) (sorted_pair l) hp
end
end Dat

/-! Hlp: the laws' own helpers over data. -/
namespace Dat
open PySem PySem.Spec PyProof.Rows L2
open PySem.W (Datum DatumOrd Tup)

/-! ### the best rule, walked from the first to the last -/
def candL (s : Sheet) (e : Tags) (n : Str) : List (Int × Rule) := (matchP s e).filter fun p => decide (p.2.c = n)
def bestStep (b : Option (Int × Rule)) (p : Int × Rule) : Option (Int × Rule) := match b with
  | none => some p
  | some q => if DatumOrd.lt (levelOf p.2) (levelOf q.2) = true then some q else some p
def keyOf (p : Int × Rule) : (Int × Int) × Int := (levelOf p.2, p.1)
theorem key_le {p q : Int × Rule} : leOf (keyOf p) (keyOf q) = true ↔ DatumOrd.lt (levelOf p.2) (levelOf q.2) = true ∨ (levelOf p.2 = levelOf q.2 ∧ p.1 ≤ q.1) := by
  unfold leOf keyOf
  rw [pairLt]
  dsimp only
  by_cases e : levelOf q.2 = levelOf p.2
  · rw [if_pos e, e, LeL.irrefl]
    constructor
    · intro h
      refine .inr ⟨rfl, ?_⟩
      have h : (!decide (q.1 < p.1)) = true := h
      simpa using h
    · rintro (h | h)
      · cases h
      · show (!decide (q.1 < p.1)) = true
        simpa using h.2
  · rw [if_neg e]
    constructor
    · intro h
      left
      cases h2 : DatumOrd.lt (levelOf p.2) (levelOf q.2) with
      | true => rfl
      | false => exact absurd (LeL.tri _ _ (by simpa using h) h2) e
    · rintro (h | h)
      · exact lt_leOf h
      · exact absurd h.1.symm e
theorem fold_best : ∀ (l : List (Int × Rule)) (b : Option (Int × Rule)) (pre : List (Int × Rule)), (∀ q, b = some q → q ∈ pre ∧ ∀ p ∈ pre, leOf (keyOf p) (keyOf q) = true) → (b = none → pre = []) → (∀ p ∈ pre, ∀ q ∈ l, p.1 < q.1) → l.Pairwise (fun p q => p.1 < q.1) →
    (∀ q, l.foldl bestStep b = some q → q ∈ pre ++ l ∧ ∀ p ∈ pre ++ l, leOf (keyOf p) (keyOf q) = true) ∧ (l.foldl bestStep b = none → pre ++ l = [])
  | [], b, pre, h1, h2, _, _ => by
    rw [List.append_nil]
    exact ⟨h1, h2⟩
  | p :: l, b, pre, h1, h2, h3, h4 => by
    rw [List.foldl_cons]
    rw [List.pairwise_cons] at h4
    have := fold_best l (bestStep b p) (pre ++ [p]) (fun q hq => ?_) (fun hq => ?_) (fun x hx q hq => ?_) h4.2
    · rw [List.append_assoc] at this
      exact this
    · unfold bestStep at hq
      cases b with
      | none =>
        cases hq
        rw [h2 rfl]
        refine ⟨by simp, fun x hx => ?_⟩
        simp at hx
        subst hx
        exact leOf_refl _
      | some q0 =>
        obtain ⟨m0, g0⟩ := h1 q0 rfl
        dsimp only at hq
        cases hl : DatumOrd.lt (levelOf p.2) (levelOf q0.2) with
        | true =>
          rw [hl, if_pos rfl] at hq
          cases hq
          refine ⟨by simp [m0], fun x hx => ?_⟩
          rcases List.mem_append.mp hx with hx | hx
          · exact g0 x hx
          · simp at hx
            subst hx
            exact key_le.mpr (.inl hl)
        | false =>
          rw [hl, if_neg (by simp)] at hq
          cases hq
          refine ⟨by simp, fun x hx => ?_⟩
          rcases List.mem_append.mp hx with hx | hx
          · refine leOf_trans (g0 x hx) (key_le.mpr ?_)
            cases hl2 : DatumOrd.lt (levelOf q0.2) (levelOf p.2) with
            | true => exact .inl rfl
            | false => exact .inr ⟨LeL.tri _ _ hl2 hl, Int.le_of_lt (h3 q0 m0 p (List.mem_cons_self ..))⟩
          · simp at hx
            subst hx
            exact leOf_refl _
    · unfold bestStep at hq
      cases b with
      | none => cases hq
      | some q0 =>
        dsimp only at hq
        split at hq <;> cases hq
    · rcases List.mem_append.mp hx with hx | hx
      · exact h3 x hx q (List.mem_cons_of_mem _ hq)
      · simp at hx
        subst hx
        exact h4.1 q hq
theorem enumL_pair {α : Type} (xs : List α) : (enumL xs).Pairwise (fun p q => p.1 < q.1) := by
  unfold enumL
  rw [List.pairwise_iff_getElem]
  intro i j hi hj hij
  rw [List.getElem_mapIdx, List.getElem_mapIdx]
  exact Int.ofNat_lt.mpr hij
theorem cand_pair (s : Sheet) (e : Tags) (n : Str) : (candL s e n).Pairwise (fun p q => p.1 < q.1) := ((enumL_pair s.items).filter _).filter _
theorem rank_cand (s : Sheet) (e : Tags) (n : Str) : rankRows s e n = (candL s e n).map keyOf := rfl
/-- the winner: the greatest by level and place -/
theorem winI_of {s : Sheet} {e : Tags} {n : Str} {q : Int × Rule} (hq : q ∈ candL s e n) (h : ∀ p ∈ candL s e n, leOf (keyOf p) (keyOf q) = true) : winI s e n = some q.1 := by
  unfold winI rankL
  rw [List.head?_map, rank_cand]
  rw [sort_head (m := keyOf q) (List.mem_map.mpr ⟨q, hq, rfl⟩) fun y hy => ?_]
  · rfl
  · obtain ⟨p, hp, rfl⟩ := List.mem_map.mp hy
    exact h p hp
theorem winI_no {s : Sheet} {e : Tags} {n : Str} (h : candL s e n = []) : winI s e n = none := by
  unfold winI rankL
  rw [rank_cand, h]
  simp
theorem best_win (s : Sheet) (e : Tags) (n : Str) : ((candL s e n).foldl bestStep none).map (·.1) = winI s e n := by
  have h := fold_best (candL s e n) none [] (fun q hq => by cases hq) (fun _ => rfl) (fun p hp => by cases hp) (cand_pair s e n)
  rw [List.nil_append] at h
  cases q : (candL s e n).foldl bestStep none with
  | none => rw [winI_no (h.2 q)]; rfl
  | some p =>
    obtain ⟨h1, h2⟩ := h.1 p q
    rw [winI_of h1 h2]
    rfl

def C__law_level : Con := C_level
def C__law_best : Con := C_winner
def C__law_value : Con := C_value_of
def W__law_level : WS :=
  (sRet (wTup (wCons (w2 gIx (wVar 0) (wC (.int 1))) (wCons (w1 gLen (w2 gIx (wVar 0) (wC (.int 0)))) wNil))))

def B__law_best_0 : WS :=
  (sIf (wAnd (wTst (w2 gEq (w2 gIx (wVar 5) (wC (.int 2))) (wVar 2))) (wTst (w2 gEq (wF (wLc (wSeqI (w2 gIx (wVar 5) (wC (.int 0)))) (wGn 6) (wTst (w2 gNi (wVar 6) (wVar 1))) (wVar 6) [6])) (wF wNil))))
    (sIf (wOr (wTst (wIsN (wVar 3))) (wTst (w2 gGe (wCall C__law_level (aD (wVar 5) aNil)) (wCall C__law_level (aD (w2 gIx (wVar 0) (wVar 3)) aNil)))))
    (sSet 3 (wVar 4))
    sNext)
    sNext)
def W__law_best : WS :=
  (sSeq (sSet 3 (wC .none))
    (sSeq (sFor (wEnum (wVar 0)) (wGtup 2 (wGcons (wGn 4) (wGcons (wGn 5) wGnil))) B__law_best_0)
    (sRet (wVar 3))))

def W__law_value : WS :=
  (sSeq (sSet 3 (wCall C__law_best (aD (wVar 0) (aD (wVar 1) (aD (wVar 2) aNil)))))
    (sRet (wIfE (wTst (wIsN (wVar 3))) (wC .none) (w2 gIx (w2 gIx (wVar 0) (wVar 3)) (wC (.int 3))))))

theorem body__law_level : ∀ cs P, cs.length = 1 → C__law_level cs P → noOwn cs ∧ W__law_level (startE 1 cs) (endD false P) := body_level
theorem match_filter (r : Rule) (e : Tags) : decide (r.a.items.filter (fun t => !decide (t ∈ e.items)) = []) = matchB r e := by
  unfold matchB
  rw [Bool.eq_iff_iff, decide_eq_true_eq, List.filter_eq_nil_iff, List.all_eq_true]
  constructor
  · intro h t ht
    have := h t ht
    simpa using this
  · intro h t ht
    have := h t ht
    simpa using this
theorem sLoop_cons {g : WG} {wb : WS} {D : DEnds} {d : PyData} {ds : List PyData} {ρ : Env} : sLoop g wb D (d :: ds) ρ = g d ρ fun ρ1 => wb ρ1 { D with nx := sLoop g wb D ds, ct := sLoop g wb D ds, bk := D.nx } := rfl
theorem sLoop_nil {g : WG} {wb : WS} {D : DEnds} {ρ : Env} : sLoop g wb D [] ρ = D.nx ρ := rfl
theorem loop_best {s : Sheet} {e : Tags} {n : Str} {D : DEnds} : ∀ (rest : List (Int × Rule)) (b : Option (Int × Rule)) (x4 x5 x6 : Option Cell), (∀ q, b = some q → q ∈ enumL s.items) → (∀ p ∈ rest, p ∈ enumL s.items) →
    (∀ x4 x5 x6, D.nx [some (.d (Datum.toD s)), some (.d (Datum.toD e)), some (.d (.str n)), some (.d (Datum.toD ((((rest.filter fun p => matchB p.2 e).filter fun p => decide (p.2.c = n)).foldl bestStep b).map (·.1)))), x4, x5, x6]) →
    sLoop (wGtup 2 (wGcons (wGn 4) (wGcons (wGn 5) wGnil))) B__law_best_0 D (rest.map Datum.toD) [some (.d (Datum.toD s)), some (.d (Datum.toD e)), some (.d (.str n)), some (.d (Datum.toD (b.map (·.1)))), x4, x5, x6]
  | [], b, x4, x5, x6, _, _, h => h x4 x5 x6
  | p :: rest, b, x4, x5, x6, hb, hr, h => by
    have hp := hr p (List.mem_cons_self ..)
    have hr' : ∀ p ∈ rest, p ∈ enumL s.items := fun q hq => hr q (List.mem_cons_of_mem _ hq)
    rw [List.map_cons, sLoop_cons]
    generalize hK : sLoop (wGtup 2 (wGcons (wGn 4) (wGcons (wGn 5) wGnil))) B__law_best_0 D (rest.map Datum.toD) = k
    unfold B__law_best_0
    simp only [sSeq, sSet, sSetF, sRet, sRetN, sRetF, sNext, sIf, sFor, sAsg, sDrop, sBreak, sCont, w2, w1, wF1, wF, wC, wTst, wNot, wAnd, wOr, wAndV, wOrV, wNotV, wIfE, wIsN, wNotN, wTup, wCons, wNil, wCall, wCallL, wCallB, aD, aO, aNil, wLc, wSeqI, wEnum, wZip, wRg1, wO0, wO1, wSl, wNeg, wCat, wRevL, wIsi, wIsi2, wGn, wGtup, wGcons, wGnil, wYes, wipeE, endD, lawD, wVar, wOwn, List.getD_cons_zero, List.getD_cons_succ, List.set_cons_zero, List.set_cons_succ, Bool.false_eq_true, false_imp_iff, true_and, and_true, if_true, if_false, List.length_cons, List.length_nil, gTuple_lst, gAdd_int, gSub_int, gIxR0, gIxR1, gIxR2, gIxR3, isSeq_tup, isSeq_list, itemsD_tup, itemsD_list, isSeq_lst, itemsD_lst, isSeq_tp, itemsD_tp, gLenTup, gLenList, enumD_map, toD_pair, toD_int, toD_str, toD_bool, ite_self, reduceIte]
    subst hK
    refine gEq_ (α := Str) (by decide) ?_
    refine ifB (fun c1 => ?_) fun c1 => ?_
    · refine wComp_fm Datum.toD (fun t => !decide (t ∈ e.items)) (fun t => Datum.toD t) _ (fun t _ Q R h1 h2 => ?_) ?_
      · simp only [sSeq, sSet, sSetF, sRet, sRetN, sRetF, sNext, sIf, sFor, sAsg, sDrop, sBreak, sCont, w2, w1, wF1, wF, wC, wTst, wNot, wAnd, wOr, wAndV, wOrV, wNotV, wIfE, wIsN, wNotN, wTup, wCons, wNil, wCall, wCallL, wCallB, aD, aO, aNil, wLc, wSeqI, wEnum, wZip, wRg1, wO0, wO1, wSl, wNeg, wCat, wRevL, wIsi, wIsi2, wGn, wGtup, wGcons, wGnil, wYes, wipeE, endD, lawD, wVar, wOwn, List.getD_cons_zero, List.getD_cons_succ, List.set_cons_zero, List.set_cons_succ, Bool.false_eq_true, false_imp_iff, true_and, and_true, if_true, if_false, List.length_cons, List.length_nil, gTuple_lst, gAdd_int, gSub_int, gIxR0, gIxR1, gIxR2, gIxR3, isSeq_tup, isSeq_list, itemsD_tup, itemsD_list, isSeq_lst, itemsD_lst, isSeq_tp, itemsD_tp, gLenTup, gLenList, enumD_map, toD_pair, toD_int, toD_str, toD_bool, ite_self, reduceIte]
        refine gNiT_ (α := Str) (by decide) ?_
        exact ifB h1 h2
      · refine gEq_ (α := List Str) (b := []) (by decide) ?_
        rw [match_filter]
        refine ifB (fun c2 => ?_) fun c2 => ?_
        · simp only [List.filter_cons, c2, c1, reduceIte, List.foldl_cons] at h
          have keep : ∀ b', bestStep b p = b' → sLoop (wGtup 2 (wGcons (wGn 4) (wGcons (wGn 5) wGnil))) B__law_best_0 D (rest.map Datum.toD) [some (.d (Datum.toD s)), some (.d (Datum.toD e)), some (.d (.str n)), some (.d (Datum.toD (b'.map (·.1)))), some (.d (.int p.1)), some (.d (Datum.toD p.2)), x6] := fun b' e => by
            rw [e] at h
            refine loop_best rest b' _ _ _ (fun q hq => ?_) hr' h
            subst e
            unfold bestStep at hq
            cases b with
            | none => cases hq; exact hp
            | some q0 =>
              dsimp only at hq
              split at hq
              · cases hq; exact hb _ rfl
              · cases hq; exact hp
          cases b with
          | none => exact keep (some p) rfl
          | some q =>
            show C__law_level _ _
            refine ⟨p.2, rfl, gIxT_ (mem_atI (hb q rfl)) ⟨q.2, rfl, gGe_ (α := Int × Int) (by decide) (ifB (fun c3 => ?_) fun c3 => ?_)⟩⟩
            · refine keep (some p) ?_
              unfold bestStep
              dsimp only
              rw [if_neg (by simpa using c3)]
            · refine keep (some q) ?_
              unfold bestStep
              dsimp only
              rw [if_pos (by simpa using c3)]
        · simp only [List.filter_cons, c2, Bool.false_eq_true, reduceIte] at h
          exact loop_best rest b _ _ _ hb hr' h
    · refine loop_best rest b _ _ _ hb hr' ?_
      cases c2 : matchB p.2 e with
      | true =>
        simp only [List.filter_cons, c2, c1, Bool.false_eq_true, reduceIte] at h
        exact h
      | false =>
        simp only [List.filter_cons, c2, Bool.false_eq_true, reduceIte] at h
        exact h
theorem body__law_best : ∀ cs P, cs.length = 3 → C__law_best cs P → noOwn cs ∧ W__law_best (startE 7 cs) (endD false P) := by
  rintro cs P _ ⟨s, e, n, rfl, h⟩
  refine ⟨noOwn3, ?_⟩
  show W__law_best [some (.d (Datum.toD s)), some (.d (Datum.toD e)), some (.d (.str n)), none, none, none, none] _
  unfold W__law_best
  simp only [sSeq, sSet, sSetF, sRet, sRetN, sRetF, sNext, sIf, sFor, sAsg, sDrop, sBreak, sCont, w2, w1, wF1, wF, wC, wTst, wNot, wAnd, wOr, wAndV, wOrV, wNotV, wIfE, wIsN, wNotN, wTup, wCons, wNil, wCall, wCallL, wCallB, aD, aO, aNil, wLc, wSeqI, wEnum, wZip, wRg1, wO0, wO1, wSl, wNeg, wCat, wRevL, wIsi, wIsi2, wGn, wGtup, wGcons, wGnil, wYes, wipeE, endD, lawD, wVar, wOwn, List.getD_cons_zero, List.getD_cons_succ, List.set_cons_zero, List.set_cons_succ, Bool.false_eq_true, false_imp_iff, true_and, and_true, if_true, if_false, List.length_cons, List.length_nil, gTuple_lst, gAdd_int, gSub_int, gIxR0, gIxR1, gIxR2, gIxR3, isSeq_tup, isSeq_list, itemsD_tup, itemsD_list, isSeq_lst, itemsD_lst, isSeq_tp, itemsD_tp, gLenTup, gLenList, enumD_map, toD_pair, toD_int, toD_str, toD_bool, ite_self, reduceIte]
  refine loop_best (enumL s.items) none _ _ _ (fun q hq => by cases hq) (fun p hp => hp) fun x4 x5 x6 => ?_
  have hb := best_win s e n
  unfold candL matchP at hb
  rw [hb]
  exact h
theorem body__law_value : ∀ cs P, cs.length = 3 → C__law_value cs P → noOwn cs ∧ W__law_value (startE 4 cs) (endD false P) := by
  rintro cs P _ ⟨s, e, n, rfl, h⟩
  refine ⟨noOwn3, ?_⟩
  show W__law_value [some (.d (Datum.toD s)), some (.d (Datum.toD e)), some (.d (.str n)), none] _
  unfold W__law_value
  simp only [sSeq, sSet, sSetF, sRet, sRetN, sRetF, sNext, sIf, sFor, sAsg, sDrop, sBreak, sCont, w2, w1, wF1, wF, wC, wTst, wNot, wAnd, wOr, wAndV, wOrV, wNotV, wIfE, wIsN, wNotN, wTup, wCons, wNil, wCall, wCallL, wCallB, aD, aO, aNil, wLc, wSeqI, wEnum, wZip, wRg1, wO0, wO1, wSl, wNeg, wCat, wRevL, wIsi, wIsi2, wGn, wGtup, wGcons, wGnil, wYes, wipeE, endD, lawD, wVar, wOwn, List.getD_cons_zero, List.getD_cons_succ, List.set_cons_zero, List.set_cons_succ, Bool.false_eq_true, false_imp_iff, true_and, and_true, if_true, if_false, List.length_cons, List.length_nil, gTuple_lst, gAdd_int, gSub_int, gIxR0, gIxR1, gIxR2, gIxR3, isSeq_tup, isSeq_list, itemsD_tup, itemsD_list, isSeq_lst, itemsD_lst, isSeq_tp, itemsD_tp, gLenTup, gLenList, enumD_map, toD_pair, toD_int, toD_str, toD_bool, ite_self, reduceIte]
  refine ⟨s, e, n, rfl, ?_⟩
  simp only [sSeq, sSet, sSetF, sRet, sRetN, sRetF, sNext, sIf, sFor, sAsg, sDrop, sBreak, sCont, w2, w1, wF1, wF, wC, wTst, wNot, wAnd, wOr, wAndV, wOrV, wNotV, wIfE, wIsN, wNotN, wTup, wCons, wNil, wCall, wCallL, wCallB, aD, aO, aNil, wLc, wSeqI, wEnum, wZip, wRg1, wO0, wO1, wSl, wNeg, wCat, wRevL, wIsi, wIsi2, wGn, wGtup, wGcons, wGnil, wYes, wipeE, endD, lawD, wVar, wOwn, List.getD_cons_zero, List.getD_cons_succ, List.set_cons_zero, List.set_cons_succ, Bool.false_eq_true, false_imp_iff, true_and, and_true, if_true, if_false, List.length_cons, List.length_nil, gTuple_lst, gAdd_int, gSub_int, gIxR0, gIxR1, gIxR2, gIxR3, isSeq_tup, isSeq_list, itemsD_tup, itemsD_list, isSeq_lst, itemsD_lst, isSeq_tp, itemsD_tp, gLenTup, gLenList, enumD_map, toD_pair, toD_int, toD_str, toD_bool, ite_self, reduceIte]
  unfold valO at h
  cases q : winI s e n with
  | none => rw [q] at h; exact h
  | some i =>
    rw [q] at h
    obtain ⟨r, hr⟩ := winI_some q
    have h : P (Datum.toD ((L2.atI s.items i).map (·.d))) := h
    rw [hr] at h
    refine gIxT_ hr ?_
    simp only [sSeq, sSet, sSetF, sRet, sRetN, sRetF, sNext, sIf, sFor, sAsg, sDrop, sBreak, sCont, w2, w1, wF1, wF, wC, wTst, wNot, wAnd, wOr, wAndV, wOrV, wNotV, wIfE, wIsN, wNotN, wTup, wCons, wNil, wCall, wCallL, wCallB, aD, aO, aNil, wLc, wSeqI, wEnum, wZip, wRg1, wO0, wO1, wSl, wNeg, wCat, wRevL, wIsi, wIsi2, wGn, wGtup, wGcons, wGnil, wYes, wipeE, endD, lawD, wVar, wOwn, List.getD_cons_zero, List.getD_cons_succ, List.set_cons_zero, List.set_cons_succ, Bool.false_eq_true, false_imp_iff, true_and, and_true, if_true, if_false, List.length_cons, List.length_nil, gTuple_lst, gAdd_int, gSub_int, gIxR0, gIxR1, gIxR2, gIxR3, isSeq_tup, isSeq_list, itemsD_tup, itemsD_list, isSeq_lst, itemsD_lst, isSeq_tp, itemsD_tp, gLenTup, gLenList, enumD_map, toD_pair, toD_int, toD_str, toD_bool, ite_self, reduceIte]
    exact h
end Dat

/-! Hlq: the laws' drawn sheets, elements, comparisons. -/
namespace Dat
open PySem PySem.Spec PyProof.Rows L2
open PySem.W (Datum DatumOrd Tup)

theorem draw_ {T L : Addr} {m : Int} {P : PyData → Prop} (h0 : 0 < m) (hm : m < 2 ^ 64) (h : ∀ r, 0 ≤ r → r < m → P (.int r)) : C_draw [.obj T (.tape L), .d (.int m)] P := ⟨T, L, m, rfl, h0, hm, h⟩
theorem atI_in {α : Type} {xs : List α} {r : Int} (h0 : 0 ≤ r) (h1 : r < xs.length) : ∃ x, x ∈ xs ∧ L2.atI xs r = some x := by
  have hr : r.toNat < xs.length := by omega
  refine ⟨xs[r.toNat], List.getElem_mem hr, ?_⟩
  have e : (r.toNat : Int) = r := by omega
  have h := atI_nat (xs := xs) (j := r.toNat) (List.getElem?_eq_getElem hr)
  rw [e] at h
  exact h
theorem gAddT_ {α : Type} [DecidableEq α] [Datum α] {xs ys : Tup α} {P : PyData → Prop} (hz : xs.items.length + ys.items.length ≤ 16777216) (h : P (Datum.toD (Tup.mk (xs.items ++ ys.items)))) : gAdd (Datum.toD xs) (Datum.toD ys) P := by
  refine ⟨?_, ?_⟩
  · rw [List.length_map, List.length_map, sizeLine_eq]
    omega
  · rw [← List.map_append]
    exact h
theorem gAddL_ {α : Type} [DecidableEq α] [Datum α] {xs ys : List α} {P : PyData → Prop} (hz : xs.length + ys.length ≤ 16777216) (h : P (.list ((xs ++ ys).map Datum.toD))) : gAdd (.list (xs.map Datum.toD)) (.list (ys.map Datum.toD)) P := by
  refine ⟨?_, ?_⟩
  · rw [List.length_map, List.length_map, sizeLine_eq]
    omega
  · rw [← List.map_append]
    exact h
def RuleOk (pool : Tags) (r : Rule) : Prop := r.a.items.Sublist pool.items ∧ r.a.items.length ≤ 3 ∧ r.b ∈ [(0 : Int), 1, 3] ∧ r.c ∈ [("p" : Str), "q"] ∧ r.d ∈ [("x" : Str), "y", "z"]
structure SheetOk (m : Nat) (pool : Tags) (s : Sheet) : Prop where
  nd : s.items.Nodup
  len : s.items.length ≤ m
  ok : ∀ r ∈ s.items, RuleOk pool r
def C__law_tags : Con := fun cs P => ∃ (T L : Addr) (pool : Tags) (m : Int), cs = [.obj T (.tape L), .d (Datum.toD pool), .d (.int m)] ∧ pool.items.length ≤ 1000 ∧ ∀ f : Tags, f.items.Sublist pool.items → (f.items.length : Int) ≤ max 0 m → P (Datum.toD f)
def C__law_rule : Con := fun cs P => ∃ (T L : Addr) (pool : Tags), cs = [.obj T (.tape L), .d (Datum.toD pool)] ∧ pool.items.length ≤ 1000 ∧ ∀ r : Rule, RuleOk pool r → P (Datum.toD r)
def C__law_sheet : Con := fun cs P => ∃ (T L : Addr) (m : Int) (pool : Tags), cs = [.obj T (.tape L), .d (.int m), .d (Datum.toD pool)] ∧ 0 ≤ m ∧ m ≤ 1000 ∧ pool.items.length ≤ 1000 ∧ ∀ s : Sheet, SheetOk m.toNat pool s → P (Datum.toD s)
def subsF : List Str → List Tags → List Tags
  | [], f => f
  | t :: ts, f => subsF ts (f ++ f.map fun e => Tup.mk (e.items ++ [t]))
def elementsL (pool : Tags) : List Tags := (subsF pool.items [Tup.mk []]).mergeSort leOf
def C__law_elements : Con := fun cs P => ∃ pool : Tags, cs = [.d (Datum.toD pool)] ∧ pool.items.length ≤ 10 ∧ P (Datum.toD (elementsL pool))
def B__law_tags_0 : WS :=
  (sIf (wAnd (wTst (w2 gLt (w1 gLen (wVar 3)) (wVar 2))) (wTst (w2 gEq (wCall C_draw (aO 0 (aD (wC (.int 2)) aNil))) (wC (.int 0)))))
    (sSet 3 (w2 gAdd (wVar 3) (wTup (wCons (wVar 4) wNil))))
    sNext)
def W__law_tags : WS :=
  (sSeq (sSet 3 (wTup wNil))
    (sSeq (sFor (wSeqI (wVar 1)) (wGn 4) B__law_tags_0)
    (sRet (wVar 3))))

def W__law_rule : WS :=
  (sSeq (sSet 2 (w2 gIx (wF (wCons (wC (.int 0)) (wCons (wC (.int 0)) (wCons (wC (.int 0)) (wCons (wC (.int 1)) (wCons (wC (.int 3)) wNil)))))) (wCall C_draw (aO 0 (aD (wC (.int 5)) aNil)))))
    (sSeq (sSet 3 (w2 gIx (wF (wCons (wC (.str "p")) (wCons (wC (.str "p")) (wCons (wC (.str "q")) wNil)))) (wCall C_draw (aO 0 (aD (wC (.int 3)) aNil)))))
    (sRet (wTup (wCons (wCall C__law_tags (aO 0 (aD (wVar 1) (aD (w2 gAdd (wC (.int 1)) (wCall C_draw (aO 0 (aD (wC (.int 3)) aNil)))) aNil)))) (wCons (wVar 2) (wCons (wVar 3) (wCons (w2 gIx (wF (wCons (wC (.str "x")) (wCons (wC (.str "y")) (wCons (wC (.str "z")) wNil)))) (wCall C_draw (aO 0 (aD (wC (.int 3)) aNil)))) wNil))))))))

def B__law_sheet_0 : WS :=
  (sSeq (sSet 5 (wCall C__law_rule (aO 0 (aD (wVar 2) aNil))))
    (sIf (wTst (w2 gNi (wVar 5) (wVar 3)))
    (sSet 3 (w2 gAdd (wVar 3) (wTup (wCons (wVar 5) wNil))))
    sNext))
def W__law_sheet : WS :=
  (sSeq (sSet 3 (wTup wNil))
    (sSeq (sFor (wRg1 (wCall C_draw (aO 0 (aD (w2 gAdd (wVar 1) (wC (.int 1))) aNil)))) (wGn 4) B__law_sheet_0)
    (sRet (wVar 3))))

def B__law_elements_0 : WS :=
  (sSet 1 (w2 gAdd (wVar 1) (wF (wLc (wSeqI (wVar 1)) (wGn 3) wYes (w2 gAdd (wVar 3) (wTup (wCons (wVar 2) wNil))) [3]))))
def W__law_elements : WS :=
  (sSeq (sSet 1 (wF (wCons (wTup wNil) wNil)))
    (sSeq (sFor (wSeqI (wVar 0)) (wGn 2) B__law_elements_0)
    (sRet (wF (wF1 gSorted (wVar 1))))))

theorem loop_tags {T L : Addr} {pool : Tags} {m : Int} {D : DEnds} : ∀ (rest : List Str) (f : Tags) (x4 : Option Cell), f.items.length + rest.length ≤ 1000 → 
    (∀ (g : List Str) x4, g.Sublist rest → ((f.items ++ g).length : Int) ≤ max (f.items.length : Int) m → D.nx [some (.obj T (.tape L)), some (.d (Datum.toD pool)), some (.d (.int m)), some (.d (Datum.toD (Tup.mk (f.items ++ g)))), x4]) →
    sLoop (wGn 4) B__law_tags_0 D (rest.map Datum.toD) [some (.obj T (.tape L)), some (.d (Datum.toD pool)), some (.d (.int m)), some (.d (Datum.toD f)), x4]
  | [], f, x4, _, h => by
    have := h [] x4 (List.Sublist.refl _) (by rw [List.append_nil]; omega)
    rw [List.append_nil] at this
    exact this
  | t :: rest, f, x4, hz, h => by
    rw [List.length_cons] at hz
    rw [List.map_cons, sLoop_cons]
    generalize hK : sLoop (wGn 4) B__law_tags_0 D (rest.map Datum.toD) = k
    unfold B__law_tags_0
    simp only [sSeq, sSet, sSetF, sRet, sRetN, sRetF, sNext, sIf, sFor, sAsg, sDrop, sBreak, sCont, w2, w1, wF1, wF, wC, wTst, wNot, wAnd, wOr, wAndV, wOrV, wNotV, wIfE, wIsN, wNotN, wTup, wCons, wNil, wCall, wCallL, wCallB, aD, aO, aNil, wLc, wSeqI, wEnum, wZip, wRg1, wO0, wO1, wSl, wNeg, wCat, wRevL, wIsi, wIsi2, wGn, wGtup, wGcons, wGnil, wYes, wipeE, endD, lawD, wVar, wOwn, List.getD_cons_zero, List.getD_cons_succ, List.set_cons_zero, List.set_cons_succ, Bool.false_eq_true, false_imp_iff, true_and, and_true, if_true, if_false, List.length_cons, List.length_nil, gTuple_lst, gAdd_int, gSub_int, gIxR0, gIxR1, gIxR2, gIxR3, isSeq_tup, isSeq_list, itemsD_tup, itemsD_list, isSeq_lst, itemsD_lst, isSeq_tp, itemsD_tp, gLenTup, gLenList, enumD_map, toD_pair, toD_int, toD_str, toD_bool, ite_self, reduceIte]
    subst hK
    have skip : sLoop (wGn 4) B__law_tags_0 D (rest.map Datum.toD) [some (.obj T (.tape L)), some (.d (Datum.toD pool)), some (.d (.int m)), some (.d (Datum.toD f)), some (.d (Datum.toD t))] :=
      loop_tags rest f _ (by omega) fun g x4 hg hl => h g x4 (hg.cons t) hl
    refine gLt_ (α := Int) (by decide) ?_
    refine ifB (fun c1 => ?_) fun _ => skip
    have c1 : (f.items.length : Int) < m := of_decide_eq_true c1
    refine draw_ (by decide) (by decide) fun r _ _ => ?_
    refine gEq_ (α := Int) (by decide) ?_
    refine ifB (fun _ => ?_) fun _ => skip
    refine gAddT_ (ys := Tup.mk [t]) (by show f.items.length + 1 ≤ 16777216; omega) ?_
    refine loop_tags rest (Tup.mk (f.items ++ [t])) _ (by simp; omega) fun g x4 hg hl => ?_
    have := h (t :: g) x4 (hg.cons₂ t) (by simp at hl ⊢; omega)
    simpa using this
theorem body__law_tags : ∀ cs P, cs.length = 3 → C__law_tags cs P → noOwn cs ∧ W__law_tags (startE 5 cs) (endD false P) := by
  rintro cs P _ ⟨T, L, pool, m, rfl, hp, h⟩
  refine ⟨fun c hc => by simp at hc; rcases hc with e | e | e <;> subst e <;> rfl, ?_⟩
  show W__law_tags [some (.obj T (.tape L)), some (.d (Datum.toD pool)), some (.d (.int m)), none, none] _
  unfold W__law_tags
  simp only [sSeq, sSet, sSetF, sRet, sRetN, sRetF, sNext, sIf, sFor, sAsg, sDrop, sBreak, sCont, w2, w1, wF1, wF, wC, wTst, wNot, wAnd, wOr, wAndV, wOrV, wNotV, wIfE, wIsN, wNotN, wTup, wCons, wNil, wCall, wCallL, wCallB, aD, aO, aNil, wLc, wSeqI, wEnum, wZip, wRg1, wO0, wO1, wSl, wNeg, wCat, wRevL, wIsi, wIsi2, wGn, wGtup, wGcons, wGnil, wYes, wipeE, endD, lawD, wVar, wOwn, List.getD_cons_zero, List.getD_cons_succ, List.set_cons_zero, List.set_cons_succ, Bool.false_eq_true, false_imp_iff, true_and, and_true, if_true, if_false, List.length_cons, List.length_nil, gTuple_lst, gAdd_int, gSub_int, gIxR0, gIxR1, gIxR2, gIxR3, isSeq_tup, isSeq_list, itemsD_tup, itemsD_list, isSeq_lst, itemsD_lst, isSeq_tp, itemsD_tp, gLenTup, gLenList, enumD_map, toD_pair, toD_int, toD_str, toD_bool, ite_self, reduceIte]
  refine loop_tags pool.items (Tup.mk []) _ (by show 0 + _ ≤ 1000; omega) fun g x4 hg hl => ?_
  exact h (Tup.mk g) hg (by simpa using hl)
theorem body__law_rule : ∀ cs P, cs.length = 2 → C__law_rule cs P → noOwn cs ∧ W__law_rule (startE 4 cs) (endD false P) := by
  rintro cs P _ ⟨T, L, pool, rfl, hp, h⟩
  refine ⟨fun c hc => by simp at hc; rcases hc with e | e <;> subst e <;> rfl, ?_⟩
  show W__law_rule [some (.obj T (.tape L)), some (.d (Datum.toD pool)), none, none] _
  unfold W__law_rule
  simp only [sSeq, sSet, sSetF, sRet, sRetN, sRetF, sNext, sIf, sFor, sAsg, sDrop, sBreak, sCont, w2, w1, wF1, wF, wC, wTst, wNot, wAnd, wOr, wAndV, wOrV, wNotV, wIfE, wIsN, wNotN, wTup, wCons, wNil, wCall, wCallL, wCallB, aD, aO, aNil, wLc, wSeqI, wEnum, wZip, wRg1, wO0, wO1, wSl, wNeg, wCat, wRevL, wIsi, wIsi2, wGn, wGtup, wGcons, wGnil, wYes, wipeE, endD, lawD, wVar, wOwn, List.getD_cons_zero, List.getD_cons_succ, List.set_cons_zero, List.set_cons_succ, Bool.false_eq_true, false_imp_iff, true_and, and_true, if_true, if_false, List.length_cons, List.length_nil, gTuple_lst, gAdd_int, gSub_int, gIxR0, gIxR1, gIxR2, gIxR3, isSeq_tup, isSeq_list, itemsD_tup, itemsD_list, isSeq_lst, itemsD_lst, isSeq_tp, itemsD_tp, gLenTup, gLenList, enumD_map, toD_pair, toD_int, toD_str, toD_bool, ite_self, reduceIte]
  refine draw_ (by decide) (by decide) fun r1 a1 b1 => ?_
  obtain ⟨x1, m1, e1⟩ := atI_in (xs := [(0 : Int), 0, 0, 1, 3]) a1 b1
  refine gIxL_ e1 ?_
  refine draw_ (by decide) (by decide) fun r2 a2 b2 => ?_
  obtain ⟨x2, m2, e2⟩ := atI_in (xs := [("p" : Str), "p", "q"]) a2 b2
  refine gIxL_ e2 ?_
  refine draw_ (by decide) (by decide) fun r3 a3 b3 => ?_
  refine ⟨T, L, pool, 1 + r3, rfl, hp, fun f hf hl => ?_⟩
  refine draw_ (by decide) (by decide) fun r4 a4 b4 => ?_
  obtain ⟨x4, m4, e4⟩ := atI_in (xs := [("x" : Str), "y", "z"]) a4 b4
  refine gIxL_ e4 ?_
  exact h ⟨f, x1, x2, x4⟩ ⟨hf, by show f.items.length ≤ 3; omega, by simp at m1 ⊢; omega, by simp at m2 ⊢; exact m2, m4⟩
theorem loop_sheet {T L : Addr} {pool : Tags} {m : Int} {n : Nat} {D : DEnds} (hp : pool.items.length ≤ 1000) (hn : n ≤ 1000) (h : ∀ (s : Sheet) x4 x5, SheetOk n pool s → D.nx [some (.obj T (.tape L)), some (.d (.int m)), some (.d (Datum.toD pool)), some (.d (Datum.toD s)), x4, x5]) :
    ∀ (ds : List PyData) (s : Sheet) (x4 x5 : Option Cell), SheetOk n pool s → s.items.length + ds.length ≤ n → sLoop (wGn 4) B__law_sheet_0 D ds [some (.obj T (.tape L)), some (.d (.int m)), some (.d (Datum.toD pool)), some (.d (Datum.toD s)), x4, x5]
  | [], s, x4, x5, hs, _ => h s x4 x5 hs
  | d :: ds, s, x4, x5, hs, hz => by
    rw [List.length_cons] at hz
    rw [sLoop_cons]
    generalize hK : sLoop (wGn 4) B__law_sheet_0 D ds = k
    unfold B__law_sheet_0
    simp only [sSeq, sSet, sSetF, sRet, sRetN, sRetF, sNext, sIf, sFor, sAsg, sDrop, sBreak, sCont, w2, w1, wF1, wF, wC, wTst, wNot, wAnd, wOr, wAndV, wOrV, wNotV, wIfE, wIsN, wNotN, wTup, wCons, wNil, wCall, wCallL, wCallB, aD, aO, aNil, wLc, wSeqI, wEnum, wZip, wRg1, wO0, wO1, wSl, wNeg, wCat, wRevL, wIsi, wIsi2, wGn, wGtup, wGcons, wGnil, wYes, wipeE, endD, lawD, wVar, wOwn, List.getD_cons_zero, List.getD_cons_succ, List.set_cons_zero, List.set_cons_succ, Bool.false_eq_true, false_imp_iff, true_and, and_true, if_true, if_false, List.length_cons, List.length_nil, gTuple_lst, gAdd_int, gSub_int, gIxR0, gIxR1, gIxR2, gIxR3, isSeq_tup, isSeq_list, itemsD_tup, itemsD_list, isSeq_lst, itemsD_lst, isSeq_tp, itemsD_tp, gLenTup, gLenList, enumD_map, toD_pair, toD_int, toD_str, toD_bool, ite_self, reduceIte]
    subst hK
    refine ⟨T, L, pool, rfl, hp, fun r hr => ?_⟩
    refine gNiT_ (α := Rule) (by decide) ?_
    refine ifB (fun c => ?_) fun _ => loop_sheet hp hn h ds s _ _ hs (by omega)
    have c : r ∉ s.items := by simpa using c
    refine gAddT_ (ys := Tup.mk [r]) (by show s.items.length + 1 ≤ 16777216; omega) ?_
    refine loop_sheet hp hn h ds (Tup.mk (s.items ++ [r])) _ _ ⟨?_, ?_, fun r' hr' => ?_⟩ ?_
    · show (s.items ++ [r]).Nodup
      rw [List.nodup_append]
      refine ⟨hs.nd, by simp, fun a ha b hb => ?_⟩
      simp at hb
      subst hb
      exact fun e => c (e ▸ ha)
    · show (s.items ++ [r]).length ≤ n
      simp
      omega
    · have hr' : r' ∈ s.items ++ [r] := hr'
      rcases List.mem_append.mp hr' with q | q
      · exact hs.ok r' q
      · simp at q
        subst q
        exact hr
    · show (s.items ++ [r]).length + ds.length ≤ n
      simp
      omega
theorem body__law_sheet : ∀ cs P, cs.length = 3 → C__law_sheet cs P → noOwn cs ∧ W__law_sheet (startE 6 cs) (endD false P) := by
  rintro cs P _ ⟨T, L, m, pool, rfl, m0, m1, hp, h⟩
  refine ⟨fun c hc => by simp at hc; rcases hc with e | e | e <;> subst e <;> rfl, ?_⟩
  show W__law_sheet [some (.obj T (.tape L)), some (.d (.int m)), some (.d (Datum.toD pool)), none, none, none] _
  unfold W__law_sheet
  simp only [sSeq, sSet, sSetF, sRet, sRetN, sRetF, sNext, sIf, sFor, sAsg, sDrop, sBreak, sCont, w2, w1, wF1, wF, wC, wTst, wNot, wAnd, wOr, wAndV, wOrV, wNotV, wIfE, wIsN, wNotN, wTup, wCons, wNil, wCall, wCallL, wCallB, aD, aO, aNil, wLc, wSeqI, wEnum, wZip, wRg1, wO0, wO1, wSl, wNeg, wCat, wRevL, wIsi, wIsi2, wGn, wGtup, wGcons, wGnil, wYes, wipeE, endD, lawD, wVar, wOwn, List.getD_cons_zero, List.getD_cons_succ, List.set_cons_zero, List.set_cons_succ, Bool.false_eq_true, false_imp_iff, true_and, and_true, if_true, if_false, List.length_cons, List.length_nil, gTuple_lst, gAdd_int, gSub_int, gIxR0, gIxR1, gIxR2, gIxR3, isSeq_tup, isSeq_list, itemsD_tup, itemsD_list, isSeq_lst, itemsD_lst, isSeq_tp, itemsD_tp, gLenTup, gLenList, enumD_map, toD_pair, toD_int, toD_str, toD_bool, ite_self, reduceIte]
  refine draw_ (m := m + 1) (by omega) (by omega) fun r r0 r1 => ?_
  refine ⟨by omega, by omega, ?_⟩
  refine loop_sheet (n := m.toNat) hp (by omega) (fun s x4 x5 hs => h s hs) (rgD r) (Tup.mk []) _ _ ⟨List.nodup_nil, Nat.zero_le _, fun r hr => by cases hr⟩ ?_
  show 0 + (rgD r).length ≤ m.toNat
  unfold rgD
  rw [List.length_map, List.length_range]
  omega
theorem loop_elements {pool : Tags} {D : DEnds} : ∀ (rest : List Str) (f : List Tags) (x2 x3 : Option Cell), f.length * 2 ^ rest.length ≤ 1024 → (∀ e ∈ f, e.items.length + rest.length ≤ 1000) → (∀ x2 x3, D.nx [some (.d (Datum.toD pool)), some (.d (.list ((subsF rest f).map Datum.toD))), x2, x3]) →
    sLoop (wGn 2) B__law_elements_0 D (rest.map Datum.toD) [some (.d (Datum.toD pool)), some (.d (.list (f.map Datum.toD))), x2, x3]
  | [], f, x2, x3, _, _, h => h x2 x3
  | t :: rest, f, x2, x3, hz, hl, h => by
    rw [List.length_cons, Nat.pow_succ] at hz
    have hp : 0 < 2 ^ rest.length := Nat.pow_pos (by decide)
    have hf : f.length * 1 ≤ f.length * 2 ^ rest.length := Nat.mul_le_mul_left _ hp
    have e0 : f.length * (2 ^ rest.length * 2) = f.length * 2 ^ rest.length + f.length * 2 ^ rest.length := by rw [← Nat.mul_assoc]; omega
    rw [List.map_cons, sLoop_cons]
    generalize hK : sLoop (wGn 2) B__law_elements_0 D (rest.map Datum.toD) = k
    unfold B__law_elements_0
    simp only [sSeq, sSet, sSetF, sRet, sRetN, sRetF, sNext, sIf, sFor, sAsg, sDrop, sBreak, sCont, w2, w1, wF1, wF, wC, wTst, wNot, wAnd, wOr, wAndV, wOrV, wNotV, wIfE, wIsN, wNotN, wTup, wCons, wNil, wCall, wCallL, wCallB, aD, aO, aNil, wLc, wSeqI, wEnum, wZip, wRg1, wO0, wO1, wSl, wNeg, wCat, wRevL, wIsi, wIsi2, wGn, wGtup, wGcons, wGnil, wYes, wipeE, endD, lawD, wVar, wOwn, List.getD_cons_zero, List.getD_cons_succ, List.set_cons_zero, List.set_cons_succ, Bool.false_eq_true, false_imp_iff, true_and, and_true, if_true, if_false, List.length_cons, List.length_nil, gTuple_lst, gAdd_int, gSub_int, gIxR0, gIxR1, gIxR2, gIxR3, isSeq_tup, isSeq_list, itemsD_tup, itemsD_list, isSeq_lst, itemsD_lst, isSeq_tp, itemsD_tp, gLenTup, gLenList, enumD_map, toD_pair, toD_int, toD_str, toD_bool, ite_self, reduceIte]
    subst hK
    refine wComp_m Datum.toD (fun e => Datum.toD (Tup.mk (e.items ++ [t]))) _ (fun e he Q q => ?_) ?_
    · simp only [sSeq, sSet, sSetF, sRet, sRetN, sRetF, sNext, sIf, sFor, sAsg, sDrop, sBreak, sCont, w2, w1, wF1, wF, wC, wTst, wNot, wAnd, wOr, wAndV, wOrV, wNotV, wIfE, wIsN, wNotN, wTup, wCons, wNil, wCall, wCallL, wCallB, aD, aO, aNil, wLc, wSeqI, wEnum, wZip, wRg1, wO0, wO1, wSl, wNeg, wCat, wRevL, wIsi, wIsi2, wGn, wGtup, wGcons, wGnil, wYes, wipeE, endD, lawD, wVar, wOwn, List.getD_cons_zero, List.getD_cons_succ, List.set_cons_zero, List.set_cons_succ, Bool.false_eq_true, false_imp_iff, true_and, and_true, if_true, if_false, List.length_cons, List.length_nil, gTuple_lst, gAdd_int, gSub_int, gIxR0, gIxR1, gIxR2, gIxR3, isSeq_tup, isSeq_list, itemsD_tup, itemsD_list, isSeq_lst, itemsD_lst, isSeq_tp, itemsD_tp, gLenTup, gLenList, enumD_map, toD_pair, toD_int, toD_str, toD_bool, ite_self, reduceIte]
      refine gAddT_ (ys := Tup.mk [t]) ?_ q
      have := hl e he
      show e.items.length + 1 ≤ 16777216
      omega
    · have e1 : List.map (fun e : Tags => Datum.toD (Tup.mk (e.items ++ [t]))) f = (f.map fun e : Tags => Tup.mk (e.items ++ [t])).map Datum.toD := by
        rw [List.map_map]
        rfl
      rw [e1]
      refine gAddL_ (by rw [List.length_map]; omega) ?_
      refine loop_elements rest (f ++ f.map fun e => Tup.mk (e.items ++ [t])) _ _ ?_ (fun e he => ?_) h
      · rw [List.length_append, List.length_map, Nat.add_mul]
        omega
      · rcases List.mem_append.mp he with q | q
        · have := hl e q
          simp at this
          omega
        · obtain ⟨e', q1, rfl⟩ := List.mem_map.mp q
          have := hl e' q1
          simp at this ⊢
          omega
theorem body__law_elements : ∀ cs P, cs.length = 1 → C__law_elements cs P → noOwn cs ∧ W__law_elements (startE 4 cs) (endD false P) := by
  rintro cs P _ ⟨pool, rfl, hp, h⟩
  refine ⟨noOwn1, ?_⟩
  show W__law_elements [some (.d (Datum.toD pool)), none, none, none] _
  unfold W__law_elements
  simp only [sSeq, sSet, sSetF, sRet, sRetN, sRetF, sNext, sIf, sFor, sAsg, sDrop, sBreak, sCont, w2, w1, wF1, wF, wC, wTst, wNot, wAnd, wOr, wAndV, wOrV, wNotV, wIfE, wIsN, wNotN, wTup, wCons, wNil, wCall, wCallL, wCallB, aD, aO, aNil, wLc, wSeqI, wEnum, wZip, wRg1, wO0, wO1, wSl, wNeg, wCat, wRevL, wIsi, wIsi2, wGn, wGtup, wGcons, wGnil, wYes, wipeE, endD, lawD, wVar, wOwn, List.getD_cons_zero, List.getD_cons_succ, List.set_cons_zero, List.set_cons_succ, Bool.false_eq_true, false_imp_iff, true_and, and_true, if_true, if_false, List.length_cons, List.length_nil, gTuple_lst, gAdd_int, gSub_int, gIxR0, gIxR1, gIxR2, gIxR3, isSeq_tup, isSeq_list, itemsD_tup, itemsD_list, isSeq_lst, itemsD_lst, isSeq_tp, itemsD_tp, gLenTup, gLenList, enumD_map, toD_pair, toD_int, toD_str, toD_bool, ite_self, reduceIte]
  refine loop_elements pool.items [Tup.mk []] _ _ ?_ (fun e he => ?_) fun x2 x3 => ?_
  · have : 2 ^ pool.items.length ≤ 2 ^ 10 := Nat.pow_le_pow_right (by decide) hp
    show 1 * _ ≤ 1024
    omega
  · simp at he
    subst he
    show 0 + _ ≤ 1000
    omega
  · simp only [sSeq, sSet, sSetF, sRet, sRetN, sRetF, sNext, sIf, sFor, sAsg, sDrop, sBreak, sCont, w2, w1, wF1, wF, wC, wTst, wNot, wAnd, wOr, wAndV, wOrV, wNotV, wIfE, wIsN, wNotN, wTup, wCons, wNil, wCall, wCallL, wCallB, aD, aO, aNil, wLc, wSeqI, wEnum, wZip, wRg1, wO0, wO1, wSl, wNeg, wCat, wRevL, wIsi, wIsi2, wGn, wGtup, wGcons, wGnil, wYes, wipeE, endD, lawD, wVar, wOwn, List.getD_cons_zero, List.getD_cons_succ, List.set_cons_zero, List.set_cons_succ, Bool.false_eq_true, false_imp_iff, true_and, and_true, if_true, if_false, List.length_cons, List.length_nil, gTuple_lst, gAdd_int, gSub_int, gIxR0, gIxR1, gIxR2, gIxR3, isSeq_tup, isSeq_list, itemsD_tup, itemsD_list, isSeq_lst, itemsD_lst, isSeq_tp, itemsD_tp, gLenTup, gLenList, enumD_map, toD_pair, toD_int, toD_str, toD_bool, ite_self, reduceIte]
    refine gSorted_ (α := Tags) (by decide) ?_
    exact h

/-! ### alike -/
/-- data of a depth and sizes that the comparison walks -/
def okD : Nat → PyData → Prop
  | 0, _ => False
  | n + 1, d => match d with
    | .list xs => xs.length ≤ 1000000 ∧ ∀ x ∈ xs, okD n x
    | .tuple xs => xs.length ≤ 1000000 ∧ ∀ x ∈ xs, okD n x
    | .dict _ => False
    | _ => True
def C__law_like (n : Nat) : Con := fun cs P => ∃ d, cs = [.d d, .d d] ∧ okD n d ∧ P (.bool true)
def W__law_like (n : Nat) : WS :=
  (sSeq (sIf (wTst (wIsi2 "list" "tuple" (wVar 0)))
    (sSeq (sIf (wOr (wTst (w2 gNe (wIsi "list" (wVar 0)) (wIsi "list" (wVar 1)))) (wTst (w2 gNe (wIsi "tuple" (wVar 0)) (wIsi "tuple" (wVar 1)))))
    (sRet (wC (.bool false)))
    sNext)
    (sSeq (sIf (wTst (w2 gNe (w1 gLen (wVar 0)) (w1 gLen (wVar 1))))
    (sRet (wC (.bool false)))
    sNext)
    (sRet (w2 gEq (wF (wLc (wRg1 (w1 gLen (wVar 0))) (wGn 2) (wNot (wTst (wCall (C__law_like n) (aD (w2 gIx (wVar 0) (wVar 2)) (aD (w2 gIx (wVar 1) (wVar 2)) aNil))))) (wVar 2) [2])) (wF wNil)))))
    sNext)
    (sSeq (sIf (wTst (wIsi2 "list" "tuple" (wVar 1)))
    (sRet (wC (.bool false)))
    sNext)
    (sRet (wAndV (w2 gEq (wIsi "bool" (wVar 0)) (wIsi "bool" (wVar 1))) (w2 gEq (wVar 0) (wVar 1))))))

theorem never__law_like : ∀ cs P, ¬ C__law_like 0 cs P := fun cs P ⟨d, _, h, _⟩ => h
theorem eqv_bool {a b : Bool} {P : PyData → Prop} (h : P (.bool (a == b))) : gEq (.bool a) (.bool b) P := by
  refine gEq_ (α := Bool) (by decide) ?_
  rw [show decide (a = b) = (a == b) by cases a <;> cases b <;> rfl]
  exact h
theorem noB {A B : Prop} (h : B) : if (!true) = true then A else B := h
theorem like_seq {n : Nat} {d : PyData} {xs : List PyData} {P : PyData → Prop} (hd : d = .list xs ∨ d = .tuple xs) (hz : xs.length ≤ 1000000) (hx : ∀ x ∈ xs, okD n x) (h : P (.bool true)) : W__law_like n [some (.d d), some (.d d), none] (endD false P) := by
  have h1 : (isiB "list" d || isiB "tuple" d) = true := by rcases hd with e | e <;> subst e <;> simp [isiB, tyN]
  have hlen : ∀ P, gLen d P = P (.int xs.length) := by rcases hd with e | e <;> subst e <;> exact fun P => rfl
  have hix : ∀ {i : Nat} {x : PyData} {P : PyData → Prop}, xs[i]? = some x → P x → gIx d (.int i) P := fun hi q => by rcases hd with e | e <;> subst e <;> exact ⟨_, atI_nat hi, q⟩
  unfold W__law_like
  simp only [sSeq, sSet, sSetF, sRet, sRetN, sRetF, sNext, sIf, sFor, sAsg, sDrop, sBreak, sCont, w2, w1, wF1, wF, wC, wTst, wNot, wAnd, wOr, wAndV, wOrV, wNotV, wIfE, wIsN, wNotN, wTup, wCons, wNil, wCall, wCallL, wCallB, aD, aO, aNil, wLc, wSeqI, wEnum, wZip, wRg1, wO0, wO1, wSl, wNeg, wCat, wRevL, wIsi, wIsi2, wGn, wGtup, wGcons, wGnil, wYes, wipeE, endD, lawD, wVar, wOwn, List.getD_cons_zero, List.getD_cons_succ, List.set_cons_zero, List.set_cons_succ, Bool.false_eq_true, false_imp_iff, true_and, and_true, if_true, if_false, List.length_cons, List.length_nil, gTuple_lst, gAdd_int, gSub_int, gIxR0, gIxR1, gIxR2, gIxR3, isSeq_tup, isSeq_list, itemsD_tup, itemsD_list, isSeq_lst, itemsD_lst, isSeq_tp, itemsD_tp, gLenTup, gLenList, enumD_map, toD_pair, toD_int, toD_str, toD_bool, ite_self, reduceIte]
  rw [h1, if_pos rfl]
  refine gNe_ (α := Bool) (by decide) ?_
  rw [decide_eq_true rfl]
  refine noB ?_
  refine gNe_ (α := Bool) (by decide) ?_
  rw [decide_eq_true rfl]
  refine noB ?_
  rw [hlen]
  rw [hlen]
  refine gNe_ (α := Int) (by decide) ?_
  rw [decide_eq_true rfl]
  refine noB ?_
  rw [hlen]
  refine ⟨by omega, by omega, ?_⟩
  refine wComp_fm (fun i : Nat => PyData.int i) (fun _ => false) (fun i => .int i) _ (fun i hi Q R h1 h2 => ?_) ?_
  · simp only [sSeq, sSet, sSetF, sRet, sRetN, sRetF, sNext, sIf, sFor, sAsg, sDrop, sBreak, sCont, w2, w1, wF1, wF, wC, wTst, wNot, wAnd, wOr, wAndV, wOrV, wNotV, wIfE, wIsN, wNotN, wTup, wCons, wNil, wCall, wCallL, wCallB, aD, aO, aNil, wLc, wSeqI, wEnum, wZip, wRg1, wO0, wO1, wSl, wNeg, wCat, wRevL, wIsi, wIsi2, wGn, wGtup, wGcons, wGnil, wYes, wipeE, endD, lawD, wVar, wOwn, List.getD_cons_zero, List.getD_cons_succ, List.set_cons_zero, List.set_cons_succ, Bool.false_eq_true, false_imp_iff, true_and, and_true, if_true, if_false, List.length_cons, List.length_nil, gTuple_lst, gAdd_int, gSub_int, gIxR0, gIxR1, gIxR2, gIxR3, isSeq_tup, isSeq_list, itemsD_tup, itemsD_list, isSeq_lst, itemsD_lst, isSeq_tp, itemsD_tp, gLenTup, gLenList, enumD_map, toD_pair, toD_int, toD_str, toD_bool, ite_self, reduceIte]
    have hi : i < xs.length := by simpa using List.mem_range.mp hi
    refine hix (List.getElem?_eq_getElem hi) ?_
    refine hix (List.getElem?_eq_getElem hi) ?_
    exact ⟨_, rfl, hx _ (List.getElem_mem hi), h2 rfl⟩
  · rw [List.filter_eq_nil_iff.mpr (by simp)]
    refine gEq_ (α := List Int) (a := []) (b := []) (by decide) ?_
    exact h
theorem like_flat {n : Nat} {d : PyData} {P : PyData → Prop} (hd : flatD d = true) (h : P (.bool true)) : W__law_like n [some (.d d), some (.d d), none] (endD false P) := by
  have h1 : (isiB "list" d || isiB "tuple" d) = false := by cases d <;> first | (simp [isiB, tyN]; done) | cases hd
  unfold W__law_like
  simp only [sSeq, sSet, sSetF, sRet, sRetN, sRetF, sNext, sIf, sFor, sAsg, sDrop, sBreak, sCont, w2, w1, wF1, wF, wC, wTst, wNot, wAnd, wOr, wAndV, wOrV, wNotV, wIfE, wIsN, wNotN, wTup, wCons, wNil, wCall, wCallL, wCallB, aD, aO, aNil, wLc, wSeqI, wEnum, wZip, wRg1, wO0, wO1, wSl, wNeg, wCat, wRevL, wIsi, wIsi2, wGn, wGtup, wGcons, wGnil, wYes, wipeE, endD, lawD, wVar, wOwn, List.getD_cons_zero, List.getD_cons_succ, List.set_cons_zero, List.set_cons_succ, Bool.false_eq_true, false_imp_iff, true_and, and_true, if_true, if_false, List.length_cons, List.length_nil, gTuple_lst, gAdd_int, gSub_int, gIxR0, gIxR1, gIxR2, gIxR3, isSeq_tup, isSeq_list, itemsD_tup, itemsD_list, isSeq_lst, itemsD_lst, isSeq_tp, itemsD_tp, gLenTup, gLenList, enumD_map, toD_pair, toD_int, toD_str, toD_bool, ite_self, reduceIte]
  rw [h1]
  simp only [sSeq, sSet, sSetF, sRet, sRetN, sRetF, sNext, sIf, sFor, sAsg, sDrop, sBreak, sCont, w2, w1, wF1, wF, wC, wTst, wNot, wAnd, wOr, wAndV, wOrV, wNotV, wIfE, wIsN, wNotN, wTup, wCons, wNil, wCall, wCallL, wCallB, aD, aO, aNil, wLc, wSeqI, wEnum, wZip, wRg1, wO0, wO1, wSl, wNeg, wCat, wRevL, wIsi, wIsi2, wGn, wGtup, wGcons, wGnil, wYes, wipeE, endD, lawD, wVar, wOwn, List.getD_cons_zero, List.getD_cons_succ, List.set_cons_zero, List.set_cons_succ, Bool.false_eq_true, false_imp_iff, true_and, and_true, if_true, if_false, List.length_cons, List.length_nil, gTuple_lst, gAdd_int, gSub_int, gIxR0, gIxR1, gIxR2, gIxR3, isSeq_tup, isSeq_list, itemsD_tup, itemsD_list, isSeq_lst, itemsD_lst, isSeq_tp, itemsD_tp, gLenTup, gLenList, enumD_map, toD_pair, toD_int, toD_str, toD_bool, ite_self, reduceIte]
  refine gEq_ (α := Bool) (by decide) ?_
  rw [decide_eq_true rfl]
  have hdep : cDeep d d := by cases d <;> first | exact Nat.zero_le _ | cases hd
  have he : PyData.eqv d d = true := by cases d <;> first | (simp [PyData.eqv]; done) | cases hd
  refine ⟨hdep, ?_⟩
  rw [he]
  exact h
theorem body__law_like (n : Nat) : ∀ cs P, cs.length = 2 → C__law_like (n + 1) cs P → noOwn cs ∧ W__law_like n (startE 3 cs) (endD false P) := by
  rintro cs P _ ⟨d, rfl, hd, h⟩
  refine ⟨noOwn2, ?_⟩
  show W__law_like n [some (.d d), some (.d d), none] _
  cases d with
  | list xs => exact like_seq (.inl rfl) hd.1 hd.2 h
  | tuple xs => exact like_seq (.inr rfl) hd.1 hd.2 h
  | dict _ => exact hd.elim
  | _ => exact like_flat rfl h
end Dat

/-! Lop: loops by what stays true; who wins, told once. -/
namespace Dat
open PySem PySem.Spec PyProof.Rows L2
open PySem.W (Datum DatumOrd Tup)
theorem sLoop_ind {α : Type} {g : WG} {wb : WS} {D : DEnds} (f : α → PyData) (I : List α → Env → Prop) (h0 : ∀ ρ, I [] ρ → D.nx ρ)
    (hs : ∀ x rest ρ, I (x :: rest) ρ → ∀ k : Env → Prop, (∀ ρ', I rest ρ' → k ρ') → g (f x) ρ fun ρ1 => wb ρ1 { D with nx := k, ct := k, bk := D.nx }) : ∀ (xs : List α) (ρ : Env), I xs ρ → sLoop g wb D (xs.map f) ρ
  | [], ρ, h => h0 ρ h
  | x :: xs, ρ, h => hs x xs ρ h _ fun ρ' h' => sLoop_ind f I h0 hs xs ρ' h'
/-- nothing is learnt from turn to turn -/
theorem sLoop_keep {g : WG} {wb : WS} {D : DEnds} (I : Env → Prop) : ∀ (ds : List PyData) (ρ : Env), I ρ → (∀ ρ, I ρ → D.nx ρ) → (∀ d ∈ ds, ∀ ρ, I ρ → ∀ k : Env → Prop, (∀ ρ', I ρ' → k ρ') → g d ρ fun ρ1 => wb ρ1 { D with nx := k, ct := k, bk := D.nx }) → sLoop g wb D ds ρ
  | [], ρ, h, h0, _ => h0 ρ h
  | d :: ds, ρ, h, h0, hs => hs d (List.mem_cons_self ..) ρ h _ fun ρ' h' => sLoop_keep I ds ρ' h' h0 fun d' hd => hs d' (List.mem_cons_of_mem _ hd)

theorem winI_spec {s : Sheet} {e : Tags} {n : Str} {k : Int} (h : winI s e n = some k) : ∃ q, q ∈ candL s e n ∧ q.1 = k ∧ ∀ p ∈ candL s e n, leOf (keyOf p) (keyOf q) = true := by
  have b := best_win s e n
  have f := fold_best (candL s e n) none [] (fun q hq => by cases hq) (fun _ => rfl) (fun p hp => by cases hp) (cand_pair s e n)
  rw [List.nil_append] at f
  cases q : (candL s e n).foldl bestStep none with
  | none =>
    rw [q, h] at b
    cases b
  | some p =>
    rw [q, h] at b
    obtain ⟨h1, h2⟩ := f.1 p q
    exact ⟨p, h1, Option.some.inj b, h2⟩
theorem winI_none {s : Sheet} {e : Tags} {n : Str} (h : winI s e n = none) : candL s e n = [] := by
  have b := best_win s e n
  have f := fold_best (candL s e n) none [] (fun q hq => by cases hq) (fun _ => rfl) (fun p hp => by cases hp) (cand_pair s e n)
  rw [List.nil_append] at f
  cases q : (candL s e n).foldl bestStep none with
  | none => exact f.2 q
  | some p =>
    rw [q, h] at b
    cases b
theorem cand_mem {s : Sheet} {e : Tags} {n : Str} {p : Int × Rule} : p ∈ candL s e n ↔ p ∈ enumL s.items ∧ matchB p.2 e = true ∧ p.2.c = n := by
  unfold candL matchP
  rw [List.mem_filter, List.mem_filter, decide_eq_true_eq, and_assoc]
theorem valO_none {s : Sheet} {e : Tags} {n : Str} : valO s e n = none ↔ candL s e n = [] := by
  unfold valO
  constructor
  · intro h
    cases q : winI s e n with
    | none => exact winI_none q
    | some i =>
      rw [q] at h
      obtain ⟨r, hr⟩ := winI_some q
      have h : (L2.atI s.items i).map (·.d) = none := h
      rw [hr] at h
      cases h
  · intro h
    rw [winI_no h]
    rfl
theorem okD_ints {n : Nat} {xs : List Int} (h : xs.length ≤ 1000000) : okD (n + 2) (.list (xs.map Datum.toD)) := ⟨by rw [List.length_map]; exact h, fun x hx => by
  obtain ⟨i, _, rfl⟩ := List.mem_map.mp hx
  trivial⟩
theorem matchL_len (s : Sheet) (e : Tags) : (matchL s e).length ≤ s.items.length := by
  unfold matchL matchP
  rw [List.length_map]
  exact Nat.le_trans (List.length_filter_le ..) (by rw [enumL_len]; exact Nat.le_refl _)
theorem rankL_len (s : Sheet) (e : Tags) (n : Str) : (rankL s e n).length ≤ s.items.length := by
  unfold rankL rankRows matchP
  rw [List.length_map, List.length_reverse, List.length_mergeSort, List.length_map]
  exact Nat.le_trans (List.length_filter_le ..) (Nat.le_trans (List.length_filter_le ..) (by rw [enumL_len]; exact Nat.le_refl _))
theorem like_ {n : Nat} {d : PyData} {P : PyData → Prop} (h : okD n d) (q : P (.bool true)) : C__law_like n [.d d, .d d] P := ⟨d, rfl, h, q⟩
theorem okD_opt {n : Nat} {o : Option Int} : okD (n + 1) (Datum.toD o) := by cases o <;> trivial
theorem okD_optS {n : Nat} {o : Option Str} : okD (n + 1) (Datum.toD o) := by cases o <;> trivial
section
variable {α : Type} {wg : WG} {wt : WT} {we : WE} {ρ : Env} {P : List PyData → Prop}
theorem wComp_fme (f : α → PyData) (p : α → Bool) (h : α → PyData) (xs : List α) {ds : List PyData} (hd : ds = xs.map f) (step : ∀ x ∈ xs, ∀ (Q : PyData → Prop) (R : Prop), (p x = true → Q (h x)) → (p x = false → R) → wg (f x) ρ fun ρ1 => wt ρ1 fun b => if b = true then we ρ1 Q else R)
    (hP : P ((xs.filter p).map h)) : wComp wg wt we ρ ds P := by
  subst hd
  exact wComp_fm f p h xs step hP
theorem wComp_me (f : α → PyData) (h : α → PyData) (xs : List α) {ds : List PyData} (hd : ds = xs.map f) (step : ∀ x ∈ xs, ∀ (Q : PyData → Prop), Q (h x) → wg (f x) ρ fun ρ1 => we ρ1 Q) (hP : P (xs.map h)) : wComp wg wYes we ρ ds P := by
  subst hd
  exact wComp_m f h xs step hP
end
end Dat

/-! Top: the strongest among some of a sheet's rules. -/
namespace Dat
open PySem PySem.Spec PyProof.Rows L2
open PySem.W (Datum DatumOrd Tup)

/-! ### the ranking, taken one by one -/
def goodP (e : Tags) (n : Str) (p : Int × Rule) : Bool := matchB p.2 e && decide (p.2.c = n)
def rankOf (e : Tags) (n : Str) (l : List (Int × Rule)) : List Int := (((l.filter (goodP e n)).map keyOf).mergeSort leOf).reverse.map (·.2)
theorem cand_good (s : Sheet) (e : Tags) (n : Str) : candL s e n = (enumL s.items).filter (goodP e n) := by
  unfold candL matchP goodP
  rw [List.filter_filter]
  congr 1
  funext p
  rw [Bool.and_comm]
theorem rankL_of (s : Sheet) (e : Tags) (n : Str) : rankL s e n = rankOf e n (enumL s.items) := by
  unfold rankL rankOf
  rw [rank_cand, cand_good]
theorem rankOf_nil {e : Tags} {n : Str} {l : List (Int × Rule)} (h : l.filter (goodP e n) = []) : rankOf e n l = [] := by
  unfold rankOf
  rw [h]
  simp
theorem sort_perm_eq {α : Type} [DecidableEq α] [DatumOrd α] [LeL α] {l m : List α} (hp : m.Pairwise fun a b => leOf a b = true) (h : l.Perm m) : l.mergeSort leOf = m :=
  ((List.mergeSort_perm l leOf).trans h).eq_of_pairwise (fun a b _ _ h1 h2 => leOf_anti h1 h2) (sorted_pair l) hp
theorem eraseIdx_perm {α : Type} : ∀ {l : List α} {k : Nat} {x : α}, l[k]? = some x → l.Perm (x :: l.eraseIdx k)
  | [], k, x, h => by simp at h
  | y :: l, 0, x, h => by
    simp at h
    subst h
    exact List.Perm.refl _
  | y :: l, k + 1, x, h => by
    have := eraseIdx_perm (l := l) (k := k) (x := x) (by simpa using h)
    rw [List.eraseIdx_cons_succ]
    exact (List.Perm.cons y this).trans (List.Perm.swap x y _)
theorem eraseIdx_map' {α β : Type} (f : α → β) : ∀ (l : List α) (k : Nat), (l.map f).eraseIdx k = (l.eraseIdx k).map f
  | [], _ => rfl
  | _ :: _, 0 => rfl
  | x :: l, k + 1 => by rw [List.map_cons, List.eraseIdx_cons_succ, List.eraseIdx_cons_succ, List.map_cons, eraseIdx_map' f l k]
/-- the greatest comes first, the others follow -/
theorem rankOf_step {e : Tags} {n : Str} {l : List (Int × Rule)} {k : Nat} {p : Int × Rule} (hk : l[k]? = some p) (hg : goodP e n p = true) (h : ∀ q ∈ l, goodP e n q = true → leOf (keyOf q) (keyOf p) = true) : rankOf e n l = p.1 :: rankOf e n (l.eraseIdx k) := by
  unfold rankOf
  have hperm : ((l.filter (goodP e n)).map keyOf).Perm ((((l.eraseIdx k).filter (goodP e n)).map keyOf).mergeSort leOf ++ [keyOf p]) := by
    have h1 := ((eraseIdx_perm hk).filter (goodP e n)).map keyOf
    rw [List.filter_cons_of_pos hg, List.map_cons] at h1
    exact h1.trans ((List.Perm.cons _ (List.mergeSort_perm _ leOf).symm).trans (List.perm_append_singleton _ _).symm)
  rw [sort_perm_eq ?_ hperm]
  · rw [List.reverse_append]
    rfl
  · rw [List.pairwise_append]
    refine ⟨sorted_pair _, List.pairwise_singleton _ _, fun a ha b hb => ?_⟩
    rw [List.mem_singleton] at hb
    subst hb
    rw [List.mem_mergeSort] at ha
    obtain ⟨q, hq, rfl⟩ := List.mem_map.mp ha
    obtain ⟨h1, h2⟩ := List.mem_filter.mp hq
    exact h q (List.mem_of_mem_eraseIdx h1) h2
/-- who wins among some of the rules -/
theorem win_part {e : Tags} {n : Str} {l : List (Int × Rule)} (hl : l.Pairwise fun p q => p.1 < q.1) {k : Int} (h : winI (Tup.mk (l.map (·.2))) e n = some k) :
    ∃ (j : Nat) (p : Int × Rule), k = j ∧ l[j]? = some p ∧ goodP e n p = true ∧ ∀ q ∈ l, goodP e n q = true → leOf (keyOf q) (keyOf p) = true := by
  obtain ⟨q, hq, rfl, hmax⟩ := winI_spec h
  obtain ⟨h1, h2, h3⟩ := cand_mem.mp hq
  obtain ⟨j, hj, hx⟩ := enumL_at h1
  have hx : (l.map (·.2))[j]? = some q.2 := hx
  rw [List.getElem?_map] at hx
  cases hp : l[j]? with
  | none => rw [hp] at hx; cases hx
  | some p =>
    rw [hp] at hx
    have hx : p.2 = q.2 := Option.some.inj hx
    refine ⟨j, p, hj, hp, ?_, fun q' hq' hg => ?_⟩
    · unfold goodP
      rw [hx, h2, h3]
      simp
    · obtain ⟨i, hi, ei⟩ := List.mem_iff_getElem.mp hq'
      have hgi : l[i]? = some q' := by rw [List.getElem?_eq_getElem hi, ei]
      unfold goodP at hg
      rw [Bool.and_eq_true, decide_eq_true_eq] at hg
      have hc : ((i : Int), q'.2) ∈ candL (Tup.mk (l.map (·.2))) e n := cand_mem.mpr ⟨enumL_mem (by show (l.map (·.2))[i]? = _; rw [List.getElem?_map, hgi]; rfl), hg.1, hg.2⟩
      have := key_le.mp (hmax _ hc)
      refine key_le.mpr ?_
      rw [hx]
      rcases this with t | ⟨t1, t2⟩
      · exact .inl t
      · refine .inr ⟨t1, ?_⟩
        rw [hj] at t2
        have t2 : i ≤ j := by have t2 : (i : Int) ≤ j := t2; omega
        rcases Nat.lt_or_ge i j with t3 | t3
        · obtain ⟨hj', ej⟩ := List.getElem?_eq_some_iff.mp hp
          have := List.pairwise_iff_getElem.mp hl i j hi hj' t3
          rw [ei, ej] at this
          omega
        · have : i = j := by omega
          subst this
          rw [hgi] at hp
          cases hp
          exact Int.le_refl _
theorem win_part_none {e : Tags} {n : Str} {l : List (Int × Rule)} (h : winI (Tup.mk (l.map (·.2))) e n = none) : l.filter (goodP e n) = [] := by
  have hc := winI_none h
  rw [List.filter_eq_nil_iff]
  intro q hq hg
  obtain ⟨i, hi, ei⟩ := List.mem_iff_getElem.mp hq
  unfold goodP at hg
  rw [Bool.and_eq_true, decide_eq_true_eq] at hg
  have : ((i : Int), q.2) ∈ candL (Tup.mk (l.map (·.2))) e n := cand_mem.mpr ⟨enumL_mem (by show (l.map (·.2))[i]? = _; rw [List.getElem?_map, List.getElem?_eq_getElem hi, ei]; rfl), hg.1, hg.2⟩
  rw [hc] at this
  cases this

theorem rgD_enum {α : Type} (xs : List α) : rgD (xs.length : Nat) = ((enumL xs).map (·.1)).map Datum.toD := by
  unfold rgD enumL
  rw [Int.toNat_natCast]
  apply List.ext_getElem?
  intro i
  simp only [List.getElem?_map, List.getElem?_mapIdx, List.getElem?_range, Option.map_map]
  by_cases h : i < xs.length
  · rw [List.getElem?_range h, List.getElem?_eq_getElem h]
    rfl
  · rw [List.getElem?_eq_none (by simpa using h), List.getElem?_eq_none (by simpa using h)]
    rfl

/-- p is the strongest of l for an element and a property -/
structure Top (e : Tags) (n : Str) (l : List (Int × Rule)) (p : Int × Rule) : Prop where
  mem : p ∈ l
  good : goodP e n p = true
  top : ∀ q ∈ l, goodP e n q = true → leOf (keyOf q) (keyOf p) = true
theorem Top.sub {e : Tags} {n : Str} {l l' : List (Int × Rule)} {p : Int × Rule} (t : Top e n l p) (h : ∀ q ∈ l', q ∈ l) (hp : p ∈ l') : Top e n l' p := ⟨hp, t.good, fun q hq => t.top q (h q hq)⟩
theorem inc_eq {l : List (Int × Rule)} (hl : l.Pairwise fun p q => p.1 < q.1) {p q : Int × Rule} (hp : p ∈ l) (hq : q ∈ l) (e : p.1 = q.1) : p = q := by
  obtain ⟨i, hi, ei⟩ := List.mem_iff_getElem.mp hp
  obtain ⟨j, hj, ej⟩ := List.mem_iff_getElem.mp hq
  rcases Nat.lt_trichotomy i j with t | t | t
  · have := List.pairwise_iff_getElem.mp hl i j hi hj t
    rw [ei, ej, e] at this
    exact absurd this (Int.lt_irrefl _)
  · subst t
    exact ei.symm.trans ej
  · have := List.pairwise_iff_getElem.mp hl j i hj hi t
    rw [ei, ej, e] at this
    exact absurd this (Int.lt_irrefl _)
theorem Top.one {e : Tags} {n : Str} {l : List (Int × Rule)} (hl : l.Pairwise fun p q => p.1 < q.1) {p q : Int × Rule} (h1 : Top e n l p) (h2 : Top e n l q) : p = q := by
  have := leOf_anti (h2.top p h1.mem h1.good) (h1.top q h2.mem h2.good)
  exact inc_eq hl h1.mem h2.mem (congrArg Prod.snd this)
theorem part_none {e : Tags} {n : Str} {l : List (Int × Rule)} (h : l.filter (goodP e n) = []) : winI (Tup.mk (l.map (·.2))) e n = none := by
  refine winI_no ?_
  cases q : candL (Tup.mk (l.map (·.2))) e n with
  | nil => rfl
  | cons p ps =>
    have hp : p ∈ candL (Tup.mk (l.map (·.2))) e n := by rw [q]; exact List.mem_cons_self ..
    obtain ⟨h1, h2, h3⟩ := cand_mem.mp hp
    obtain ⟨i, hi, hx⟩ := enumL_at h1
    obtain ⟨p', hp', e'⟩ := List.mem_map.mp (List.mem_of_getElem? hx)
    have : p' ∈ l.filter (goodP e n) := List.mem_filter.mpr ⟨hp', by unfold goodP; rw [e', h2, h3]; simp⟩
    rw [h] at this
    cases this
theorem part_top {e : Tags} {n : Str} {l : List (Int × Rule)} (hl : l.Pairwise fun p q => p.1 < q.1) {p : Int × Rule} (t : Top e n l p) : ∃ j : Nat, winI (Tup.mk (l.map (·.2))) e n = some (j : Int) ∧ l[j]? = some p := by
  cases hw : winI (Tup.mk (l.map (·.2))) e n with
  | none =>
    have h := win_part_none hw
    have : p ∈ l.filter (goodP e n) := List.mem_filter.mpr ⟨t.mem, t.good⟩
    rw [h] at this
    cases this
  | some k =>
    obtain ⟨j, p', rfl, h1, h2, h3⟩ := win_part hl hw
    have : p' = p := Top.one hl ⟨List.mem_of_getElem? h1, h2, h3⟩ t
    subst this
    exact ⟨j, rfl, h1⟩
theorem valO_part {e : Tags} {n : Str} {l : List (Int × Rule)} (hl : l.Pairwise fun p q => p.1 < q.1) {p : Int × Rule} (t : Top e n l p) : valO (Tup.mk (l.map (·.2))) e n = some p.2.d := by
  obtain ⟨j, h1, h2⟩ := part_top hl t
  unfold valO
  rw [h1]
  show (L2.atI (l.map (·.2)) (j : Int)).map (·.d) = _
  rw [atI_nat (v := p.2) (by rw [List.getElem?_map, h2]; rfl)]
  rfl
theorem valO_part_none {e : Tags} {n : Str} {l : List (Int × Rule)} (h : l.filter (goodP e n) = []) : valO (Tup.mk (l.map (·.2))) e n = none := by
  unfold valO
  rw [part_none h]
  rfl
theorem enum_snd {α : Type} (xs : List α) : (enumL xs).map (·.2) = xs := by
  unfold enumL
  apply List.ext_getElem?
  intro i
  simp only [List.getElem?_map, List.getElem?_mapIdx, Option.map_map]
  cases xs[i]? <;> rfl
theorem sheet_enum (s : Sheet) : Tup.mk ((enumL s.items).map (·.2)) = s := by rw [enum_snd]
/-- of a sheet: a strongest rule, or none at all -/
theorem top_cases (s : Sheet) (e : Tags) (n : Str) : (∃ p, Top e n (enumL s.items) p ∧ winI s e n = some p.1 ∧ valO s e n = some p.2.d) ∨ ((enumL s.items).filter (goodP e n) = [] ∧ winI s e n = none ∧ valO s e n = none) := by
  cases hw : winI s e n with
  | none =>
    have hc := winI_none hw
    rw [cand_good] at hc
    refine .inr ⟨hc, rfl, ?_⟩
    unfold valO
    rw [hw]
    rfl
  | some k =>
    obtain ⟨q, hq, rfl, hm⟩ := winI_spec hw
    rw [cand_good] at hq hm
    obtain ⟨h1, h2⟩ := List.mem_filter.mp hq
    have t : Top e n (enumL s.items) q := ⟨h1, h2, fun p hp hg => hm p (List.mem_filter.mpr ⟨hp, hg⟩)⟩
    refine .inl ⟨q, t, rfl, ?_⟩
    have := valO_part (enumL_pair s.items) t
    rw [sheet_enum] at this
    exact this
theorem win_top {s : Sheet} {e : Tags} {n : Str} {p : Int × Rule} (t : Top e n (enumL s.items) p) : winI s e n = some p.1 ∧ valO s e n = some p.2.d := by
  rcases top_cases s e n with ⟨q, h1, h2, h3⟩ | ⟨h1, _, _⟩
  · have : q = p := Top.one (enumL_pair s.items) h1 t
    subst this
    exact ⟨h2, h3⟩
  · have : p ∈ (enumL s.items).filter (goodP e n) := List.mem_filter.mpr ⟨t.mem, t.good⟩
    rw [h1] at this
    cases this
theorem good_iff {e : Tags} {n : Str} {p : Int × Rule} : goodP e n p = true ↔ (∀ t ∈ p.2.a.items, t ∈ e.items) ∧ p.2.c = n := by
  unfold goodP matchB
  rw [Bool.and_eq_true, decide_eq_true_eq, List.all_eq_true]
  simp only [decide_eq_true_eq]

def pqL : List Str := ["p", "q"]
theorem gNone_opt {α : Type} [DecidableEq α] [Datum α] [PySem.W.SomeDatum α] {o : Option α} (h : ∀ a : α, gNone (Datum.toD a) = false) : gNone (Datum.toD o) = o.isNone := by
  cases o with
  | none => rfl
  | some a => exact h a
/-! ### the elements over some tags -/
theorem subsF_mem : ∀ (ts : List Str) (f : List Tags) (e : Tags), e ∈ subsF ts f ↔ ∃ b ∈ f, ∃ g : List Str, g.Sublist ts ∧ e = Tup.mk (b.items ++ g)
  | [], f, e => by
    unfold subsF
    constructor
    · exact fun h => ⟨e, h, [], List.Sublist.refl _, by rw [List.append_nil]⟩
    · rintro ⟨b, hb, g, hg, rfl⟩
      rw [List.sublist_nil.mp hg, List.append_nil]
      exact hb
  | t :: ts, f, e => by
    unfold subsF
    rw [subsF_mem ts]
    constructor
    · rintro ⟨b, hb, g, hg, rfl⟩
      rcases List.mem_append.mp hb with h | h
      · exact ⟨b, h, g, hg.cons t, rfl⟩
      · obtain ⟨b', hb', rfl⟩ := List.mem_map.mp h
        exact ⟨b', hb', t :: g, hg.cons₂ t, by simp⟩
    · rintro ⟨b, hb, g, hg, rfl⟩
      cases hg with
      | cons _ h => exact ⟨b, List.mem_append_left _ hb, g, h, rfl⟩
      | cons_cons _ h => exact ⟨Tup.mk (b.items ++ [t]), List.mem_append_right _ (List.mem_map.mpr ⟨b, hb, rfl⟩), _, h, by simp⟩
theorem elements_mem {pool e : Tags} : e ∈ elementsL pool ↔ e.items.Sublist pool.items := by
  unfold elementsL
  rw [List.mem_mergeSort, subsF_mem]
  constructor
  · rintro ⟨b, hb, g, hg, rfl⟩
    simp at hb
    subst hb
    exact hg
  · intro h
    exact ⟨Tup.mk [], by simp, e.items, h, rfl⟩
/-! ### the styles -/
theorem firstL_sub (xs : List Str) : (firstL xs).Sublist xs := by
  have h : ((enumL xs).filter fun p => !decide (p.2 ∈ xs.take p.1.toNat)).Sublist (enumL xs) := List.filter_sublist ..
  have h2 := h.map (·.2)
  rw [enum_snd] at h2
  exact h2
theorem firstL_nodup (xs : List Str) : (firstL xs).Nodup := by
  unfold firstL
  rw [List.Nodup, List.pairwise_map]
  refine List.Pairwise.imp_of_mem ?_ ((enumL_pair xs).filter _)
  intro p q hp hq hlt e
  obtain ⟨hp1, _⟩ := List.mem_filter.mp hp
  obtain ⟨hq1, hq2⟩ := List.mem_filter.mp hq
  obtain ⟨i, hi, hx⟩ := enumL_at hp1
  obtain ⟨j, hj, hy⟩ := enumL_at hq1
  have hq2 : q.2 ∉ xs.take q.1.toNat := by simpa using hq2
  refine hq2 ?_
  rw [← e, hj, Int.toNat_natCast]
  rw [hi, hj] at hlt
  have hlt : i < j := by omega
  rw [List.mem_iff_getElem?]
  exact ⟨i, by rw [List.getElem?_take_of_lt hlt]; exact hx⟩
theorem firstL_mem {xs : List Str} : ∀ {x : Str}, x ∈ firstL xs ↔ x ∈ xs := by
  intro x
  constructor
  · exact fun h => (firstL_sub xs).subset h
  · intro h
    have : ∀ (k : Nat), xs[k]? = some x → x ∈ firstL xs := by
      intro k
      induction k using Nat.strongRecOn with
      | ind k ih =>
        intro hk
        by_cases hm : x ∈ xs.take k
        · obtain ⟨j, hj⟩ := List.mem_iff_getElem?.mp hm
          have hjk : j < k := by
            have := (List.getElem?_eq_some_iff.mp hj).1
            rw [List.length_take] at this
            omega
          rw [List.getElem?_take_of_lt hjk] at hj
          exact ih j hjk hj
        · unfold firstL
          exact List.mem_map.mpr ⟨((k : Int), x), List.mem_filter.mpr ⟨enumL_mem hk, by simpa using hm⟩, rfl⟩
    obtain ⟨k, hk⟩ := List.mem_iff_getElem?.mp h
    exact this k hk
end Dat

/-! Dead: rules that never win. -/
namespace Dat
open PySem PySem.Spec PyProof.Rows L2
open PySem.W (Datum DatumOrd Tup)

def beatO (s : Sheet) (i : Int) (r : Rule) : Option Int := if winI s r.a r.c = some i then none else winI s r.a r.c
def C_beaten_by : Con := fun cs P => ∃ (s : Sheet) (i : Int) (r : Rule), cs = [.d (Datum.toD s), .d (.int i)] ∧ L2.atI s.items i = some r ∧ P (Datum.toD (beatO s i r))
def deadL (s : Sheet) : List Int := ((enumL s.items).filter fun p => (beatO s p.1 p.2).isSome).map (·.1)
def C_dead_rules : Con := fun cs P => ∃ s : Sheet, cs = [.d (Datum.toD s)] ∧ s.items.length ≤ 1000 ∧ P (Datum.toD (deadL s))
def W_beaten_by : WS :=
  (sSeq (sSet 2 (wCall C_winner (aD (wVar 0) (aD (w2 gIx (w2 gIx (wVar 0) (wVar 1)) (wC (.int 0))) (aD (w2 gIx (w2 gIx (wVar 0) (wVar 1)) (wC (.int 2))) aNil)))))
    (sRet (wIfE (wTst (w2 gNe (wVar 2) (wVar 1))) (wVar 2) (wC .none))))

def W_dead_rules : WS :=
  (sRetF (wLc (wRg1 (w1 gLen (wVar 0))) (wGn 1) (wTst (wNotN (wCall C_beaten_by (aD (wVar 0) (aD (wVar 1) aNil))))) (wVar 1) [1]))

theorem body_beaten_by : ∀ cs P, cs.length = 2 → C_beaten_by cs P → noOwn cs ∧ W_beaten_by (startE 3 cs) (endD false P) := by
  rintro cs P _ ⟨s, i, r, rfl, hr, h⟩
  refine ⟨noOwn2, ?_⟩
  show W_beaten_by [some (.d (Datum.toD s)), some (.d (.int i)), none] _
  unfold W_beaten_by
  simp only [sSeq, sSet, sSetF, sRet, sRetN, sRetF, sNext, sIf, sFor, sAsg, sDrop, sBreak, sCont, w2, w1, wF1, wF, wC, wTst, wNot, wAnd, wOr, wAndV, wOrV, wNotV, wIfE, wIsN, wNotN, wTup, wCons, wNil, wCall, wCallL, wCallB, aD, aO, aNil, wLc, wSeqI, wEnum, wZip, wRg1, wO0, wO1, wSl, wNeg, wCat, wRevL, wIsi, wIsi2, wGn, wGtup, wGcons, wGnil, wYes, wipeE, endD, lawD, wVar, wOwn, List.getD_cons_zero, List.getD_cons_succ, List.set_cons_zero, List.set_cons_succ, Bool.false_eq_true, false_imp_iff, true_and, and_true, if_true, if_false, List.length_cons, List.length_nil, gTuple_lst, gAdd_int, gSub_int, gIxR0, gIxR1, gIxR2, gIxR3, isSeq_tup, isSeq_list, itemsD_tup, itemsD_list, isSeq_lst, itemsD_lst, isSeq_tp, itemsD_tp, gLenTup, gLenList, enumD_map, toD_pair, toD_int, toD_str, toD_bool, ite_self, reduceIte]
  refine gIxT_ hr ?_
  simp only [sSeq, sSet, sSetF, sRet, sRetN, sRetF, sNext, sIf, sFor, sAsg, sDrop, sBreak, sCont, w2, w1, wF1, wF, wC, wTst, wNot, wAnd, wOr, wAndV, wOrV, wNotV, wIfE, wIsN, wNotN, wTup, wCons, wNil, wCall, wCallL, wCallB, aD, aO, aNil, wLc, wSeqI, wEnum, wZip, wRg1, wO0, wO1, wSl, wNeg, wCat, wRevL, wIsi, wIsi2, wGn, wGtup, wGcons, wGnil, wYes, wipeE, endD, lawD, wVar, wOwn, List.getD_cons_zero, List.getD_cons_succ, List.set_cons_zero, List.set_cons_succ, Bool.false_eq_true, false_imp_iff, true_and, and_true, if_true, if_false, List.length_cons, List.length_nil, gTuple_lst, gAdd_int, gSub_int, gIxR0, gIxR1, gIxR2, gIxR3, isSeq_tup, isSeq_list, itemsD_tup, itemsD_list, isSeq_lst, itemsD_lst, isSeq_tp, itemsD_tp, gLenTup, gLenList, enumD_map, toD_pair, toD_int, toD_str, toD_bool, ite_self, reduceIte]
  refine gIxT_ hr ?_
  simp only [sSeq, sSet, sSetF, sRet, sRetN, sRetF, sNext, sIf, sFor, sAsg, sDrop, sBreak, sCont, w2, w1, wF1, wF, wC, wTst, wNot, wAnd, wOr, wAndV, wOrV, wNotV, wIfE, wIsN, wNotN, wTup, wCons, wNil, wCall, wCallL, wCallB, aD, aO, aNil, wLc, wSeqI, wEnum, wZip, wRg1, wO0, wO1, wSl, wNeg, wCat, wRevL, wIsi, wIsi2, wGn, wGtup, wGcons, wGnil, wYes, wipeE, endD, lawD, wVar, wOwn, List.getD_cons_zero, List.getD_cons_succ, List.set_cons_zero, List.set_cons_succ, Bool.false_eq_true, false_imp_iff, true_and, and_true, if_true, if_false, List.length_cons, List.length_nil, gTuple_lst, gAdd_int, gSub_int, gIxR0, gIxR1, gIxR2, gIxR3, isSeq_tup, isSeq_list, itemsD_tup, itemsD_list, isSeq_lst, itemsD_lst, isSeq_tp, itemsD_tp, gLenTup, gLenList, enumD_map, toD_pair, toD_int, toD_str, toD_bool, ite_self, reduceIte]
  refine ⟨s, r.a, r.c, rfl, ?_⟩
  simp only [sSeq, sSet, sSetF, sRet, sRetN, sRetF, sNext, sIf, sFor, sAsg, sDrop, sBreak, sCont, w2, w1, wF1, wF, wC, wTst, wNot, wAnd, wOr, wAndV, wOrV, wNotV, wIfE, wIsN, wNotN, wTup, wCons, wNil, wCall, wCallL, wCallB, aD, aO, aNil, wLc, wSeqI, wEnum, wZip, wRg1, wO0, wO1, wSl, wNeg, wCat, wRevL, wIsi, wIsi2, wGn, wGtup, wGcons, wGnil, wYes, wipeE, endD, lawD, wVar, wOwn, List.getD_cons_zero, List.getD_cons_succ, List.set_cons_zero, List.set_cons_succ, Bool.false_eq_true, false_imp_iff, true_and, and_true, if_true, if_false, List.length_cons, List.length_nil, gTuple_lst, gAdd_int, gSub_int, gIxR0, gIxR1, gIxR2, gIxR3, isSeq_tup, isSeq_list, itemsD_tup, itemsD_list, isSeq_lst, itemsD_lst, isSeq_tp, itemsD_tp, gLenTup, gLenList, enumD_map, toD_pair, toD_int, toD_str, toD_bool, ite_self, reduceIte]
  refine gNe_ (α := Option Int) (a := winI s r.a r.c) (b := some i) (by decide) ?_
  unfold beatO at h
  by_cases e : winI s r.a r.c = some i
  · rw [if_pos e] at h
    rw [decide_eq_true e]
    exact h
  · rw [if_neg e] at h
    rw [decide_eq_false e]
    exact h
theorem body_dead_rules : ∀ cs P, cs.length = 1 → C_dead_rules cs P → noOwn cs ∧ W_dead_rules (startE 2 cs) (endD true P) := by
  rintro cs P _ ⟨s, rfl, hz, h⟩
  refine ⟨noOwn1, ?_⟩
  show W_dead_rules [some (.d (Datum.toD s)), none] _
  unfold W_dead_rules
  simp only [sSeq, sSet, sSetF, sRet, sRetN, sRetF, sNext, sIf, sFor, sAsg, sDrop, sBreak, sCont, w2, w1, wF1, wF, wC, wTst, wNot, wAnd, wOr, wAndV, wOrV, wNotV, wIfE, wIsN, wNotN, wTup, wCons, wNil, wCall, wCallL, wCallB, aD, aO, aNil, wLc, wSeqI, wEnum, wZip, wRg1, wO0, wO1, wSl, wNeg, wCat, wRevL, wIsi, wIsi2, wGn, wGtup, wGcons, wGnil, wYes, wipeE, endD, lawD, wVar, wOwn, List.getD_cons_zero, List.getD_cons_succ, List.set_cons_zero, List.set_cons_succ, Bool.false_eq_true, false_imp_iff, true_and, and_true, if_true, if_false, List.length_cons, List.length_nil, gTuple_lst, gAdd_int, gSub_int, gIxR0, gIxR1, gIxR2, gIxR3, isSeq_tup, isSeq_list, itemsD_tup, itemsD_list, isSeq_lst, itemsD_lst, isSeq_tp, itemsD_tp, gLenTup, gLenList, enumD_map, toD_pair, toD_int, toD_str, toD_bool, ite_self, reduceIte]
  refine ⟨by omega, by omega, ?_⟩
  refine wComp_fme (fun p : Int × Rule => Datum.toD p.1) (fun p => (beatO s p.1 p.2).isSome) (fun p => Datum.toD p.1) (enumL s.items) (by rw [rgD_enum, List.map_map]; rfl) (fun p hp Q R h1 h2 => ?_) ?_
  · simp only [sSeq, sSet, sSetF, sRet, sRetN, sRetF, sNext, sIf, sFor, sAsg, sDrop, sBreak, sCont, w2, w1, wF1, wF, wC, wTst, wNot, wAnd, wOr, wAndV, wOrV, wNotV, wIfE, wIsN, wNotN, wTup, wCons, wNil, wCall, wCallL, wCallB, aD, aO, aNil, wLc, wSeqI, wEnum, wZip, wRg1, wO0, wO1, wSl, wNeg, wCat, wRevL, wIsi, wIsi2, wGn, wGtup, wGcons, wGnil, wYes, wipeE, endD, lawD, wVar, wOwn, List.getD_cons_zero, List.getD_cons_succ, List.set_cons_zero, List.set_cons_succ, Bool.false_eq_true, false_imp_iff, true_and, and_true, if_true, if_false, List.length_cons, List.length_nil, gTuple_lst, gAdd_int, gSub_int, gIxR0, gIxR1, gIxR2, gIxR3, isSeq_tup, isSeq_list, itemsD_tup, itemsD_list, isSeq_lst, itemsD_lst, isSeq_tp, itemsD_tp, gLenTup, gLenList, enumD_map, toD_pair, toD_int, toD_str, toD_bool, ite_self, reduceIte]
    refine ⟨s, p.1, p.2, rfl, mem_atI hp, ?_⟩
    cases q : beatO s p.1 p.2 with
    | none => exact h2 (by rw [q]; rfl)
    | some k => exact h1 (by rw [q]; rfl)
  · have h : P (.list ((deadL s).map Datum.toD)) := h
    unfold deadL at h
    rw [List.map_map] at h
    exact h

/-! ### who wins somewhere, wins on its own selector -/
theorem own_good (r : Rule) (i : Int) : goodP r.a r.c (i, r) = true := good_iff.mpr ⟨fun t h => h, rfl⟩
theorem top_own {s : Sheet} {e : Tags} {n : Str} {p : Int × Rule} (t : Top e n (enumL s.items) p) : Top p.2.a p.2.c (enumL s.items) p := by
  have hg := good_iff.mp t.good
  refine ⟨t.mem, own_good p.2 p.1, fun q hq hqg => t.top q hq (good_iff.mpr ?_)⟩
  have h2 := good_iff.mp hqg
  exact ⟨fun x hx => hg.1 x (h2.1 x hx), h2.2.trans hg.2⟩
theorem own_some {s : Sheet} {p : Int × Rule} (hp : p ∈ enumL s.items) : ∃ q, Top p.2.a p.2.c (enumL s.items) q ∧ winI s p.2.a p.2.c = some q.1 := by
  rcases top_cases s p.2.a p.2.c with ⟨q, h1, h2, _⟩ | ⟨h1, _⟩
  · exact ⟨q, h1, h2⟩
  · have : p ∈ (enumL s.items).filter (goodP p.2.a p.2.c) := List.mem_filter.mpr ⟨hp, own_good p.2 p.1⟩
    rw [h1] at this
    cases this
/-- not beaten: strongest on its own selector -/
theorem alive_iff {s : Sheet} {p : Int × Rule} (hp : p ∈ enumL s.items) : (beatO s p.1 p.2).isSome = false ↔ Top p.2.a p.2.c (enumL s.items) p := by
  obtain ⟨q, h1, h2⟩ := own_some hp
  unfold beatO
  constructor
  · intro h
    by_cases e : winI s p.2.a p.2.c = some p.1
    · rw [h2] at e
      have : q = p := inc_eq (enumL_pair s.items) h1.mem hp (Option.some.inj e)
      rw [← this] at h1 ⊢
      exact top_own h1
    · rw [if_neg e, h2] at h
      cases h
  · intro h
    rw [if_pos (win_top h).1]
    rfl
/-- alive: wins for some element -/
theorem alive_wins {s : Sheet} {p : Int × Rule} (hp : p ∈ enumL s.items) : (beatO s p.1 p.2).isSome = false ↔ ∃ e n, winI s e n = some p.1 := by
  rw [alive_iff hp]
  constructor
  · exact fun h => ⟨_, _, (win_top h).1⟩
  · rintro ⟨e, n, h⟩
    rcases top_cases s e n with ⟨q, h1, h2, _⟩ | ⟨_, h2, _⟩
    · rw [h] at h2
      have : q = p := inc_eq (enumL_pair s.items) h1.mem hp (Option.some.inj h2).symm
      rw [this] at h1
      exact top_own h1
    · rw [h] at h2
      cases h2
/-- without dead rules every value stays -/
theorem alive_val (s : Sheet) (e : Tags) (n : Str) : valO (Tup.mk (((enumL s.items).filter fun p => !(beatO s p.1 p.2).isSome).map (·.2))) e n = valO s e n := by
  have hpair := (enumL_pair s.items).filter fun p => !(beatO s p.1 p.2).isSome
  rcases top_cases s e n with ⟨q, h1, _, h3⟩ | ⟨h1, _, h3⟩
  · have ha := (alive_iff h1.mem).mpr (top_own h1)
    rw [h3, valO_part hpair (h1.sub (fun x hx => (List.mem_filter.mp hx).1) (List.mem_filter.mpr ⟨h1.mem, by rw [ha]; rfl⟩))]
  · rw [h3, valO_part_none]
    rw [List.filter_eq_nil_iff] at h1 ⊢
    exact fun x hx => h1 x (List.mem_filter.mp hx).1
end Dat

/-! Alk: the same values for every element. -/
namespace Dat
open PySem PySem.Spec PyProof.Rows L2
open PySem.W (Datum DatumOrd Tup)

def likeB (s1 s2 : Sheet) (pool : Tags) : Bool := (elementsL pool).all fun e => pqL.all fun n => decide (valO s1 e n = valO s2 e n)
def C__law_alike : Con := fun cs P => ∃ (s1 s2 : Sheet) (pool : Tags), cs = [.d (Datum.toD s1), .d (Datum.toD s2), .d (Datum.toD pool)] ∧ pool.items.length ≤ 10 ∧ P (.bool (likeB s1 s2 pool))
def B__law_alike_1 : WS :=
  (sIf (wTst (w2 gNe (wCall C__law_value (aD (wVar 0) (aD (wVar 3) (aD (wVar 4) aNil)))) (wCall C__law_value (aD (wVar 1) (aD (wVar 3) (aD (wVar 4) aNil))))))
    (sRet (wC (.bool false)))
    sNext)
def B__law_alike_0 : WS :=
  (sFor (wSeqI (wTup (wCons (wC (.str "p")) (wCons (wC (.str "q")) wNil)))) (wGn 4) B__law_alike_1)
def W__law_alike : WS :=
  (sSeq (sFor (wSeqI (wCall C__law_elements (aD (wVar 2) aNil))) (wGn 3) B__law_alike_0)
    (sRet (wC (.bool true))))

theorem body__law_alike : ∀ cs P, cs.length = 3 → C__law_alike cs P → noOwn cs ∧ W__law_alike (startE 5 cs) (endD false P) := by
  rintro cs P _ ⟨s1, s2, pool, rfl, hp, h⟩
  refine ⟨noOwn3, ?_⟩
  show W__law_alike [some (.d (Datum.toD s1)), some (.d (Datum.toD s2)), some (.d (Datum.toD pool)), none, none] _
  unfold W__law_alike
  simp only [sSeq, sSet, sSetF, sRet, sRetN, sRetF, sNext, sIf, sFor, sAsg, sDrop, sBreak, sCont, w2, w1, wF1, wF, wC, wTst, wNot, wAnd, wOr, wAndV, wOrV, wNotV, wIfE, wIsN, wNotN, wTup, wCons, wNil, wCall, wCallL, wCallB, aD, aO, aNil, wLc, wSeqI, wEnum, wZip, wRg1, wO0, wO1, wSl, wNeg, wCat, wRevL, wIsi, wIsi2, wGn, wGtup, wGcons, wGnil, wYes, wipeE, endD, lawD, wVar, wOwn, List.getD_cons_zero, List.getD_cons_succ, List.set_cons_zero, List.set_cons_succ, Bool.false_eq_true, false_imp_iff, true_and, and_true, if_true, if_false, List.length_cons, List.length_nil, gTuple_lst, gAdd_int, gSub_int, gIxR0, gIxR1, gIxR2, gIxR3, isSeq_tup, isSeq_list, itemsD_tup, itemsD_list, isSeq_lst, itemsD_lst, isSeq_tp, itemsD_tp, gLenTup, gLenList, enumD_map, toD_pair, toD_int, toD_str, toD_bool, ite_self, reduceIte]
  refine ⟨pool, rfl, hp, ?_⟩
  simp only [sSeq, sSet, sSetF, sRet, sRetN, sRetF, sNext, sIf, sFor, sAsg, sDrop, sBreak, sCont, w2, w1, wF1, wF, wC, wTst, wNot, wAnd, wOr, wAndV, wOrV, wNotV, wIfE, wIsN, wNotN, wTup, wCons, wNil, wCall, wCallL, wCallB, aD, aO, aNil, wLc, wSeqI, wEnum, wZip, wRg1, wO0, wO1, wSl, wNeg, wCat, wRevL, wIsi, wIsi2, wGn, wGtup, wGcons, wGnil, wYes, wipeE, endD, lawD, wVar, wOwn, List.getD_cons_zero, List.getD_cons_succ, List.set_cons_zero, List.set_cons_succ, Bool.false_eq_true, false_imp_iff, true_and, and_true, if_true, if_false, List.length_cons, List.length_nil, gTuple_lst, gAdd_int, gSub_int, gIxR0, gIxR1, gIxR2, gIxR3, isSeq_tup, isSeq_list, itemsD_tup, itemsD_list, isSeq_lst, itemsD_lst, isSeq_tp, itemsD_tp, gLenTup, gLenList, enumD_map, toD_pair, toD_int, toD_str, toD_bool, ite_self, reduceIte]
  refine sLoop_ind Datum.toD (fun rest ρ => ∃ x3 x4, ρ = [some (.d (Datum.toD s1)), some (.d (Datum.toD s2)), some (.d (Datum.toD pool)), x3, x4] ∧ (∀ e ∈ rest, e ∈ elementsL pool) ∧ ∀ e ∈ elementsL pool, e ∈ rest ∨ ∀ n ∈ pqL, valO s1 e n = valO s2 e n) ?_ ?_ _ _ ⟨_, _, rfl, fun e he => he, fun e he => .inl he⟩
  · rintro ρ ⟨x3, x4, rfl, _, hr⟩
    have : likeB s1 s2 pool = true := by
      unfold likeB
      rw [List.all_eq_true]
      intro e he
      rw [List.all_eq_true]
      intro n hn
      rcases hr e he with q | q
      · cases q
      · exact decide_eq_true (q n hn)
    rw [this] at h
    exact h
  · rintro e rest ρ ⟨x3, x4, rfl, hin, hr⟩ k hk
    have he := hin e (List.mem_cons_self ..)
    unfold B__law_alike_0
    simp only [sSeq, sSet, sSetF, sRet, sRetN, sRetF, sNext, sIf, sFor, sAsg, sDrop, sBreak, sCont, w2, w1, wF1, wF, wC, wTst, wNot, wAnd, wOr, wAndV, wOrV, wNotV, wIfE, wIsN, wNotN, wTup, wCons, wNil, wCall, wCallL, wCallB, aD, aO, aNil, wLc, wSeqI, wEnum, wZip, wRg1, wO0, wO1, wSl, wNeg, wCat, wRevL, wIsi, wIsi2, wGn, wGtup, wGcons, wGnil, wYes, wipeE, endD, lawD, wVar, wOwn, List.getD_cons_zero, List.getD_cons_succ, List.set_cons_zero, List.set_cons_succ, Bool.false_eq_true, false_imp_iff, true_and, and_true, if_true, if_false, List.length_cons, List.length_nil, gTuple_lst, gAdd_int, gSub_int, gIxR0, gIxR1, gIxR2, gIxR3, isSeq_tup, isSeq_list, itemsD_tup, itemsD_list, isSeq_lst, itemsD_lst, isSeq_tp, itemsD_tp, gLenTup, gLenList, enumD_map, toD_pair, toD_int, toD_str, toD_bool, ite_self, reduceIte]
    refine sLoop_ind (fun n : Str => .str n) (fun rest2 ρ => ∃ x4, ρ = [some (.d (Datum.toD s1)), some (.d (Datum.toD s2)), some (.d (Datum.toD pool)), some (.d (Datum.toD e)), x4] ∧ (∀ n ∈ rest2, n ∈ pqL) ∧ ∀ n ∈ pqL, n ∈ rest2 ∨ valO s1 e n = valO s2 e n) ?_ ?_ pqL _ ⟨_, rfl, fun n hn => hn, fun n hn => .inl hn⟩
    · rintro ρ ⟨x4, rfl, _, hr2⟩
      refine hk _ ⟨_, _, rfl, fun e' he' => hin e' (List.mem_cons_of_mem _ he'), fun e' he' => ?_⟩
      rcases hr e' he' with q | q
      · rcases List.mem_cons.mp q with q | q
        · subst q
          refine .inr fun n hn => ?_
          rcases hr2 n hn with q2 | q2
          · cases q2
          · exact q2
        · exact .inl q
      · exact .inr q
    · rintro n rest2 ρ ⟨x4, rfl, hin2, hr2⟩ k2 hk2
      have hn := hin2 n (List.mem_cons_self ..)
      unfold B__law_alike_1
      simp only [sSeq, sSet, sSetF, sRet, sRetN, sRetF, sNext, sIf, sFor, sAsg, sDrop, sBreak, sCont, w2, w1, wF1, wF, wC, wTst, wNot, wAnd, wOr, wAndV, wOrV, wNotV, wIfE, wIsN, wNotN, wTup, wCons, wNil, wCall, wCallL, wCallB, aD, aO, aNil, wLc, wSeqI, wEnum, wZip, wRg1, wO0, wO1, wSl, wNeg, wCat, wRevL, wIsi, wIsi2, wGn, wGtup, wGcons, wGnil, wYes, wipeE, endD, lawD, wVar, wOwn, List.getD_cons_zero, List.getD_cons_succ, List.set_cons_zero, List.set_cons_succ, Bool.false_eq_true, false_imp_iff, true_and, and_true, if_true, if_false, List.length_cons, List.length_nil, gTuple_lst, gAdd_int, gSub_int, gIxR0, gIxR1, gIxR2, gIxR3, isSeq_tup, isSeq_list, itemsD_tup, itemsD_list, isSeq_lst, itemsD_lst, isSeq_tp, itemsD_tp, gLenTup, gLenList, enumD_map, toD_pair, toD_int, toD_str, toD_bool, ite_self, reduceIte]
      refine ⟨s1, e, n, rfl, ?_⟩
      refine ⟨s2, e, n, rfl, ?_⟩
      refine gNe_ (α := Option Str) (by decide) ?_
      by_cases q : valO s1 e n = valO s2 e n
      · rw [decide_eq_true q]
        refine noB ?_
        refine hk2 _ ⟨_, rfl, fun n' hn' => hin2 n' (List.mem_cons_of_mem _ hn'), fun n' hn' => ?_⟩
        rcases hr2 n' hn' with q2 | q2
        · rcases List.mem_cons.mp q2 with q3 | q3
          · subst q3; exact .inr q
          · exact .inl q3
        · exact .inr q2
      · rw [decide_eq_false q]
        have : likeB s1 s2 pool = false := by
          cases hb : likeB s1 s2 pool with
          | false => rfl
          | true =>
            unfold likeB at hb
            rw [List.all_eq_true] at hb
            have := hb e he
            rw [List.all_eq_true] at this
            exact absurd (of_decide_eq_true (this n hn)) q
        rw [this] at h
        exact h
theorem likeB_true {s1 s2 : Sheet} {pool : Tags} (h : ∀ e n, valO s1 e n = valO s2 e n) : likeB s1 s2 pool = true := by
  unfold likeB
  rw [List.all_eq_true]
  intro e he
  rw [List.all_eq_true]
  exact fun n hn => decide_eq_true (h e n)
end Dat

/-! Min: the smallest of a list; fewest tags. -/
namespace Dat
open PySem PySem.Spec PyProof.Rows L2
open PySem.W (Datum DatumOrd Tup)
section
variable {α : Type} [DecidableEq α] [DatumOrd α]
theorem gMin_ {x : α} {xs : List α} {P : PyData → Prop} (hd : Datum.depth α ≤ 60) (h : P (Datum.toD (PySem.W.minOf x xs))) : gMin (.list ((x :: xs).map Datum.toD)) P := by
  refine ⟨rfl, Datum.toD x, xs.map Datum.toD, rfl, PySem.W.alikeAll_datum (x :: xs), Nat.le_trans (PySem.W.depthAll_map (x :: xs)) hd, ?_⟩
  rw [PySem.W.minD_map]
  exact h
theorem minOf_spec [LeL α] : ∀ (xs : List α) (x : α), PySem.W.minOf x xs ∈ x :: xs ∧ ∀ y ∈ x :: xs, leOf (PySem.W.minOf x xs) y = true
  | [], x => ⟨by show x ∈ [x]; simp, fun y hy => by
      simp at hy
      subst hy
      exact leOf_refl _⟩
  | z :: zs, x => by
    have h := minOf_spec zs (if DatumOrd.lt z x = true then z else x)
    have e : PySem.W.minOf x (z :: zs) = PySem.W.minOf (if DatumOrd.lt z x = true then z else x) zs := rfl
    rw [e]
    cases q : DatumOrd.lt z x with
    | true =>
      rw [q, if_pos rfl] at h
      rw [if_pos rfl]
      refine ⟨List.mem_cons_of_mem _ h.1, fun y hy => ?_⟩
      rcases List.mem_cons.mp hy with t | t
      · subst t
        exact leOf_trans (h.2 z (List.mem_cons_self ..)) (lt_leOf q)
      · exact h.2 y t
    | false =>
      rw [q, if_neg (by simp)] at h
      rw [if_neg (by simp)]
      refine ⟨?_, fun y hy => ?_⟩
      · rcases List.mem_cons.mp h.1 with t | t
        · rw [t]; exact List.mem_cons_self ..
        · exact List.mem_cons_of_mem _ (List.mem_cons_of_mem _ t)
      · rcases List.mem_cons.mp hy with t | t
        · subst t
          exact h.2 y (List.mem_cons_self ..)
        · rcases List.mem_cons.mp t with t | t
          · subst t
            refine leOf_trans (h.2 x (List.mem_cons_self ..)) ?_
            unfold leOf
            rw [q]
            rfl
          · exact h.2 y (List.mem_cons_of_mem _ t)
def minL : List α → Option α
  | [] => none
  | x :: xs => some (PySem.W.minOf x xs)
theorem minL_spec [LeL α] {l : List α} {m : α} (h : minL l = some m) : m ∈ l ∧ ∀ y ∈ l, leOf m y = true := by
  cases l with
  | nil => cases h
  | cons x xs =>
    cases h
    exact minOf_spec xs x
theorem minL_of [LeL α] {l : List α} {m : α} (hm : m ∈ l) (h : ∀ y ∈ l, leOf m y = true) : minL l = some m := by
  cases l with
  | nil => cases hm
  | cons x xs =>
    obtain ⟨h1, h2⟩ := minOf_spec xs x
    show some _ = _
    rw [leOf_anti (h2 m hm) (h _ h1)]
theorem minL_nil {l : List α} (h : minL l = none) : l = [] := by
  cases l with
  | nil => rfl
  | cons x xs => cases h
/-- the same smallest: all of a stand in b, and each of b has one of a not above it -/
theorem minL_eq [LeL α] {a b : List α} (h1 : ∀ x ∈ a, x ∈ b) (h2 : ∀ y ∈ b, ∃ x ∈ a, leOf x y = true) : minL b = minL a := by
  cases q : minL a with
  | none =>
    have := minL_nil q
    subst this
    cases b with
    | nil => rfl
    | cons y b =>
      obtain ⟨x, hx, _⟩ := h2 y (List.mem_cons_self ..)
      cases hx
  | some m =>
    obtain ⟨h3, h4⟩ := minL_spec q
    refine minL_of (h1 m h3) fun y hy => ?_
    obtain ⟨x, hx, hxy⟩ := h2 y hy
    exact leOf_trans (h4 x hx) hxy
end

/-! ### fewest tags -/
def rowOf (e : Tags) : Int × Tags := ((e.items.length : Int), e)
def fewP (s : Sheet) (n v : Str) (p : Int × Rule) : Bool := !(beatO s p.1 p.2).isSome && decide ((p.2.c, p.2.d) = (n, v))
def fewRows (s : Sheet) (n v : Str) (l : List (Int × Rule)) : List (Int × Tags) := (l.filter (fewP s n v)).map fun p => rowOf p.2.a
def fewO (s : Sheet) (n v : Str) : Option Tags := (minL (fewRows s n v (enumL s.items))).map (·.2)
def C_fewest_tags : Con := fun cs P => ∃ (s : Sheet) (n v : Str), cs = [.d (Datum.toD s), .d (.str n), .d (.str v)] ∧ s.items.length ≤ 1000 ∧ P (Datum.toD (fewO s n v))
def B_fewest_tags_0 : WS :=
  (sIf (wAnd (wTst (w2 gNi (wVar 5) (wVar 3))) (wTst (w2 gEq (wSl (wVar 6) (wO1 (wC (.int 2))) wO0) (wTup (wCons (wVar 1) (wCons (wVar 2) wNil))))))
    (sApp 4 (wTup (wCons (w1 gLen (w2 gIx (wVar 6) (wC (.int 0)))) (wCons (w2 gIx (wVar 6) (wC (.int 0))) wNil))))
    sNext)
def W_fewest_tags : WS :=
  (sSeq (sSet 3 (wCall C_dead_rules (aD (wVar 0) aNil)))
    (sSeq (sSetF 4 wNil)
    (sSeq (sFor (wEnum (wVar 0)) (wGtup 2 (wGcons (wGn 5) (wGcons (wGn 6) wGnil))) B_fewest_tags_0)
    (sRet (wIfE (wTst (w2 gNe (wOwn 4) (wF wNil))) (w2 gIx (w1 gMin (wOwn 4)) (wC (.int 1))) (wC .none))))))

theorem gSlR2 {r : Rule} {P : PyData → Prop} : gSl (Datum.toD r) (some 2) none P = P (Datum.toD ((r.c, r.d) : Str × Str)) := rfl
theorem dead_mem {s : Sheet} {p : Int × Rule} (hp : p ∈ enumL s.items) : p.1 ∈ deadL s ↔ (beatO s p.1 p.2).isSome = true := by
  unfold deadL
  rw [List.mem_map]
  constructor
  · rintro ⟨q, hq, e⟩
    obtain ⟨h1, h2⟩ := List.mem_filter.mp hq
    rw [← inc_eq (enumL_pair s.items) h1 hp e]
    exact h2
  · exact fun h => ⟨p, List.mem_filter.mpr ⟨hp, h⟩, rfl⟩
theorem min_second {P : PyData → Prop} {rows : List (Int × Tags)} (h : P (Datum.toD ((minL rows).map (·.2)))) : gNe (.list (rows.map Datum.toD)) (.list []) fun d => match d with
    | .bool b => if b = true then gMin (.list (rows.map Datum.toD)) fun d => gIx d (.int 1) P else P .none
    | _ => False := by
  refine gNeC (α := List (Int × Tags)) (b := []) (by decide) (fun z => ?_) fun z => ?_
  · cases rows with
    | nil => exact absurd rfl z
    | cons x xs =>
      (dsimp only; first | rw [if_pos rfl] | rw [if_neg (by simp)])
      exact gMin_ (α := Int × Tags) (x := x) (xs := xs) (by decide) ⟨_, rfl, h⟩
  · subst z
    exact h
theorem body_fewest_tags : ∀ cs P, cs.length = 3 → C_fewest_tags cs P → noOwn cs ∧ W_fewest_tags (startE 7 cs) (endD false P) := by
  rintro cs P _ ⟨s, n, v, rfl, hz, h⟩
  refine ⟨noOwn3, ?_⟩
  show W_fewest_tags [some (.d (Datum.toD s)), some (.d (.str n)), some (.d (.str v)), none, none, none, none] _
  unfold W_fewest_tags
  simp only [sSeq, sSet, sSetF, sRet, sRetN, sRetF, sNext, sIf, sFor, sAsg, sDrop, sBreak, sCont, w2, w1, wF1, wF, wC, wTst, wNot, wAnd, wOr, wAndV, wOrV, wNotV, wIfE, wIsN, wNotN, wTup, wCons, wNil, wCall, wCallL, wCallB, aD, aO, aNil, wLc, wSeqI, wEnum, wZip, wRg1, wO0, wO1, wSl, wNeg, wCat, wRevL, wIsi, wIsi2, wGn, wGtup, wGcons, wGnil, wYes, wipeE, endD, lawD, wVar, wOwn, List.getD_cons_zero, List.getD_cons_succ, List.set_cons_zero, List.set_cons_succ, Bool.false_eq_true, false_imp_iff, true_and, and_true, if_true, if_false, List.length_cons, List.length_nil, gTuple_lst, gAdd_int, gSub_int, gIxR0, gIxR1, gIxR2, gIxR3, isSeq_tup, isSeq_list, itemsD_tup, itemsD_list, isSeq_lst, itemsD_lst, isSeq_tp, itemsD_tp, gLenTup, gLenList, enumD_map, toD_pair, toD_int, toD_str, toD_bool, ite_self, reduceIte]
  refine ⟨s, rfl, hz, ?_⟩
  simp only [sSeq, sSet, sSetF, sRet, sRetN, sRetF, sNext, sIf, sFor, sAsg, sDrop, sBreak, sCont, w2, w1, wF1, wF, wC, wTst, wNot, wAnd, wOr, wAndV, wOrV, wNotV, wIfE, wIsN, wNotN, wTup, wCons, wNil, wCall, wCallL, wCallB, aD, aO, aNil, wLc, wSeqI, wEnum, wZip, wRg1, wO0, wO1, wSl, wNeg, wCat, wRevL, wIsi, wIsi2, wGn, wGtup, wGcons, wGnil, wYes, wipeE, endD, lawD, wVar, wOwn, List.getD_cons_zero, List.getD_cons_succ, List.set_cons_zero, List.set_cons_succ, Bool.false_eq_true, false_imp_iff, true_and, and_true, if_true, if_false, List.length_cons, List.length_nil, gTuple_lst, gAdd_int, gSub_int, gIxR0, gIxR1, gIxR2, gIxR3, isSeq_tup, isSeq_list, itemsD_tup, itemsD_list, isSeq_lst, itemsD_lst, isSeq_tp, itemsD_tp, gLenTup, gLenList, enumD_map, toD_pair, toD_int, toD_str, toD_bool, ite_self, reduceIte]
  refine sLoop_ind Datum.toD (fun rest ρ => ∃ pre x5 x6, enumL s.items = pre ++ rest ∧ ρ = [some (.d (Datum.toD s)), some (.d (.str n)), some (.d (.str v)), some (.d (Datum.toD (deadL s))), some (.lst ((fewRows s n v pre).map Datum.toD)), x5, x6]) ?_ ?_ (enumL s.items) _ ⟨[], _, _, rfl, rfl⟩
  · rintro ρ ⟨pre, x5, x6, hpre, rfl⟩
    rw [List.append_nil] at hpre
    subst hpre
    simp only [sSeq, sSet, sSetF, sRet, sRetN, sRetF, sNext, sIf, sFor, sAsg, sDrop, sBreak, sCont, w2, w1, wF1, wF, wC, wTst, wNot, wAnd, wOr, wAndV, wOrV, wNotV, wIfE, wIsN, wNotN, wTup, wCons, wNil, wCall, wCallL, wCallB, aD, aO, aNil, wLc, wSeqI, wEnum, wZip, wRg1, wO0, wO1, wSl, wNeg, wCat, wRevL, wIsi, wIsi2, wGn, wGtup, wGcons, wGnil, wYes, wipeE, endD, lawD, wVar, wOwn, List.getD_cons_zero, List.getD_cons_succ, List.set_cons_zero, List.set_cons_succ, Bool.false_eq_true, false_imp_iff, true_and, and_true, if_true, if_false, List.length_cons, List.length_nil, gTuple_lst, gAdd_int, gSub_int, gIxR0, gIxR1, gIxR2, gIxR3, isSeq_tup, isSeq_list, itemsD_tup, itemsD_list, isSeq_lst, itemsD_lst, isSeq_tp, itemsD_tp, gLenTup, gLenList, enumD_map, toD_pair, toD_int, toD_str, toD_bool, ite_self, reduceIte]
    exact min_second h
  · rintro p rest ρ ⟨pre, x5, x6, hpre, rfl⟩ k hk
    have hp : p ∈ enumL s.items := by rw [hpre]; simp
    have step : ∀ b, fewP s n v p = b → fewRows s n v (pre ++ [p]) = if b = true then fewRows s n v pre ++ [rowOf p.2.a] else fewRows s n v pre := fun b hb => by
      unfold fewRows
      rw [List.filter_append, List.map_append, List.filter_cons, hb]
      cases b <;> simp
    have hl : (fewRows s n v pre).length ≤ 1000 := by
      unfold fewRows
      rw [List.length_map]
      refine Nat.le_trans (List.length_filter_le ..) ?_
      have := congrArg List.length hpre
      rw [enumL_len, List.length_append] at this
      omega
    unfold B_fewest_tags_0
    simp only [sSeq, sSet, sSetF, sRet, sRetN, sRetF, sNext, sIf, sFor, sAsg, sDrop, sBreak, sCont, w2, w1, wF1, wF, wC, wTst, wNot, wAnd, wOr, wAndV, wOrV, wNotV, wIfE, wIsN, wNotN, wTup, wCons, wNil, wCall, wCallL, wCallB, aD, aO, aNil, wLc, wSeqI, wEnum, wZip, wRg1, wO0, wO1, wSl, wNeg, wCat, wRevL, wIsi, wIsi2, wGn, wGtup, wGcons, wGnil, wYes, wipeE, endD, lawD, wVar, wOwn, List.getD_cons_zero, List.getD_cons_succ, List.set_cons_zero, List.set_cons_succ, Bool.false_eq_true, false_imp_iff, true_and, and_true, if_true, if_false, List.length_cons, List.length_nil, gTuple_lst, gAdd_int, gSub_int, gIxR0, gIxR1, gIxR2, gIxR3, isSeq_tup, isSeq_list, itemsD_tup, itemsD_list, isSeq_lst, itemsD_lst, isSeq_tp, itemsD_tp, gLenTup, gLenList, enumD_map, toD_pair, toD_int, toD_str, toD_bool, ite_self, reduceIte,  sApp, gSlR2]
    have skip : fewP s n v p = false → k [some (.d (Datum.toD s)), some (.d (.str n)), some (.d (.str v)), some (.d (Datum.toD (deadL s))), some (.lst ((fewRows s n v pre).map Datum.toD)), some (.d (.int p.1)), some (.d (Datum.toD p.2))] := fun hb => by
      have := step false hb
      rw [if_neg (by simp)] at this
      exact hk _ ⟨pre ++ [p], _, _, by rw [hpre]; simp, by rw [this]⟩
    refine gNiC (α := Int) (by decide) (fun z => ?_) fun z => skip ?_
    · (dsimp only; first | rw [if_pos rfl] | rw [if_neg (by simp)])
      refine gEqC (α := Str × Str) (a := (p.2.c, p.2.d)) (b := (n, v)) (by decide) (fun z2 => ?_) (fun z2 => ?_)
      · have hb : fewP s n v p = true := by
          unfold fewP
          rw [decide_eq_true z2]
          cases q : (beatO s p.1 p.2).isSome with
          | true => exact absurd ((dead_mem hp).mpr q) z
          | false => rfl
        have := step true hb
        rw [if_pos rfl] at this
        refine ⟨by rw [List.length_map, sizeLine_eq]; omega, ?_⟩
        have e : (fewRows s n v pre).map Datum.toD ++ [PyData.tuple [.int (p.2.a.items.length : Int), Datum.toD p.2.a]] = (fewRows s n v (pre ++ [p])).map Datum.toD := by
          rw [this, List.map_append]
          rfl
        rw [e]
        exact hk _ ⟨pre ++ [p], _, _, by rw [hpre]; simp, rfl⟩
      · refine skip ?_
        unfold fewP
        rw [decide_eq_false z2]
        simp
    · unfold fewP
      rw [(dead_mem hp).mp z]
      rfl
end Dat

/-! DatK: dicts whose keys are tuples: new, stored into, their keys sorted. -/
namespace Dat
open PySem PySem.SeqAt PySem.W PySem.Calls PyProof.Rows

section
variable {prog : Program} {w : World} {A : Around} {E : Value → Shared → Prop} {s : Shared} {T : String} {r d : Addr} {n : Nat} {Pv : Nat → Value → Prop} {OK : Heap → Prop}
/-- the items of what a list can be made of -/
theorem collect_src {R : List Value → Shared → Prop} (K : KdlSrc prog w T r d n Pv OK) (hh : A.handled = none) (hok : OK s.heap) (hn : n ≤ sizeLine)
    (h : ∀ (h' : Heap) (tk : Nat) (vs : List Value), (∀ b o, s.heap.get? b = some o → h'.get? b = some o) → vs.length = n → (∀ j v, vs[j]? = some v → Pv j v) → R vs { s with heap := h', toks := tk }) : wpAny (model prog w) A (collect (.ref r)) R E s := by
  have hlt := K.there _ hok
  unfold collect
  refine wpAny_bind (wpAny_runValue (codeAny_builtin entry_proto_collect' ?_))
  rw [Around.under_plainId PySem.F.plain_proto_collect _]
  show wpAny _ A.in1 (newList [] >>= fun l => again (.builtin "list.__iadd__" ⟨[l, .ref r], []⟩)) _ _ s
  refine wpAny_bind (wpAny_newObj_type ?_)
  refine wpAny_pure ⟨plainId_quiet PySem.F.plain_list_iadd _, codeAny_builtin entry_list_iadd' ?_⟩
  rw [Around.under_plainId PySem.F.plain_list_iadd _]
  have hNew : (s.heap.push { cls := .type "list", data := .seq ([] : List Value).toArray }).get? s.heap.objs.size = some { cls := .type "list", data := .seq #[] } := Heap.get?_push_size _ rfl
  show wpAny _ A.in1 (Builtin.List.listExtendWith (.ref s.heap.objs.size) (.ref r) (.ref s.heap.objs.size)) _ _ _
  have key := kdl_extend (A := A) (s := { s with heap := s.heap.push { cls := .type "list", data := .seq ([] : List Value).toArray } })
    (R := fun (q : Result) (s' : Shared) => ∃ (h' : Heap) (tk : Nat) (acc : Array Value) (c : Nat), q = .ok (.ret (.ref s.heap.objs.size)) ∧ s' = { s with heap := h', toks := tk } ∧ (∀ b o, s.heap.get? b = some o → h'.get? b = some o) ∧
      h'.get? s.heap.objs.size = some { cls := .type "list", dict := none, data := .seq acc c, slots := #[] } ∧ ItemsOf Pv acc n)
    K hh (K.keep _ _ hok fun b _ o e => Heap.get?_push_of_some _ e) s.heap.objs.size (Nat.ne_of_gt hlt.1) (Nat.ne_of_gt hlt.2) (.ref s.heap.objs.size) 0 hNew
    (fun h' tk acc c hk hS' hacc => ⟨h', tk, acc, c, rfl, rfl, fun b o e => hk b o (Nat.ne_of_lt (Heap.lt_size e)) (Heap.get?_push_of_some _ e), hS', hacc⟩) hn
  have fin : ∀ (h' : Heap) (tk : Nat) (acc : Array Value) (c : Nat), (∀ b o, s.heap.get? b = some o → h'.get? b = some o) → h'.get? s.heap.objs.size = some { cls := .type "list", dict := none, data := .seq acc c, slots := #[] } → ItemsOf Pv acc n →
      wpAny (model prog w) A (do
        let o ← load s.heap.objs.size
        match o.data with
        | .seq xs _ => pure xs.toList
        | _ => unsupported "internal:collect") R E { s with heap := h', toks := tk } := fun h' tk acc c hk hS' hacc => by
    refine wpAny_bind (wpAny_load hS' (wpAny_pure ?_))
    exact h h' tk acc.toList hk (by rw [Array.length_toList]; exact hacc.1) fun j v e => hacc.2 j v (by rw [← Array.getElem?_toList]; exact e)
  refine wpAny_mono key (fun fin' s' x => ?_) fun e s' x => ?_
  · cases fin' with
    | done f =>
      obtain ⟨h', tk, acc, c, e, rfl, hk, hS', hacc⟩ := x
      cases e
      exact fin h' tk acc c hk hS' hacc
    | again c₁ =>
      refine ⟨x.1, codeAny_mono x.2 fun q s₂ y => ?_⟩
      obtain ⟨h', tk, acc, c, rfl, rfl, hk, hS', hacc⟩ := y
      exact fin h' tk acc c hk hS' hacc
  · obtain ⟨_, _, _, _, e', _⟩ := x
    cases e'
/-- sorted of such a thing -/
theorem sorted_src {Q : Value → Shared → Prop} (K : KdlSrc prog w T r d n Pv OK) (hh : A.handled = none) (hok : OK s.heap) (hn : n ≤ sizeLine)
    (h : ∀ (h' : Heap) (tk : Nat) (vs : List Value), (∀ b o, s.heap.get? b = some o → h'.get? b = some o) → vs.length = n → (∀ j v, vs[j]? = some v → Pv j v) →
      ∀ E' : Value → Shared → Prop, wpAny (model prog w) A.in1.in1 (Builtin.«list.sort» ⟨[.ref h'.objs.size], []⟩) (fun f s' => f = .done (.ret .none) ∧ Q (.ref h'.objs.size) s') E' { s with heap := h'.push (seqObj "list" vs.toArray 0), toks := tk }) :
    wpAny (model prog w) A (call (.builtin "sorted") [.ref r]) Q E s := by
  refine call_function_entry kind_sorted plain_sorted entry_sorted (args_sorted1 _) ?_
  unfold Builtin.«sorted»
  refine wpAny_bind (m := checkCount "sorted" 1 1 _) (wpAny_pure ?_)
  refine wpAny_bind (collect_src (A := A.in1) K hh hok hn fun h' tk vs hk hl hv => ?_)
  refine wpAny_bind (wpAny_newList ?_ (by rw [hl]; exact hn))
  refine wpAny_bind (wpAny_holding (wpAny_call_entry_kw slot_list_sort ⟨_, Heap.get?_push_size _ rfl, rfl⟩ entry_list_sort ?body (args_list_sort _)))
  case body =>
    refine wpAny_mono (h h' tk vs hk hl hv _) (fun f s' hf => ?_) fun _ _ e => e
    obtain ⟨rfl, hq⟩ := hf
    exact ⟨_, rfl, wpAny_pure ⟨_, rfl, hq⟩⟩
end
end Dat

namespace Dat
open PySem PySem.Spec PyProof.Rows L2
open PySem.W (EachIs AllAlike)
def keyD : Key → PyData
  | .inl i => .int i
  | .inr x => .str x
def tupD (k : List Key) : PyData := .tuple (k.map keyD)
section
variable {K : PySem.W.Frag} {A : Hot} {H : Hp}
theorem da_key : ∀ (k : Key), DA K A H (kV k) (keyD k)
  | .inl i => .int i
  | .inr x => .str x
theorem das_keys : ∀ (k : List Key), DAs K A H (k.map kV) (k.map keyD)
  | [] => .nil
  | x :: k => .cons (da_key x) (das_keys k)
theorem keys_of : ∀ {vs : List V} (k : List Key), DAs K A H vs (k.map keyD) → vs = k.map kV
  | vs, [], h => by cases h; rfl
  | vs, x :: k, h => by
    cases h with
    | cons h1 h2 =>
      rw [keys_of k h2]
      cases x with
      | inl i => cases h1; rfl
      | inr y => cases h1; rfl
end
theorem vals_keys {H : Hp} : ∀ {its : List Value} {ds : List PyData}, EachIs (fun u d => ∃ (b : Addr) (k : List Key), u = Value.ref b ∧ d = tupD k ∧ H b = some (.tup (k.map kV))) its ds →
    ∃ vs, Vals vs its ∧ EachIs (fun x d => ∃ (b : Addr) (k : List Key), x = V.ref b ∧ d = tupD k ∧ H b = some (.tup (k.map kV))) vs ds
  | _, _, .nil => ⟨[], .nil, .nil⟩
  | _, _, .cons ⟨b, k, e1, e2, e3⟩ t => by
    obtain ⟨vs, h1, h2⟩ := vals_keys t
    subst e1
    exact ⟨.ref b :: vs, .cons rfl h1, .cons ⟨b, k, rfl, e2, e3⟩ h2⟩
/-- sorted(a dict with tuple keys) -/
def rSortedT : List V → Hp → VK → Prop := fun xs H Q => ∃ (a : Addr) (kvs : List (List Key × V)), xs = [.ref a] ∧ H a = some (.dT kvs) ∧ AllAlike (kvs.map fun p => tupD p.1) ∧ (∀ p ∈ kvs, (tupD p.1).depth ≤ 60) ∧
  ∀ p out, H p = none → EachIs (fun x d => ∃ (b : Addr) (k : List Key), x = V.ref b ∧ d = tupD k ∧ H b = some (.tup (k.map kV))) out ((kvs.map fun p => tupD p.1).mergeSort dLe) → Q (.ref p) (upd H p (.lst out))
section
variable {X : Cx}
theorem cr_sortedT (hc : X.calm = true) (hu : X.A.units + 64 < cLine) : CallR X (.builtin "sorted") rSortedT := by
  intro pins s σ H xs us Q I r h
  obtain ⟨a, kvs, rfl, hH, hal, hdep, q⟩ := h
  obtain ⟨u, rfl, ru⟩ := Vals.one r
  cases ru
  obtain ⟨z, hs, ks, pr, o, es, ep, ho, hx, hdt, he, hn⟩ := (show ObjOk X.prog X.w H s.heap a (.dT kvs) from I.hok a _ hH)
  have l1 : es.size = ks.length := size_of_entries he
  have l2 : kvs.length = ks.length := Paired.length pr
  refine sorted_src (kdl_raw hs hx hdt) (I.ok.hd hc) ho (by omega) fun h' tk vs hk hl hv E' => ?_
  have I1 : Inv X pins σ H { s with heap := h', toks := tk } := I.kept hk
  -- each item is a key tuple
  have each0 : ∀ (ks : List (List Key × Addr × Value)) (kvs : List (List Key × V)) (vs : List Value), KT H kvs ks → vs.length = ks.length → (∀ (j : Nat) (v : Value), vs[j]? = some v → ∃ x : List Key × Addr × Value, ks[j]? = some x ∧ v = Value.ref x.2.1) →
      EachIs (fun u d => ∃ (b : Addr) (k : List Key), u = Value.ref b ∧ d = tupD k ∧ H b = some (.tup (k.map kV))) vs (kvs.map fun p => tupD p.1) := by
    intro ks kvs vs r
    induction r generalizing vs with
    | nil =>
      intro hl _
      cases vs with
      | nil => exact .nil
      | cons v vs => simp at hl
    | cons h1 _ ih =>
      intro hl hv
      cases vs with
      | nil => simp at hl
      | cons v vs =>
        obtain ⟨x, ex, ev⟩ := hv 0 v rfl
        simp at ex
        subst ex ev
        exact .cons ⟨_, _, rfl, rfl, h1.2.1⟩ (ih vs (by simpa using hl) fun j v' hj => by simpa using hv (j + 1) v' (by simpa using hj))
  have e0 := each0 ks kvs vs pr (by rw [hl]; exact l1) fun j v hj => by
    obtain ⟨en, hen, hv'⟩ := hv j v hj
    have qe := entry_at he j
    rw [hen] at qe
    cases hb : ks[j]? with
    | none =>
      rw [hb] at qe
      exact nomatch (show some en = none from qe)
    | some b =>
      rw [hb] at qe
      have e2 : en = entryOfKey (tupleKind (mixKind X.prog X.w)) b := Option.some.inj qe
      exact ⟨b, rfl, by rw [hv', e2]; rfl⟩
  have hsz : vs.length ≤ sizeLine := by rw [hl, l1, ← l2]; exact z
  have at0 : (h'.push (seqObj "list" vs.toArray 0)).get? h'.objs.size = some (seqObj "list" vs.toArray 0) := Heap.get?_push_size _ rfl
  have old : ∀ (b : Addr) (o : Obj), h'.get? b = some o → (PySem.W.sortingHeap (h'.push (seqObj "list" vs.toArray 0)) h'.objs.size vs).get? b = some o := fun b o e => PySem.W.sortingHeap_old (Nat.ne_of_lt (Heap.lt_size e)) (Heap.get?_push_of_some _ e)
  have er : EachIs (fun v d => ∃ as, Reads (PySem.W.sortingHeap (h'.push (seqObj "list" vs.toArray 0)) h'.objs.size vs) v d as) vs (kvs.map fun p => tupD p.1) := e0.mono fun u d ⟨b, k, e1, e2, e3⟩ => by
    subst e1 e2
    have dp : Dp X.K H (.ref b) (tupD k) := .tup (SqT.of e3) ((das_keys (K := X.K) (A := fun _ => False) (H := H) k).dp)
    obtain ⟨as, ra⟩ := Dp.reads I1 (tupD k) (.ref b) (.ref b) dp rfl
    exact ⟨as, PyProof.Rows.Reads.keeps old ra⟩
  have hnn : ∀ d ∈ kvs.map fun p => tupD p.1, d ≠ .none := fun d hd => by
    obtain ⟨p, _, rfl⟩ := List.mem_map.mp hd
    exact fun e => nomatch e
  have S : PySem.W.SortsAt X.prog X.w X.A.in1.in1 { s with heap := PySem.W.sortingHeap (h'.push (seqObj "list" vs.toArray 0)) h'.objs.size vs, toks := tk } (PySem.W.dataKind (PySem.W.sortingHeap (h'.push (seqObj "list" vs.toArray 0)) h'.objs.size vs) (kvs.map fun p => tupD p.1)) vs :=
    Dat.SortsAt.any (s := { s with heap := PySem.W.sortingHeap (h'.push (seqObj "list" vs.toArray 0)) h'.objs.size vs, toks := tk }) er hal hnn fun d hd => by
      obtain ⟨p, hp, rfl⟩ := List.mem_map.mp hd
      have := hdep p hp
      show X.A.units + 2 + _ < cLine
      omega
  refine PySem.W.list_sort_vals (s := { s with heap := h'.push (seqObj "list" vs.toArray 0), toks := tk }) at0 S hsz ⟨rfl, ?_⟩
  have eo : EachIs _ (PySem.W.sortVals (PySem.W.dataKind (PySem.W.sortingHeap (h'.push (seqObj "list" vs.toArray 0)) h'.objs.size vs) (kvs.map fun p => tupD p.1)) false vs vs) ((kvs.map fun p => tupD p.1).mergeSort dLe) :=
    PySem.W.sortVals_each (κ := PySem.W.dataKind (PySem.W.sortingHeap (h'.push (seqObj "list" vs.toArray 0)) h'.objs.size vs) (kvs.map fun p => tupD p.1)) (rev := false) (fun b => PySem.W.keyToks b) e0 (PySem.W.each_keys hal er)
  generalize PySem.W.sortVals (PySem.W.dataKind (PySem.W.sortingHeap (h'.push (seqObj "list" vs.toArray 0)) h'.objs.size vs) (kvs.map fun p => tupD p.1)) false vs vs = out at eo
  obtain ⟨ws, hw1, hw2⟩ := vals_keys eo
  obtain ⟨c, hc'⟩ := sortedHeap_at (out := out.toArray) at0
  have hl2 : ws.length ≤ sizeLine := by
    rw [hw2.length, List.length_mergeSort, List.length_map]
    exact z
  refine ⟨.ref h'.objs.size, _, I1.laid (t' := tk) (fun b o e => ?_) (Nat.le_refl _) (show ObjOk X.prog X.w _ _ _ (.lst ws) from ⟨hl2, out, c, hw1, hc'⟩), rfl, q _ ws (I1.hok.fresh (Nat.le_refl _)) hw2⟩
  rw [sortedHeap_old (Nat.ne_of_lt (Heap.lt_size e)) (by rw [size_push']; exact Nat.lt_succ_of_lt (Heap.lt_size e))]
  exact Heap.get?_push_of_some _ e
end
end Dat

/-! DatL: own dicts with tuple keys, over data. -/
namespace Dat
open PySem PySem.Spec PyProof.Rows L2
open PySem.W (EachIs AllAlike)

abbrev DTab := List (List Key × PyData)
def putD (kvs : DTab) (k : List Key) (d : PyData) : DTab := if (kvs.any fun kv => decide (kv.1 = k)) = true then kvs.map (fun kv => if kv.1 = k then (kv.1, d) else kv) else kvs ++ [(k, d)]
section
variable {K : PySem.W.Frag} {A : Hot} {H : Hp}
theorem any_keys : ∀ {ws : List (List Key × V)} {kvs : DTab} (k : List Key), ws.map (·.1) = kvs.map (·.1) → (ws.any fun kv => decide (kv.1 = k)) = kvs.any fun kv => decide (kv.1 = k)
  | [], [], _, _ => rfl
  | [], _ :: _, _, h => by cases h
  | _ :: _, [], _, h => by cases h
  | w :: ws, x :: kvs, k, h => by
    simp only [List.map_cons, List.cons.injEq] at h
    rw [List.any_cons, List.any_cons, any_keys k h.2, h.1]
theorem repl_das {v : V} {d : PyData} (hd : DA K A H v d) (k : List Key) : ∀ {ws : List (List Key × V)} {kvs : DTab}, ws.map (·.1) = kvs.map (·.1) → DAs K A H (ws.map (·.2)) (kvs.map (·.2)) →
    (ws.map (fun kv => if kv.1 = k then (kv.1, v) else kv)).map (·.1) = (kvs.map (fun kv => if kv.1 = k then (kv.1, d) else kv)).map (·.1) ∧
    DAs K A H ((ws.map (fun kv => if kv.1 = k then (kv.1, v) else kv)).map (·.2)) ((kvs.map (fun kv => if kv.1 = k then (kv.1, d) else kv)).map (·.2))
  | [], [], _, _ => ⟨rfl, .nil⟩
  | [], _ :: _, h, _ => by cases h
  | _ :: _, [], h, _ => by cases h
  | w :: ws, x :: kvs, h, hs => by
    simp only [List.map_cons, List.cons.injEq] at h
    cases hs with
    | cons h1 h2 =>
      obtain ⟨i1, i2⟩ := repl_das hd k h.2 h2
      rw [List.map_cons, List.map_cons, List.map_cons, List.map_cons, List.map_cons, List.map_cons, h.1]
      by_cases e : x.1 = k
      · rw [if_pos e, if_pos e, i1]
        exact ⟨rfl, .cons hd i2⟩
      · rw [if_neg e, if_neg e, i1, h.1]
        exact ⟨rfl, .cons h1 i2⟩
theorem put_das {v : V} {d : PyData} (hd : DA K A H v d) (k : List Key) {ws : List (List Key × V)} {kvs : DTab} (h : ws.map (·.1) = kvs.map (·.1)) (hs : DAs K A H (ws.map (·.2)) (kvs.map (·.2))) :
    (putK ws k v).map (·.1) = (putD kvs k d).map (·.1) ∧ DAs K A H ((putK ws k v).map (·.2)) ((putD kvs k d).map (·.2)) := by
  unfold putK putD
  rw [any_keys k h]
  by_cases e : (kvs.any fun kv => decide (kv.1 = k)) = true
  · rw [if_pos e, if_pos e]
    exact repl_das hd k h hs
  · rw [if_neg e, if_neg e, List.map_append, List.map_append, List.map_append, List.map_append, h]
    exact ⟨rfl, hs.append (.cons hd .nil)⟩
theorem das_of_each {Γ : Gam} {p : Addr} (S : Sit Γ A H) (hp : H p = none) (o : HO) : ∀ {out : List V} {ds : List PyData}, EachIs (fun x d => ∃ (b : Addr) (k : List Key), x = V.ref b ∧ d = tupD k ∧ H b = some (.tup (k.map kV))) out ds → DAs K (hadd A p) (upd H p o) out ds
  | _, _, .nil => .nil
  | _, _, .cons ⟨b, k, e1, e2, e3⟩ t => by
    subst e1 e2
    have hb : b ≠ p := ne_of_none e3 hp
    refine .cons (.tup ?_ (by rw [upd_ne hb]; exact e3) (das_keys k)) (das_of_each S hp o t)
    rintro (z | z)
    · exact S.nt b _ z e3
    · exact hb z
end
section
variable {X : Cx} {e : Expr} {wk wv : WE} {pos pos' : Pos}
/-- x = {} -/
def sDNew (i : Nat) : WS := fun ρ D => D.nx (ρ.set i (some (.dT [])))
theorem ds_dnew {i : Nat} {x : Str} {dpos : Pos} (hN : X.N.Nodup) (hi : X.N[i]? = some x) (hx : Loc X.env.scope x) (hs : swapsWith (.Dict [] [] dpos) (some (.Name x pos')) pos.line X.env = pure false := by rfl) (hf : X.fn x = true ∨ X.env.scope.names.lookup x = some .local := by first | exact .inl rfl | exact .inr rfl) :
    DS X (.Assign [.Name x pos'] (.Dict [] [] dpos) pos) (sDNew i) := psC (ps_set hN hi hx pe_dnewT hs hf) fun D σ H ⟨F, Γ, A, ρ, Dd, R, hw, E⟩ => fun p hp =>
  E.nx Γ (hadd A p) _ _ _ (R.setO (c := .dT []) hp (ExA.new hp) (R.sit.gok.new hp) ⟨_, upd_same, fun _ e => nomatch e⟩ ⟨p, [], rfl, .inr rfl, R.sit.gcold hp, upd_same, rfl, .nil⟩) (later_new R.sit hp (ExA.new hp)) hw
/-- x[k] = v -/
def sDPut (i : Nat) (wk wv : WE) : WS := fun ρ D => match ρ.getD i none with
  | some (.dT kvs) => wv ρ fun d => wk ρ fun kd => ∃ k, kd = tupD k ∧ kvs.length < sizeLine ∧ D.nx (ρ.set i (some (.dT (putD kvs k d))))
  | _ => False
theorem ds_dput {i : Nat} {o k v : Expr} {tpos : Pos} (ho : PE X o (tVar i)) (hk : DE X k wk) (hv : DE X v wv) (hu : X.A.units + 1 < cLine) (ha : ∀ u, assign (.Subscript o k tpos) X.env u = (do
      let ov ← holding [u] (eval o X.env)
      let iv ← holding [u, ov] (eval k X.env)
      standAt tpos
      holding [u, ov, iv] (setItem ov iv u)
      release [u, ov, iv] []) := by intro _; rfl) (hs : swapsWithSole [.Subscript o k tpos] v pos.line X.env = pure false := by rfl) (hw : swappedStores [.Subscript o k tpos] v X.env = pure none := by rfl) (h1 : (assignEach [.Subscript o k tpos] X.env).map (·.2) = [assign (.Subscript o k tpos) X.env] := by rfl) :
    DS X (.Assign [.Subscript o k tpos] v pos) (sDPut i wk wv) := psC (ps_asg hv (pg_sub ho hk (set_dict hu) ha) hs hw h1) fun D σ H ⟨F, Γ, A, ρ, Dd, R, hw, E⟩ => by
  unfold sDPut at hw
  split at hw
  · rename_i kvs q
    obtain ⟨v0, s1, a, ws, e1, a2, a3, a4, a5, a6⟩ := R.e.cells i _ (getD_some q)
    subst e1
    refine ⟨Γ, A, ρ, _, R.e, hw, fun u d H1 x1 g1 hu1 hP => ⟨_, s1, Γ, A, ρ, _, R.e.ext x1 g1, hP, fun uk kd H2 x2 g2 huk hP2 => ?_⟩⟩
    obtain ⟨kk, rfl, hz, hn⟩ := hP2
    obtain ⟨b, vs, rfl, nb, hb, hvs⟩ := (DA.b (Γ := Γ) huk).tup
    have ek := keys_of kk hvs
    subst ek
    have R2 := (R.step x1 g1).step x2 g2
    have H2a : H2 a = some (.dT ws) := x2 a _ (by simp [a3]) (x1 a _ (by simp [a3]) a4)
    have lw : ws.length < sizeLine := by
      have := congrArg List.length a5
      rw [List.length_map, List.length_map] at this
      omega
    refine ⟨a, _, rfl, DPut.t H2a hb lw, ?_⟩
    have x12 := (x1.trans x2).weak R.sit.gdom
    obtain ⟨p1, p2⟩ := put_das (hu1.ext (x2.weak R.sit.gdom)) kk a5 (a6.ext x12)
    obtain ⟨R3, l3⟩ := R2.putO (i := i) (o := .dT (putK ws kk u)) (c' := .dT (putD kvs kk d)) (getD_some q) rfl s1 a2 a3 rfl (fun _ e => nomatch e) ⟨a, _, rfl, a2, a3, upd_same, p1, p2.ext (ExA.hot a2)⟩
    exact E.nx Γ A σ _ _ R3 ((LaterS.of_ext R.sit (x1.trans x2)).trans R2.sit l3) hn
  · exact hw.elim
/-- sorted(x) -/
def wSortT (i : Nat) : WL := fun ρ P => match ρ.getD i none with
  | some (.dT kvs) => AllAlike (kvs.map fun p => tupD p.1) ∧ (∀ p ∈ kvs, (tupD p.1).depth ≤ 60) ∧ P ((kvs.map fun p => tupD p.1).mergeSort dLe)
  | _ => False
theorem df_sortedT {i : Nat} {x : Str} {p : Pos} (hc : X.calm = true) (hu : X.A.units + 64 < cLine) (hg : Gl X x) (hm : X.mg x = none) (hv : bootBuiltins x = some (.builtin "sorted")) (ha : PE X e (tVar i)) (hn : x ≠ "__name__" := by decide) (hdb : (x == ("__debug__" : Str)) = false := by decide)
    (he : starEach [e] X.env = (false, eval e X.env) :: starEach [] X.env := by rfl) (hpl : (backTo pos (starEach [] X.env)).any (·.1) = false := by rfl) : DF X (.Call (.Name x p) [e] [] pos) (wSortT i) :=
  peC (pe_callB (cr_sortedT hc hu) hg hm hv (pa_cons ha pa_nil he) hn hdb he hpl) fun σ H Q ⟨Γ, A, ρ, P, R, hw, k⟩ => by
    unfold wSortT at hw
    split at hw
    · rename_i kvs q
      obtain ⟨v0, s1, a, ws, e1, a2, a3, a4, a5, a6⟩ := R.cells i _ (getD_some q)
      subst e1
      obtain ⟨h1, h2, h3⟩ := hw
      have ek : (ws.map fun p => tupD p.1) = kvs.map fun p => tupD p.1 := by
        have := congrArg (List.map tupD) a5
        rw [List.map_map, List.map_map] at this
        exact this
      refine ⟨_, s1, a, ws, rfl, a4, by rw [ek]; exact h1, fun p hp => ?_, fun p out hp ho => ?_⟩
      · have : tupD p.1 ∈ ws.map fun p => tupD p.1 := List.mem_map.mpr ⟨p, hp, rfl⟩
        rw [ek] at this
        obtain ⟨p', hp', e'⟩ := List.mem_map.mp this
        rw [← e']
        exact h2 p' hp'
      · rw [ek] at ho
        exact k p out _ _ hp (ExA.new hp) (R.sit.gok.new hp) upd_same (das_of_each R.sit hp _ ho) h3
    · exact hw.elim
end
end Dat

/-! DatM: an item put into an own list at a place; an item taken out of it; an own list that changes no more. -/
namespace Dat
open PySem PySem.Spec PyProof.Rows L2

section
variable {X : Cx} {e e2 : Expr} {we we2 : WE} {pos : Pos}
/-- xs.insert(i, y) -/
def sIns (i : Nat) (we we2 : WE) : WS := fun ρ D => match ρ.getD i none with
  | some (.lst xs) => we ρ fun n => we2 ρ fun d => match n with
    | .int n => 0 ≤ n ∧ n < 2 ^ 63 ∧ xs.length < sizeLine ∧ D.nx (ρ.set i (some (.lst (xs.take n.toNat ++ [d] ++ xs.drop n.toNat))))
    | _ => False
  | _ => False
theorem ds_insRule {i : Nat} {c : Expr} {R : V → List V → Hp → VK → Prop} (hR : R = fun x vs H Q => ∃ (l : Addr) (xs : List V) (i : Int) (y : V), x = .ref l ∧ vs = [.int i, y] ∧ H l = some (.lst xs) ∧ xs.length < sizeLine ∧ 0 ≤ i ∧ i < 2 ^ 63 ∧ Q .non (upd H l (.lst (xs.take i.toNat ++ [y] ++ xs.drop i.toNat))))
    (hp : PE X c (tBM X.K "list" R (tVar i) (tCons (tE X.K we) (tCons (tE X.K we2) tNil)))) (hs : swapsWith c none pos.line X.env = pure false := by rfl) : DS X (.Expr c pos) (sIns i we we2) :=
  psC (ps_expr hp hs) fun D σ H ⟨F, Γ, A, ρ, Dd, Rp, hw, E⟩ => by
    subst hR
    unfold sIns at hw
    split at hw
    · rename_i xs q
      obtain ⟨v, h1, a, vs, e1, a2, a3, a4, a5⟩ := Rp.e.cells i _ (getD_some q)
      subst e1
      refine ⟨_, h1, .inl ⟨rfl, vs, SqL.of a4⟩, Γ, A, ρ, _, Rp.e, hw, fun un dn H1 x1 g1 hun hP => ⟨Γ, A, ρ, _, Rp.e.ext x1 g1, hP, fun u d H2 x2 g2 hu hP2 => ?_⟩⟩
      cases dn with
      | int n =>
        have en := (DA.b (Γ := Γ) hun).int
        subst en
        obtain ⟨n0, n1, hz, hn⟩ := hP2
        have x12 := x1.trans x2
        have R2 := Rp.step x12 g2
        have hH : H2 a = some (.lst vs) := x12 a _ (by simp [a3]) a4
        have eA : ExA A H H2 := x12.weak Rp.sit.gdom
        refine ⟨a, vs, n, u, rfl, rfl, hH, by rw [a5.length]; exact hz, n0, n1, ?_⟩
        have a6 := a5.ext eA
        obtain ⟨R3, l3⟩ := R2.putO (i := i) (o := .lst (vs.take n.toNat ++ [u] ++ vs.drop n.toNat)) (c' := .lst (xs.take n.toNat ++ [d] ++ xs.drop n.toNat)) (getD_some q) rfl h1 a2 a3 rfl (fun _ e => nomatch e)
          ⟨a, _, rfl, a2, a3, upd_same, (((a6.take n.toNat).append (.cons hu .nil)).append (a6.drop n.toNat)).ext (ExA.hot a2)⟩
        exact E.nx Γ A σ _ _ R3 ((LaterS.of_ext Rp.sit x12).trans R2.sit l3) hn
      | _ => exact hP2.elim
    · exact hw.elim
theorem ds_ins {i : Nat} {x : Str} {xp apos cpos : Pos} (ho : PE X (.Name x xp) (tVar i)) (ha : DE X e we) (hb : DE X e2 we2)
    (hbase : attributeBase (.Name x xp) "insert" X.env (eval (.Name x xp) X.env) = eval (.Name x xp) X.env := by rfl)
    (hfew : ((backTo cpos (starEach [e, e2] X.env)).all (fun x => !x.1) && (backToKw cpos (keywordEach [] X.env)).all (fun x => x.1.isSome)
      && decide (([e, e2] : List Expr).length + ([] : List Keyword).length + (if ([] : List Keyword).isEmpty then 0 else 1) < 30)) = true := by rfl)
    (hline : (apos.endLine == cpos.line) = true := by rfl) (h1 : starEach [e, e2] X.env = (false, eval e X.env) :: starEach [e2] X.env := by rfl) (h2 : starEach [e2] X.env = (false, eval e2 X.env) :: starEach [] X.env := by rfl) (hplain : (backTo cpos (starEach [e2] X.env)).any (·.1) = false := by rfl)
    (hs : swapsWith (.Call (.Attribute (.Name x xp) "insert" apos) [e, e2] [] cpos) none pos.line X.env = pure false := by rfl) : DS X (.Expr (.Call (.Attribute (.Name x xp) "insert" apos) [e, e2] [] cpos) pos) (sIns i we we2) :=
  ds_insRule rfl (pe_bm PySem.F.plainAttrs_list PySem.F.slot_list_insert PySem.F.type_list_insert mt_insert ho (pa_cons ha (pa_cons hb pa_nil h2) h1) hbase hfew hline h1 hplain) hs
/-- xs.pop(i), its value dropped -/
def sPopAt (i : Nat) (we : WE) : WS := fun ρ D => match ρ.getD i none with
  | some (.lst xs) => we ρ fun d => match d with
    | .int n => ∃ k y, seqIndex? n xs.length = some k ∧ xs[k]? = some y ∧ -(2 ^ 63) ≤ n ∧ n < 2 ^ 63 ∧ D.nx (ρ.set i (some (.lst (xs.eraseIdx k))))
    | _ => False
  | _ => False
theorem ds_popRule {i : Nat} {c : Expr} (hp : PE X c (tBM X.K "list" rPopAt (tVar i) (tCons (tE X.K we) tNil))) (hs : swapsWith c none pos.line X.env = pure false := by rfl) : DS X (.Expr c pos) (sPopAt i we) :=
  psC (ps_expr hp hs) fun D σ H ⟨F, Γ, A, ρ, Dd, Rp, hw, E⟩ => by
    unfold sPopAt at hw
    split at hw
    · rename_i xs q
      obtain ⟨v, h1, a, vs, e1, a2, a3, a4, a5⟩ := Rp.e.cells i _ (getD_some q)
      subst e1
      refine ⟨_, h1, .inl ⟨rfl, vs, SqL.of a4⟩, Γ, A, ρ, _, Rp.e, hw, fun u d H1 x1 g1 hu hP => ?_⟩
      cases d with
      | int n =>
        have en := (DA.b (Γ := Γ) hu).int
        subst en
        obtain ⟨k, y, k1, k2, k3, k4, k5⟩ := hP
        have R1 := Rp.step x1 g1
        have hH : H1 a = some (.lst vs) := x1 a _ (by simp [a3]) a4
        obtain ⟨w, w1, _⟩ := a5.at k2
        refine ⟨a, vs, n, k, w, rfl, rfl, hH, k3, k4, by rw [a5.length]; exact k1, w1, ?_⟩
        obtain ⟨R2, l2⟩ := R1.putO (i := i) (o := .lst (vs.eraseIdx k)) (c' := .lst (xs.eraseIdx k)) (getD_some q) rfl h1 a2 a3 rfl (fun _ e => nomatch e)
          ⟨a, _, rfl, a2, a3, upd_same, (((a5.ext (x1.weak Rp.sit.gdom)).eraseIdx k)).ext (ExA.hot a2)⟩
        exact E.nx Γ A σ _ _ R2 ((LaterS.of_ext Rp.sit x1).trans R1.sit l2) k5
      | _ => exact hP.elim
    · exact hw.elim
theorem ds_popAt {i : Nat} {x : Str} {xp apos cpos : Pos} (ho : PE X (.Name x xp) (tVar i)) (ha : DE X e we)
    (hbase : attributeBase (.Name x xp) "pop" X.env (eval (.Name x xp) X.env) = eval (.Name x xp) X.env := by rfl)
    (hfew : ((backTo cpos (starEach [e] X.env)).all (fun x => !x.1) && (backToKw cpos (keywordEach [] X.env)).all (fun x => x.1.isSome)
      && decide (([e] : List Expr).length + ([] : List Keyword).length + (if ([] : List Keyword).isEmpty then 0 else 1) < 30)) = true := by rfl)
    (hline : (apos.endLine == cpos.line) = true := by rfl) (h1 : starEach [e] X.env = (false, eval e X.env) :: starEach [] X.env := by rfl) (hplain : (backTo cpos (starEach [] X.env)).any (·.1) = false := by rfl)
    (hs : swapsWith (.Call (.Attribute (.Name x xp) "pop" apos) [e] [] cpos) none pos.line X.env = pure false := by rfl) : DS X (.Expr (.Call (.Attribute (.Name x xp) "pop" apos) [e] [] cpos) pos) (sPopAt i we) :=
  ds_popRule (pe_bm PySem.F.plainAttrs_list PySem.F.slot_list_pop PySem.F.type_list_pop mt_popAt ho (pa_cons ha pa_nil h1) hbase hfew hline h1 hplain) hs
end
end Dat

/-! DatN: comprehensions with two fors. -/
namespace Dat
open PySem PySem.Spec PyProof.Rows L2

theorem walk_z {J : It} {n : Nat} {G : Hp → Prop} {Y : Nat → Hp → V → Hp → Prop} (w : Walk J n G Y) {Hs : Hp} {Qd : Hp → Prop} (Pv : Nat → Hp → Prop) (Z : (Hp → Prop) → V → Hp → Prop) (h0 : Pv 0 Hs) (hG : ∀ i H, i ≤ n → Pv i H → G H)
    (hs : ∀ i x H H', i < n → Pv i H → Y i H x H' → Z (Pv (i + 1)) x H') (hd : ∀ H, Pv n H → Qd H) :
    ∃ W : Nat → Nat → Hp → Prop, (∃ m, W 0 m Hs) ∧ ∀ i m H, W i m H → (J.stop i H ∧ Qd H) ∨ (J.go i H ∧ ∃ Nx : Hp → Prop, (∀ H', Nx H' → ∃ m', m' < m ∧ W (i + 1) m' H') ∧ ∀ x H', J.yld i H x H' → Z Nx x H') := by
  refine ⟨fun i m H => m = n - i ∧ i ≤ n ∧ Pv i H, ⟨n, (Nat.sub_zero n).symm, Nat.zero_le n, h0⟩, ?_⟩
  rintro i m H ⟨rfl, hi, p⟩
  have q := hG i H hi p
  rcases Nat.lt_or_ge i n with hlt | hge
  · exact .inr ⟨w.goes i H hlt q, Pv (i + 1), fun H' p' => ⟨n - (i + 1), by omega, rfl, hlt, p'⟩, fun x H' y => hs i x H H' hlt p (w.yields i H x H' hlt q y)⟩
  · obtain rfl : i = n := by omega
    exact .inl ⟨w.stops H q, hd H p⟩
def wIn (wg : WG) (wt : WT) (we : WE) (ρ : Env) : List PyData → List PyData → (List PyData → Prop) → Prop
  | [], acc, P => P acc
  | d :: ds, acc, P => wg d ρ fun ρ1 => wt ρ1 fun b => if b = true then we ρ1 fun e => acc.length < sizeLine ∧ wIn wg wt we ρ ds (acc ++ [e]) P else wIn wg wt we ρ ds acc P
def wComp2 (wg : WG) (wt : WT) (wi1 : WL) (wg1 : WG) (wt1 : WT) (we : WE) (vs1 : List Nat) (ρ : Env) : List PyData → List PyData → (List PyData → Prop) → Prop
  | [], acc, P => P acc
  | d :: ds, acc, P => wg d ρ fun ρ1 => wt ρ1 fun b => if b = true then wi1 ρ1 fun ds1 => wIn wg1 wt1 we (wipeE ρ1 vs1) ds1 acc fun acc' => wComp2 wg wt wi1 wg1 wt1 we vs1 ρ ds acc' P else wComp2 wg wt wi1 wg1 wt1 we vs1 ρ ds acc P
def wLc2 (wi : WL) (wg : WG) (wt : WT) (wi1 : WL) (wg1 : WG) (wt1 : WT) (we : WE) (vs vs1 : List Nat) : WL := fun ρ P => wi ρ fun ds => wComp2 wg wt wi1 wg1 wt1 we vs1 (wipeE ρ vs) ds [] P
theorem RepE.again {K : PySem.W.Frag} {Γ : Gam} {B : Hot} {σ σ2 : St} {H H' : Hp} {ρ ρ2 : Env} {is : List Nat} (RB : RepE K Γ B σ H' ρ) (R : RepE K Γ B σ2 H ρ2) (st : SetsTo is σ ρ σ2 ρ2) (e : ExA B H H') : RepE K Γ B σ2 H' ρ2 :=
  ⟨RB.sit, R.len, fun i c h => by
    rcases st.at' i with ⟨h1, h2⟩ | ⟨_, v, d, h1, h2⟩
    · rw [h2] at h
      rw [h1]
      exact RB.cells i c h
    · rw [h2] at h
      cases h
      obtain ⟨v', q1, q2⟩ := R.cells i _ h2
      exact ⟨v', q1, DA.ext e q2⟩⟩
theorem t_lc2 {K : PySem.W.Frag} {wi wi1 : WL} {wg wg1 : WG} {wt wt1 : WT} {we : WE} {is is1 vs vs1 : List Nat} (hs : ∀ i ∈ is, i ∈ vs) (hs1 : ∀ i ∈ is1, i ∈ vs1) : ∀ σ H Q, tFr K (wLc2 wi wg wt wi1 wg1 wt1 we vs vs1) σ H Q →
    tLc2 (tIe K wi) (tGd K is wg) (tTs K wt) (tI K wi1) (tGd K is1 wg1) (tTs K wt1) (tE K we) vs vs1 σ H Q := fun σ H Q ⟨Γ, A, ρ, P, R, hw, k⟩ =>
  ⟨Γ, A, ρ, _, R, hw, fun J ds H1 x1 g1 hJ hP => fun D hD => by
    obtain ⟨⟨Y, w, it⟩, sm⟩ := hJ
    have hP : wComp2 wg wt wi1 wg1 wt1 we vs1 (wipeE ρ vs) ds [] P := hP
    have RW := (R.ext x1 g1).wipe vs
    have inv : ∀ H2, Ext Γ H1 H2 → GOk Γ H2 → (∃ acc, H2 D = some (.lst acc)) → RepE K Γ (hadd A D) (wipe σ vs) H2 (wipeE ρ vs) := fun H2 x g ⟨acc, hd⟩ => RW.addHot hD x g ⟨_, hd, fun _ e => nomatch e⟩
    have lat : ∀ H2, Ext Γ H1 H2 → LaterE Γ A H1 Γ (hadd A D) H2 := fun H2 x => ⟨rfl, fun _ h => .inl h, hadd_avoid hD, x⟩
    have gD : Γ D = none := R.sit.gcold (back_none x1 g1 hD)
    refine walk_z w (fun i H2 => ∃ acc es, H2 D = some (.lst acc) ∧ DAs K (hadd A D) H2 acc es ∧ Ext Γ H1 H2 ∧ GOk Γ H2 ∧ wComp2 wg wt wi1 wg1 wt1 we vs1 (wipeE ρ vs) (ds.drop i) es P) _
      ⟨[], [], upd_same, .nil, ExA.new hD, g1.new hD, hP⟩ (fun i H2 _ ⟨acc, es, h1, h2, h4, h5, h6⟩ => ⟨Γ, hadd A D, lat H2 h4, (inv H2 h4 h5 ⟨_, h1⟩).sit⟩) ?_ ?_
    · rintro i x H2 H3 hi ⟨acc, es, h1, h2, h4, h5, h6⟩ hy
      have S2 := (inv H2 h4 h5 ⟨_, h1⟩).sit
      obtain ⟨x3, g3, d, hd, hx⟩ := it i H2 x H3 hi hy Γ (hadd A D) (lat H2 h4) S2
      have hD3 : H3 D = some (.lst acc) := x3 D _ (by simp [gD]) h1
      have x13 := h4.trans x3
      have R3 := inv H3 x13 g3 ⟨_, hD3⟩
      have hdr : ds.drop i = d :: ds.drop (i + 1) := by
        obtain ⟨hlt, e⟩ := List.getElem?_eq_some_iff.mp hd
        rw [List.drop_eq_getElem_cons hlt, e]
      rw [hdr] at h6
      have h6 : wg d (wipeE ρ vs) fun ρ1 => wt ρ1 fun b => if b = true then wi1 ρ1 fun ds1 => wIn wg1 wt1 we (wipeE ρ1 vs1) ds1 es fun acc' => wComp2 wg wt wi1 wg1 wt1 we vs1 (wipeE ρ vs) (ds.drop (i + 1)) acc' P else wComp2 wg wt wi1 wg1 wt1 we vs1 (wipeE ρ vs) (ds.drop (i + 1)) es P := h6
      refine ⟨Γ, hadd A D, wipeE ρ vs, d, _, R3, hx, h6, fun σ2 ρ2 R4 st hP2 => ⟨wipe_sets st hs, ⟨Γ, hadd A D, ρ2, _, R4, hP2, fun b H4 x4 g4 hb => ?_⟩⟩⟩
      have hD4 : H4 D = some (.lst acc) := x4 D _ (by simp [gD]) hD3
      have x14 := x13.trans x4
      have a34 : DAs K (hadd A D) H4 acc es := h2.ext ((x3.trans x4).weak S2.gdom)
      have R44 := R4.ext x4 g4
      cases b with
      | false => exact ⟨acc, es, hD4, a34, x14, g4, hb⟩
      | true =>
        have hb : wi1 ρ2 fun ds1 => wIn wg1 wt1 we (wipeE ρ2 vs1) ds1 es fun acc' => wComp2 wg wt wi1 wg1 wt1 we vs1 (wipeE ρ vs) (ds.drop (i + 1)) acc' P := hb
        refine ⟨Γ, hadd A D, ρ2, _, R44, hb, fun J1 ds1 H5 x5 g5 hJ1 hP5 => ?_⟩
        obtain ⟨⟨Y1, w1, it1⟩, sm1⟩ := hJ1
        have hD5 : H5 D = some (.lst acc) := x5 D _ (by simp [gD]) hD4
        have keep : ∀ H6, Ext Γ H1 H6 → ExA (hadd A D) H5 H6 → GOk Γ H6 → (∃ acc, H6 D = some (.lst acc)) → RepE K Γ (hadd A D) (wipe σ2 vs1) H6 (wipeE ρ2 vs1) := fun H6 x e g hd =>
          ((inv H6 x g hd).again R4 st (((x4.trans x5).weak S2.gdom).trans e)).wipe vs1
        refine walk_z w1 (fun j H6 => ∃ acc es, H6 D = some (.lst acc) ∧ DAs K (hadd A D) H6 acc es ∧ Ext Γ H1 H6 ∧ ExA (hadd A D) H5 H6 ∧ GOk Γ H6 ∧ wIn wg1 wt1 we (wipeE ρ2 vs1) (ds1.drop j) es fun acc' => wComp2 wg wt wi1 wg1 wt1 we vs1 (wipeE ρ vs) (ds.drop (i + 1)) acc' P) _
          ⟨acc, es, hD5, a34.ext (x5.weak R44.sit.gdom), x14.trans x5, ExA.refl _ _, g5, hP5⟩ (fun j H6 _ ⟨acc, es, h1, h2, h3, h4, h5, h6⟩ => ⟨Γ, hadd A D, ⟨fun _ h => h, fun _ h n => absurd h n, h4, fun _ _ => rfl, fun _ h n => absurd h n⟩, (keep H6 h3 h4 h5 ⟨_, h1⟩).sit⟩) ?_ ?_
        · rintro j y H6 H7 hj ⟨acc, es, h1, h2, h3, h4, h5, h6⟩ hy1
          have S6 := (keep H6 h3 h4 h5 ⟨_, h1⟩).sit
          obtain ⟨x7, g7, d1, hd1, hyd⟩ := it1 j H6 y H7 hj hy1 Γ (hadd A D) ⟨fun _ h => h, fun _ h n => absurd h n, h4, fun _ _ => rfl, fun _ h n => absurd h n⟩ S6
          have hD7 : H7 D = some (.lst acc) := x7 D _ (by simp [gD]) h1
          have hdr1 : ds1.drop j = d1 :: ds1.drop (j + 1) := by
            obtain ⟨hlt, e⟩ := List.getElem?_eq_some_iff.mp hd1
            rw [List.drop_eq_getElem_cons hlt, e]
          rw [hdr1] at h6
          have h6 : wg1 d1 (wipeE ρ2 vs1) fun ρ1 => wt1 ρ1 fun b => if b = true then we ρ1 fun e => es.length < sizeLine ∧ wIn wg1 wt1 we (wipeE ρ2 vs1) (ds1.drop (j + 1)) (es ++ [e]) fun acc' => wComp2 wg wt wi1 wg1 wt1 we vs1 (wipeE ρ vs) (ds.drop (i + 1)) acc' P
            else wIn wg1 wt1 we (wipeE ρ2 vs1) (ds1.drop (j + 1)) es fun acc' => wComp2 wg wt wi1 wg1 wt1 we vs1 (wipeE ρ vs) (ds.drop (i + 1)) acc' P := h6
          have R7 := keep H7 (h3.trans x7) (h4.trans (x7.weak S6.gdom)) g7 ⟨_, hD7⟩
          refine ⟨Γ, hadd A D, wipeE ρ2 vs1, d1, _, R7, hyd, h6, fun σ3 ρ3 R8 st1 hP8 => ⟨wipe_sets st1 hs1, ⟨Γ, hadd A D, ρ3, _, R8, hP8, fun b H8 x8 g8 hb8 => ?_⟩⟩⟩
          have hD8 : H8 D = some (.lst acc) := x8 D _ (by simp [gD]) hD7
          have x18 := (h3.trans x7).trans x8
          have x58 := h4.trans ((x7.trans x8).weak S6.gdom)
          have a8 : DAs K (hadd A D) H8 acc es := h2.ext ((x7.trans x8).weak S6.gdom)
          cases b with
          | false => exact ⟨acc, es, hD8, a8, x18, x58, g8, hb8⟩
          | true =>
            refine ⟨Γ, hadd A D, ρ3, _, R8.ext x8 g8, hb8, fun z e H9 x9 g9 hz he => ?_⟩
            have hD9 : H9 D = some (.lst acc) := x9 D _ (by simp [gD]) hD8
            refine ⟨acc, hD9, by rw [a8.length]; exact he.1, acc ++ [z], es ++ [e], upd_same, ?_, ?_, ?_, g9.put gD, he.2⟩
            · exact ((a8.ext (x9.weak S6.gdom)).append (.cons hz .nil)).ext (ExA.hot (.inr rfl))
            · intro a o n e'
              rw [upd_ne (ne_of_none e' hD)]
              exact (x18.trans x9) a o n e'
            · exact (x58.trans (x9.weak S6.gdom)).trans (ExA.hot (.inr rfl))
        · rintro H6 ⟨acc, es, h1, h2, h3, h4, h5, h6⟩
          rw [List.drop_length] at h6
          exact ⟨acc, es, h1, h2, h3, h5, h6⟩
    · rintro H2 ⟨acc, es, h1, h2, h4, h5, h6⟩
      rw [List.drop_length] at h6
      exact k D acc es H2 (back_none x1 g1 hD) (x1.trans h4) h5 h1 h2 h6⟩
theorem df_lc2 {X : Cx} {elt tg iter tg1 iter1 : Expr} {ifs ifs1 : List Expr} {scope : Scope} {own : List (Str × Nat)} {vs1 : List Nat} {pos : Pos} {wi wi1 : WL} {wg wg1 : WG} {wt wt1 : WT} {we : WE} {is is1 : List Nat} (hc : X.calm = true) (hN : X.N.Nodup) (hi : DIe X tg iter wi) (ok : BlkOk X.N X.env.scope scope own) (hv : ∀ i ∈ vs1, i ∈ own.map (·.2))
    (hg : ∀ (s : Shared) (H : Hp) (C : Addr) (cl : List (Str × Addr)) (fp : List Addr), DG (X.blk s H scope (compEnvC scope cl C X.env) fp) tg is wg) (ht : ∀ (s : Shared) (H : Hp) (C : Addr) (cl : List (Str × Addr)) (fp : List Addr), DTs (X.blk s H scope (compEnvC scope cl C X.env) fp) ifs wt)
    (hi1 : ∀ (s : Shared) (H : Hp) (C : Addr) (cl : List (Str × Addr)) (fp : List Addr), DI (X.blk s H scope (compEnvC scope cl C X.env) fp) tg1 iter1 wi1)
    (hg1 : ∀ (s : Shared) (H : Hp) (C : Addr) (cl : List (Str × Addr)) (fp : List Addr), DG (X.blk s H scope (compEnvC scope cl C X.env) fp) tg1 is1 wg1) (ht1 : ∀ (s : Shared) (H : Hp) (C : Addr) (cl : List (Str × Addr)) (fp : List Addr), DTs (X.blk s H scope (compEnvC scope cl C X.env) fp) ifs1 wt1)
    (he : ∀ (s : Shared) (H : Hp) (C : Addr) (cl : List (Str × Addr)) (fp : List Addr), DE (X.blk s H scope (compEnvC scope cl C X.env) fp) elt we) (hvs : ∀ i ∈ is, i ∈ own.map (·.2) := by decide) (hvs1 : ∀ i ∈ is1, i ∈ vs1 := by decide) (hs : ∀ x, foldedSetIterable iter X.env x = pure x := by intro _; rfl) (hs1 : ∀ env x, foldedSetIterable iter1 env x = pure x := by intro _ _; rfl) :
    DF X (.ListComp elt [⟨tg, iter, ifs, 0⟩, ⟨tg1, iter1, ifs1, 0⟩] scope pos) (wLc2 wi wg wt wi1 wg1 wt1 we (own.map (·.2)) vs1) :=
  peC (pe_lc2 hc hN hi ok hv hg ht hi1 hg1 ht1 he hs hs1) (t_lc2 hvs hvs1)
end Dat

/-! Uni: unions of selectors; the first difference. -/
namespace Dat
open PySem PySem.Spec PyProof.Rows L2
open PySem.W (Datum DatumOrd Tup T3)

section
variable {α β γ : Type} [DecidableEq α] [DatumOrd α] [DecidableEq β] [DatumOrd β] [DecidableEq γ] [DatumOrd γ]
def t3p (t : T3 α β γ) : α × (β × γ) := (t.a, (t.b, t.c))
theorem t3Lt {p q : T3 α β γ} : DatumOrd.lt p q = DatumOrd.lt (t3p p) (t3p q) := rfl
instance [LeL α] [LeL β] [LeL γ] : LeL (T3 α β γ) where
  irrefl a := by rw [t3Lt]; exact LeL.irrefl _
  trans a b c h1 h2 := by rw [t3Lt] at *; exact LeL.trans _ _ _ h1 h2
  tri a b h1 h2 := by
    rw [t3Lt] at *
    have := LeL.tri _ _ h1 h2
    cases a; cases b
    unfold t3p at this
    simp only [Prod.mk.injEq] at this
    obtain ⟨rfl, rfl, rfl⟩ := this
    rfl
theorem minL_congr [LeL α] {a b : List α} (h : ∀ x, x ∈ a ↔ x ∈ b) : minL a = minL b := minL_eq (fun x hx => (h x).mpr hx) fun y hy => ⟨y, (h y).mp hy, leOf_refl y⟩
end

/-! ### union, unions -/
def unionT (a b : Tags) : Tags := Tup.mk ((a.items ++ b.items.filter fun t => !decide (t ∈ a.items)).mergeSort leOf)
theorem union_mem {a b : Tags} {t : Str} : t ∈ (unionT a b).items ↔ t ∈ a.items ∨ t ∈ b.items := by
  unfold unionT
  show t ∈ List.mergeSort _ _ ↔ _
  rw [List.mem_mergeSort, List.mem_append, List.mem_filter]
  constructor
  · rintro (h | h)
    · exact .inl h
    · exact .inr h.1
  · rintro (h | h)
    · exact .inl h
    · by_cases q : t ∈ a.items
      · exact .inl q
      · exact .inr ⟨h, by simpa using q⟩
def C_union : Con := fun cs P => ∃ a b : Tags, cs = [.d (Datum.toD a), .d (Datum.toD b)] ∧ a.items.length ≤ 1000 ∧ b.items.length ≤ 1000 ∧ P (Datum.toD (unionT a b))
def sels (s : Sheet) : List Tags := Tup.mk [] :: s.items.map (·.a)
def pairsL (s1 s2 : Sheet) : List Tags := (sels s1).flatMap fun a => (sels s2).map fun b => unionT a b
structure SmallS (s : Sheet) : Prop where
  len : s.items.length ≤ 40
  tag : ∀ r ∈ s.items, r.a.items.length ≤ 1000
def C_unions : Con := fun cs P => ∃ s1 s2 : Sheet, cs = [.d (Datum.toD s1), .d (Datum.toD s2)] ∧ SmallS s1 ∧ SmallS s2 ∧
  ∀ us : List Tags, (∀ u, u ∈ us ↔ u ∈ pairsL s1 s2) → us.Nodup → us.Pairwise (fun a b => leOf a b = true) → us.length ≤ 1681 → P (Datum.toD us)
def W_union : WS :=
  (sRet (w1 gTuple (wF (wF1 gSorted (w2 gAdd (wVar 0) (w1 gTuple (wF (wLc (wSeqI (wVar 1)) (wGn 2) (wTst (w2 gNi (wVar 2) (wVar 0))) (wVar 2) [2]))))))))

def B_unions_1 : WS :=
  (sDPut 2 (wCall C_union (aD (wVar 3) (aD (wVar 5) aNil))) (wC (.bool true)))
def B_unions_0 : WS :=
  (sFor (wSeqI (w2 gAdd (wTup (wCons (wTup wNil) wNil)) (w1 gTuple (wF (wLc (wSeqI (wVar 1)) (wGn 4) wYes (w2 gIx (wVar 4) (wC (.int 0))) [4]))))) (wGn 5) B_unions_1)
def W_unions : WS :=
  (sSeq (sDNew 2)
    (sSeq (sFor (wSeqI (w2 gAdd (wTup (wCons (wTup wNil) wNil)) (w1 gTuple (wF (wLc (wSeqI (wVar 0)) (wGn 4) wYes (w2 gIx (wVar 4) (wC (.int 0))) [4]))))) (wGn 3) B_unions_0)
    (sRet (wF (wSortT 2)))))

theorem body_union : ∀ cs P, cs.length = 2 → C_union cs P → noOwn cs ∧ W_union (startE 3 cs) (endD false P) := by
  rintro cs P _ ⟨a, b, rfl, ha, hb, h⟩
  refine ⟨noOwn2, ?_⟩
  show W_union [some (.d (Datum.toD a)), some (.d (Datum.toD b)), none] _
  unfold W_union
  simp only [sSeq, sSet, sSetF, sRet, sRetN, sRetF, sNext, sIf, sFor, sAsg, sDrop, sBreak, sCont, w2, w1, wF1, wF, wC, wTst, wNot, wAnd, wOr, wAndV, wOrV, wNotV, wIfE, wIsN, wNotN, wTup, wCons, wNil, wCall, wCallL, wCallB, aD, aO, aNil, wLc, wSeqI, wEnum, wZip, wRg1, wO0, wO1, wSl, wNeg, wCat, wRevL, wIsi, wIsi2, wGn, wGtup, wGcons, wGnil, wYes, wipeE, endD, lawD, wVar, wOwn, List.getD_cons_zero, List.getD_cons_succ, List.set_cons_zero, List.set_cons_succ, Bool.false_eq_true, false_imp_iff, true_and, and_true, if_true, if_false, List.length_cons, List.length_nil, gTuple_lst, gAdd_int, gSub_int, gIxR0, gIxR1, gIxR2, gIxR3, isSeq_tup, isSeq_list, itemsD_tup, itemsD_list, isSeq_lst, itemsD_lst, isSeq_tp, itemsD_tp, gLenTup, gLenList, enumD_map, toD_pair, toD_int, toD_str, toD_bool, ite_self, reduceIte]
  refine wComp_fm Datum.toD (fun t => !decide (t ∈ a.items)) (fun t => Datum.toD t) _ (fun t _ Q R h1 h2 => ?_) ?_
  · simp only [sSeq, sSet, sSetF, sRet, sRetN, sRetF, sNext, sIf, sFor, sAsg, sDrop, sBreak, sCont, w2, w1, wF1, wF, wC, wTst, wNot, wAnd, wOr, wAndV, wOrV, wNotV, wIfE, wIsN, wNotN, wTup, wCons, wNil, wCall, wCallL, wCallB, aD, aO, aNil, wLc, wSeqI, wEnum, wZip, wRg1, wO0, wO1, wSl, wNeg, wCat, wRevL, wIsi, wIsi2, wGn, wGtup, wGcons, wGnil, wYes, wipeE, endD, lawD, wVar, wOwn, List.getD_cons_zero, List.getD_cons_succ, List.set_cons_zero, List.set_cons_succ, Bool.false_eq_true, false_imp_iff, true_and, and_true, if_true, if_false, List.length_cons, List.length_nil, gTuple_lst, gAdd_int, gSub_int, gIxR0, gIxR1, gIxR2, gIxR3, isSeq_tup, isSeq_list, itemsD_tup, itemsD_list, isSeq_lst, itemsD_lst, isSeq_tp, itemsD_tp, gLenTup, gLenList, enumD_map, toD_pair, toD_int, toD_str, toD_bool, ite_self, reduceIte]
    refine gNiT_ (α := Str) (by decide) ?_
    exact ifB h1 h2
  · have e : List.map (fun t : Str => Datum.toD t) (b.items.filter fun t => !decide (t ∈ a.items)) = (Tup.mk (b.items.filter fun t => !decide (t ∈ a.items))).items.map Datum.toD := rfl
    rw [e]
    have hf : (b.items.filter fun t => !decide (t ∈ a.items)).length ≤ 1000 := Nat.le_trans (List.length_filter_le ..) hb
    refine gAddT_ (xs := a) (ys := Tup.mk (b.items.filter fun t => !decide (t ∈ a.items))) (by show a.items.length + (List.filter _ _).length ≤ _; omega) ?_
    exact gSortedT_ (α := Str) (t := Tup.mk (a.items ++ b.items.filter fun t => !decide (t ∈ a.items))) (by decide) h
/-- a dict whose keys are these tuples -/
def tabOf (us : List Tags) : DTab := us.map fun u => (u.items.map Sum.inr, PyData.bool true)
theorem inr_inj {a b : List Str} (h : (a.map Sum.inr : List Key) = b.map Sum.inr) : a = b := by
  induction a generalizing b with
  | nil =>
    cases b with
    | nil => rfl
    | cons y b => cases h
  | cons x a ih =>
    cases b with
    | nil => cases h
    | cons y b =>
      rw [List.map_cons, List.map_cons, List.cons.injEq] at h
      rw [Sum.inr.inj h.1, ih h.2]
theorem tab_put (us : List Tags) (u : Tags) : putD (tabOf us) (u.items.map Sum.inr) (.bool true) = tabOf (if u ∈ us then us else us ++ [u]) := by
  have hk : ∀ x : Tags, decide ((x.items.map Sum.inr : List Key) = u.items.map Sum.inr) = decide (x = u) := fun x => by
    by_cases e : x = u
    · rw [e, decide_eq_true rfl, decide_eq_true rfl]
    · rw [decide_eq_false e, decide_eq_false fun h => e ?_]
      have := inr_inj h
      cases x; cases u
      exact congrArg Tup.mk this
  have hany : ((tabOf us).any fun kv => decide (kv.1 = u.items.map Sum.inr)) = decide (u ∈ us) := by
    unfold tabOf
    rw [List.any_map]
    induction us with
    | nil => rfl
    | cons x us ih =>
      have e : (x = u) = (u = x) := propext ⟨Eq.symm, Eq.symm⟩
      rw [List.any_cons, ih]
      show (decide _ || _) = _
      rw [hk]
      simp only [List.mem_cons, Bool.decide_or, e]
  unfold putD
  rw [hany]
  by_cases q : u ∈ us
  · rw [if_pos (decide_eq_true q), if_pos q]
    unfold tabOf
    rw [List.map_map]
    refine List.map_congr_left fun x _ => ?_
    show (if _ then _ else _) = _
    split
    · rename_i h; rfl
    · rfl
  · rw [if_neg (by simpa using q), if_neg q]
    unfold tabOf
    rw [List.map_append]
    rfl
theorem tupD_tags (u : Tags) : tupD (u.items.map Sum.inr) = Datum.toD u := by
  unfold tupD
  rw [List.map_map]
  rfl
theorem body_unions : ∀ cs P, cs.length = 2 → C_unions cs P → noOwn cs ∧ W_unions (startE 6 cs) (endD false P) := by
  rintro cs P _ ⟨s1, s2, rfl, hs1, hs2, h⟩
  refine ⟨noOwn2, ?_⟩
  show W_unions [some (.d (Datum.toD s1)), some (.d (Datum.toD s2)), none, none, none, none] _
  unfold W_unions
  have selD : ∀ s : Sheet, SmallS s → ∀ P : PyData → Prop, P (Datum.toD (Tup.mk (sels s))) → gAdd (.tuple [.tuple []]) (.tuple (s.items.map fun r => Datum.toD r.a)) P := fun s hs P hP => by
    have e : s.items.map (fun r => Datum.toD r.a) = (s.items.map (·.a)).map Datum.toD := by
      rw [List.map_map]
      rfl
    rw [e]
    refine gAddT_ (xs := Tup.mk [Tup.mk []]) (ys := Tup.mk (s.items.map (·.a))) (by show 1 + (List.map _ _).length ≤ _; rw [List.length_map]; have := hs.len; omega) hP
  have hl1 : (sels s1).length ≤ 41 := by unfold sels; rw [List.length_cons, List.length_map]; have := hs1.len; omega
  have hl2 : (sels s2).length ≤ 41 := by unfold sels; rw [List.length_cons, List.length_map]; have := hs2.len; omega
  have hsel : ∀ s : Sheet, SmallS s → ∀ t ∈ sels s, t.items.length ≤ 1000 := fun s hs t ht => by
    unfold sels at ht
    rcases List.mem_cons.mp ht with q | q
    · subst q
      exact Nat.zero_le _
    · obtain ⟨r, hr, rfl⟩ := List.mem_map.mp q
      exact hs.tag r hr
  simp only [sSeq, sSet, sSetF, sRet, sRetN, sRetF, sNext, sIf, sFor, sAsg, sDrop, sBreak, sCont, w2, w1, wF1, wF, wC, wTst, wNot, wAnd, wOr, wAndV, wOrV, wNotV, wIfE, wIsN, wNotN, wTup, wCons, wNil, wCall, wCallL, wCallB, aD, aO, aNil, wLc, wSeqI, wEnum, wZip, wRg1, wO0, wO1, wSl, wNeg, wCat, wRevL, wIsi, wIsi2, wGn, wGtup, wGcons, wGnil, wYes, wipeE, endD, lawD, wVar, wOwn, List.getD_cons_zero, List.getD_cons_succ, List.set_cons_zero, List.set_cons_succ, Bool.false_eq_true, false_imp_iff, true_and, and_true, if_true, if_false, List.length_cons, List.length_nil, gTuple_lst, gAdd_int, gSub_int, gIxR0, gIxR1, gIxR2, gIxR3, isSeq_tup, isSeq_list, itemsD_tup, itemsD_list, isSeq_lst, itemsD_lst, isSeq_tp, itemsD_tp, gLenTup, gLenList, enumD_map, toD_pair, toD_int, toD_str, toD_bool, ite_self, reduceIte,  sDNew, gTuple]
  refine wComp_me Datum.toD (fun r : Rule => Datum.toD r.a) s1.items rfl (fun r _ Q q => by simp only [sSeq, sSet, sSetF, sRet, sRetN, sRetF, sNext, sIf, sFor, sAsg, sDrop, sBreak, sCont, w2, w1, wF1, wF, wC, wTst, wNot, wAnd, wOr, wAndV, wOrV, wNotV, wIfE, wIsN, wNotN, wTup, wCons, wNil, wCall, wCallL, wCallB, aD, aO, aNil, wLc, wSeqI, wEnum, wZip, wRg1, wO0, wO1, wSl, wNeg, wCat, wRevL, wIsi, wIsi2, wGn, wGtup, wGcons, wGnil, wYes, wipeE, endD, lawD, wVar, wOwn, List.getD_cons_zero, List.getD_cons_succ, List.set_cons_zero, List.set_cons_succ, Bool.false_eq_true, false_imp_iff, true_and, and_true, if_true, if_false, List.length_cons, List.length_nil, gTuple_lst, gAdd_int, gSub_int, gIxR0, gIxR1, gIxR2, gIxR3, isSeq_tup, isSeq_list, itemsD_tup, itemsD_list, isSeq_lst, itemsD_lst, isSeq_tp, itemsD_tp, gLenTup, gLenList, enumD_map, toD_pair, toD_int, toD_str, toD_bool, ite_self, reduceIte]; exact q) ?_
  refine selD s1 hs1 _ ?_
  simp only [sSeq, sSet, sSetF, sRet, sRetN, sRetF, sNext, sIf, sFor, sAsg, sDrop, sBreak, sCont, w2, w1, wF1, wF, wC, wTst, wNot, wAnd, wOr, wAndV, wOrV, wNotV, wIfE, wIsN, wNotN, wTup, wCons, wNil, wCall, wCallL, wCallB, aD, aO, aNil, wLc, wSeqI, wEnum, wZip, wRg1, wO0, wO1, wSl, wNeg, wCat, wRevL, wIsi, wIsi2, wGn, wGtup, wGcons, wGnil, wYes, wipeE, endD, lawD, wVar, wOwn, List.getD_cons_zero, List.getD_cons_succ, List.set_cons_zero, List.set_cons_succ, Bool.false_eq_true, false_imp_iff, true_and, and_true, if_true, if_false, List.length_cons, List.length_nil, gTuple_lst, gAdd_int, gSub_int, gIxR0, gIxR1, gIxR2, gIxR3, isSeq_tup, isSeq_list, itemsD_tup, itemsD_list, isSeq_lst, itemsD_lst, isSeq_tp, itemsD_tp, gLenTup, gLenList, enumD_map, toD_pair, toD_int, toD_str, toD_bool, ite_self, reduceIte]
  refine sLoop_ind Datum.toD (fun rest ρ => ∃ pre us x3 x4 x5, sels s1 = pre ++ rest ∧ us.Nodup ∧ us.length ≤ 41 * pre.length ∧ (∀ u, u ∈ us ↔ ∃ a ∈ pre, ∃ b ∈ sels s2, u = unionT a b) ∧
    ρ = [some (.d (Datum.toD s1)), some (.d (Datum.toD s2)), some (.dT (tabOf us)), x3, x4, x5]) ?_ ?_ (sels s1) _ ⟨[], [], _, _, _, rfl, List.nodup_nil, Nat.zero_le _, fun u => ⟨fun h => (by cases h), fun ⟨a, ha, _⟩ => (by cases ha)⟩, rfl⟩
  · rintro ρ ⟨pre, us, x3, x4, x5, hpre, hnd, hlen, hmem, rfl⟩
    rw [List.append_nil] at hpre
    subst hpre
    simp only [sSeq, sSet, sSetF, sRet, sRetN, sRetF, sNext, sIf, sFor, sAsg, sDrop, sBreak, sCont, w2, w1, wF1, wF, wC, wTst, wNot, wAnd, wOr, wAndV, wOrV, wNotV, wIfE, wIsN, wNotN, wTup, wCons, wNil, wCall, wCallL, wCallB, aD, aO, aNil, wLc, wSeqI, wEnum, wZip, wRg1, wO0, wO1, wSl, wNeg, wCat, wRevL, wIsi, wIsi2, wGn, wGtup, wGcons, wGnil, wYes, wipeE, endD, lawD, wVar, wOwn, List.getD_cons_zero, List.getD_cons_succ, List.set_cons_zero, List.set_cons_succ, Bool.false_eq_true, false_imp_iff, true_and, and_true, if_true, if_false, List.length_cons, List.length_nil, gTuple_lst, gAdd_int, gSub_int, gIxR0, gIxR1, gIxR2, gIxR3, isSeq_tup, isSeq_list, itemsD_tup, itemsD_list, isSeq_lst, itemsD_lst, isSeq_tp, itemsD_tp, gLenTup, gLenList, enumD_map, toD_pair, toD_int, toD_str, toD_bool, ite_self, reduceIte,  wSortT]
    have e : (tabOf us).map (fun p => tupD p.1) = us.map Datum.toD := by
      unfold tabOf
      rw [List.map_map]
      exact List.map_congr_left fun u _ => tupD_tags u
    rw [e]
    refine ⟨(PySem.W.alikeAll_datum us).1, fun p hp => ?_, ?_⟩
    · have : tupD p.1 ∈ (tabOf us).map fun p => tupD p.1 := List.mem_map.mpr ⟨p, hp, rfl⟩
      rw [e] at this
      obtain ⟨u, _, e2⟩ := List.mem_map.mp this
      rw [← e2]
      exact Nat.le_trans (Datum.depth_le u) (by decide)
    · rw [← PySem.W.sort_maps Datum.toD (r := leOf) (fun a _ b _ => by unfold leOf dLe; rw [DatumOrd.lt_eq])]
      refine h (us.mergeSort leOf) (fun u => ?_) ((List.mergeSort_perm us leOf).nodup_iff.mpr hnd) (sorted_pair us) ?_
      · rw [List.mem_mergeSort, hmem]
        unfold pairsL
        rw [List.mem_flatMap]
        constructor
        · rintro ⟨a, ha, b, hb, rfl⟩
          exact ⟨a, ha, List.mem_map.mpr ⟨b, hb, rfl⟩⟩
        · rintro ⟨a, ha, hu⟩
          obtain ⟨b, hb, rfl⟩ := List.mem_map.mp hu
          exact ⟨a, ha, b, hb, rfl⟩
      · rw [List.length_mergeSort]
        omega
  · rintro a rest ρ ⟨pre, us, x3, x4, x5, hpre, hnd, hlen, hmem, rfl⟩ k hk
    have ha : a ∈ sels s1 := by rw [hpre]; simp
    have hpl : pre.length ≤ 41 := by
      have := congrArg List.length hpre
      rw [List.length_append] at this
      omega
    unfold B_unions_0
    simp only [sSeq, sSet, sSetF, sRet, sRetN, sRetF, sNext, sIf, sFor, sAsg, sDrop, sBreak, sCont, w2, w1, wF1, wF, wC, wTst, wNot, wAnd, wOr, wAndV, wOrV, wNotV, wIfE, wIsN, wNotN, wTup, wCons, wNil, wCall, wCallL, wCallB, aD, aO, aNil, wLc, wSeqI, wEnum, wZip, wRg1, wO0, wO1, wSl, wNeg, wCat, wRevL, wIsi, wIsi2, wGn, wGtup, wGcons, wGnil, wYes, wipeE, endD, lawD, wVar, wOwn, List.getD_cons_zero, List.getD_cons_succ, List.set_cons_zero, List.set_cons_succ, Bool.false_eq_true, false_imp_iff, true_and, and_true, if_true, if_false, List.length_cons, List.length_nil, gTuple_lst, gAdd_int, gSub_int, gIxR0, gIxR1, gIxR2, gIxR3, isSeq_tup, isSeq_list, itemsD_tup, itemsD_list, isSeq_lst, itemsD_lst, isSeq_tp, itemsD_tp, gLenTup, gLenList, enumD_map, toD_pair, toD_int, toD_str, toD_bool, ite_self, reduceIte,  gTuple]
    refine wComp_me Datum.toD (fun r : Rule => Datum.toD r.a) s2.items rfl (fun r _ Q q => by simp only [sSeq, sSet, sSetF, sRet, sRetN, sRetF, sNext, sIf, sFor, sAsg, sDrop, sBreak, sCont, w2, w1, wF1, wF, wC, wTst, wNot, wAnd, wOr, wAndV, wOrV, wNotV, wIfE, wIsN, wNotN, wTup, wCons, wNil, wCall, wCallL, wCallB, aD, aO, aNil, wLc, wSeqI, wEnum, wZip, wRg1, wO0, wO1, wSl, wNeg, wCat, wRevL, wIsi, wIsi2, wGn, wGtup, wGcons, wGnil, wYes, wipeE, endD, lawD, wVar, wOwn, List.getD_cons_zero, List.getD_cons_succ, List.set_cons_zero, List.set_cons_succ, Bool.false_eq_true, false_imp_iff, true_and, and_true, if_true, if_false, List.length_cons, List.length_nil, gTuple_lst, gAdd_int, gSub_int, gIxR0, gIxR1, gIxR2, gIxR3, isSeq_tup, isSeq_list, itemsD_tup, itemsD_list, isSeq_lst, itemsD_lst, isSeq_tp, itemsD_tp, gLenTup, gLenList, enumD_map, toD_pair, toD_int, toD_str, toD_bool, ite_self, reduceIte]; exact q) ?_
    refine selD s2 hs2 _ ?_
    simp only [sSeq, sSet, sSetF, sRet, sRetN, sRetF, sNext, sIf, sFor, sAsg, sDrop, sBreak, sCont, w2, w1, wF1, wF, wC, wTst, wNot, wAnd, wOr, wAndV, wOrV, wNotV, wIfE, wIsN, wNotN, wTup, wCons, wNil, wCall, wCallL, wCallB, aD, aO, aNil, wLc, wSeqI, wEnum, wZip, wRg1, wO0, wO1, wSl, wNeg, wCat, wRevL, wIsi, wIsi2, wGn, wGtup, wGcons, wGnil, wYes, wipeE, endD, lawD, wVar, wOwn, List.getD_cons_zero, List.getD_cons_succ, List.set_cons_zero, List.set_cons_succ, Bool.false_eq_true, false_imp_iff, true_and, and_true, if_true, if_false, List.length_cons, List.length_nil, gTuple_lst, gAdd_int, gSub_int, gIxR0, gIxR1, gIxR2, gIxR3, isSeq_tup, isSeq_list, itemsD_tup, itemsD_list, isSeq_lst, itemsD_lst, isSeq_tp, itemsD_tp, gLenTup, gLenList, enumD_map, toD_pair, toD_int, toD_str, toD_bool, ite_self, reduceIte]
    have base : ∀ u, u ∈ us ↔ (∃ a ∈ pre, ∃ b ∈ sels s2, u = unionT a b) ∨ ∃ b ∈ ([] : List Tags), u = unionT a b := fun u => by
      rw [hmem]
      constructor
      · exact Or.inl
      · rintro (z | ⟨b, hb, _⟩)
        · exact z
        · cases hb
    refine sLoop_ind Datum.toD (fun rest2 ρ => ∃ pre2 us x4 x5, sels s2 = pre2 ++ rest2 ∧ us.Nodup ∧ us.length ≤ 41 * pre.length + pre2.length ∧ (∀ u, u ∈ us ↔ (∃ a ∈ pre, ∃ b ∈ sels s2, u = unionT a b) ∨ ∃ b ∈ pre2, u = unionT a b) ∧
      ρ = [some (.d (Datum.toD s1)), some (.d (Datum.toD s2)), some (.dT (tabOf us)), some (.d (Datum.toD a)), x4, x5]) ?_ ?_ (sels s2) _ ⟨[], us, _, _, rfl, hnd, hlen, base, rfl⟩
    · rintro ρ ⟨pre2, us, x4, x5, hpre2, hnd, hlen, hmem, rfl⟩
      rw [List.append_nil] at hpre2
      subst hpre2
      refine hk _ ⟨pre ++ [a], us, _, _, _, by rw [hpre]; simp, hnd, by rw [List.length_append, List.length_singleton]; omega, fun u => ?_, rfl⟩
      rw [hmem]
      constructor
      · rintro (⟨x, hx, b, hb, e⟩ | ⟨b, hb, e⟩)
        · exact ⟨x, List.mem_append_left _ hx, b, hb, e⟩
        · exact ⟨a, by simp, b, hb, e⟩
      · rintro ⟨x, hx, b, hb, e⟩
        rcases List.mem_append.mp hx with q | q
        · exact .inl ⟨x, q, b, hb, e⟩
        · rw [List.mem_singleton] at q
          subst q
          exact .inr ⟨b, hb, e⟩
    · rintro b rest2 ρ ⟨pre2, us, x4, x5, hpre2, hnd, hlen, hmem, rfl⟩ k2 hk2
      have hb : b ∈ sels s2 := by rw [hpre2]; simp
      have hpl2 : pre2.length ≤ 41 := by
        have := congrArg List.length hpre2
        rw [List.length_append] at this
        omega
      unfold B_unions_1
      simp only [sSeq, sSet, sSetF, sRet, sRetN, sRetF, sNext, sIf, sFor, sAsg, sDrop, sBreak, sCont, w2, w1, wF1, wF, wC, wTst, wNot, wAnd, wOr, wAndV, wOrV, wNotV, wIfE, wIsN, wNotN, wTup, wCons, wNil, wCall, wCallL, wCallB, aD, aO, aNil, wLc, wSeqI, wEnum, wZip, wRg1, wO0, wO1, wSl, wNeg, wCat, wRevL, wIsi, wIsi2, wGn, wGtup, wGcons, wGnil, wYes, wipeE, endD, lawD, wVar, wOwn, List.getD_cons_zero, List.getD_cons_succ, List.set_cons_zero, List.set_cons_succ, Bool.false_eq_true, false_imp_iff, true_and, and_true, if_true, if_false, List.length_cons, List.length_nil, gTuple_lst, gAdd_int, gSub_int, gIxR0, gIxR1, gIxR2, gIxR3, isSeq_tup, isSeq_list, itemsD_tup, itemsD_list, isSeq_lst, itemsD_lst, isSeq_tp, itemsD_tp, gLenTup, gLenList, enumD_map, toD_pair, toD_int, toD_str, toD_bool, ite_self, reduceIte,  sDPut]
      refine ⟨a, b, rfl, hsel s1 hs1 a ha, hsel s2 hs2 b hb, (unionT a b).items.map Sum.inr, (tupD_tags _).symm, ?_, ?_⟩
      · unfold tabOf
        rw [List.length_map, sizeLine_eq]
        omega
      · rw [tab_put]
        refine hk2 _ ⟨pre2 ++ [b], if unionT a b ∈ us then us else us ++ [unionT a b], _, _, by rw [hpre2]; simp, ?_, ?_, fun u => ?_, rfl⟩
        · by_cases q : unionT a b ∈ us
          · rw [if_pos q]; exact hnd
          · rw [if_neg q, List.nodup_append]
            refine ⟨hnd, by simp, fun x hx y hy => ?_⟩
            rw [List.mem_singleton] at hy
            subst hy
            exact fun e => q (e ▸ hx)
        · by_cases q : unionT a b ∈ us
          · rw [if_pos q, List.length_append, List.length_singleton]; omega
          · rw [if_neg q, List.length_append, List.length_append, List.length_singleton, List.length_singleton]; omega
        · have e0 : u ∈ (if unionT a b ∈ us then us else us ++ [unionT a b]) ↔ u ∈ us ∨ u = unionT a b := by
            by_cases q : unionT a b ∈ us
            · rw [if_pos q]
              exact ⟨.inl, fun h => h.elim id fun z => z ▸ q⟩
            · rw [if_neg q, List.mem_append, List.mem_singleton]
          rw [e0, hmem]
          constructor
          · rintro ((q | ⟨x, hx, e⟩) | q)
            · exact .inl q
            · exact .inr ⟨x, List.mem_append_left _ hx, e⟩
            · exact .inr ⟨b, by simp, q⟩
          · rintro (q | ⟨x, hx, e⟩)
            · exact .inl (.inl q)
            · rcases List.mem_append.mp hx with z | z
              · exact .inl (.inr ⟨x, z, e⟩)
              · rw [List.mem_singleton] at z
                subst z
                exact .inr e
end Dat

/-! Dif: the first difference of two sheets. -/
namespace Dat
open PySem PySem.Spec PyProof.Rows L2
open PySem.W (Datum DatumOrd Tup T3)

abbrev Row := T3 Int Tags Str
def rowAt (e : Tags) (n : Str) : Row := ⟨(e.items.length : Int), e, n⟩
def namesG (s1 s2 : Sheet) : List Str := s1.items.map (·.c) ++ s2.items.map (·.c)
/-- the places where the values part -/
def rowsG (s1 s2 : Sheet) (es : List Tags) : List Row := es.flatMap fun e => ((namesG s1 s2).filter fun n => !decide (valO s1 e n = valO s2 e n)).map (rowAt e)
def diffO (s1 s2 : Sheet) : Option (Tags × Str) := (minL (rowsG s1 s2 (pairsL s1 s2))).map fun t => (t.b, t.c)
def C_difference : Con := fun cs P => ∃ s1 s2 : Sheet, cs = [.d (Datum.toD s1), .d (Datum.toD s2)] ∧ SmallS s1 ∧ SmallS s2 ∧ P (Datum.toD (diffO s1 s2))
def C_equal : Con := fun cs P => ∃ s1 s2 : Sheet, cs = [.d (Datum.toD s1), .d (Datum.toD s2)] ∧ SmallS s1 ∧ SmallS s2 ∧ P (.bool (diffO s1 s2).isNone)
def B_difference_1 : WS :=
  (sApp 2 (wTup (wCons (w1 gLen (wVar 3)) (wCons (wVar 3) (wCons (wVar 6) wNil)))))
def B_difference_0 : WS :=
  (sSeq (sAsg (wTup (wCons (wCall C_styles (aD (wVar 0) (aD (wVar 3) aNil))) (wCons (wCall C_styles (aD (wVar 1) (aD (wVar 3) aNil))) wNil))) (wGtup 2 (wGcons (wGn 4) (wGcons (wGn 5) wGnil))))
    (sFor (wSeqI (w2 gAdd (wF (wLc (wSeqI (wVar 4)) (wGn 8) (wTst (w2 gNi (wVar 8) (wVar 5))) (wVar 8) [8])) (wF (wLc (wSeqI (wVar 5)) (wGn 8) (wTst (w2 gNi (wVar 8) (wVar 4))) (wVar 8) [8])))) (wGtup 2 (wGcons (wGn 6) (wGcons (wGn 7) wGnil))) B_difference_1))
def W_difference : WS :=
  (sSeq (sSetF 2 wNil)
    (sSeq (sFor (wSeqI (wCall C_unions (aD (wVar 0) (aD (wVar 1) aNil)))) (wGn 3) B_difference_0)
    (sRet (wIfE (wTst (w2 gNe (wOwn 2) (wF wNil))) (wSl (w1 gMin (wOwn 2)) (wO1 (wC (.int 1))) wO0) (wC .none)))))

def W_equal : WS :=
  (sRet (wIsN (wCall C_difference (aD (wVar 0) (aD (wVar 1) aNil)))))

theorem val_names {s : Sheet} {e : Tags} {n : Str} (h : valO s e n ≠ none) : n ∈ s.items.map (·.c) := by
  rcases top_cases s e n with ⟨p, t, _, _⟩ | ⟨_, _, hv⟩
  · obtain ⟨i, _, hx⟩ := enumL_at t.mem
    exact List.mem_map.mpr ⟨p.2, List.mem_of_getElem? hx, (good_iff.mp t.good).2⟩
  · exact absurd hv h
theorem rowsG_mem {s1 s2 : Sheet} {es : List Tags} {t : Row} : t ∈ rowsG s1 s2 es ↔ ∃ e ∈ es, ∃ n, valO s1 e n ≠ valO s2 e n ∧ t = rowAt e n := by
  unfold rowsG
  rw [List.mem_flatMap]
  constructor
  · rintro ⟨e, he, h⟩
    obtain ⟨n, hn, rfl⟩ := List.mem_map.mp h
    have := (List.mem_filter.mp hn).2
    exact ⟨e, he, n, by simpa using this, rfl⟩
  · rintro ⟨e, he, n, hn, rfl⟩
    refine ⟨e, he, List.mem_map.mpr ⟨n, List.mem_filter.mpr ⟨?_, by simpa using hn⟩, rfl⟩⟩
    unfold namesG
    rw [List.mem_append]
    by_cases h : valO s1 e n = none
    · refine .inr (val_names (e := e) fun q => hn ?_)
      rw [h, q]
    · exact .inl (val_names (e := e) h)
/-- the styles of an element, as pairs -/
theorem styles_mem {s : Sheet} {e : Tags} {x : Str × Option Str} : x ∈ stylesL s e ↔ x.2 = valO s e x.1 ∧ x.2 ≠ none := by
  unfold stylesL
  rw [List.mem_map]
  have hn : ∀ n, n ∈ firstL (namesL s e) ↔ valO s e n ≠ none := fun n => by
    rw [firstL_mem]
    unfold namesL
    rw [List.mem_mergeSort, List.mem_map, ne_eq, valO_none]
    constructor
    · rintro ⟨p, hp, rfl⟩ h
      have : p ∈ candL s e p.2.c := List.mem_filter.mpr ⟨hp, by simp⟩
      rw [h] at this
      cases this
    · intro h
      obtain ⟨p, hp⟩ := List.exists_mem_of_ne_nil _ h
      obtain ⟨h1, h2⟩ := List.mem_filter.mp hp
      exact ⟨p, h1, of_decide_eq_true h2⟩
  constructor
  · rintro ⟨n, h, rfl⟩
    exact ⟨rfl, (hn n).mp h⟩
  · rintro ⟨h1, h2⟩
    exact ⟨x.1, (hn x.1).mpr (by rw [← h1]; exact h2), by rw [← h1]⟩
theorem styles_len' (s : Sheet) (e : Tags) : (stylesL s e).length ≤ s.items.length := by
  unfold stylesL
  rw [List.length_map]
  refine Nat.le_trans (firstL_sub _).length_le ?_
  unfold namesL
  rw [List.length_mergeSort, List.length_map]
  unfold matchP
  exact Nat.le_trans (List.length_filter_le ..) (by rw [enumL_len]; exact Nat.le_refl _)
/-- pairs of the one that are not of the other -/
def minusL (a b : List (Str × Option Str)) : List (Str × Option Str) := a.filter fun p => !decide (p ∈ b)
theorem minus_diff {s1 s2 : Sheet} {e : Tags} {n : Str} : (∃ x, x ∈ minusL (stylesL s1 e) (stylesL s2 e) ++ minusL (stylesL s2 e) (stylesL s1 e) ∧ x.1 = n) ↔ valO s1 e n ≠ valO s2 e n := by
  unfold minusL
  constructor
  · rintro ⟨x, hx, rfl⟩ h
    rcases List.mem_append.mp hx with q | q
    · obtain ⟨h1, h2⟩ := List.mem_filter.mp q
      have h2 : x ∉ stylesL s2 e := by simpa using h2
      rw [styles_mem] at h1 h2
      exact h2 ⟨by rw [← h]; exact h1.1, h1.2⟩
    · obtain ⟨h1, h2⟩ := List.mem_filter.mp q
      have h2 : x ∉ stylesL s1 e := by simpa using h2
      rw [styles_mem] at h1 h2
      exact h2 ⟨by rw [h]; exact h1.1, h1.2⟩
  · intro h
    by_cases q : valO s1 e n = none
    · refine ⟨(n, valO s2 e n), List.mem_append_right _ (List.mem_filter.mpr ⟨styles_mem.mpr ⟨rfl, fun z => h (by rw [q]; exact z.symm)⟩, ?_⟩), rfl⟩
      have : (n, valO s2 e n) ∉ stylesL s1 e := fun z => h ((styles_mem.mp z).1.symm)
      simpa using this
    · refine ⟨(n, valO s1 e n), List.mem_append_left _ (List.mem_filter.mpr ⟨styles_mem.mpr ⟨rfl, q⟩, ?_⟩), rfl⟩
      have : (n, valO s1 e n) ∉ stylesL s2 e := fun z => h ((styles_mem.mp z).1)
      simpa using this
theorem minus_len (a b : List (Str × Option Str)) : (minusL a b).length ≤ a.length := List.length_filter_le ..
theorem min_third {P : PyData → Prop} {rows : List Row} (h : P (Datum.toD ((minL rows).map fun t => (t.b, t.c)))) : gNe (.list (rows.map Datum.toD)) (.list []) fun d => match d with
    | .bool b => if b = true then gMin (.list (rows.map Datum.toD)) fun d => gSl d (some 1) none P else P .none
    | _ => False := by
  refine gNeC (α := List Row) (b := []) (by decide) (fun z => ?_) fun z => ?_
  · cases rows with
    | nil => exact absurd rfl z
    | cons x xs =>
      (dsimp only; first | rw [if_pos rfl] | rw [if_neg (by simp)])
      exact gMin_ (α := Row) (x := x) (xs := xs) (by decide) h
  · subst z
    exact h
theorem body_difference : ∀ cs P, cs.length = 2 → C_difference cs P → noOwn cs ∧ W_difference (startE 9 cs) (endD false P) := by
  rintro cs P _ ⟨s1, s2, rfl, hs1, hs2, h⟩
  refine ⟨noOwn2, ?_⟩
  show W_difference [some (.d (Datum.toD s1)), some (.d (Datum.toD s2)), none, none, none, none, none, none, none] _
  unfold W_difference
  have l1 := hs1.len
  have l2 := hs2.len
  simp only [sSeq, sSet, sSetF, sRet, sRetN, sRetF, sNext, sIf, sFor, sAsg, sDrop, sBreak, sCont, w2, w1, wF1, wF, wC, wTst, wNot, wAnd, wOr, wAndV, wOrV, wNotV, wIfE, wIsN, wNotN, wTup, wCons, wNil, wCall, wCallL, wCallB, aD, aO, aNil, wLc, wSeqI, wEnum, wZip, wRg1, wO0, wO1, wSl, wNeg, wCat, wRevL, wIsi, wIsi2, wGn, wGtup, wGcons, wGnil, wYes, wipeE, endD, lawD, wVar, wOwn, List.getD_cons_zero, List.getD_cons_succ, List.set_cons_zero, List.set_cons_succ, Bool.false_eq_true, false_imp_iff, true_and, and_true, if_true, if_false, List.length_cons, List.length_nil, gTuple_lst, gAdd_int, gSub_int, gIxR0, gIxR1, gIxR2, gIxR3, isSeq_tup, isSeq_list, itemsD_tup, itemsD_list, isSeq_lst, itemsD_lst, isSeq_tp, itemsD_tp, gLenTup, gLenList, enumD_map, toD_pair, toD_int, toD_str, toD_bool, ite_self, reduceIte]
  refine ⟨s1, s2, rfl, hs1, hs2, fun us hus hnd _ hul => ?_⟩
  simp only [sSeq, sSet, sSetF, sRet, sRetN, sRetF, sNext, sIf, sFor, sAsg, sDrop, sBreak, sCont, w2, w1, wF1, wF, wC, wTst, wNot, wAnd, wOr, wAndV, wOrV, wNotV, wIfE, wIsN, wNotN, wTup, wCons, wNil, wCall, wCallL, wCallB, aD, aO, aNil, wLc, wSeqI, wEnum, wZip, wRg1, wO0, wO1, wSl, wNeg, wCat, wRevL, wIsi, wIsi2, wGn, wGtup, wGcons, wGnil, wYes, wipeE, endD, lawD, wVar, wOwn, List.getD_cons_zero, List.getD_cons_succ, List.set_cons_zero, List.set_cons_succ, Bool.false_eq_true, false_imp_iff, true_and, and_true, if_true, if_false, List.length_cons, List.length_nil, gTuple_lst, gAdd_int, gSub_int, gIxR0, gIxR1, gIxR2, gIxR3, isSeq_tup, isSeq_list, itemsD_tup, itemsD_list, isSeq_lst, itemsD_lst, isSeq_tp, itemsD_tp, gLenTup, gLenList, enumD_map, toD_pair, toD_int, toD_str, toD_bool, ite_self, reduceIte]
  refine sLoop_ind Datum.toD (fun rest ρ => ∃ (pre : List Tags) (fs : List Row) (x3 x4 x5 x6 x7 x8 : Option Cell), us = pre ++ rest ∧ fs.length ≤ 80 * pre.length ∧ (∀ t, t ∈ fs ↔ t ∈ rowsG s1 s2 pre) ∧
    ρ = [some (.d (Datum.toD s1)), some (.d (Datum.toD s2)), some (.lst (fs.map Datum.toD)), x3, x4, x5, x6, x7, x8]) ?_ ?_ us _ ⟨[], [], _, _, _, _, _, _, rfl, Nat.zero_le _, fun t => Iff.rfl, rfl⟩
  · rintro ρ ⟨pre, fs, x3, x4, x5, x6, x7, x8, hpre, hl, hm, rfl⟩
    rw [List.append_nil] at hpre
    subst hpre
    simp only [sSeq, sSet, sSetF, sRet, sRetN, sRetF, sNext, sIf, sFor, sAsg, sDrop, sBreak, sCont, w2, w1, wF1, wF, wC, wTst, wNot, wAnd, wOr, wAndV, wOrV, wNotV, wIfE, wIsN, wNotN, wTup, wCons, wNil, wCall, wCallL, wCallB, aD, aO, aNil, wLc, wSeqI, wEnum, wZip, wRg1, wO0, wO1, wSl, wNeg, wCat, wRevL, wIsi, wIsi2, wGn, wGtup, wGcons, wGnil, wYes, wipeE, endD, lawD, wVar, wOwn, List.getD_cons_zero, List.getD_cons_succ, List.set_cons_zero, List.set_cons_succ, Bool.false_eq_true, false_imp_iff, true_and, and_true, if_true, if_false, List.length_cons, List.length_nil, gTuple_lst, gAdd_int, gSub_int, gIxR0, gIxR1, gIxR2, gIxR3, isSeq_tup, isSeq_list, itemsD_tup, itemsD_list, isSeq_lst, itemsD_lst, isSeq_tp, itemsD_tp, gLenTup, gLenList, enumD_map, toD_pair, toD_int, toD_str, toD_bool, ite_self, reduceIte]
    refine min_third ?_
    have e : minL fs = minL (rowsG s1 s2 (pairsL s1 s2)) := minL_congr fun t => by
      rw [hm, rowsG_mem, rowsG_mem]
      constructor
      · rintro ⟨e, he, n, q⟩
        exact ⟨e, (hus e).mp he, n, q⟩
      · rintro ⟨e, he, n, q⟩
        exact ⟨e, (hus e).mpr he, n, q⟩
    rw [e]
    exact h
  · rintro u rest ρ ⟨pre, fs, x3, x4, x5, x6, x7, x8, hpre, hl, hm, rfl⟩ k hk
    have hpl : pre.length ≤ 1681 := by
      have := congrArg List.length hpre
      rw [List.length_append] at this
      omega
    unfold B_difference_0
    simp only [sSeq, sSet, sSetF, sRet, sRetN, sRetF, sNext, sIf, sFor, sAsg, sDrop, sBreak, sCont, w2, w1, wF1, wF, wC, wTst, wNot, wAnd, wOr, wAndV, wOrV, wNotV, wIfE, wIsN, wNotN, wTup, wCons, wNil, wCall, wCallL, wCallB, aD, aO, aNil, wLc, wSeqI, wEnum, wZip, wRg1, wO0, wO1, wSl, wNeg, wCat, wRevL, wIsi, wIsi2, wGn, wGtup, wGcons, wGnil, wYes, wipeE, endD, lawD, wVar, wOwn, List.getD_cons_zero, List.getD_cons_succ, List.set_cons_zero, List.set_cons_succ, Bool.false_eq_true, false_imp_iff, true_and, and_true, if_true, if_false, List.length_cons, List.length_nil, gTuple_lst, gAdd_int, gSub_int, gIxR0, gIxR1, gIxR2, gIxR3, isSeq_tup, isSeq_list, itemsD_tup, itemsD_list, isSeq_lst, itemsD_lst, isSeq_tp, itemsD_tp, gLenTup, gLenList, enumD_map, toD_pair, toD_int, toD_str, toD_bool, ite_self, reduceIte]
    refine ⟨s1, u, rfl, ?_⟩
    refine ⟨s2, u, rfl, ?_⟩
    refine ⟨rfl, ?_⟩
    have q1 := styles_len' s1 u
    have q2 := styles_len' s2 u
    have m1 := minus_len (stylesL s1 u) (stylesL s2 u)
    have m2 := minus_len (stylesL s2 u) (stylesL s1 u)
    refine wComp_fme Datum.toD (fun p : Str × Option Str => !decide (p ∈ stylesL s2 u)) Datum.toD (stylesL s1 u) rfl (fun p _ Q R h1 h2 => ?_) ?_
    · simp only [sSeq, sSet, sSetF, sRet, sRetN, sRetF, sNext, sIf, sFor, sAsg, sDrop, sBreak, sCont, w2, w1, wF1, wF, wC, wTst, wNot, wAnd, wOr, wAndV, wOrV, wNotV, wIfE, wIsN, wNotN, wTup, wCons, wNil, wCall, wCallL, wCallB, aD, aO, aNil, wLc, wSeqI, wEnum, wZip, wRg1, wO0, wO1, wSl, wNeg, wCat, wRevL, wIsi, wIsi2, wGn, wGtup, wGcons, wGnil, wYes, wipeE, endD, lawD, wVar, wOwn, List.getD_cons_zero, List.getD_cons_succ, List.set_cons_zero, List.set_cons_succ, Bool.false_eq_true, false_imp_iff, true_and, and_true, if_true, if_false, List.length_cons, List.length_nil, gTuple_lst, gAdd_int, gSub_int, gIxR0, gIxR1, gIxR2, gIxR3, isSeq_tup, isSeq_list, itemsD_tup, itemsD_list, isSeq_lst, itemsD_lst, isSeq_tp, itemsD_tp, gLenTup, gLenList, enumD_map, toD_pair, toD_int, toD_str, toD_bool, ite_self, reduceIte]
      exact gNiC (α := Str × Option Str) (a := p) (by decide) (fun z => h1 (by simpa using z)) fun z => h2 (by simpa using z)
    refine ⟨rfl, ?_⟩
    refine wComp_fme Datum.toD (fun p : Str × Option Str => !decide (p ∈ stylesL s1 u)) Datum.toD (stylesL s2 u) rfl (fun p _ Q R h1 h2 => ?_) ?_
    · simp only [sSeq, sSet, sSetF, sRet, sRetN, sRetF, sNext, sIf, sFor, sAsg, sDrop, sBreak, sCont, w2, w1, wF1, wF, wC, wTst, wNot, wAnd, wOr, wAndV, wOrV, wNotV, wIfE, wIsN, wNotN, wTup, wCons, wNil, wCall, wCallL, wCallB, aD, aO, aNil, wLc, wSeqI, wEnum, wZip, wRg1, wO0, wO1, wSl, wNeg, wCat, wRevL, wIsi, wIsi2, wGn, wGtup, wGcons, wGnil, wYes, wipeE, endD, lawD, wVar, wOwn, List.getD_cons_zero, List.getD_cons_succ, List.set_cons_zero, List.set_cons_succ, Bool.false_eq_true, false_imp_iff, true_and, and_true, if_true, if_false, List.length_cons, List.length_nil, gTuple_lst, gAdd_int, gSub_int, gIxR0, gIxR1, gIxR2, gIxR3, isSeq_tup, isSeq_list, itemsD_tup, itemsD_list, isSeq_lst, itemsD_lst, isSeq_tp, itemsD_tp, gLenTup, gLenList, enumD_map, toD_pair, toD_int, toD_str, toD_bool, ite_self, reduceIte]
      exact gNiC (α := Str × Option Str) (a := p) (by decide) (fun z => h1 (by simpa using z)) fun z => h2 (by simpa using z)
    refine gAddL_ (α := Str × Option Str) (xs := minusL (stylesL s1 u) (stylesL s2 u)) (ys := minusL (stylesL s2 u) (stylesL s1 u)) (by omega) ?_
    refine ⟨rfl, ?_⟩
    have hall : (minusL (stylesL s1 u) (stylesL s2 u) ++ minusL (stylesL s2 u) (stylesL s1 u)).length ≤ 80 := by rw [List.length_append]; omega
    generalize hds : minusL (stylesL s1 u) (stylesL s2 u) ++ minusL (stylesL s2 u) (stylesL s1 u) = ds at hall
    refine sLoop_ind Datum.toD (fun rest2 ρ => ∃ (pre2 : List (Str × Option Str)) (fs : List Row) (x6 x7 x8 : Option Cell), ds = pre2 ++ rest2 ∧ fs.length ≤ 80 * pre.length + pre2.length ∧ (∀ t, t ∈ fs ↔ t ∈ rowsG s1 s2 pre ∨ ∃ x ∈ pre2, t = rowAt u x.1) ∧
      ρ = [some (.d (Datum.toD s1)), some (.d (Datum.toD s2)), some (.lst (fs.map Datum.toD)), some (.d (Datum.toD u)), some (.d (Datum.toD (stylesL s1 u))), some (.d (Datum.toD (stylesL s2 u))), x6, x7, x8]) ?_ ?_ ds _ ⟨[], fs, _, _, _, rfl, hl, fun t => ?_, rfl⟩
    · rintro ρ ⟨pre2, fs, x6, x7, x8, hpre2, hl, hm2, rfl⟩
      rw [List.append_nil] at hpre2
      subst hpre2
      refine hk _ ⟨pre ++ [u], fs, _, _, _, _, _, _, by rw [hpre]; simp, by rw [List.length_append, List.length_singleton]; omega, fun t => ?_, rfl⟩
      rw [hm2, rowsG_mem, rowsG_mem]
      constructor
      · rintro (⟨e, he, n, q⟩ | ⟨x, hx, q⟩)
        · exact ⟨e, List.mem_append_left _ he, n, q⟩
        · exact ⟨u, by simp, x.1, minus_diff.mp ⟨x, by rw [hds]; exact hx, rfl⟩, q⟩
      · rintro ⟨e, he, n, q, z⟩
        rcases List.mem_append.mp he with w | w
        · exact .inl ⟨e, w, n, q, z⟩
        · rw [List.mem_singleton] at w
          subst w
          obtain ⟨x, hx, hxn⟩ := minus_diff.mpr q
          rw [hds] at hx
          exact .inr ⟨x, hx, by rw [hxn]; exact z⟩
    · rintro p rest2 ρ ⟨pre2, fs, x6, x7, x8, hpre2, hl, hm2, rfl⟩ k2 hk2
      have hp2 : pre2.length ≤ 80 := by
        have := congrArg List.length hpre2
        rw [List.length_append] at this
        omega
      unfold B_difference_1
      simp only [sSeq, sSet, sSetF, sRet, sRetN, sRetF, sNext, sIf, sFor, sAsg, sDrop, sBreak, sCont, w2, w1, wF1, wF, wC, wTst, wNot, wAnd, wOr, wAndV, wOrV, wNotV, wIfE, wIsN, wNotN, wTup, wCons, wNil, wCall, wCallL, wCallB, aD, aO, aNil, wLc, wSeqI, wEnum, wZip, wRg1, wO0, wO1, wSl, wNeg, wCat, wRevL, wIsi, wIsi2, wGn, wGtup, wGcons, wGnil, wYes, wipeE, endD, lawD, wVar, wOwn, List.getD_cons_zero, List.getD_cons_succ, List.set_cons_zero, List.set_cons_succ, Bool.false_eq_true, false_imp_iff, true_and, and_true, if_true, if_false, List.length_cons, List.length_nil, gTuple_lst, gAdd_int, gSub_int, gIxR0, gIxR1, gIxR2, gIxR3, isSeq_tup, isSeq_list, itemsD_tup, itemsD_list, isSeq_lst, itemsD_lst, isSeq_tp, itemsD_tp, gLenTup, gLenList, enumD_map, toD_pair, toD_int, toD_str, toD_bool, ite_self, reduceIte,  sApp]
      refine ⟨by rw [List.length_map, sizeLine_eq]; omega, ?_⟩
      have e : fs.map Datum.toD ++ [PyData.tuple [.int (u.items.length : Int), Datum.toD u, .str p.1]] = (fs ++ [rowAt u p.1]).map Datum.toD := by
        rw [List.map_append]
        rfl
      rw [e]
      refine hk2 _ ⟨pre2 ++ [p], fs ++ [rowAt u p.1], _, _, _, by rw [hpre2]; simp, by rw [List.length_append, List.length_append, List.length_singleton, List.length_singleton]; omega, fun t => ?_, rfl⟩
      rw [List.mem_append, hm2, List.mem_singleton]
      constructor
      · rintro ((q | ⟨x, hx, q⟩) | q)
        · exact .inl q
        · exact .inr ⟨x, List.mem_append_left _ hx, q⟩
        · exact .inr ⟨p, by simp, q⟩
      · rintro (q | ⟨x, hx, q⟩)
        · exact .inl (.inl q)
        · rcases List.mem_append.mp hx with w | w
          · exact .inl (.inr ⟨x, w, q⟩)
          · rw [List.mem_singleton] at w
            subst w
            exact .inr q
    · rw [hm]
      exact ⟨Or.inl, fun z => z.elim id fun ⟨x, hx, _⟩ => (by cases hx)⟩
theorem body_equal : ∀ cs P, cs.length = 2 → C_equal cs P → noOwn cs ∧ W_equal (startE 2 cs) (endD false P) := by
  rintro cs P _ ⟨s1, s2, rfl, hs1, hs2, h⟩
  refine ⟨noOwn2, ?_⟩
  show W_equal [some (.d (Datum.toD s1)), some (.d (Datum.toD s2))] _
  unfold W_equal
  simp only [sSeq, sSet, sSetF, sRet, sRetN, sRetF, sNext, sIf, sFor, sAsg, sDrop, sBreak, sCont, w2, w1, wF1, wF, wC, wTst, wNot, wAnd, wOr, wAndV, wOrV, wNotV, wIfE, wIsN, wNotN, wTup, wCons, wNil, wCall, wCallL, wCallB, aD, aO, aNil, wLc, wSeqI, wEnum, wZip, wRg1, wO0, wO1, wSl, wNeg, wCat, wRevL, wIsi, wIsi2, wGn, wGtup, wGcons, wGnil, wYes, wipeE, endD, lawD, wVar, wOwn, List.getD_cons_zero, List.getD_cons_succ, List.set_cons_zero, List.set_cons_succ, Bool.false_eq_true, false_imp_iff, true_and, and_true, if_true, if_false, List.length_cons, List.length_nil, gTuple_lst, gAdd_int, gSub_int, gIxR0, gIxR1, gIxR2, gIxR3, isSeq_tup, isSeq_list, itemsD_tup, itemsD_list, isSeq_lst, itemsD_lst, isSeq_tp, itemsD_tp, gLenTup, gLenList, enumD_map, toD_pair, toD_int, toD_str, toD_bool, ite_self, reduceIte]
  refine ⟨s1, s2, rfl, hs1, hs2, ?_⟩
  show P (.bool (gNone (Datum.toD (diffO s1 s2))))
  rw [gNone_opt (fun a => rfl)]
  exact h
end Dat

/-! AllE: two rules are enough: the first difference by all elements. -/
namespace Dat
open PySem PySem.Spec PyProof.Rows L2
open PySem.W (Datum DatumOrd Tup T3)

theorem sub_pool {pool : List Str} (hp : pool.Nodup) : ∀ {l m : List Str}, l.Sublist pool → m.Sublist pool → (∀ t ∈ l, t ∈ m) → l.Sublist m := by
  induction pool with
  | nil => intro l m h1 _ _; rw [List.sublist_nil.mp h1]; exact List.nil_sublist _
  | cons x pool ih =>
    intro l m h1 h2 h3
    rw [List.nodup_cons] at hp
    cases h2 with
    | cons _ h2 =>
      cases h1 with
      | cons _ h1 => exact ih hp.2 h1 h2 h3
      | cons_cons _ h1 => exact absurd (h2.subset (h3 x (List.mem_cons_self ..))) hp.1
    | cons_cons _ h2 =>
      cases h1 with
      | cons _ h1 =>
        refine (ih hp.2 h1 h2 fun t ht => ?_).cons x
        rcases List.mem_cons.mp (h3 t ht) with e | e
        · subst e
          exact absurd (h1.subset ht) hp.1
        · exact e
      | cons_cons _ h1 =>
        refine (ih hp.2 h1 h2 fun t ht => ?_).cons_cons x
        rcases List.mem_cons.mp (h3 t (List.mem_cons_of_mem _ ht)) with e | e
        · subst e
          exact absurd (h1.subset ht) hp.1
        · exact e
abbrev Inc (l : List Str) : Prop := l.Pairwise fun a b => DatumOrd.lt a b = true
theorem Inc.nodup {l : List Str} (h : Inc l) : l.Nodup := h.imp fun {a b} q e => by
  subst e
  rw [LeL.irrefl] at q
  cases q
theorem sub_inc : ∀ {m l : List Str}, Inc l → Inc m → (∀ t ∈ l, t ∈ m) → l.Sublist m
  | [], l, _, _, h => by
    cases l with
    | nil => exact List.Sublist.refl _
    | cons x l => exact absurd (h x (List.mem_cons_self ..)) (by simp)
  | y :: m, [], _, _, _ => List.nil_sublist _
  | y :: m, x :: l, hl, hm, h => by
    have hl0 := hl
    rw [Inc, List.pairwise_cons] at hl hm
    by_cases e : x = y
    · subst e
      refine (sub_inc hl.2 hm.2 fun t ht => ?_).cons_cons x
      rcases List.mem_cons.mp (h t (List.mem_cons_of_mem _ ht)) with q | q
      · have := hl.1 t ht
        rw [q, LeL.irrefl] at this
        cases this
      · exact q
    · have hx : x ∈ m := by
        rcases List.mem_cons.mp (h x (List.mem_cons_self ..)) with q | q
        · exact absurd q e
        · exact q
      refine (sub_inc hl0 hm.2 fun t ht => ?_).cons y
      rcases List.mem_cons.mp (h t ht) with q | q
      · subst q
        rcases List.mem_cons.mp ht with z | z
        · exact absurd z.symm e
        · have h1 := hl.1 t z
          have h2 := hm.1 x hx
          have h3 := LeL.trans _ _ _ h1 h2
          rw [LeL.irrefl] at h3
          cases h3
      · exact q
theorem union_nodup {a b : Tags} (ha : a.items.Nodup) (hb : b.items.Nodup) : (a.items ++ b.items.filter fun t => !decide (t ∈ a.items)).Nodup := by
  rw [List.nodup_append]
  refine ⟨ha, hb.filter _, fun x hx y hy e => ?_⟩
  subst e
  have := (List.mem_filter.mp hy).2
  simp [hx] at this
theorem union_inc {a b : Tags} (ha : a.items.Nodup) (hb : b.items.Nodup) : Inc (unionT a b).items := by
  have h1 : (unionT a b).items.Pairwise fun x y => leOf x y = true := sorted_pair _
  have h2 : (unionT a b).items.Nodup := (List.mergeSort_perm _ _).nodup_iff.mpr (union_nodup ha hb)
  refine (h1.and h2).imp fun {x y} q => ?_
  cases z : DatumOrd.lt x y with
  | true => rfl
  | false =>
    have h3 : leOf x y = true := q.1
    unfold leOf at h3
    exact absurd (LeL.tri _ _ z (by simpa using h3)) q.2
theorem union_sub {a b pool : Tags} (hp : Inc pool.items) (ha : a.items.Sublist pool.items) (hb : b.items.Sublist pool.items) : (unionT a b).items.Sublist pool.items :=
  sub_inc (union_inc (hp.nodup.sublist ha) (hp.nodup.sublist hb)) hp fun t ht => (union_mem.mp ht).elim (fun h => ha.subset h) fun h => hb.subset h
abbrev SheetIn (pool : Tags) (s : Sheet) : Prop := ∀ r ∈ s.items, r.a.items.Sublist pool.items
theorem sels_in {pool : Tags} {s : Sheet} (h : SheetIn pool s) {a : Tags} (ha : a ∈ sels s) : a.items.Sublist pool.items := by
  unfold sels at ha
  rcases List.mem_cons.mp ha with q | q
  · subst q; exact List.nil_sublist _
  · obtain ⟨r, hr, rfl⟩ := List.mem_map.mp q
    exact h r hr
theorem val_same {s : Sheet} {e u : Tags} {n : Str} (h : ∀ t ∈ u.items, t ∈ e.items) (hs : ∀ p, Top e n (enumL s.items) p → ∀ t ∈ p.2.a.items, t ∈ u.items) : valO s u n = valO s e n := by
  have down : ∀ q : Int × Rule, goodP u n q = true → goodP e n q = true := fun q hq => by
    have := good_iff.mp hq
    exact good_iff.mpr ⟨fun t ht => h t (this.1 t ht), this.2⟩
  rcases top_cases s e n with ⟨p, t, _, hv⟩ | ⟨h0, _, hv⟩
  · rw [hv]
    exact (win_top ⟨t.mem, good_iff.mpr ⟨hs p t, (good_iff.mp t.good).2⟩, fun q hq hg => t.top q hq (down q hg)⟩).2
  · rw [hv]
    rcases top_cases s u n with ⟨p, t, _, _⟩ | ⟨_, _, hv2⟩
    · have : p ∈ (enumL s.items).filter (goodP e n) := List.mem_filter.mpr ⟨t.mem, down p t.good⟩
      rw [h0] at this
      cases this
    · exact hv2
theorem sel_of (s : Sheet) (e : Tags) (n : Str) : ∃ a ∈ sels s, (∀ t ∈ a.items, t ∈ e.items) ∧ ∀ p, Top e n (enumL s.items) p → ∀ t ∈ p.2.a.items, t ∈ a.items := by
  rcases top_cases s e n with ⟨p, t, _, _⟩ | ⟨h0, _, _⟩
  · obtain ⟨i, _, hx⟩ := enumL_at t.mem
    refine ⟨p.2.a, List.mem_cons_of_mem _ (List.mem_map.mpr ⟨p.2, List.mem_of_getElem? hx, rfl⟩), (good_iff.mp t.good).1, fun q tq => ?_⟩
    rw [Top.one (enumL_pair s.items) tq t]
    exact fun t ht => ht
  · refine ⟨Tup.mk [], List.mem_cons_self .., fun t ht => (by cases ht), fun q tq => ?_⟩
    have : q ∈ (enumL s.items).filter (goodP e n) := List.mem_filter.mpr ⟨tq.mem, tq.good⟩
    rw [h0] at this
    cases this
theorem rowAt_le {pool : Tags} (hp : pool.items.Nodup) {u e : Tags} {n : Str} (hu : u.items.Sublist pool.items) (he : e.items.Sublist pool.items) (h : ∀ t ∈ u.items, t ∈ e.items) : leOf (rowAt u n) (rowAt e n) = true := by
  have sub := sub_pool hp hu he h
  rcases Nat.lt_or_ge u.items.length e.items.length with q | q
  · refine lt_leOf ?_
    rw [t3Lt, pairLt, if_neg]
    · exact decide_eq_true (Int.ofNat_lt.mpr q)
    · show ¬ ((u.items.length : Int) = e.items.length)
      omega
  · have : u.items = e.items := sub.eq_of_length_le q
    have : u = e := by
      cases u; cases e
      exact congrArg Tup.mk this
    rw [this]
    exact leOf_refl _
/-- the first difference by all elements is the one by unions -/
theorem diff_rows {s1 s2 : Sheet} {pool : Tags} (h1 : SheetIn pool s1) (h2 : SheetIn pool s2) (hp : Inc pool.items) : minL (rowsG s1 s2 (elementsL pool)) = minL (rowsG s1 s2 (pairsL s1 s2)) := by
  refine minL_eq (fun x hx => ?_) fun y hy => ?_
  · obtain ⟨u, hu, n, q, rfl⟩ := rowsG_mem.mp hx
    refine rowsG_mem.mpr ⟨u, elements_mem.mpr ?_, n, q, rfl⟩
    unfold pairsL at hu
    obtain ⟨a, ha, hu⟩ := List.mem_flatMap.mp hu
    obtain ⟨b, hb, rfl⟩ := List.mem_map.mp hu
    exact union_sub hp (sels_in h1 ha) (sels_in h2 hb)
  · obtain ⟨e, he, n, q, rfl⟩ := rowsG_mem.mp hy
    obtain ⟨a, ha, a1, a2⟩ := sel_of s1 e n
    obtain ⟨b, hb, b1, b2⟩ := sel_of s2 e n
    have sub : ∀ t ∈ (unionT a b).items, t ∈ e.items := fun t ht => (union_mem.mp ht).elim (a1 t) (b1 t)
    have v1 := val_same (s := s1) (n := n) sub fun p tp t ht => union_mem.mpr (.inl (a2 p tp t ht))
    have v2 := val_same (s := s2) (n := n) sub fun p tp t ht => union_mem.mpr (.inr (b2 p tp t ht))
    refine ⟨rowAt (unionT a b) n, rowsG_mem.mpr ⟨unionT a b, List.mem_flatMap.mpr ⟨a, ha, List.mem_map.mpr ⟨b, hb, rfl⟩⟩, n, by rw [v1, v2]; exact q, rfl⟩, ?_⟩
    exact rowAt_le hp.nodup (union_sub hp (sels_in h1 ha) (sels_in h2 hb)) (elements_mem.mp he) sub
/-- the law's rows -/
def rowsQ (s1 s2 : Sheet) (es : List Tags) : List Row := es.flatMap fun e => (pqL.filter fun n => !decide (valO s1 e n = valO s2 e n)).map (rowAt e)
def unlO (s1 s2 : Sheet) (pool : Tags) : Option (Tags × Str) := (minL (rowsQ s1 s2 (elementsL pool))).map fun t => (t.b, t.c)
abbrev NamesIn (s : Sheet) : Prop := ∀ r ∈ s.items, r.c ∈ pqL
theorem rowsQ_mem {s1 s2 : Sheet} (h1 : NamesIn s1) (h2 : NamesIn s2) {es : List Tags} {t : Row} : t ∈ rowsQ s1 s2 es ↔ t ∈ rowsG s1 s2 es := by
  rw [rowsG_mem]
  unfold rowsQ
  rw [List.mem_flatMap]
  constructor
  · rintro ⟨e, he, h⟩
    obtain ⟨n, hn, rfl⟩ := List.mem_map.mp h
    have := (List.mem_filter.mp hn).2
    exact ⟨e, he, n, by simpa using this, rfl⟩
  · rintro ⟨e, he, n, hn, rfl⟩
    refine ⟨e, he, List.mem_map.mpr ⟨n, List.mem_filter.mpr ⟨?_, by simpa using hn⟩, rfl⟩⟩
    have get : ∀ s : Sheet, NamesIn s → valO s e n ≠ none → n ∈ pqL := fun s hs hv => by
      obtain ⟨r, hr, rfl⟩ := List.mem_map.mp (val_names hv)
      exact hs r hr
    by_cases h : valO s1 e n = none
    · exact get s2 h2 fun q => hn (by rw [h, q])
    · exact get s1 h1 h
theorem unl_diff {s1 s2 : Sheet} {pool : Tags} (h1 : SheetIn pool s1) (h2 : SheetIn pool s2) (n1 : NamesIn s1) (n2 : NamesIn s2) (hp : Inc pool.items) : unlO s1 s2 pool = diffO s1 s2 := by
  unfold unlO diffO
  rw [minL_congr fun t => rowsQ_mem n1 n2, diff_rows h1 h2 hp]
theorem unl_comm (s1 s2 : Sheet) (pool : Tags) : unlO s2 s1 pool = unlO s1 s2 pool := by
  unfold unlO rowsQ
  congr 3
  funext e
  congr 2
  funext n
  congr 1
  exact decide_eq_decide.mpr ⟨Eq.symm, Eq.symm⟩
theorem diff_comm {s1 s2 : Sheet} {pool : Tags} (h1 : SheetIn pool s1) (h2 : SheetIn pool s2) (n1 : NamesIn s1) (n2 : NamesIn s2) (hp : Inc pool.items) : diffO s2 s1 = diffO s1 s2 := by
  rw [← unl_diff h2 h1 n2 n1 hp, ← unl_diff h1 h2 n1 n2 hp, unl_comm]
/-- no difference: the same values everywhere -/
theorem diff_none {s1 s2 : Sheet} : diffO s1 s2 = none ↔ ∀ e n, valO s1 e n = valO s2 e n := by
  unfold diffO
  constructor
  · intro h e n
    have h0 : minL (rowsG s1 s2 (pairsL s1 s2)) = none := by
      cases q : minL (rowsG s1 s2 (pairsL s1 s2)) with
      | none => rfl
      | some t => rw [q] at h; cases h
    have h1 := minL_nil h0
    apply Classical.byContradiction
    intro q
    obtain ⟨a, ha, a1, a2⟩ := sel_of s1 e n
    obtain ⟨b, hb, b1, b2⟩ := sel_of s2 e n
    have sub : ∀ t ∈ (unionT a b).items, t ∈ e.items := fun t ht => (union_mem.mp ht).elim (a1 t) (b1 t)
    have v1 := val_same (s := s1) (n := n) sub fun p tp t ht => union_mem.mpr (.inl (a2 p tp t ht))
    have v2 := val_same (s := s2) (n := n) sub fun p tp t ht => union_mem.mpr (.inr (b2 p tp t ht))
    have : rowAt (unionT a b) n ∈ rowsG s1 s2 (pairsL s1 s2) := rowsG_mem.mpr ⟨unionT a b, List.mem_flatMap.mpr ⟨a, ha, List.mem_map.mpr ⟨b, hb, rfl⟩⟩, n, by rw [v1, v2]; exact q, rfl⟩
    rw [h1] at this
    cases this
  · intro h
    have : rowsG s1 s2 (pairsL s1 s2) = [] := by
      cases q : rowsG s1 s2 (pairsL s1 s2) with
      | nil => rfl
      | cons t ts =>
        have : t ∈ rowsG s1 s2 (pairsL s1 s2) := by rw [q]; exact List.mem_cons_self ..
        obtain ⟨e, _, n, hn, _⟩ := rowsG_mem.mp this
        exact absurd (h e n) hn
    rw [this]
    rfl
theorem SheetOk.sin {m : Nat} {pool : Tags} {s : Sheet} (h : SheetOk m pool s) : SheetIn pool s := fun r hr => (h.ok r hr).1
theorem SheetOk.nin {m : Nat} {pool : Tags} {s : Sheet} (h : SheetOk m pool s) : NamesIn s := fun r hr => (h.ok r hr).2.2.2.1

/-! ### the law's own search -/
def C__law_unlike : Con := fun cs P => ∃ (s1 s2 : Sheet) (pool : Tags), cs = [.d (Datum.toD s1), .d (Datum.toD s2), .d (Datum.toD pool)] ∧ pool.items.length ≤ 10 ∧ P (Datum.toD (unlO s1 s2 pool))
def B__law_unlike_1 : WS :=
  (sIf (wTst (w2 gNe (wCall C__law_value (aD (wVar 0) (aD (wVar 4) (aD (wVar 5) aNil)))) (wCall C__law_value (aD (wVar 1) (aD (wVar 4) (aD (wVar 5) aNil))))))
    (sApp 3 (wTup (wCons (w1 gLen (wVar 4)) (wCons (wVar 4) (wCons (wVar 5) wNil)))))
    sNext)
def B__law_unlike_0 : WS :=
  (sFor (wSeqI (wTup (wCons (wC (.str "p")) (wCons (wC (.str "q")) wNil)))) (wGn 5) B__law_unlike_1)
def W__law_unlike : WS :=
  (sSeq (sSetF 3 wNil)
    (sSeq (sFor (wSeqI (wCall C__law_elements (aD (wVar 2) aNil))) (wGn 4) B__law_unlike_0)
    (sRet (wIfE (wTst (w2 gNe (wOwn 3) (wF wNil))) (wSl (w1 gMin (wOwn 3)) (wO1 (wC (.int 1))) wO0) (wC .none)))))

theorem subsF_len : ∀ (ts : List Str) (f : List Tags), (subsF ts f).length = f.length * 2 ^ ts.length
  | [], f => by
    unfold subsF
    simp
  | t :: ts, f => by
    unfold subsF
    rw [subsF_len ts, List.length_append, List.length_map, List.length_cons, Nat.pow_succ, ← Nat.two_mul, Nat.mul_comm 2, Nat.mul_assoc, Nat.mul_comm 2]
theorem elements_len (pool : Tags) : (elementsL pool).length = 2 ^ pool.items.length := by
  unfold elementsL
  rw [List.length_mergeSort, subsF_len]
  exact Nat.one_mul _
theorem rowsQ_len (s1 s2 : Sheet) : ∀ es : List Tags, (rowsQ s1 s2 es).length ≤ 2 * es.length
  | [] => Nat.zero_le _
  | e :: es => by
    unfold rowsQ
    rw [List.flatMap_cons, List.length_append, List.length_map, List.length_cons]
    have h1 := rowsQ_len s1 s2 es
    unfold rowsQ at h1
    have h2 : (pqL.filter fun n => !decide (valO s1 e n = valO s2 e n)).length ≤ 2 := List.length_filter_le ..
    omega
theorem body__law_unlike : ∀ cs P, cs.length = 3 → C__law_unlike cs P → noOwn cs ∧ W__law_unlike (startE 6 cs) (endD false P) := by
  rintro cs P _ ⟨s1, s2, pool, rfl, hp, h⟩
  refine ⟨noOwn3, ?_⟩
  show W__law_unlike [some (.d (Datum.toD s1)), some (.d (Datum.toD s2)), some (.d (Datum.toD pool)), none, none, none] _
  unfold W__law_unlike
  simp only [sSeq, sSet, sSetF, sRet, sRetN, sRetF, sNext, sIf, sFor, sAsg, sDrop, sBreak, sCont, w2, w1, wF1, wF, wC, wTst, wNot, wAnd, wOr, wAndV, wOrV, wNotV, wIfE, wIsN, wNotN, wTup, wCons, wNil, wCall, wCallL, wCallB, aD, aO, aNil, wLc, wSeqI, wEnum, wZip, wRg1, wO0, wO1, wSl, wNeg, wCat, wRevL, wIsi, wIsi2, wGn, wGtup, wGcons, wGnil, wYes, wipeE, endD, lawD, wVar, wOwn, List.getD_cons_zero, List.getD_cons_succ, List.set_cons_zero, List.set_cons_succ, Bool.false_eq_true, false_imp_iff, true_and, and_true, if_true, if_false, List.length_cons, List.length_nil, gTuple_lst, gAdd_int, gSub_int, gIxR0, gIxR1, gIxR2, gIxR3, isSeq_tup, isSeq_list, itemsD_tup, itemsD_list, isSeq_lst, itemsD_lst, isSeq_tp, itemsD_tp, gLenTup, gLenList, enumD_map, toD_pair, toD_int, toD_str, toD_bool, ite_self, reduceIte]
  have hel : (elementsL pool).length ≤ 1024 := by
    rw [elements_len]
    exact Nat.pow_le_pow_right (n := 2) (by decide) hp
  refine ⟨pool, rfl, hp, ?_⟩
  simp only [sSeq, sSet, sSetF, sRet, sRetN, sRetF, sNext, sIf, sFor, sAsg, sDrop, sBreak, sCont, w2, w1, wF1, wF, wC, wTst, wNot, wAnd, wOr, wAndV, wOrV, wNotV, wIfE, wIsN, wNotN, wTup, wCons, wNil, wCall, wCallL, wCallB, aD, aO, aNil, wLc, wSeqI, wEnum, wZip, wRg1, wO0, wO1, wSl, wNeg, wCat, wRevL, wIsi, wIsi2, wGn, wGtup, wGcons, wGnil, wYes, wipeE, endD, lawD, wVar, wOwn, List.getD_cons_zero, List.getD_cons_succ, List.set_cons_zero, List.set_cons_succ, Bool.false_eq_true, false_imp_iff, true_and, and_true, if_true, if_false, List.length_cons, List.length_nil, gTuple_lst, gAdd_int, gSub_int, gIxR0, gIxR1, gIxR2, gIxR3, isSeq_tup, isSeq_list, itemsD_tup, itemsD_list, isSeq_lst, itemsD_lst, isSeq_tp, itemsD_tp, gLenTup, gLenList, enumD_map, toD_pair, toD_int, toD_str, toD_bool, ite_self, reduceIte]
  refine sLoop_ind Datum.toD (fun rest ρ => ∃ (pre : List Tags) (x4 x5 : Option Cell), elementsL pool = pre ++ rest ∧ ρ = [some (.d (Datum.toD s1)), some (.d (Datum.toD s2)), some (.d (Datum.toD pool)), some (.lst ((rowsQ s1 s2 pre).map Datum.toD)), x4, x5]) ?_ ?_ (elementsL pool) _ ⟨[], _, _, rfl, rfl⟩
  · rintro ρ ⟨pre, x4, x5, hpre, rfl⟩
    rw [List.append_nil] at hpre
    subst hpre
    simp only [sSeq, sSet, sSetF, sRet, sRetN, sRetF, sNext, sIf, sFor, sAsg, sDrop, sBreak, sCont, w2, w1, wF1, wF, wC, wTst, wNot, wAnd, wOr, wAndV, wOrV, wNotV, wIfE, wIsN, wNotN, wTup, wCons, wNil, wCall, wCallL, wCallB, aD, aO, aNil, wLc, wSeqI, wEnum, wZip, wRg1, wO0, wO1, wSl, wNeg, wCat, wRevL, wIsi, wIsi2, wGn, wGtup, wGcons, wGnil, wYes, wipeE, endD, lawD, wVar, wOwn, List.getD_cons_zero, List.getD_cons_succ, List.set_cons_zero, List.set_cons_succ, Bool.false_eq_true, false_imp_iff, true_and, and_true, if_true, if_false, List.length_cons, List.length_nil, gTuple_lst, gAdd_int, gSub_int, gIxR0, gIxR1, gIxR2, gIxR3, isSeq_tup, isSeq_list, itemsD_tup, itemsD_list, isSeq_lst, itemsD_lst, isSeq_tp, itemsD_tp, gLenTup, gLenList, enumD_map, toD_pair, toD_int, toD_str, toD_bool, ite_self, reduceIte]
    exact min_third h
  · rintro e rest ρ ⟨pre, x4, x5, hpre, rfl⟩ k hk
    have hpl : pre.length ≤ 1024 := by
      have := congrArg List.length hpre
      rw [List.length_append] at this
      omega
    have hrl := rowsQ_len s1 s2 pre
    unfold B__law_unlike_0
    simp only [sSeq, sSet, sSetF, sRet, sRetN, sRetF, sNext, sIf, sFor, sAsg, sDrop, sBreak, sCont, w2, w1, wF1, wF, wC, wTst, wNot, wAnd, wOr, wAndV, wOrV, wNotV, wIfE, wIsN, wNotN, wTup, wCons, wNil, wCall, wCallL, wCallB, aD, aO, aNil, wLc, wSeqI, wEnum, wZip, wRg1, wO0, wO1, wSl, wNeg, wCat, wRevL, wIsi, wIsi2, wGn, wGtup, wGcons, wGnil, wYes, wipeE, endD, lawD, wVar, wOwn, List.getD_cons_zero, List.getD_cons_succ, List.set_cons_zero, List.set_cons_succ, Bool.false_eq_true, false_imp_iff, true_and, and_true, if_true, if_false, List.length_cons, List.length_nil, gTuple_lst, gAdd_int, gSub_int, gIxR0, gIxR1, gIxR2, gIxR3, isSeq_tup, isSeq_list, itemsD_tup, itemsD_list, isSeq_lst, itemsD_lst, isSeq_tp, itemsD_tp, gLenTup, gLenList, enumD_map, toD_pair, toD_int, toD_str, toD_bool, ite_self, reduceIte]
    refine sLoop_ind (fun n : Str => .str n) (fun rest2 ρ => ∃ (pre2 : List Str) (x5 : Option Cell), pqL = pre2 ++ rest2 ∧ ρ = [some (.d (Datum.toD s1)), some (.d (Datum.toD s2)), some (.d (Datum.toD pool)), some (.lst ((rowsQ s1 s2 pre ++ (pre2.filter fun n => !decide (valO s1 e n = valO s2 e n)).map (rowAt e)).map Datum.toD)), some (.d (Datum.toD e)), x5]) ?_ ?_ pqL _ ⟨[], x5, rfl, by simp⟩
    · rintro ρ ⟨pre2, x5, hpre2, rfl⟩
      rw [List.append_nil] at hpre2
      subst hpre2
      have e1 : rowsQ s1 s2 pre ++ (pqL.filter fun n => !decide (valO s1 e n = valO s2 e n)).map (rowAt e) = rowsQ s1 s2 (pre ++ [e]) := by
        unfold rowsQ
        rw [List.flatMap_append]
        simp
      rw [e1]
      exact hk _ ⟨pre ++ [e], _, _, by rw [hpre]; simp, rfl⟩
    · rintro n rest2 ρ ⟨pre2, x5, hpre2, rfl⟩ k2 hk2
      have hp2 : pre2.length ≤ 2 := by
        have := congrArg List.length hpre2
        rw [List.length_append] at this
        have e2 : pqL.length = 2 := rfl
        omega
      unfold B__law_unlike_1
      simp only [sSeq, sSet, sSetF, sRet, sRetN, sRetF, sNext, sIf, sFor, sAsg, sDrop, sBreak, sCont, w2, w1, wF1, wF, wC, wTst, wNot, wAnd, wOr, wAndV, wOrV, wNotV, wIfE, wIsN, wNotN, wTup, wCons, wNil, wCall, wCallL, wCallB, aD, aO, aNil, wLc, wSeqI, wEnum, wZip, wRg1, wO0, wO1, wSl, wNeg, wCat, wRevL, wIsi, wIsi2, wGn, wGtup, wGcons, wGnil, wYes, wipeE, endD, lawD, wVar, wOwn, List.getD_cons_zero, List.getD_cons_succ, List.set_cons_zero, List.set_cons_succ, Bool.false_eq_true, false_imp_iff, true_and, and_true, if_true, if_false, List.length_cons, List.length_nil, gTuple_lst, gAdd_int, gSub_int, gIxR0, gIxR1, gIxR2, gIxR3, isSeq_tup, isSeq_list, itemsD_tup, itemsD_list, isSeq_lst, itemsD_lst, isSeq_tp, itemsD_tp, gLenTup, gLenList, enumD_map, toD_pair, toD_int, toD_str, toD_bool, ite_self, reduceIte,  sApp]
      refine ⟨s1, e, n, rfl, ?_⟩
      refine ⟨s2, e, n, rfl, ?_⟩
      refine gNeC (α := Option Str) (by decide) (fun z => ?_) fun z => ?_
      · (dsimp only; first | rw [if_pos rfl] | rw [if_neg (by simp)])
        have hf : (pre2.filter fun n => !decide (valO s1 e n = valO s2 e n)).length ≤ 2 := Nat.le_trans (List.length_filter_le ..) hp2
        refine ⟨by rw [List.length_map, List.length_append, List.length_map, sizeLine_eq]; omega, ?_⟩
        have e1 : (rowsQ s1 s2 pre ++ (pre2.filter fun n => !decide (valO s1 e n = valO s2 e n)).map (rowAt e)).map Datum.toD ++ [PyData.tuple [.int (e.items.length : Int), Datum.toD e, .str n]] =
            (rowsQ s1 s2 pre ++ ((pre2 ++ [n]).filter fun n => !decide (valO s1 e n = valO s2 e n)).map (rowAt e)).map Datum.toD := by
          rw [List.filter_append, List.filter_cons_of_pos (by simpa using z), List.map_append, List.map_append, List.map_append, List.map_append, List.append_assoc]
          rfl
        rw [e1]
        exact hk2 _ ⟨pre2 ++ [n], _, by rw [hpre2]; simp, rfl⟩
      · (dsimp only; first | rw [if_pos rfl] | rw [if_neg (by simp)])
        have e1 : (pre2.filter fun n => !decide (valO s1 e n = valO s2 e n)) = (pre2 ++ [n]).filter fun n => !decide (valO s1 e n = valO s2 e n) := by
          rw [List.filter_append, List.filter_cons_of_neg (by simpa using z)]
          simp
        rw [e1]
        exact hk2 _ ⟨pre2 ++ [n], _, by rw [hpre2]; simp, rfl⟩
end Dat

/-! Ext: extended rules: the winner, the value. -/
namespace Dat
open PySem PySem.Spec PyProof.Rows L2
open PySem.W (Datum DatumOrd Tup T3)

/-- a tuple of 5: selector, excluded, layer, name, value -/
structure XRule where
  a : Tags
  b : Tags
  c : Int
  d : Str
  e : Str
  deriving DecidableEq
theorem XRule.same : ∀ {p q : XRule}, p.a = q.a → p.b = q.b → p.c = q.c → p.d = q.d → p.e = q.e → p = q
  | ⟨_, _, _, _, _⟩, ⟨_, _, _, _, _⟩, rfl, rfl, rfl, rfl, rfl => rfl
instance : Datum XRule where
  toD p := .tuple [Datum.toD p.a, Datum.toD p.b, Datum.toD p.c, Datum.toD p.d, Datum.toD p.e]
  plain p := by simp only [PyData.plain, PyData.plainAll, Datum.plain, Bool.and_self]
  eqv p q := by
    simp only [PyData.eqv, PyData.eqvAll]
    rw [Datum.eqv, Datum.eqv, Datum.eqv, Datum.eqv, Datum.eqv, Bool.and_true, ← Bool.decide_and, ← Bool.decide_and, ← Bool.decide_and, ← Bool.decide_and]
    exact decide_eq_decide.mpr ⟨fun e => XRule.same e.1 e.2.1 e.2.2.1 e.2.2.2.1 e.2.2.2.2, fun e => by rw [e]; exact ⟨rfl, rfl, rfl, rfl, rfl⟩⟩
  depth := 3
  depth_le p := by
    simp only [PyData.depth, PyData.depthAll]
    have h0 := Datum.depth_le p.a
    have h1 := Datum.depth_le p.b
    have h2 := Datum.depth_le p.c
    have h3 := Datum.depth_le p.d
    have h4 := Datum.depth_le p.e
    have e0 : Datum.depth Tags = 1 := rfl
    have e1 : Datum.depth Int = 0 := rfl
    have e2 : Datum.depth Str = 0 := rfl
    omega
abbrev XSheet := Tup XRule
section
variable {P : PyData → Prop}
theorem gIxX0 {r : XRule} : gIx (Datum.toD r) (.int 0) P = P (Datum.toD r.a) := gIx_tuple rfl
theorem gIxX1 {r : XRule} : gIx (Datum.toD r) (.int 1) P = P (Datum.toD r.b) := gIx_tuple rfl
theorem gIxX2 {r : XRule} : gIx (Datum.toD r) (.int 2) P = P (.int r.c) := gIx_tuple rfl
theorem gIxX3 {r : XRule} : gIx (Datum.toD r) (.int 3) P = P (.str r.d) := gIx_tuple rfl
theorem gIxX4 {r : XRule} : gIx (Datum.toD r) (.int 4) P = P (.str r.e) := gIx_tuple rfl
theorem toD_xr {r : XRule} : Datum.toD r = .tuple [Datum.toD r.a, Datum.toD r.b, .int r.c, .str r.d, .str r.e] := rfl
end

/-! ### the greatest -/
section
variable {α : Type} [DecidableEq α] [DatumOrd α]
theorem gMax_ {x : α} {xs : List α} {P : PyData → Prop} (hd : Datum.depth α ≤ 60) (h : P (Datum.toD (PySem.W.maxOf x xs))) : gMax (.list ((x :: xs).map Datum.toD)) P := by
  refine ⟨rfl, Datum.toD x, xs.map Datum.toD, rfl, PySem.W.alikeAll_datum (x :: xs), Nat.le_trans (PySem.W.depthAll_map (x :: xs)) hd, ?_⟩
  rw [PySem.W.maxD_map]
  exact h
theorem maxOf_spec [LeL α] : ∀ (xs : List α) (x : α), PySem.W.maxOf x xs ∈ x :: xs ∧ ∀ y ∈ x :: xs, leOf y (PySem.W.maxOf x xs) = true
  | [], x => ⟨by show x ∈ [x]; simp, fun y hy => by
      simp at hy
      subst hy
      exact leOf_refl _⟩
  | z :: zs, x => by
    have h := maxOf_spec zs (if DatumOrd.lt x z = true then z else x)
    have e : PySem.W.maxOf x (z :: zs) = PySem.W.maxOf (if DatumOrd.lt x z = true then z else x) zs := rfl
    rw [e]
    cases q : DatumOrd.lt x z with
    | true =>
      rw [q, if_pos rfl] at h
      rw [if_pos rfl]
      refine ⟨List.mem_cons_of_mem _ h.1, fun y hy => ?_⟩
      rcases List.mem_cons.mp hy with t | t
      · subst t
        exact leOf_trans (lt_leOf q) (h.2 z (List.mem_cons_self ..))
      · exact h.2 y t
    | false =>
      rw [q, if_neg (by simp)] at h
      rw [if_neg (by simp)]
      refine ⟨?_, fun y hy => ?_⟩
      · rcases List.mem_cons.mp h.1 with t | t
        · rw [t]; exact List.mem_cons_self ..
        · exact List.mem_cons_of_mem _ (List.mem_cons_of_mem _ t)
      · rcases List.mem_cons.mp hy with t | t
        · subst t
          exact h.2 y (List.mem_cons_self ..)
        · rcases List.mem_cons.mp t with t | t
          · subst t
            refine leOf_trans ?_ (h.2 x (List.mem_cons_self ..))
            unfold leOf
            rw [q]
            rfl
          · exact h.2 y (List.mem_cons_of_mem _ t)
def maxL : List α → Option α
  | [] => none
  | x :: xs => some (PySem.W.maxOf x xs)
theorem maxL_spec [LeL α] {l : List α} {m : α} (h : maxL l = some m) : m ∈ l ∧ ∀ y ∈ l, leOf y m = true := by
  cases l with
  | nil => cases h
  | cons x xs =>
    cases h
    exact maxOf_spec xs x
theorem maxL_of [LeL α] {l : List α} {m : α} (hm : m ∈ l) (h : ∀ y ∈ l, leOf y m = true) : maxL l = some m := by
  cases l with
  | nil => cases hm
  | cons x xs =>
    obtain ⟨h1, h2⟩ := maxOf_spec xs x
    show some _ = _
    rw [leOf_anti (h _ h1) (h2 m hm)]
theorem maxL_nil {l : List α} (h : maxL l = none) : l = [] := by
  cases l with
  | nil => rfl
  | cons x xs => cases h
end

/-! ### winner, value -/
def carB (r : XRule) (e : Tags) : Bool := (r.a.items.all fun t => decide (t ∈ e.items)) && !(r.b.items.any fun t => decide (t ∈ e.items))
def goodX (e : Tags) (n : Str) (p : Int × XRule) : Bool := decide (p.2.d = n) && carB p.2 e
def keyX (p : Int × XRule) : (Int × Int) × Int := ((p.2.c, (p.2.a.items.length : Int)), p.1)
def rowsX (s : XSheet) (e : Tags) (n : Str) : List ((Int × Int) × Int) := ((enumL s.items).filter (goodX e n)).map keyX
def winX (s : XSheet) (e : Tags) (n : Str) : Option Int := (maxL (rowsX s e n)).map (·.2)
def valX (s : XSheet) (e : Tags) (n : Str) : Option Str := (winX s e n).bind fun i => (L2.atI s.items i).map (·.e)
structure TopX (e : Tags) (n : Str) (l : List (Int × XRule)) (p : Int × XRule) : Prop where
  mem : p ∈ l
  good : goodX e n p = true
  top : ∀ q ∈ l, goodX e n q = true → leOf (keyX q) (keyX p) = true
theorem win_topX {s : XSheet} {e : Tags} {n : Str} {p : Int × XRule} (t : TopX e n (enumL s.items) p) : winX s e n = some p.1 ∧ valX s e n = some p.2.e := by
  have h : winX s e n = some p.1 := by
    unfold winX rowsX
    rw [maxL_of (m := keyX p) (List.mem_map.mpr ⟨p, List.mem_filter.mpr ⟨t.mem, t.good⟩, rfl⟩) fun y hy => ?_]
    · rfl
    · obtain ⟨q, hq, rfl⟩ := List.mem_map.mp hy
      obtain ⟨h1, h2⟩ := List.mem_filter.mp hq
      exact t.top q h1 h2
  refine ⟨h, ?_⟩
  unfold valX
  rw [h]
  show (L2.atI s.items p.1).map _ = _
  obtain ⟨i, hi, hx⟩ := enumL_at t.mem
  rw [hi, atI_nat hx]
  rfl
theorem top_casesX (s : XSheet) (e : Tags) (n : Str) : (∃ p, TopX e n (enumL s.items) p ∧ winX s e n = some p.1 ∧ valX s e n = some p.2.e) ∨ ((enumL s.items).filter (goodX e n) = [] ∧ winX s e n = none ∧ valX s e n = none) := by
  cases q : maxL (rowsX s e n) with
  | none =>
    have h := maxL_nil q
    have hw : winX s e n = none := by unfold winX; rw [q]; rfl
    exact .inr ⟨List.map_eq_nil_iff.mp h, hw, by unfold valX; rw [hw]; rfl⟩
  | some m =>
    obtain ⟨h1, h2⟩ := maxL_spec q
    obtain ⟨p, hp, rfl⟩ := List.mem_map.mp h1
    obtain ⟨h3, h4⟩ := List.mem_filter.mp hp
    have t : TopX e n (enumL s.items) p := ⟨h3, h4, fun q hq hg => h2 _ (List.mem_map.mpr ⟨q, List.mem_filter.mpr ⟨hq, hg⟩, rfl⟩)⟩
    exact .inl ⟨p, t, win_topX t⟩
theorem no_topX {s : XSheet} {e : Tags} {n : Str} (h : (enumL s.items).filter (goodX e n) = []) : winX s e n = none ∧ valX s e n = none := by
  rcases top_casesX s e n with ⟨p, t, _, _⟩ | ⟨_, h2⟩
  · have : p ∈ (enumL s.items).filter (goodX e n) := List.mem_filter.mpr ⟨t.mem, t.good⟩
    rw [h] at this
    cases this
  · exact h2
def C_extended_winner : Con := fun cs P => ∃ (s : XSheet) (e : Tags) (n : Str), cs = [.d (Datum.toD s), .d (Datum.toD e), .d (.str n)] ∧ s.items.length ≤ 1000 ∧ P (Datum.toD (winX s e n))
def C_extended_value : Con := fun cs P => ∃ (s : XSheet) (e : Tags) (n : Str), cs = [.d (Datum.toD s), .d (Datum.toD e), .d (.str n)] ∧ s.items.length ≤ 1000 ∧ P (Datum.toD (valX s e n))
def B_extended_winner_0 : WS :=
  (sSeq (sSet 10 (wAndV (w1 gAll (wF (wLc (wSeqI (wVar 5)) (wGn 11) wYes (w2 gIn (wVar 11) (wVar 1)) [11]))) (wNotV (w1 gAny (wF (wLc (wSeqI (wVar 6)) (wGn 11) wYes (w2 gIn (wVar 11) (wVar 1)) [11]))))))
    (sIf (wAnd (wTst (w2 gEq (wVar 8) (wVar 2))) (wTst (wVar 10)))
    (sApp 3 (wTup (wCons (wTup (wCons (wVar 7) (wCons (w1 gLen (wVar 5)) wNil))) (wCons (wVar 4) wNil))))
    sNext))
def W_extended_winner : WS :=
  (sSeq (sSetF 3 wNil)
    (sSeq (sFor (wEnum (wVar 0)) (wGtup 2 (wGcons (wGn 4) (wGcons (wGtup 5 (wGcons (wGn 5) (wGcons (wGn 6) (wGcons (wGn 7) (wGcons (wGn 8) (wGcons (wGn 9) wGnil)))))) wGnil))) B_extended_winner_0)
    (sRet (wIfE (wTst (w2 gNe (wOwn 3) (wF wNil))) (w2 gIx (w1 gMax (wOwn 3)) (wC (.int 1))) (wC .none)))))

def W_extended_value : WS :=
  (sSeq (sSet 3 (wCall C_extended_winner (aD (wVar 0) (aD (wVar 1) (aD (wVar 2) aNil)))))
    (sRet (wIfE (wTst (wNotN (wVar 3))) (w2 gIx (w2 gIx (wVar 0) (wVar 3)) (wC (.int 4))) (wC .none))))

theorem max_second {P : PyData → Prop} {rows : List ((Int × Int) × Int)} (h : P (Datum.toD ((maxL rows).map (·.2)))) : gNe (.list (rows.map Datum.toD)) (.list []) fun d => match d with
    | .bool b => if b = true then gMax (.list (rows.map Datum.toD)) fun d => gIx d (.int 1) P else P .none
    | _ => False := by
  refine gNeC (α := List ((Int × Int) × Int)) (b := []) (by decide) (fun z => ?_) fun z => ?_
  · cases rows with
    | nil => exact absurd rfl z
    | cons x xs =>
      (dsimp only; first | rw [if_pos rfl] | rw [if_neg (by simp)])
      exact gMax_ (α := (Int × Int) × Int) (x := x) (xs := xs) (by decide) ⟨_, rfl, h⟩
  · subst z
    exact h
theorem body_extended_winner : ∀ cs P, cs.length = 3 → C_extended_winner cs P → noOwn cs ∧ W_extended_winner (startE 12 cs) (endD false P) := by
  rintro cs P _ ⟨s, e, n, rfl, hz, h⟩
  refine ⟨noOwn3, ?_⟩
  show W_extended_winner [some (.d (Datum.toD s)), some (.d (Datum.toD e)), some (.d (.str n)), none, none, none, none, none, none, none, none, none] _
  unfold W_extended_winner
  simp only [sSeq, sSet, sSetF, sRet, sRetN, sRetF, sNext, sIf, sFor, sAsg, sDrop, sBreak, sCont, w2, w1, wF1, wF, wC, wTst, wNot, wAnd, wOr, wAndV, wOrV, wNotV, wIfE, wIsN, wNotN, wTup, wCons, wNil, wCall, wCallL, wCallB, aD, aO, aNil, wLc, wSeqI, wEnum, wZip, wRg1, wO0, wO1, wSl, wNeg, wCat, wRevL, wIsi, wIsi2, wGn, wGtup, wGcons, wGnil, wYes, wipeE, endD, lawD, wVar, wOwn, List.getD_cons_zero, List.getD_cons_succ, List.set_cons_zero, List.set_cons_succ, Bool.false_eq_true, false_imp_iff, true_and, and_true, if_true, if_false, List.length_cons, List.length_nil, gTuple_lst, gAdd_int, gSub_int, gIxR0, gIxR1, gIxR2, gIxR3, isSeq_tup, isSeq_list, itemsD_tup, itemsD_list, isSeq_lst, itemsD_lst, isSeq_tp, itemsD_tp, gLenTup, gLenList, enumD_map, toD_pair, toD_int, toD_str, toD_bool, ite_self, reduceIte]
  refine sLoop_ind Datum.toD (fun rest ρ => ∃ (pre : List (Int × XRule)) (x4 x5 x6 x7 x8 x9 x10 x11 : Option Cell), enumL s.items = pre ++ rest ∧
    ρ = [some (.d (Datum.toD s)), some (.d (Datum.toD e)), some (.d (.str n)), some (.lst (((pre.filter (goodX e n)).map keyX).map Datum.toD)), x4, x5, x6, x7, x8, x9, x10, x11]) ?_ ?_ (enumL s.items) _ ⟨[], _, _, _, _, _, _, _, _, rfl, rfl⟩
  · rintro ρ ⟨pre, x4, x5, x6, x7, x8, x9, x10, x11, hpre, rfl⟩
    rw [List.append_nil] at hpre
    subst hpre
    simp only [sSeq, sSet, sSetF, sRet, sRetN, sRetF, sNext, sIf, sFor, sAsg, sDrop, sBreak, sCont, w2, w1, wF1, wF, wC, wTst, wNot, wAnd, wOr, wAndV, wOrV, wNotV, wIfE, wIsN, wNotN, wTup, wCons, wNil, wCall, wCallL, wCallB, aD, aO, aNil, wLc, wSeqI, wEnum, wZip, wRg1, wO0, wO1, wSl, wNeg, wCat, wRevL, wIsi, wIsi2, wGn, wGtup, wGcons, wGnil, wYes, wipeE, endD, lawD, wVar, wOwn, List.getD_cons_zero, List.getD_cons_succ, List.set_cons_zero, List.set_cons_succ, Bool.false_eq_true, false_imp_iff, true_and, and_true, if_true, if_false, List.length_cons, List.length_nil, gTuple_lst, gAdd_int, gSub_int, gIxR0, gIxR1, gIxR2, gIxR3, isSeq_tup, isSeq_list, itemsD_tup, itemsD_list, isSeq_lst, itemsD_lst, isSeq_tp, itemsD_tp, gLenTup, gLenList, enumD_map, toD_pair, toD_int, toD_str, toD_bool, ite_self, reduceIte]
    exact max_second h
  · rintro p rest ρ ⟨pre, x4, x5, x6, x7, x8, x9, x10, x11, hpre, rfl⟩ k hk
    have hpl : pre.length ≤ 1000 := by
      have := congrArg List.length hpre
      rw [List.length_append, enumL_len] at this
      omega
    have skip : goodX e n p = false → ∀ x4 x5 x6 x7 x8 x9 x10 x11, k [some (.d (Datum.toD s)), some (.d (Datum.toD e)), some (.d (.str n)), some (.lst (((pre.filter (goodX e n)).map keyX).map Datum.toD)), x4, x5, x6, x7, x8, x9, x10, x11] := fun q x4 x5 x6 x7 x8 x9 x10 x11 => by
      refine hk _ ⟨pre ++ [p], x4, x5, x6, x7, x8, x9, x10, x11, by rw [hpre]; simp, ?_⟩
      rw [List.filter_append, List.filter_cons, q, if_neg (by simp), List.filter_nil, List.append_nil]
    have take : goodX e n p = true → ∀ x4 x5 x6 x7 x8 x9 x10 x11, k [some (.d (Datum.toD s)), some (.d (Datum.toD e)), some (.d (.str n)), some (.lst ((((pre.filter (goodX e n)).map keyX).map Datum.toD) ++ [Datum.toD (keyX p)])), x4, x5, x6, x7, x8, x9, x10, x11] := fun q x4 x5 x6 x7 x8 x9 x10 x11 => by
      refine hk _ ⟨pre ++ [p], x4, x5, x6, x7, x8, x9, x10, x11, by rw [hpre]; simp, ?_⟩
      rw [List.filter_append, List.filter_cons, q, if_pos rfl, List.filter_nil, List.map_append, List.map_append]
      rfl
    unfold B_extended_winner_0
    simp only [sSeq, sSet, sSetF, sRet, sRetN, sRetF, sNext, sIf, sFor, sAsg, sDrop, sBreak, sCont, w2, w1, wF1, wF, wC, wTst, wNot, wAnd, wOr, wAndV, wOrV, wNotV, wIfE, wIsN, wNotN, wTup, wCons, wNil, wCall, wCallL, wCallB, aD, aO, aNil, wLc, wSeqI, wEnum, wZip, wRg1, wO0, wO1, wSl, wNeg, wCat, wRevL, wIsi, wIsi2, wGn, wGtup, wGcons, wGnil, wYes, wipeE, endD, lawD, wVar, wOwn, List.getD_cons_zero, List.getD_cons_succ, List.set_cons_zero, List.set_cons_succ, Bool.false_eq_true, false_imp_iff, true_and, and_true, if_true, if_false, List.length_cons, List.length_nil, gTuple_lst, gAdd_int, gSub_int, gIxR0, gIxR1, gIxR2, gIxR3, isSeq_tup, isSeq_list, itemsD_tup, itemsD_list, isSeq_lst, itemsD_lst, isSeq_tp, itemsD_tp, gLenTup, gLenList, enumD_map, toD_pair, toD_int, toD_str, toD_bool, ite_self, reduceIte,  toD_xr]
    refine wComp_m Datum.toD (fun t => .bool (decide (t ∈ e.items))) _ (fun t _ Q q => ?_) ?_
    · simp only [sSeq, sSet, sSetF, sRet, sRetN, sRetF, sNext, sIf, sFor, sAsg, sDrop, sBreak, sCont, w2, w1, wF1, wF, wC, wTst, wNot, wAnd, wOr, wAndV, wOrV, wNotV, wIfE, wIsN, wNotN, wTup, wCons, wNil, wCall, wCallL, wCallB, aD, aO, aNil, wLc, wSeqI, wEnum, wZip, wRg1, wO0, wO1, wSl, wNeg, wCat, wRevL, wIsi, wIsi2, wGn, wGtup, wGcons, wGnil, wYes, wipeE, endD, lawD, wVar, wOwn, List.getD_cons_zero, List.getD_cons_succ, List.set_cons_zero, List.set_cons_succ, Bool.false_eq_true, false_imp_iff, true_and, and_true, if_true, if_false, List.length_cons, List.length_nil, gTuple_lst, gAdd_int, gSub_int, gIxR0, gIxR1, gIxR2, gIxR3, isSeq_tup, isSeq_list, itemsD_tup, itemsD_list, isSeq_lst, itemsD_lst, isSeq_tp, itemsD_tp, gLenTup, gLenList, enumD_map, toD_pair, toD_int, toD_str, toD_bool, ite_self, reduceIte]
      exact gInT_ (by decide) q
    refine ⟨p.2.a.items.map fun t => decide (t ∈ e.items), by rw [List.map_map]; rfl, ?_⟩
    rw [List.all_map]
    show if (p.2.a.items.all fun t => decide (t ∈ e.items)) = true then _ else _
    have hg : goodX e n p = (decide (p.2.d = n) && ((p.2.a.items.all fun t => decide (t ∈ e.items)) && !(p.2.b.items.any fun t => decide (t ∈ e.items)))) := rfl
    refine ifB (fun c1 => ?_) fun c1 => ?_
    · refine wComp_m Datum.toD (fun t => .bool (decide (t ∈ e.items))) _ (fun t _ Q q => ?_) ?_
      · simp only [sSeq, sSet, sSetF, sRet, sRetN, sRetF, sNext, sIf, sFor, sAsg, sDrop, sBreak, sCont, w2, w1, wF1, wF, wC, wTst, wNot, wAnd, wOr, wAndV, wOrV, wNotV, wIfE, wIsN, wNotN, wTup, wCons, wNil, wCall, wCallL, wCallB, aD, aO, aNil, wLc, wSeqI, wEnum, wZip, wRg1, wO0, wO1, wSl, wNeg, wCat, wRevL, wIsi, wIsi2, wGn, wGtup, wGcons, wGnil, wYes, wipeE, endD, lawD, wVar, wOwn, List.getD_cons_zero, List.getD_cons_succ, List.set_cons_zero, List.set_cons_succ, Bool.false_eq_true, false_imp_iff, true_and, and_true, if_true, if_false, List.length_cons, List.length_nil, gTuple_lst, gAdd_int, gSub_int, gIxR0, gIxR1, gIxR2, gIxR3, isSeq_tup, isSeq_list, itemsD_tup, itemsD_list, isSeq_lst, itemsD_lst, isSeq_tp, itemsD_tp, gLenTup, gLenList, enumD_map, toD_pair, toD_int, toD_str, toD_bool, ite_self, reduceIte]
        exact gInT_ (by decide) q
      refine ⟨p.2.b.items.map fun t => decide (t ∈ e.items), by rw [List.map_map]; rfl, ?_⟩
      rw [List.any_map]
      show gEq _ _ fun d => _
      have hany : (p.2.b.items.any (id ∘ fun t => decide (t ∈ e.items))) = p.2.b.items.any fun t => decide (t ∈ e.items) := rfl
      rw [hany]
      rw [c1, Bool.true_and] at hg
      generalize (p.2.b.items.any fun t => decide (t ∈ e.items)) = v at hg
      refine gEqC (α := Str) (a := p.2.d) (b := n) (by decide) (fun z => ?_) fun z => ?_
      · rw [decide_eq_true z, Bool.true_and] at hg
        cases v with
        | false =>
          simp only [sSeq, sSet, sSetF, sRet, sRetN, sRetF, sNext, sIf, sFor, sAsg, sDrop, sBreak, sCont, w2, w1, wF1, wF, wC, wTst, wNot, wAnd, wOr, wAndV, wOrV, wNotV, wIfE, wIsN, wNotN, wTup, wCons, wNil, wCall, wCallL, wCallB, aD, aO, aNil, wLc, wSeqI, wEnum, wZip, wRg1, wO0, wO1, wSl, wNeg, wCat, wRevL, wIsi, wIsi2, wGn, wGtup, wGcons, wGnil, wYes, wipeE, endD, lawD, wVar, wOwn, List.getD_cons_zero, List.getD_cons_succ, List.set_cons_zero, List.set_cons_succ, Bool.false_eq_true, false_imp_iff, true_and, and_true, if_true, if_false, List.length_cons, List.length_nil, gTuple_lst, gAdd_int, gSub_int, gIxR0, gIxR1, gIxR2, gIxR3, isSeq_tup, isSeq_list, itemsD_tup, itemsD_list, isSeq_lst, itemsD_lst, isSeq_tp, itemsD_tp, gLenTup, gLenList, enumD_map, toD_pair, toD_int, toD_str, toD_bool, ite_self, reduceIte,  sApp]
          refine ⟨?_, take hg _ _ _ _ _ _ _ _⟩
          rw [List.length_map, List.length_map, sizeLine_eq]
          have := List.length_filter_le (goodX e n) pre
          omega
        | true =>
          (dsimp only; first | rw [if_pos rfl] | rw [if_neg (by simp)])
          exact skip hg _ _ _ _ _ _ _ _
      · rw [decide_eq_false z, Bool.false_and] at hg
        (dsimp only; first | rw [if_pos rfl] | rw [if_neg (by simp)])
        exact skip hg _ _ _ _ _ _ _ _
    · rw [c1, Bool.false_and, Bool.and_false] at hg
      refine gEqC (α := Str) (a := p.2.d) (b := n) (by decide) (fun z => ?_) fun z => ?_
      · exact skip hg _ _ _ _ _ _ _ _
      · exact skip hg _ _ _ _ _ _ _ _
theorem winX_some {s : XSheet} {e : Tags} {n : Str} {i : Int} (h : winX s e n = some i) : ∃ r : XRule, L2.atI s.items i = some r := by
  rcases top_casesX s e n with ⟨p, t, hw, _⟩ | ⟨_, hw, _⟩
  · rw [h] at hw
    cases hw
    obtain ⟨j, hj, hx⟩ := enumL_at t.mem
    exact ⟨p.2, by rw [hj]; exact atI_nat hx⟩
  · rw [h] at hw
    cases hw
theorem body_extended_value : ∀ cs P, cs.length = 3 → C_extended_value cs P → noOwn cs ∧ W_extended_value (startE 4 cs) (endD false P) := by
  rintro cs P _ ⟨s, e, n, rfl, hz, h⟩
  refine ⟨noOwn3, ?_⟩
  show W_extended_value [some (.d (Datum.toD s)), some (.d (Datum.toD e)), some (.d (.str n)), none] _
  unfold W_extended_value
  simp only [sSeq, sSet, sSetF, sRet, sRetN, sRetF, sNext, sIf, sFor, sAsg, sDrop, sBreak, sCont, w2, w1, wF1, wF, wC, wTst, wNot, wAnd, wOr, wAndV, wOrV, wNotV, wIfE, wIsN, wNotN, wTup, wCons, wNil, wCall, wCallL, wCallB, aD, aO, aNil, wLc, wSeqI, wEnum, wZip, wRg1, wO0, wO1, wSl, wNeg, wCat, wRevL, wIsi, wIsi2, wGn, wGtup, wGcons, wGnil, wYes, wipeE, endD, lawD, wVar, wOwn, List.getD_cons_zero, List.getD_cons_succ, List.set_cons_zero, List.set_cons_succ, Bool.false_eq_true, false_imp_iff, true_and, and_true, if_true, if_false, List.length_cons, List.length_nil, gTuple_lst, gAdd_int, gSub_int, gIxR0, gIxR1, gIxR2, gIxR3, isSeq_tup, isSeq_list, itemsD_tup, itemsD_list, isSeq_lst, itemsD_lst, isSeq_tp, itemsD_tp, gLenTup, gLenList, enumD_map, toD_pair, toD_int, toD_str, toD_bool, ite_self, reduceIte]
  refine ⟨s, e, n, rfl, hz, ?_⟩
  unfold valX at h
  cases q : winX s e n with
  | none =>
    rw [q] at h
    exact h
  | some i =>
    rw [q] at h
    obtain ⟨r, hr⟩ := winX_some q
    have h : P (Datum.toD ((L2.atI s.items i).map (·.e))) := h
    rw [hr] at h
    show gIx (Datum.toD s) (.int i) fun d => gIx d (.int 4) P
    exact gIxT_ hr (gIxX4.symm ▸ h)

/-! ### elements of own tags -/
def C_elements_of : Con := fun cs P => ∃ pool : List Str, cs = [.d (Datum.toD pool)] ∧ pool.length ≤ 10 ∧ P (Datum.toD (elementsL (Tup.mk pool)))
def B_elements_of_0 : WS :=
  (sSet 1 (w2 gAdd (wVar 1) (wF (wLc (wSeqI (wVar 1)) (wGn 3) wYes (w2 gAdd (wVar 3) (wTup (wCons (wVar 2) wNil))) [3]))))
def W_elements_of : WS :=
  (sSeq (sSet 1 (wF (wCons (wTup wNil) wNil)))
    (sSeq (sFor (wSeqI (wVar 0)) (wGn 2) B_elements_of_0)
    (sRet (wF (wF1 gSorted (wVar 1))))))

theorem loop_elementsX {c0 : Option Cell} {D : DEnds} : ∀ (rest : List Str) (f : List Tags) (x2 x3 : Option Cell), f.length * 2 ^ rest.length ≤ 1024 → (∀ e ∈ f, e.items.length + rest.length ≤ 1000) → (∀ x2 x3, D.nx [c0, some (.d (.list ((subsF rest f).map Datum.toD))), x2, x3]) →
    sLoop (wGn 2) B_elements_of_0 D (rest.map Datum.toD) [c0, some (.d (.list (f.map Datum.toD))), x2, x3]
  | [], f, x2, x3, _, _, h => h x2 x3
  | t :: rest, f, x2, x3, hz, hl, h => by
    rw [List.length_cons, Nat.pow_succ] at hz
    have hp : 0 < 2 ^ rest.length := Nat.pow_pos (by decide)
    have hf : f.length * 1 ≤ f.length * 2 ^ rest.length := Nat.mul_le_mul_left _ hp
    have e0 : f.length * (2 ^ rest.length * 2) = f.length * 2 ^ rest.length + f.length * 2 ^ rest.length := by rw [← Nat.mul_assoc]; omega
    rw [List.map_cons, sLoop_cons]
    generalize hK : sLoop (wGn 2) B_elements_of_0 D (rest.map Datum.toD) = k
    unfold B_elements_of_0
    simp only [sSeq, sSet, sSetF, sRet, sRetN, sRetF, sNext, sIf, sFor, sAsg, sDrop, sBreak, sCont, w2, w1, wF1, wF, wC, wTst, wNot, wAnd, wOr, wAndV, wOrV, wNotV, wIfE, wIsN, wNotN, wTup, wCons, wNil, wCall, wCallL, wCallB, aD, aO, aNil, wLc, wSeqI, wEnum, wZip, wRg1, wO0, wO1, wSl, wNeg, wCat, wRevL, wIsi, wIsi2, wGn, wGtup, wGcons, wGnil, wYes, wipeE, endD, lawD, wVar, wOwn, List.getD_cons_zero, List.getD_cons_succ, List.set_cons_zero, List.set_cons_succ, Bool.false_eq_true, false_imp_iff, true_and, and_true, if_true, if_false, List.length_cons, List.length_nil, gTuple_lst, gAdd_int, gSub_int, gIxR0, gIxR1, gIxR2, gIxR3, isSeq_tup, isSeq_list, itemsD_tup, itemsD_list, isSeq_lst, itemsD_lst, isSeq_tp, itemsD_tp, gLenTup, gLenList, enumD_map, toD_pair, toD_int, toD_str, toD_bool, ite_self, reduceIte]
    subst hK
    refine wComp_m Datum.toD (fun e => Datum.toD (Tup.mk (e.items ++ [t]))) _ (fun e he Q q => ?_) ?_
    · simp only [sSeq, sSet, sSetF, sRet, sRetN, sRetF, sNext, sIf, sFor, sAsg, sDrop, sBreak, sCont, w2, w1, wF1, wF, wC, wTst, wNot, wAnd, wOr, wAndV, wOrV, wNotV, wIfE, wIsN, wNotN, wTup, wCons, wNil, wCall, wCallL, wCallB, aD, aO, aNil, wLc, wSeqI, wEnum, wZip, wRg1, wO0, wO1, wSl, wNeg, wCat, wRevL, wIsi, wIsi2, wGn, wGtup, wGcons, wGnil, wYes, wipeE, endD, lawD, wVar, wOwn, List.getD_cons_zero, List.getD_cons_succ, List.set_cons_zero, List.set_cons_succ, Bool.false_eq_true, false_imp_iff, true_and, and_true, if_true, if_false, List.length_cons, List.length_nil, gTuple_lst, gAdd_int, gSub_int, gIxR0, gIxR1, gIxR2, gIxR3, isSeq_tup, isSeq_list, itemsD_tup, itemsD_list, isSeq_lst, itemsD_lst, isSeq_tp, itemsD_tp, gLenTup, gLenList, enumD_map, toD_pair, toD_int, toD_str, toD_bool, ite_self, reduceIte]
      refine gAddT_ (ys := Tup.mk [t]) ?_ q
      have := hl e he
      show e.items.length + 1 ≤ 16777216
      omega
    · have e1 : List.map (fun e : Tags => Datum.toD (Tup.mk (e.items ++ [t]))) f = (f.map fun e : Tags => Tup.mk (e.items ++ [t])).map Datum.toD := by
        rw [List.map_map]
        rfl
      rw [e1]
      refine gAddL_ (by rw [List.length_map]; omega) ?_
      refine loop_elementsX rest (f ++ f.map fun e => Tup.mk (e.items ++ [t])) _ _ ?_ (fun e he => ?_) h
      · rw [List.length_append, List.length_map, Nat.add_mul]
        omega
      · rcases List.mem_append.mp he with q | q
        · have := hl e q
          simp at this
          omega
        · obtain ⟨e', q1, rfl⟩ := List.mem_map.mp q
          have := hl e' q1
          simp at this ⊢
          omega
theorem body_elements_of : ∀ cs P, cs.length = 1 → C_elements_of cs P → noOwn cs ∧ W_elements_of (startE 4 cs) (endD false P) := by
  rintro cs P _ ⟨pool, rfl, hp, h⟩
  refine ⟨noOwn1, ?_⟩
  show W_elements_of [some (.d (Datum.toD pool)), none, none, none] _
  unfold W_elements_of
  simp only [sSeq, sSet, sSetF, sRet, sRetN, sRetF, sNext, sIf, sFor, sAsg, sDrop, sBreak, sCont, w2, w1, wF1, wF, wC, wTst, wNot, wAnd, wOr, wAndV, wOrV, wNotV, wIfE, wIsN, wNotN, wTup, wCons, wNil, wCall, wCallL, wCallB, aD, aO, aNil, wLc, wSeqI, wEnum, wZip, wRg1, wO0, wO1, wSl, wNeg, wCat, wRevL, wIsi, wIsi2, wGn, wGtup, wGcons, wGnil, wYes, wipeE, endD, lawD, wVar, wOwn, List.getD_cons_zero, List.getD_cons_succ, List.set_cons_zero, List.set_cons_succ, Bool.false_eq_true, false_imp_iff, true_and, and_true, if_true, if_false, List.length_cons, List.length_nil, gTuple_lst, gAdd_int, gSub_int, gIxR0, gIxR1, gIxR2, gIxR3, isSeq_tup, isSeq_list, itemsD_tup, itemsD_list, isSeq_lst, itemsD_lst, isSeq_tp, itemsD_tp, gLenTup, gLenList, enumD_map, toD_pair, toD_int, toD_str, toD_bool, ite_self, reduceIte]
  refine loop_elementsX pool [Tup.mk []] _ _ ?_ (fun e he => ?_) fun x2 x3 => ?_
  · have : 2 ^ pool.length ≤ 2 ^ 10 := Nat.pow_le_pow_right (by decide) hp
    show 1 * _ ≤ 1024
    omega
  · simp at he
    subst he
    show 0 + _ ≤ 1000
    omega
  · simp only [sSeq, sSet, sSetF, sRet, sRetN, sRetF, sNext, sIf, sFor, sAsg, sDrop, sBreak, sCont, w2, w1, wF1, wF, wC, wTst, wNot, wAnd, wOr, wAndV, wOrV, wNotV, wIfE, wIsN, wNotN, wTup, wCons, wNil, wCall, wCallL, wCallB, aD, aO, aNil, wLc, wSeqI, wEnum, wZip, wRg1, wO0, wO1, wSl, wNeg, wCat, wRevL, wIsi, wIsi2, wGn, wGtup, wGcons, wGnil, wYes, wipeE, endD, lawD, wVar, wOwn, List.getD_cons_zero, List.getD_cons_succ, List.set_cons_zero, List.set_cons_succ, Bool.false_eq_true, false_imp_iff, true_and, and_true, if_true, if_false, List.length_cons, List.length_nil, gTuple_lst, gAdd_int, gSub_int, gIxR0, gIxR1, gIxR2, gIxR3, isSeq_tup, isSeq_list, itemsD_tup, itemsD_list, isSeq_lst, itemsD_lst, isSeq_tp, itemsD_tp, gLenTup, gLenList, enumD_map, toD_pair, toD_int, toD_str, toD_bool, ite_self, reduceIte]
    refine gSorted_ (α := Tags) (by decide) ?_
    exact h

end Dat

/-! ExtD: the first difference of two extended sheets. -/
namespace Dat
open PySem PySem.Spec PyProof.Rows L2
open PySem.W (Datum DatumOrd Tup T3)
section
variable {α : Type} {wg wg1 : WG} {wi1 : WL} {we : WE} {vs1 : List Nat} {ρ : Env}
theorem wIn_m (f h : α → PyData) : ∀ (xs : List α) (acc : List PyData) (P : List PyData → Prop), acc.length + xs.length ≤ sizeLine → (∀ x ∈ xs, ∀ Q : PyData → Prop, Q (h x) → wg (f x) ρ fun ρ1 => we ρ1 Q) → P (acc ++ xs.map h) →
    wIn wg wYes we ρ (xs.map f) acc P
  | [], acc, P, _, _, hP => by
    rw [List.map_nil, List.append_nil] at hP
    exact hP
  | x :: xs, acc, P, hz, step, hP => by
    rw [List.length_cons] at hz
    refine step x (List.mem_cons_self ..) _ ⟨by omega, ?_⟩
    refine wIn_m f h xs (acc ++ [h x]) P (by rw [List.length_append, List.length_singleton]; omega) (fun y hy => step y (List.mem_cons_of_mem _ hy)) ?_
    rw [List.append_assoc]
    exact hP
theorem wComp2_m (f : α → PyData) (g : α → List PyData) : ∀ (xs : List α) (acc : List PyData) (P : List PyData → Prop), acc.length + (xs.flatMap g).length ≤ sizeLine →
    (∀ x ∈ xs, ∀ (acc : List PyData) (Q : List PyData → Prop), acc.length + (g x).length ≤ sizeLine → Q (acc ++ g x) → wg (f x) ρ fun ρ1 => wi1 ρ1 fun ds1 => wIn wg1 wYes we (wipeE ρ1 vs1) ds1 acc Q) → P (acc ++ xs.flatMap g) →
    wComp2 wg wYes wi1 wg1 wYes we vs1 ρ (xs.map f) acc P
  | [], acc, P, _, _, hP => by
    rw [List.flatMap_nil, List.append_nil] at hP
    exact hP
  | x :: xs, acc, P, hz, step, hP => by
    rw [List.flatMap_cons, List.length_append] at hz
    refine step x (List.mem_cons_self ..) acc _ (by omega) ?_
    refine wComp2_m f g xs (acc ++ g x) P (by rw [List.length_append]; omega) (fun y hy => step y (List.mem_cons_of_mem _ hy)) ?_
    rw [List.append_assoc]
    rw [List.flatMap_cons] at hP
    exact hP
end
def tagsX (s1 s2 : XSheet) : List Str := (s1.items ++ s2.items).flatMap fun r => r.a.items ++ r.b.items
def ownX (s1 s2 : XSheet) : List Str := firstL ((tagsX s1 s2).mergeSort leOf)
def rowsD (s1 s2 : XSheet) (es : List Tags) : List Row := es.flatMap fun e => ((s1.items ++ s2.items).filter fun r => !decide (valX s1 e r.d = valX s2 e r.d)).map fun r => rowAt e r.d
def diffX (s1 s2 : XSheet) : Option (Tags × Str) := (minL (rowsD s1 s2 (elementsL (Tup.mk (ownX s1 s2))))).map fun t => (t.b, t.c)
structure SmallX (s : XSheet) : Prop where
  len : s.items.length ≤ 40
  tag : ∀ r ∈ s.items, r.a.items.length ≤ 1000 ∧ r.b.items.length ≤ 1000
def C_extended_difference : Con := fun cs P => ∃ s1 s2 : XSheet, cs = [.d (Datum.toD s1), .d (Datum.toD s2)] ∧ SmallX s1 ∧ SmallX s2 ∧ (ownX s1 s2).length ≤ 10 ∧ P (Datum.toD (diffX s1 s2))
def B_extended_difference_1 : WS :=
  (sIf (wTst (w2 gNe (wCall C_extended_value (aD (wVar 0) (aD (wVar 8) (aD (w2 gIx (wVar 3) (wC (.int 3))) aNil)))) (wCall C_extended_value (aD (wVar 1) (aD (wVar 8) (aD (w2 gIx (wVar 3) (wC (.int 3))) aNil))))))
    (sApp 7 (wTup (wCons (w1 gLen (wVar 8)) (wCons (wVar 8) (wCons (w2 gIx (wVar 3) (wC (.int 3))) wNil)))))
    sNext)
def B_extended_difference_0 : WS :=
  (sFor (wSeqI (w2 gAdd (wVar 0) (wVar 1))) (wGn 3) B_extended_difference_1)
def W_extended_difference : WS :=
  (sSeq (sSet 2 (wF (wF1 gSorted (wF (wLc2 (wSeqI (w2 gAdd (wVar 0) (wVar 1))) (wGn 3) wYes (wSeqI (w2 gAdd (w2 gIx (wVar 3) (wC (.int 0))) (w2 gIx (wVar 3) (wC (.int 1))))) (wGn 4) wYes (wVar 4) [3, 4] [4])))))
    (sSeq (sSet 5 (wF (wLc (wEnum (wVar 2)) (wGtup 2 (wGcons (wGn 6) (wGcons (wGn 4) wGnil))) (wTst (w2 gNi (wVar 4) (wSl (wVar 2) wO0 (wO1 (wVar 6))))) (wVar 4) [4, 6])))
    (sSeq (sSetF 7 wNil)
    (sSeq (sFor (wSeqI (wCall C_elements_of (aD (wVar 5) aNil))) (wGn 8) B_extended_difference_0)
    (sRet (wIfE (wTst (w2 gNe (wOwn 7) (wF wNil))) (wSl (w1 gMin (wOwn 7)) (wO1 (wC (.int 1))) wO0) (wC .none)))))))

theorem flat_len {α β : Type} (g : α → List β) (n : Nat) : ∀ xs : List α, (∀ x ∈ xs, (g x).length ≤ n) → (xs.flatMap g).length ≤ n * xs.length
  | [], _ => Nat.zero_le _
  | x :: xs, h => by
    rw [List.flatMap_cons, List.length_append, List.length_cons, Nat.mul_add]
    have h1 := h x (List.mem_cons_self ..)
    have h2 := flat_len g n xs fun y hy => h y (List.mem_cons_of_mem _ hy)
    omega
theorem subsF_length : ∀ (ts : List Str) (f : List Tags), (subsF ts f).length = f.length * 2 ^ ts.length
  | [], f => by rw [List.length_nil, Nat.pow_zero, Nat.mul_one]; rfl
  | t :: ts, f => by
    show (subsF ts (f ++ f.map _)).length = _
    rw [subsF_length ts, List.length_append, List.length_map, List.length_cons, Nat.pow_succ, Nat.add_mul, ← Nat.mul_assoc]
    omega
theorem elementsL_len (pool : Tags) (h : pool.items.length ≤ 10) : (elementsL pool).length ≤ 1024 := by
  unfold elementsL
  rw [List.length_mergeSort, subsF_length]
  have : 2 ^ pool.items.length ≤ 2 ^ 10 := Nat.pow_le_pow_right (by decide) h
  show 1 * _ ≤ 1024
  omega
theorem rowsD_snoc (s1 s2 : XSheet) (es : List Tags) (e : Tags) : rowsD s1 s2 (es ++ [e]) = rowsD s1 s2 es ++ ((s1.items ++ s2.items).filter fun r => !decide (valX s1 e r.d = valX s2 e r.d)).map fun r => rowAt e r.d := by
  unfold rowsD
  rw [List.flatMap_append, List.flatMap_cons, List.flatMap_nil, List.append_nil]
theorem rowsD_len (s1 s2 : XSheet) (es : List Tags) (h : (s1.items ++ s2.items).length ≤ 80) : (rowsD s1 s2 es).length ≤ 80 * es.length := by
  unfold rowsD
  refine flat_len _ 80 es fun e _ => ?_
  rw [List.length_map]
  exact Nat.le_trans (List.length_filter_le ..) h
theorem body_extended_difference : ∀ cs P, cs.length = 2 → C_extended_difference cs P → noOwn cs ∧ W_extended_difference (startE 9 cs) (endD false P) := by
  rintro cs P _ ⟨s1, s2, rfl, hs1, hs2, hown, h⟩
  refine ⟨noOwn2, ?_⟩
  show W_extended_difference [some (.d (Datum.toD s1)), some (.d (Datum.toD s2)), none, none, none, none, none, none, none] _
  unfold W_extended_difference
  have l1 := hs1.len
  have l2 := hs2.len
  have hall : (s1.items ++ s2.items).length ≤ 80 := by rw [List.length_append]; omega
  have hr : ∀ r ∈ s1.items ++ s2.items, (r.a.items ++ r.b.items).length ≤ 2000 := fun r hr => by
    rw [List.length_append]
    rcases List.mem_append.mp hr with q | q
    · have := hs1.tag r q; omega
    · have := hs2.tag r q; omega
  have htl := flat_len (fun r : XRule => r.a.items ++ r.b.items) 2000 _ hr
  simp only [sSeq, sSet, sSetF, sRet, sRetN, sRetF, sNext, sIf, sFor, sAsg, sDrop, sBreak, sCont, w2, w1, wF1, wF, wC, wTst, wNot, wAnd, wOr, wAndV, wOrV, wNotV, wIfE, wIsN, wNotN, wTup, wCons, wNil, wCall, wCallL, wCallB, aD, aO, aNil, wLc, wSeqI, wEnum, wZip, wRg1, wO0, wO1, wSl, wNeg, wCat, wRevL, wIsi, wIsi2, wGn, wGtup, wGcons, wGnil, wYes, wipeE, endD, lawD, wVar, wOwn, List.getD_cons_zero, List.getD_cons_succ, List.set_cons_zero, List.set_cons_succ, Bool.false_eq_true, false_imp_iff, true_and, and_true, if_true, if_false, List.length_cons, List.length_nil, gTuple_lst, gAdd_int, gSub_int, gIxR0, gIxR1, gIxR2, gIxR3, isSeq_tup, isSeq_list, itemsD_tup, itemsD_list, isSeq_lst, itemsD_lst, isSeq_tp, itemsD_tp, gLenTup, gLenList, enumD_map, toD_pair, toD_int, toD_str, toD_bool, ite_self, reduceIte,  wLc2]
  refine gAddT_ (α := XRule) (xs := s1) (ys := s2) (by omega) ?_
  simp only [sSeq, sSet, sSetF, sRet, sRetN, sRetF, sNext, sIf, sFor, sAsg, sDrop, sBreak, sCont, w2, w1, wF1, wF, wC, wTst, wNot, wAnd, wOr, wAndV, wOrV, wNotV, wIfE, wIsN, wNotN, wTup, wCons, wNil, wCall, wCallL, wCallB, aD, aO, aNil, wLc, wSeqI, wEnum, wZip, wRg1, wO0, wO1, wSl, wNeg, wCat, wRevL, wIsi, wIsi2, wGn, wGtup, wGcons, wGnil, wYes, wipeE, endD, lawD, wVar, wOwn, List.getD_cons_zero, List.getD_cons_succ, List.set_cons_zero, List.set_cons_succ, Bool.false_eq_true, false_imp_iff, true_and, and_true, if_true, if_false, List.length_cons, List.length_nil, gTuple_lst, gAdd_int, gSub_int, gIxR0, gIxR1, gIxR2, gIxR3, isSeq_tup, isSeq_list, itemsD_tup, itemsD_list, isSeq_lst, itemsD_lst, isSeq_tp, itemsD_tp, gLenTup, gLenList, enumD_map, toD_pair, toD_int, toD_str, toD_bool, ite_self, reduceIte]
  refine wComp2_m Datum.toD (fun r : XRule => (r.a.items ++ r.b.items).map Datum.toD) (s1.items ++ s2.items) [] _ ?_ (fun r hrm acc Q hz hQ => ?_) ?_
  · have := flat_len (fun r : XRule => (r.a.items ++ r.b.items).map Datum.toD) 2000 (s1.items ++ s2.items) fun r q => by rw [List.length_map]; exact hr r q
    rw [List.length_nil, sizeLine_eq]
    omega
  · simp only [sSeq, sSet, sSetF, sRet, sRetN, sRetF, sNext, sIf, sFor, sAsg, sDrop, sBreak, sCont, w2, w1, wF1, wF, wC, wTst, wNot, wAnd, wOr, wAndV, wOrV, wNotV, wIfE, wIsN, wNotN, wTup, wCons, wNil, wCall, wCallL, wCallB, aD, aO, aNil, wLc, wSeqI, wEnum, wZip, wRg1, wO0, wO1, wSl, wNeg, wCat, wRevL, wIsi, wIsi2, wGn, wGtup, wGcons, wGnil, wYes, wipeE, endD, lawD, wVar, wOwn, List.getD_cons_zero, List.getD_cons_succ, List.set_cons_zero, List.set_cons_succ, Bool.false_eq_true, false_imp_iff, true_and, and_true, if_true, if_false, List.length_cons, List.length_nil, gTuple_lst, gAdd_int, gSub_int, gIxR0, gIxR1, gIxR2, gIxR3, isSeq_tup, isSeq_list, itemsD_tup, itemsD_list, isSeq_lst, itemsD_lst, isSeq_tp, itemsD_tp, gLenTup, gLenList, enumD_map, toD_pair, toD_int, toD_str, toD_bool, ite_self, reduceIte,  gIxX0, gIxX1]
    have := hr r hrm
    rw [List.length_append] at this
    refine gAddT_ (α := Str) (xs := r.a) (ys := r.b) (by omega) ?_
    simp only [sSeq, sSet, sSetF, sRet, sRetN, sRetF, sNext, sIf, sFor, sAsg, sDrop, sBreak, sCont, w2, w1, wF1, wF, wC, wTst, wNot, wAnd, wOr, wAndV, wOrV, wNotV, wIfE, wIsN, wNotN, wTup, wCons, wNil, wCall, wCallL, wCallB, aD, aO, aNil, wLc, wSeqI, wEnum, wZip, wRg1, wO0, wO1, wSl, wNeg, wCat, wRevL, wIsi, wIsi2, wGn, wGtup, wGcons, wGnil, wYes, wipeE, endD, lawD, wVar, wOwn, List.getD_cons_zero, List.getD_cons_succ, List.set_cons_zero, List.set_cons_succ, Bool.false_eq_true, false_imp_iff, true_and, and_true, if_true, if_false, List.length_cons, List.length_nil, gTuple_lst, gAdd_int, gSub_int, gIxR0, gIxR1, gIxR2, gIxR3, isSeq_tup, isSeq_list, itemsD_tup, itemsD_list, isSeq_lst, itemsD_lst, isSeq_tp, itemsD_tp, gLenTup, gLenList, enumD_map, toD_pair, toD_int, toD_str, toD_bool, ite_self, reduceIte]
    rw [List.length_map] at hz
    refine wIn_m Datum.toD (fun t : Str => Datum.toD t) (r.a.items ++ r.b.items) acc Q hz (fun t _ Q q => ?_) hQ
    simp only [sSeq, sSet, sSetF, sRet, sRetN, sRetF, sNext, sIf, sFor, sAsg, sDrop, sBreak, sCont, w2, w1, wF1, wF, wC, wTst, wNot, wAnd, wOr, wAndV, wOrV, wNotV, wIfE, wIsN, wNotN, wTup, wCons, wNil, wCall, wCallL, wCallB, aD, aO, aNil, wLc, wSeqI, wEnum, wZip, wRg1, wO0, wO1, wSl, wNeg, wCat, wRevL, wIsi, wIsi2, wGn, wGtup, wGcons, wGnil, wYes, wipeE, endD, lawD, wVar, wOwn, List.getD_cons_zero, List.getD_cons_succ, List.set_cons_zero, List.set_cons_succ, Bool.false_eq_true, false_imp_iff, true_and, and_true, if_true, if_false, List.length_cons, List.length_nil, gTuple_lst, gAdd_int, gSub_int, gIxR0, gIxR1, gIxR2, gIxR3, isSeq_tup, isSeq_list, itemsD_tup, itemsD_list, isSeq_lst, itemsD_lst, isSeq_tp, itemsD_tp, gLenTup, gLenList, enumD_map, toD_pair, toD_int, toD_str, toD_bool, ite_self, reduceIte]
    exact q
  · have e1 : ([] : List PyData) ++ (s1.items ++ s2.items).flatMap (fun r : XRule => (r.a.items ++ r.b.items).map Datum.toD) = (tagsX s1 s2).map Datum.toD := by
      rw [List.nil_append]
      unfold tagsX
      rw [List.map_flatMap]
    rw [e1]
    refine gSorted_ (α := Str) (by decide) ?_
    simp only [sSeq, sSet, sSetF, sRet, sRetN, sRetF, sNext, sIf, sFor, sAsg, sDrop, sBreak, sCont, w2, w1, wF1, wF, wC, wTst, wNot, wAnd, wOr, wAndV, wOrV, wNotV, wIfE, wIsN, wNotN, wTup, wCons, wNil, wCall, wCallL, wCallB, aD, aO, aNil, wLc, wSeqI, wEnum, wZip, wRg1, wO0, wO1, wSl, wNeg, wCat, wRevL, wIsi, wIsi2, wGn, wGtup, wGcons, wGnil, wYes, wipeE, endD, lawD, wVar, wOwn, List.getD_cons_zero, List.getD_cons_succ, List.set_cons_zero, List.set_cons_succ, Bool.false_eq_true, false_imp_iff, true_and, and_true, if_true, if_false, List.length_cons, List.length_nil, gTuple_lst, gAdd_int, gSub_int, gIxR0, gIxR1, gIxR2, gIxR3, isSeq_tup, isSeq_list, itemsD_tup, itemsD_list, isSeq_lst, itemsD_lst, isSeq_tp, itemsD_tp, gLenTup, gLenList, enumD_map, toD_pair, toD_int, toD_str, toD_bool, ite_self, reduceIte]
    refine wComp_fm Datum.toD (fun p : Int × Str => !decide (p.2 ∈ ((tagsX s1 s2).mergeSort leOf).take p.1.toNat)) (fun p => Datum.toD p.2) _ (fun p hp Q R h1 h2 => ?_) ?_
    · obtain ⟨i, hi, hx⟩ := enumL_at hp
      obtain ⟨k, x⟩ := p
      subst hi
      simp only [sSeq, sSet, sSetF, sRet, sRetN, sRetF, sNext, sIf, sFor, sAsg, sDrop, sBreak, sCont, w2, w1, wF1, wF, wC, wTst, wNot, wAnd, wOr, wAndV, wOrV, wNotV, wIfE, wIsN, wNotN, wTup, wCons, wNil, wCall, wCallL, wCallB, aD, aO, aNil, wLc, wSeqI, wEnum, wZip, wRg1, wO0, wO1, wSl, wNeg, wCat, wRevL, wIsi, wIsi2, wGn, wGtup, wGcons, wGnil, wYes, wipeE, endD, lawD, wVar, wOwn, List.getD_cons_zero, List.getD_cons_succ, List.set_cons_zero, List.set_cons_succ, Bool.false_eq_true, false_imp_iff, true_and, and_true, if_true, if_false, List.length_cons, List.length_nil, gTuple_lst, gAdd_int, gSub_int, gIxR0, gIxR1, gIxR2, gIxR3, isSeq_tup, isSeq_list, itemsD_tup, itemsD_list, isSeq_lst, itemsD_lst, isSeq_tp, itemsD_tp, gLenTup, gLenList, enumD_map, toD_pair, toD_int, toD_str, toD_bool, ite_self, reduceIte]
      rw [show gSl (.list (((tagsX s1 s2).mergeSort leOf).map Datum.toD)) none (some (i : Int)) = fun P => P (.list ((((tagsX s1 s2).mergeSort leOf).take i).map Datum.toD)) from funext fun P => by rw [gSlL, cutL_to]]
      refine gNi_ (α := Str) (by decide) ?_
      exact ifB h1 h2
    have e2 : List.map (fun p : Int × Str => Datum.toD p.2) (List.filter (fun p : Int × Str => !decide (p.2 ∈ ((tagsX s1 s2).mergeSort leOf).take p.1.toNat)) (enumL ((tagsX s1 s2).mergeSort leOf))) = (ownX s1 s2).map Datum.toD := by
      unfold ownX firstL
      rw [List.map_map]
      rfl
    rw [e2]
    refine ⟨ownX s1 s2, rfl, hown, ?_⟩
    simp only [sSeq, sSet, sSetF, sRet, sRetN, sRetF, sNext, sIf, sFor, sAsg, sDrop, sBreak, sCont, w2, w1, wF1, wF, wC, wTst, wNot, wAnd, wOr, wAndV, wOrV, wNotV, wIfE, wIsN, wNotN, wTup, wCons, wNil, wCall, wCallL, wCallB, aD, aO, aNil, wLc, wSeqI, wEnum, wZip, wRg1, wO0, wO1, wSl, wNeg, wCat, wRevL, wIsi, wIsi2, wGn, wGtup, wGcons, wGnil, wYes, wipeE, endD, lawD, wVar, wOwn, List.getD_cons_zero, List.getD_cons_succ, List.set_cons_zero, List.set_cons_succ, Bool.false_eq_true, false_imp_iff, true_and, and_true, if_true, if_false, List.length_cons, List.length_nil, gTuple_lst, gAdd_int, gSub_int, gIxR0, gIxR1, gIxR2, gIxR3, isSeq_tup, isSeq_list, itemsD_tup, itemsD_list, isSeq_lst, itemsD_lst, isSeq_tp, itemsD_tp, gLenTup, gLenList, enumD_map, toD_pair, toD_int, toD_str, toD_bool, ite_self, reduceIte]
    have hel := elementsL_len (Tup.mk (ownX s1 s2)) hown
    refine sLoop_ind Datum.toD (fun rest ρ => ∃ (pre : List Tags) (x3 x4 x6 x8 : Option Cell), elementsL (Tup.mk (ownX s1 s2)) = pre ++ rest ∧
      ρ = [some (.d (Datum.toD s1)), some (.d (Datum.toD s2)), some (.d (.list (((tagsX s1 s2).mergeSort leOf).map Datum.toD))), x3, x4, some (.d (.list ((ownX s1 s2).map Datum.toD))), x6, some (.lst ((rowsD s1 s2 pre).map Datum.toD)), x8]) ?_ ?_ (elementsL (Tup.mk (ownX s1 s2))) _ ⟨[], _, _, _, _, rfl, rfl⟩
    · rintro ρ ⟨pre, x3, x4, x6, x8, hpre, rfl⟩
      rw [List.append_nil] at hpre
      subst hpre
      simp only [sSeq, sSet, sSetF, sRet, sRetN, sRetF, sNext, sIf, sFor, sAsg, sDrop, sBreak, sCont, w2, w1, wF1, wF, wC, wTst, wNot, wAnd, wOr, wAndV, wOrV, wNotV, wIfE, wIsN, wNotN, wTup, wCons, wNil, wCall, wCallL, wCallB, aD, aO, aNil, wLc, wSeqI, wEnum, wZip, wRg1, wO0, wO1, wSl, wNeg, wCat, wRevL, wIsi, wIsi2, wGn, wGtup, wGcons, wGnil, wYes, wipeE, endD, lawD, wVar, wOwn, List.getD_cons_zero, List.getD_cons_succ, List.set_cons_zero, List.set_cons_succ, Bool.false_eq_true, false_imp_iff, true_and, and_true, if_true, if_false, List.length_cons, List.length_nil, gTuple_lst, gAdd_int, gSub_int, gIxR0, gIxR1, gIxR2, gIxR3, isSeq_tup, isSeq_list, itemsD_tup, itemsD_list, isSeq_lst, itemsD_lst, isSeq_tp, itemsD_tp, gLenTup, gLenList, enumD_map, toD_pair, toD_int, toD_str, toD_bool, ite_self, reduceIte]
      exact min_third h
    · rintro u rest ρ ⟨pre, x3, x4, x6, x8, hpre, rfl⟩ k hk
      have hpl : pre.length ≤ 1024 := by
        have := congrArg List.length hpre
        rw [List.length_append] at this
        omega
      unfold B_extended_difference_0
      simp only [sSeq, sSet, sSetF, sRet, sRetN, sRetF, sNext, sIf, sFor, sAsg, sDrop, sBreak, sCont, w2, w1, wF1, wF, wC, wTst, wNot, wAnd, wOr, wAndV, wOrV, wNotV, wIfE, wIsN, wNotN, wTup, wCons, wNil, wCall, wCallL, wCallB, aD, aO, aNil, wLc, wSeqI, wEnum, wZip, wRg1, wO0, wO1, wSl, wNeg, wCat, wRevL, wIsi, wIsi2, wGn, wGtup, wGcons, wGnil, wYes, wipeE, endD, lawD, wVar, wOwn, List.getD_cons_zero, List.getD_cons_succ, List.set_cons_zero, List.set_cons_succ, Bool.false_eq_true, false_imp_iff, true_and, and_true, if_true, if_false, List.length_cons, List.length_nil, gTuple_lst, gAdd_int, gSub_int, gIxR0, gIxR1, gIxR2, gIxR3, isSeq_tup, isSeq_list, itemsD_tup, itemsD_list, isSeq_lst, itemsD_lst, isSeq_tp, itemsD_tp, gLenTup, gLenList, enumD_map, toD_pair, toD_int, toD_str, toD_bool, ite_self, reduceIte]
      refine gAddT_ (α := XRule) (xs := s1) (ys := s2) (by omega) ?_
      simp only [sSeq, sSet, sSetF, sRet, sRetN, sRetF, sNext, sIf, sFor, sAsg, sDrop, sBreak, sCont, w2, w1, wF1, wF, wC, wTst, wNot, wAnd, wOr, wAndV, wOrV, wNotV, wIfE, wIsN, wNotN, wTup, wCons, wNil, wCall, wCallL, wCallB, aD, aO, aNil, wLc, wSeqI, wEnum, wZip, wRg1, wO0, wO1, wSl, wNeg, wCat, wRevL, wIsi, wIsi2, wGn, wGtup, wGcons, wGnil, wYes, wipeE, endD, lawD, wVar, wOwn, List.getD_cons_zero, List.getD_cons_succ, List.set_cons_zero, List.set_cons_succ, Bool.false_eq_true, false_imp_iff, true_and, and_true, if_true, if_false, List.length_cons, List.length_nil, gTuple_lst, gAdd_int, gSub_int, gIxR0, gIxR1, gIxR2, gIxR3, isSeq_tup, isSeq_list, itemsD_tup, itemsD_list, isSeq_lst, itemsD_lst, isSeq_tp, itemsD_tp, gLenTup, gLenList, enumD_map, toD_pair, toD_int, toD_str, toD_bool, ite_self, reduceIte]
      refine sLoop_ind Datum.toD (fun rest2 ρ => ∃ (pre2 : List XRule) (x3 x4 x6 : Option Cell), s1.items ++ s2.items = pre2 ++ rest2 ∧
        ρ = [some (.d (Datum.toD s1)), some (.d (Datum.toD s2)), some (.d (.list (((tagsX s1 s2).mergeSort leOf).map Datum.toD))), x3, x4, some (.d (.list ((ownX s1 s2).map Datum.toD))), x6,
          some (.lst ((rowsD s1 s2 pre ++ (pre2.filter fun r => !decide (valX s1 u r.d = valX s2 u r.d)).map fun r => rowAt u r.d).map Datum.toD)), some (.d (Datum.toD u))]) ?_ ?_ (s1.items ++ s2.items) _ ⟨[], _, _, _, rfl, by rw [List.filter_nil, List.map_nil, List.append_nil]⟩
      · rintro ρ ⟨pre2, x3, x4, x6, hpre2, rfl⟩
        rw [List.append_nil] at hpre2
        subst hpre2
        refine hk _ ⟨pre ++ [u], x3, x4, x6, some (.d (Datum.toD u)), by rw [hpre]; simp, ?_⟩
        rw [rowsD_snoc]
      · rintro r rest2 ρ ⟨pre2, x3, x4, x6, hpre2, rfl⟩ k2 hk2
        have hp2 : pre2.length ≤ 80 := by
          have := congrArg List.length hpre2
          simp only [List.length_append] at this
          omega
        unfold B_extended_difference_1
        simp only [sSeq, sSet, sSetF, sRet, sRetN, sRetF, sNext, sIf, sFor, sAsg, sDrop, sBreak, sCont, w2, w1, wF1, wF, wC, wTst, wNot, wAnd, wOr, wAndV, wOrV, wNotV, wIfE, wIsN, wNotN, wTup, wCons, wNil, wCall, wCallL, wCallB, aD, aO, aNil, wLc, wSeqI, wEnum, wZip, wRg1, wO0, wO1, wSl, wNeg, wCat, wRevL, wIsi, wIsi2, wGn, wGtup, wGcons, wGnil, wYes, wipeE, endD, lawD, wVar, wOwn, List.getD_cons_zero, List.getD_cons_succ, List.set_cons_zero, List.set_cons_succ, Bool.false_eq_true, false_imp_iff, true_and, and_true, if_true, if_false, List.length_cons, List.length_nil, gTuple_lst, gAdd_int, gSub_int, gIxR0, gIxR1, gIxR2, gIxR3, isSeq_tup, isSeq_list, itemsD_tup, itemsD_list, isSeq_lst, itemsD_lst, isSeq_tp, itemsD_tp, gLenTup, gLenList, enumD_map, toD_pair, toD_int, toD_str, toD_bool, ite_self, reduceIte,  gIxX3]
        refine ⟨s1, u, r.d, rfl, by omega, ?_⟩
        refine ⟨s2, u, r.d, rfl, by omega, ?_⟩
        refine gNeC (α := Option Str) (a := valX s1 u r.d) (b := valX s2 u r.d) (by decide) (fun z => ?_) fun z => ?_
        · simp only [sSeq, sSet, sSetF, sRet, sRetN, sRetF, sNext, sIf, sFor, sAsg, sDrop, sBreak, sCont, w2, w1, wF1, wF, wC, wTst, wNot, wAnd, wOr, wAndV, wOrV, wNotV, wIfE, wIsN, wNotN, wTup, wCons, wNil, wCall, wCallL, wCallB, aD, aO, aNil, wLc, wSeqI, wEnum, wZip, wRg1, wO0, wO1, wSl, wNeg, wCat, wRevL, wIsi, wIsi2, wGn, wGtup, wGcons, wGnil, wYes, wipeE, endD, lawD, wVar, wOwn, List.getD_cons_zero, List.getD_cons_succ, List.set_cons_zero, List.set_cons_succ, Bool.false_eq_true, false_imp_iff, true_and, and_true, if_true, if_false, List.length_cons, List.length_nil, gTuple_lst, gAdd_int, gSub_int, gIxR0, gIxR1, gIxR2, gIxR3, isSeq_tup, isSeq_list, itemsD_tup, itemsD_list, isSeq_lst, itemsD_lst, isSeq_tp, itemsD_tp, gLenTup, gLenList, enumD_map, toD_pair, toD_int, toD_str, toD_bool, ite_self, reduceIte,  sApp, gIxX3]
          refine ⟨?_, ?_⟩
          · rw [List.length_map, List.length_append, List.length_map, sizeLine_eq]
            have q1 := rowsD_len s1 s2 pre hall
            have q2 := List.length_filter_le (fun r : XRule => !decide (valX s1 u r.d = valX s2 u r.d)) pre2
            omega
          · refine hk2 _ ⟨pre2 ++ [r], some (.d (Datum.toD r)), x4, x6, by rw [hpre2]; simp, ?_⟩
            have e : (!decide (valX s1 u r.d = valX s2 u r.d)) = true := by simpa using z
            simp only [List.filter_append, List.filter_cons, e, if_true, List.filter_nil, List.map_append, List.map_cons, List.map_nil, List.append_assoc]
            rfl
        · (dsimp only; first | rw [if_pos rfl] | rw [if_neg (by simp)])
          refine hk2 _ ⟨pre2 ++ [r], some (.d (Datum.toD r)), x4, x6, by rw [hpre2]; simp, ?_⟩
          have e : (!decide (valX s1 u r.d = valX s2 u r.d)) = false := by simpa using z
          rw [List.filter_append, List.filter_cons, e, if_neg (by simp), List.filter_nil, List.append_nil]
end Dat

/-! ExtP: plain sheets as extended ones. -/
namespace Dat
open PySem PySem.Spec PyProof.Rows L2
open PySem.W (Datum DatumOrd Tup T3)

theorem enum_mapX {α β : Type} (f : α → β) (xs : List α) {p : Int × β} : p ∈ enumL (xs.map f) ↔ ∃ q ∈ enumL xs, p = (q.1, f q.2) := by
  constructor
  · intro h
    obtain ⟨i, hi, hx⟩ := enumL_at h
    rw [List.getElem?_map] at hx
    cases hy : xs[i]? with
    | none => rw [hy] at hx; cases hx
    | some y =>
      rw [hy] at hx
      exact ⟨((i : Int), y), enumL_mem hy, Prod.ext hi (Option.some.inj hx).symm⟩
  · rintro ⟨q, hq, rfl⟩
    obtain ⟨i, hi, hx⟩ := enumL_at hq
    rw [show (q.1, f q.2) = ((i : Int), f q.2) by rw [hi]]
    exact enumL_mem (by rw [List.getElem?_map, hx]; rfl)
def plX (r : Rule) : XRule := ⟨r.a, Tup.mk [], r.b, r.c, r.d⟩
def plS (s : Sheet) : XSheet := Tup.mk (s.items.map plX)
theorem good_plX (e : Tags) (n : Str) (q : Int × Rule) : goodX e n (q.1, plX q.2) = goodP e n q := by
  show (decide (q.2.c = n) && ((q.2.a.items.all fun t => decide (t ∈ e.items)) && !false)) = ((q.2.a.items.all fun t => decide (t ∈ e.items)) && decide (q.2.c = n))
  rw [Bool.not_false, Bool.and_true, Bool.and_comm]
theorem win_plX (s : Sheet) (e : Tags) (n : Str) : winX (plS s) e n = winI s e n ∧ valX (plS s) e n = valO s e n := by
  rcases top_cases s e n with ⟨p, t, hw, hv⟩ | ⟨h0, hw, hv⟩
  · rw [hw, hv]
    refine win_topX (s := plS s) (p := (p.1, plX p.2)) ⟨(enum_mapX plX s.items).mpr ⟨p, t.mem, rfl⟩, by rw [good_plX]; exact t.good, fun q hq hg => ?_⟩
    obtain ⟨q', hq', rfl⟩ := (enum_mapX plX s.items).mp hq
    rw [good_plX] at hg
    exact t.top q' hq' hg
  · rw [hw, hv]
    refine no_topX ?_
    rw [List.filter_eq_nil_iff] at h0 ⊢
    intro q hq
    obtain ⟨q', hq', rfl⟩ := (enum_mapX plX s.items).mp hq
    rw [good_plX]
    exact h0 q' hq'
theorem ownX_mem {s1 s2 : XSheet} {t : Str} : t ∈ ownX s1 s2 ↔ ∃ r ∈ s1.items ++ s2.items, t ∈ r.a.items ∨ t ∈ r.b.items := by
  unfold ownX tagsX
  rw [firstL_mem, List.mem_mergeSort, List.mem_flatMap]
  simp only [List.mem_append]
theorem ownX_inc (s1 s2 : XSheet) : Inc (ownX s1 s2) := by
  have h1 : (ownX s1 s2).Pairwise fun x y => leOf x y = true := (sorted_pair _).sublist (firstL_sub _)
  have h2 : (ownX s1 s2).Nodup := firstL_nodup _
  refine (h1.and h2).imp fun {x y} q => ?_
  cases z : DatumOrd.lt x y with
  | true => rfl
  | false =>
    have h3 : leOf x y = true := q.1
    unfold leOf at h3
    exact absurd (LeL.tri _ _ z (by simpa using h3)) q.2
theorem inc_len {a b : List Str} (h1 : Inc a) (h2 : Inc b) (h : ∀ t ∈ a, t ∈ b) : a.length ≤ b.length := (sub_inc h1 h2 h).length_le
theorem rowsD_mem {s1 s2 : XSheet} {es : List Tags} {t : Row} : t ∈ rowsD s1 s2 es ↔ ∃ e ∈ es, ∃ r ∈ s1.items ++ s2.items, valX s1 e r.d ≠ valX s2 e r.d ∧ t = rowAt e r.d := by
  unfold rowsD
  rw [List.mem_flatMap]
  constructor
  · rintro ⟨e, he, h⟩
    obtain ⟨r, hr, rfl⟩ := List.mem_map.mp h
    obtain ⟨h1, h2⟩ := List.mem_filter.mp hr
    exact ⟨e, he, r, h1, by simpa using h2, rfl⟩
  · rintro ⟨e, he, r, hr, hn, rfl⟩
    exact ⟨e, he, List.mem_map.mpr ⟨r, List.mem_filter.mpr ⟨hr, by simpa using hn⟩, rfl⟩⟩
theorem val_namesX {s : XSheet} {e : Tags} {n : Str} (h : valX s e n ≠ none) : ∃ r ∈ s.items, r.d = n := by
  rcases top_casesX s e n with ⟨p, t, _, _⟩ | ⟨_, _, hv⟩
  · obtain ⟨i, _, hx⟩ := enumL_at t.mem
    have := t.good
    unfold goodX at this
    rw [Bool.and_eq_true] at this
    exact ⟨p.2, List.mem_of_getElem? hx, of_decide_eq_true this.1⟩
  · exact absurd hv h
theorem rowsD_mem' {s1 s2 : XSheet} {es : List Tags} {t : Row} : t ∈ rowsD s1 s2 es ↔ ∃ e ∈ es, ∃ n, valX s1 e n ≠ valX s2 e n ∧ t = rowAt e n := by
  rw [rowsD_mem]
  constructor
  · rintro ⟨e, he, r, _, hn, rfl⟩
    exact ⟨e, he, r.d, hn, rfl⟩
  · rintro ⟨e, he, n, hn, rfl⟩
    have : ∃ r ∈ s1.items ++ s2.items, r.d = n := by
      by_cases q : valX s1 e n = none
      · obtain ⟨r, hr, e2⟩ := val_namesX (s := s2) (e := e) (n := n) fun z => hn (by rw [q, z])
        exact ⟨r, List.mem_append_right _ hr, e2⟩
      · obtain ⟨r, hr, e2⟩ := val_namesX q
        exact ⟨r, List.mem_append_left _ hr, e2⟩
    obtain ⟨r, hr, rfl⟩ := this
    exact ⟨e, he, r, hr, hn, rfl⟩
theorem plS_own {s1 s2 : Sheet} {pool : Tags} (h1 : SheetIn pool s1) (h2 : SheetIn pool s2) : ∀ t ∈ ownX (plS s1) (plS s2), t ∈ pool.items := fun t ht => by
  obtain ⟨r, hr, q⟩ := ownX_mem.mp ht
  rcases List.mem_append.mp hr with z | z
  · obtain ⟨r', hr', rfl⟩ := List.mem_map.mp z
    exact q.elim (fun w => (h1 r' hr').subset w) fun w => (by cases w)
  · obtain ⟨r', hr', rfl⟩ := List.mem_map.mp z
    exact q.elim (fun w => (h2 r' hr').subset w) fun w => (by cases w)
theorem diff_plX {s1 s2 : Sheet} {pool : Tags} (h1 : SheetIn pool s1) (h2 : SheetIn pool s2) (hp : Inc pool.items) : diffX (plS s1) (plS s2) = diffO s1 s2 := by
  have in1 : SheetIn (Tup.mk (ownX (plS s1) (plS s2))) s1 := fun r hr => sub_inc (hp.sublist (h1 r hr)) (ownX_inc _ _) fun t ht => ownX_mem.mpr ⟨plX r, List.mem_append_left _ (List.mem_map.mpr ⟨r, hr, rfl⟩), .inl ht⟩
  have in2 : SheetIn (Tup.mk (ownX (plS s1) (plS s2))) s2 := fun r hr => sub_inc (hp.sublist (h2 r hr)) (ownX_inc _ _) fun t ht => ownX_mem.mpr ⟨plX r, List.mem_append_right _ (List.mem_map.mpr ⟨r, hr, rfl⟩), .inl ht⟩
  unfold diffX diffO
  rw [← diff_rows in1 in2 (ownX_inc _ _)]
  refine congrArg _ (minL_congr fun t => ?_)
  rw [rowsD_mem', rowsG_mem]
  simp only [win_plX]
end Dat

/-! DatO: set(a tuple) of keys of one kind, its items sorted, its length. -/
namespace Dat
open PySem PySem.Spec PyProof.Rows L2
open PySem.W (EachIs AllAlike)

section
variable {P : Program} {w : World} {κ : Type} [DecidableEq κ] {knd : KeyKind P w κ}
/-- an entry holds a key -/
def RelK (knd : KeyKind P w κ) (e : Int × Value) (k : κ) : Prop := knd.is k e.2 = true ∧ e.1 = knd.hash k ∧ e.2.scannable = true
theorem paired_perm {α β : Type} {R : α → β → Prop} {xs xs' : List α} (p : xs'.Perm xs) : ∀ {ys : List β}, Paired R xs ys → ∃ ys', ys'.Perm ys ∧ Paired R xs' ys' := by
  induction p with
  | nil => exact fun h => ⟨_, List.Perm.refl _, h⟩
  | cons x _ ih =>
    intro ys h
    cases h with
    | cons h1 h2 =>
      obtain ⟨ys', q1, q2⟩ := ih h2
      exact ⟨_, q1.cons _, .cons h1 q2⟩
  | swap x y l =>
    intro ys h
    cases h with
    | cons h1 h2 =>
      cases h2 with
      | cons h2 h3 => exact ⟨_, List.Perm.swap _ _ _, .cons h2 (.cons h1 h3)⟩
  | trans p1 p2 ih1 ih2 =>
    intro ys h
    obtain ⟨y1, a1, a2⟩ := ih2 h
    obtain ⟨y2, b1, b2⟩ := ih1 a2
    exact ⟨y2, b1.trans a1, b2⟩
theorem paired_get {α β : Type} {R : α → β → Prop} : ∀ {xs : List α} {ys : List β}, Paired R xs ys → (∀ x ∈ xs, ∃ y ∈ ys, R x y) ∧ ∀ y ∈ ys, ∃ x ∈ xs, R x y
  | _, _, .nil => ⟨fun x h => (by cases h), fun x h => (by cases h)⟩
  | _, _, .cons h t => by
    obtain ⟨t1, t2⟩ := paired_get t
    refine ⟨fun x hx => ?_, fun y hy => ?_⟩
    · rcases List.mem_cons.mp hx with e | e
      · exact ⟨_, List.mem_cons_self .., e ▸ h⟩
      · obtain ⟨y, a, b⟩ := t1 x e
        exact ⟨y, List.mem_cons_of_mem _ a, b⟩
    · rcases List.mem_cons.mp hy with e | e
      · exact ⟨_, List.mem_cons_self .., e ▸ h⟩
      · obtain ⟨x, a, b⟩ := t2 y e
        exact ⟨x, List.mem_cons_of_mem _ a, b⟩
theorem paired_map {α β γ : Type} {R : γ → β → Prop} {f : α → γ} : ∀ {xs : List α} {ys : List β}, Paired (fun x y => R (f x) y) xs ys → Paired R (xs.map f) ys
  | _, _, .nil => .nil
  | _, _, .cons h t => .cons h (paired_map t)
theorem paired_imp {α β : Type} {R R' : α → β → Prop} (i : ∀ x y, R x y → R' x y) : ∀ {xs : List α} {ys : List β}, Paired R xs ys → Paired R' xs ys
  | _, _, .nil => .nil
  | _, _, .cons h t => .cons (i _ _ h) (paired_imp i t)
/-- the set of keys at a, each once, its table rising -/
def SetG (knd : KeyKind P w κ) (h : Heap) (a : Addr) (ks : List κ) : Prop :=
  ∃ ob es ep tb, h.get? a = some ob ∧ ob.ExactSet ∧ ob.data = .set es ep tb ∧ Paired (RelK knd) es.toList ks ∧ ks.Nodup ∧ es.size < scanBound ∧ tb.fits es.size = true ∧ Ris tb.place.toList ∧ (w.params.followText "set-order" = true ∨ tb.led = true)
theorem SetG.at {h h' : Heap} {a : Addr} {ks : List κ} (R : SetG knd h a ks) (k : ∀ ob, h.get? a = some ob → h'.get? a = some ob) : SetG knd h' a ks := by
  obtain ⟨ob, es, ep, tb, ho, r⟩ := R
  exact ⟨ob, es, ep, tb, k ob ho, r⟩
theorem elems_k {es : List (Int × Value)} {ks : List κ} (p : Paired (RelK knd) es ks) : ElemsOf knd es := fun e he => by
  obtain ⟨k, _, h1, h2, h3⟩ := (paired_get p).1 e he
  exact ⟨⟨k, h1, h2⟩, h3⟩
theorem mem_k {es : List (Int × Value)} {ks : List κ} (p : Paired (RelK knd) es ks) (k : κ) : k ∈ ks ↔ ∃ e ∈ es, knd.is k e.2 = true := by
  constructor
  · intro h
    obtain ⟨e, he, r⟩ := (paired_get p).2 k h
    exact ⟨e, he, r.1⟩
  · rintro ⟨e, he, hk⟩
    obtain ⟨j, hj, r⟩ := (paired_get p).1 e he
    rw [knd.inj e.2 j k r.1 hk] at hj
    exact hj
end
section
variable {P : Program} {w : World} {κ : Type} [DecidableEq κ] {knd : KeyKind P w κ} {A : Around} {E : Value → Shared → Prop} {s : Shared} {a : Addr} {ks : List κ}
theorem setG_tail {gv : Bool → Sem Unit} (hgv : ∀ (b : Bool) (s₁ : Shared) (Q' : Unit → Shared → Prop), Q' () s₁ → wpAny (model P w) A (gv b) Q' E s₁)
    {ob : Obj} {es : Array (Int × Value)} {ep : Nat} {tb : SetTable} (ho : s.heap.get? a = some ob) (hex : ob.ExactSet) (hd : ob.data = .set es ep tb)
    {es1 : Array (Int × Value)} {t2 : SetTable} {ks1 : List κ} (g1 : Paired (RelK knd) es1.toList ks1) (nd1 : ks1.Nodup)
    (hb1 : es1.size < scanBound) (hf2 : t2.fits es1.size = true) (hr : Ris t2.place.toList) (hl : w.params.followText "set-order" = true ∨ t2.led = true) {was : Bool} {R : Option Bool → Shared → Prop}
    (hR : ∀ h' ks', Heap.SameBut a s.heap h' → SetG knd h' a ks' → ks'.Perm ks1 → R (some true) { s with heap := h' }) :
    wpAny (model P w) A (do
        storeSet a es1 t2
        if (!was && t2.tooFull) = true then do
            gv (relayAll t2 es1 (SetTable.grown es1.size)).2.2
            storeSet a (relayAll t2 es1 (SetTable.grown es1.size)).1 (relayAll t2 es1 (SetTable.grown es1.size)).2.1
            pure (some true)
          else pure (some true)) R E s := by
  have put : ∀ {h : Heap} {o : Obj} {xs ys : Array (Int × Value)} {n : Nat} {u v : SetTable}, h.get? a = some o → o.data = .set xs n u → (h.update a (Obj.putSet ys v)).get? a = some { o with data := .set ys (n + 1) v } := fun h1 h2 => store_at h1 h2
  refine wpAny_bind (wpAny_storeSet_of ho hd ?_ (fits_of_scanBound hb1))
  have ho1 := put (ys := es1) (v := t2) ho hd
  have same1 := Heap.SameBut.update s.heap a (Obj.putSet es1 t2)
  split
  · have pm := relayAll_perm t2 es1 (SetTable.grown es1.size)
    have hf3 := relayAll_fits t2 es1 (SetTable.grown es1.size)
    have hr3 := relayAll_ris t2 es1 (SetTable.grown es1.size)
    have hl3 := relayAll_led t2 es1 (SetTable.grown es1.size)
    generalize relayAll t2 es1 (SetTable.grown es1.size) = Z at pm hf3 hr3 hl3 ⊢
    obtain ⟨es2, t3, gave⟩ := Z
    dsimp only at pm hf3 hr3 hl3 ⊢
    have sz2 : es2.size = es1.size := by rw [← Array.length_toList, pm.length_eq, Array.length_toList]
    have hb2 : es2.size < scanBound := by rw [sz2]; exact hb1
    refine wpAny_bind (hgv _ _ _ ?_)
    refine wpAny_bind (wpAny_storeSet_of ho1 rfl ?_ (fits_of_scanBound hb2))
    obtain ⟨ks2, q1, q2⟩ := paired_perm pm g1
    refine wpAny_pure (hR _ ks2 (same1.trans (Heap.SameBut.update _ a _)) ?_ q1)
    exact ⟨_, es2, _, t3, put (ys := es2) (v := t3) ho1 rfl, hex, rfl, q2, q1.nodup_iff.mpr nd1, hb2, hf3, hr3, hl.imp id fun z => by rw [hl3]; exact z⟩
  · exact wpAny_pure (hR _ ks1 same1 ⟨_, es1, _, t2, ho1, hex, rfl, g1, nd1, hb1, hf2, hr, hl⟩ (List.Perm.refl _))
theorem setG_add {k : κ} {v : Value} {Q : Bool → Shared → Prop} (hkey : knd.is k v = true) (hsc : v.scannable = true) (R : SetG knd s.heap a ks) (room : ks.length + 1 < scanBound)
    (hQ : ∀ h' ks', Heap.SameBut a s.heap h' → SetG knd h' a ks' → (∀ j, j ∈ ks' ↔ j ∈ ks ∨ j = k) → ks'.length ≤ ks.length + 1 → Q (!decide (k ∈ ks)) { s with heap := h' }) :
    wpAny (model P w) A (setAddHashed a v (knd.hash k)) Q E s := by
  obtain ⟨ob, es, ep, tb, ho, hex, hd, g, nd, hb, hf, hr, hl⟩ := R
  have hel : ElemsOf knd es.toList := elems_k g
  unfold setAddHashed setAddHashedIn
  refine wpAny_holding (wpAny_bind (wpAny_setState_of ho hd hf ?_))
  dsimp only
  rw [byScan_of hsc hb hel]
  simp only [↓reduceIte]
  unfold setAddByScan
  refine wpAny_bind ?_
  refine wpAny_bind (wpAny_rule ?_)
  refine wpAny_bind (wpAny_setScan_of hkey ho hd hf hel ?_)
  cases hfi : List.findIdx? (fun e => knd.is k e.2) es.toList with
  | some j =>
    dsimp only
    obtain ⟨hj, pj, _⟩ := List.findIdx?_eq_some_iff_getElem.mp hfi
    have inn : k ∈ ks := (mem_k g k).2 ⟨es.toList[j], List.getElem_mem hj, pj⟩
    refine wpAny_pure (wpAny_pure ?_)
    have q := hQ s.heap ks (Heap.SameBut.refl a s.heap) ⟨ob, es, ep, tb, ho, hex, hd, g, nd, hb, hf, hr, hl⟩ (fun i => ⟨.inl, fun z => z.elim id fun e => e ▸ inn⟩) (Nat.le_succ _)
    rw [decide_eq_true inn] at q
    exact q
  | none =>
    dsimp only
    have out : k ∉ ks := fun z => by
      obtain ⟨e, he, q⟩ := (mem_k g k).1 z
      have c := List.findIdx?_eq_none_iff.mp hfi e he
      rw [q] at c
      cases c
    have give : ∀ (b : Bool) {s₁ : Shared} {Q' : Unit → Shared → Prop}, Q' () s₁ → wpAny (model P w) A (match b with | true => rule "set.scan.the-table-gave-way" | false => pure ()) Q' E s₁ :=
      fun b s₁ Q' q => by cases b <;> first | exact wpAny_pure q | exact wpAny_rule q
    have pm := layNew_perm tb es (knd.hash k) v
    have hf1 := layNew_fits tb es (knd.hash k) v
    have hr1 := layNew_ris tb es (knd.hash k) v hr
    have hl1 := layNew_led tb es (knd.hash k) v
    generalize layNew tb es (knd.hash k) v = Z at pm hf1 hr1 hl1 ⊢
    obtain ⟨es1, t1, was, gave⟩ := Z
    dsimp only at pm hf1 hr1 hl1 ⊢
    rw [Array.toList_push] at pm
    have pc : es1.toList.Perm ((knd.hash k, v) :: es.toList) := pm.trans (List.perm_append_singleton _ _)
    obtain ⟨ks1, pk, g1⟩ := paired_perm pc (.cons (show RelK knd (knd.hash k, v) k from ⟨hkey, rfl, hsc⟩) g)
    have nd1 : ks1.Nodup := pk.nodup_iff.mpr (List.nodup_cons.mpr ⟨out, nd⟩)
    have m1 : ∀ i, i ∈ ks1 ↔ i ∈ ks ∨ i = k := fun i => by
      rw [pk.mem_iff, List.mem_cons]
      exact Or.comm
    have sz1 : es1.size = ks.length + 1 := by rw [← Array.length_toList, pc.length_eq, List.length_cons, Paired.length g]
    have hb1 : es1.size < scanBound := by rw [sz1]; exact room
    have led1 : w.params.followText "set-order" = true ∨ t1.led = true := hl.imp id fun z => by rw [hl1]; exact z
    have fin : ∀ h' ks', Heap.SameBut a s.heap h' → SetG knd h' a ks' → ks'.Perm ks1 → Q true { s with heap := h' } := fun h' ks' sb r pp => by
      have q := hQ h' ks' sb r (fun i => by rw [pp.mem_iff]; exact m1 i) (by rw [pp.length_eq, pk.length_eq, List.length_cons]; exact Nat.le_refl _)
      rw [decide_eq_false out] at q
      exact q
    refine wpAny_bind (give _ ?_)
    split
    · refine wpAny_bind ?_
      rw [hashByValue_scannable 8 hsc]
      refine wpAny_pure ?_
      refine setG_tail (knd := knd) ?_ ho hex hd g1 nd1 hb1 ?_ ?_ ?_ ?_
      · intro b s₁ Q' q; cases b <;> first | exact wpAny_pure q | exact wpAny_rule q
      · first | (split <;> first | exact hf1 | exact SetTable.fits_plain_off hf1) | exact hf1
      · first | (split <;> exact hr1) | exact hr1
      · first | (split <;> exact led1) | exact led1
      · intro h' ks' sb r pp; dsimp only; exact wpAny_pure (fin h' ks' sb r pp)
    · refine wpAny_bind (wpAny_pure ?_)
      simp only [↓reduceIte]
      refine setG_tail (knd := knd) ?_ ho hex hd g1 nd1 hb1 hf1 hr1 led1 ?_
      · intro b s₁ Q' q; cases b <;> first | exact wpAny_pure q | exact wpAny_rule q
      · intro h' ks' sb r pp; dsimp only; exact wpAny_pure (fin h' ks' sb r pp)
theorem setG_new {h : Heap} (ho : h.get? a = some { cls := .type "set", dict := none, data := .set #[] 0 (.fresh 0 0 (!w.params.followText "set-order")) }) : SetG knd h a [] :=
  ⟨_, #[], 0, _, ho, ⟨rfl, rfl, rfl⟩, rfl, .nil, List.nodup_nil, (by decide), (by rfl), List.Pairwise.nil, by
    show _ ∨ (!w.params.followText "set-order") = true
    cases w.params.followText "set-order"
    · exact .inr rfl
    · exact .inl rfl⟩
theorem setG_update {I : Addr} {fp wr : List Addr} {G : Array GenState → Array GenState → Prop} {n : Nat} {Pv : Nat → Value → Prop} {St : Nat → Shared → Prop} {R : Result → Shared → Prop}
    (W : WalksS P w A.in1 I fp wr G n Pv St) (S : Addr) (hSf : S ∉ fp) (zs : List κ) (hn : n = zs.length) (hb : zs.length + 1 < scanBound) (hval : ∀ i v, Pv i v → ∃ k, zs[i]? = some k ∧ knd.is k v = true ∧ v.scannable = true) :
    ∀ (m i : Nat) (s : Shared), n - i = m → i ≤ n → St i s → (∃ ks, ks.length ≤ i ∧ (∀ j, j ∈ ks ↔ j ∈ zs.take i) ∧ SetG knd s.heap S ks) →
      (∀ s' ks, Moved (S :: wr) G s s' → ks.length ≤ n → (∀ j, j ∈ ks ↔ j ∈ zs) → SetG knd s'.heap S ks → R (.ok (.ret .none)) s') →
      codeAny (model P w) A (.builtin "set.update.loop" ⟨[.ref S, .ref I], []⟩) R s := by
  have nwr : S ∉ wr := fun h => hSf (W.sub _ h)
  have more : ∀ b ∈ wr, b ∈ S :: wr := fun b hb => List.mem_cons_of_mem _ hb
  intro m
  induction m with
  | zero =>
    intro i s hk' hi hst ⟨ks, hc, hm0, hS⟩ hR
    obtain rfl : i = n := by omega
    refine codeAny_builtin PyProof.Rows.F.entry_set_update_loop ?_
    rw [Around.under_plainId PyProof.Rows.F.plain_set_update_loop _]
    show wpAny _ A.in1 (pyNext (.ref I) >>= _) _ _ s
    refine wpAny_bind (W.done s _ _ hst fun s' hm => ?_)
    show wpAny _ A.in1 (ret Value.none) _ _ s'
    refine wpAny_pure (hR s' ks (hm.mono more) hc (fun j => ?_) (hS.at fun o e => hm.heap S o nwr e))
    rw [hm0, List.take_of_length_le (by omega)]
  | succ m ih =>
    intro i s hk' hi hst ⟨ks, hc, hm0, hS⟩ hR
    have hlt : i < n := by omega
    refine codeAny_builtin PyProof.Rows.F.entry_set_update_loop ?_
    rw [Around.under_plainId PyProof.Rows.F.plain_set_update_loop _]
    show wpAny _ A.in1 (pyNext (.ref I) >>= _) _ _ s
    refine wpAny_bind (W.item i s _ _ hlt hst fun v s' hP hst' hm => ?_)
    obtain ⟨z, hz, hkey, hsc⟩ := hval i v hP
    have hS' : SetG knd s'.heap S ks := hS.at fun o e => hm.heap S o nwr e
    show wpAny _ A.in1 (holding [v] (setAdd S v) >>= _) _ _ s'
    refine wpAny_bind (wpAny_holding ?_)
    unfold setAdd
    refine wpAny_holding ?_
    refine wpAny_bind (knd.pyHash (k := z) hkey ?_)
    refine setG_add (s := { s' with toks := s'.toks + 1 }) hkey hsc hS' (by omega) fun h' ks' sb new hmem hlen => ?_
    refine wpAny_pure ⟨plainId_quiet PyProof.Rows.F.plain_set_update_loop _, ih (i + 1) _ (by omega) hlt (W.frame _ s' _ _ hst' (Nat.le_succ _) fun b hb o e => ?_) ⟨ks', by omega, fun j => ?_, new⟩ fun s'' c2 hm'' hc'' hmem'' hS'' => ?_⟩
    · rw [sb.2 b (fun h : b = S => hSf (by rw [← h]; exact hb))]; exact e
    · rw [hmem, hm0, List.take_add_one, hz]
      simp [List.mem_append]
    · refine hR s'' c2 (Moved.trans W.gtrans ((hm.mono more).then_heap (Nat.le_succ _) fun b o hb e => ?_) hm'') hc'' hmem'' hS''
      rw [sb.2 b (fun h : b = S => hb (by rw [h]; exact List.mem_cons_self))]; exact e
end
section
variable {P : Program} {w : World} {κ : Type} [DecidableEq κ] {knd : KeyKind P w κ} {A : Around} {E : Value → Shared → Prop} {s : Shared}
set_option maxHeartbeats 3200000 in
/-- set(a tuple of keys) -/
theorem setG_of {l : Addr} {items : Array Value} (zs : List κ) {Q : Value → Shared → Prop} (hh : A.handled = none) (hl : s.heap.IsTuple l items) (hlen : items.size = zs.length) (hit : ∀ (i : Nat) (v : Value), items[i]? = some v → ∃ k, zs[i]? = some k ∧ knd.is k v = true ∧ v.scannable = true) (hb : zs.length + 1 < scanBound)
    (h : ∀ (h' : Heap) (tk : Nat) (ks : List κ), SetG knd h' s.heap.objs.size ks → (∀ j, j ∈ ks ↔ j ∈ zs) → ks.length ≤ zs.length → (∀ b o, s.heap.get? b = some o → h'.get? b = some o) → Q (.ref s.heap.objs.size) { s with heap := h', toks := tk }) :
    wpAny (model P w) A (call (.type "set") [.ref l]) Q E s := by
  obtain ⟨c, tl, hmro⟩ := F.called_set.mro
  have made := F.called_set.made
  have subs := F.called_set.sub
  refine wpAny_call (codeAny_of_tree ?_)
  show wpAny _ _ (callAny (.type "set") _) _ _ _
  refine wpAny_pure ⟨Code.quiet_builtin _ (by decide +kernel), codeAny_builtin F.entry_type_call ?_⟩
  rw [Around.under_plain (weight_type_call_type "set" [.ref l] []) rfl]
  have no1 := F.called_set.notType
  have can := F.called_set.canCreate
  have tcl := F.typeCall_set_1 (.ref l)
  repeat (any_goals (first | assumption | wp_step))

  let S0 : Obj := { cls := .type "set", dict := none, data := .set #[] 0 (.fresh 0 0 (!w.params.followText "set-order")) }
  refine codeAny_mono (code_set_led1 (.ref l) (E := E) (Q₁ := fun obj s₁ => obj = .ref s.heap.objs.size ∧ s₁ = { s with heap := s.heap.push S0 }) ⟨rfl, rfl⟩) fun r s₁ hr => ?_
  cases r with
  | error e => exact hr
  | ok fl =>
    cases fl with
    | ret obj =>
      obtain ⟨rfl, rfl⟩ := hr
      have at0 : (s.heap.push S0).get? s.heap.objs.size = some S0 := Heap.get?_push_size _ rfl
      have isset : Shared.TypeIs { s with heap := s.heap.push S0 } (.ref s.heap.objs.size) "set" := ⟨_, at0, rfl⟩
      have ini := F.called_set.init.lookup
      have bnd := F.called_set.init.bind (.ref s.heap.objs.size)
      repeat (any_goals (first | assumption | wp_step))

      refine codeAny_mono (codeAny_call_builtin (R := wants (fun r s₂ => r = .none ∧ ∃ h' tk ks, s₂ = { s with heap := h', toks := tk } ∧ SetG knd h' s.heap.objs.size ks ∧ (∀ j, j ∈ ks ↔ j ∈ zs) ∧ ks.length ≤ zs.length ∧
          (∀ b o, s.heap.get? b = some o → h'.get? b = some o)) E) F.called_set.init.plain F.entry_set_init (check_set_init_1 isset ?_)) fun r₂ s₂ hr₂ => ?_
      · obtain ⟨ol, hol, hcl, nl, hdl⟩ := hl
        obtain ⟨ocls, odict, odata, oslots⟩ := ol
        simp only at hcl hdl
        subst hcl; subst hdl
        have hol1 : (s.heap.push S0).get? l = some { cls := .type "tuple", dict := odict, data := .seq items nl, slots := oslots } := Heap.get?_push_of_some _ hol
        have sub1 := F.sub_tuple_set
        have sub2 := F.sub_tuple_frozenset
        have nedict : (Value.type "tuple" == Value.type "dict") = false := by decide
        have tup1 : (s.heap.push S0).IsTuple l items := ⟨_, hol1, rfl, nl, rfl⟩
        unfold Builtin.«set.__init__» noKeywords Builtin.Frozenset.updateFrom
        generalize hPI : pyIter = PI
        wp_walk
        subst hPI

        refine wpAny_pyIter_tuple tup1 ?_
        refine wpAny_bind (wpAny_runValue ?_)
        have lls : l < s.heap.objs.size := Heap.lt_size hol
        have hh3 : A.in1.in1.in1.handled = none := by simp [hh]
        have hneI : l ≠ (s.heap.push S0).objs.size := by
          rw [Heap.size_push]; exact Nat.ne_of_lt (Nat.lt_succ_of_lt lls)
        have notfp : s.heap.objs.size ∉ [(s.heap.push S0).objs.size, l] := by
          rw [Heap.size_push]; simp only [List.mem_cons, List.mem_singleton, List.not_mem_nil, or_false, not_or]
          exact ⟨Nat.ne_of_lt (Nat.lt_succ_self _), Nat.ne_of_gt lls⟩
        refine setG_update ((Walks.tuple hh3 _ l hneI items).toS) s.heap.objs.size
          notfp zs hlen hb hit (items.size - 0) 0 _ (by omega) (Nat.zero_le _)
          ⟨⟨_, Heap.get?_push_size _ rfl, rfl, rfl⟩, (tup1.push _)⟩ ?beg ?fin
        case beg =>
          have got : ((s.heap.push S0).push { cls := .type "tuple_iterator", data := .fields #[.ref l, .int 0 0] }).get? s.heap.objs.size = some S0 := Heap.get?_push_of_some _ at0
          exact ⟨[], Nat.le_refl 0, fun j => by simp, setG_new got⟩
        case fin =>
          intro s' ks hm hc' hmem hS'
          obtain ⟨h', g2, d', tk', os'⟩ := s'
          have eg : g2 = s.gens := hm.gens
          have ed : d' = s.drawn := hm.drawn
          have eo : os' = s.os := hm.os
          subst eg; subst ed; subst eo
          show wpAny _ _ _ _ _ _
          refine wpAny_pure ?_
          show wpAny _ _ (ret Value.none) _ _ _
          rw [hlen] at hc'
          refine wpAny_pure ⟨rfl, h', tk', ks, rfl, hS', hmem, hc', fun b o e => ?_⟩
          have lb : b < s.heap.objs.size := Heap.lt_size e
          have nb1 : b ≠ s.heap.objs.size := Nat.ne_of_lt lb
          have nb2 : b ≠ (s.heap.push S0).objs.size := by
            rw [Heap.size_push]; exact Nat.ne_of_lt (Nat.lt_succ_of_lt lb)
          exact hm.heap b o (by simp only [List.mem_cons, List.mem_singleton, List.not_mem_nil, or_false, not_or]; exact ⟨nb1, nb2⟩) (Heap.get?_push_of_some _ (Heap.get?_push_of_some _ e))

      · cases r₂ with
        | error e => exact hr₂
        | ok fl₂ =>
          cases fl₂ with
          | ret r =>
            obtain ⟨rfl, h', tk, ks, rfl, hS', hmem, hc', hk'⟩ := hr₂
            repeat (any_goals (first | assumption | wp_step))
            exact h _ _ ks hS' hmem hc' hk'
          | _ => exact hr₂.elim
    | _ => exact hr.elim
end

/-! ### over the layer -/
/-- the set of keys at a -/
def SetGO {P : Program} {w : World} {κ : Type} [DecidableEq κ] (knd : KeyKind P w κ) (a : Addr) (ks : List κ) : HO := .ext fun h => SetG knd h a ks
theorem setGO_new {P : Program} {w : World} {κ : Type} [DecidableEq κ] {knd : KeyKind P w κ} {H : Hp} {h : Heap} {a : Addr} {ks : List κ} (R : SetG knd h a ks) : ObjOk P w H h a (SetGO knd a ks) := by
  have ⟨ob, _, _, _, ho, _⟩ := R
  exact ⟨R, ⟨ob, ho⟩, fun h1 h2 p k => SetG.at p k⟩
section
variable {X : Cx}
theorem setGO_get {κ : Type} [DecidableEq κ] {knd : KeyKind X.prog X.w κ} {pins : List (Addr × Obj)} {σ : L2.St} {H : Hp} {s : Shared} {a : Addr} {ks : List κ} (I : Inv X pins σ H s) (ha : H a = some (SetGO knd a ks)) : SetG knd s.heap a ks := (I.hok a _ ha).1
/-- set(t), t a tuple of keys; f: the values of the keys -/
def rSetG {P : Program} {w : World} {κ : Type} [DecidableEq κ] (knd : KeyKind P w κ) (f : κ → V) : List V → Hp → VK → Prop := fun xs H Q => ∃ (l : Addr) (zs : List κ), xs = [.ref l] ∧ H l = some (.tup (zs.map f)) ∧ zs.length ≤ 4000 ∧
  ∀ (p : Addr) (ks : List κ), H p = none → ks.Nodup → (∀ j, j ∈ ks ↔ j ∈ zs) → ks.length ≤ zs.length → Q (.ref p) (upd H p (SetGO knd p ks))
theorem cr_setG {κ : Type} [DecidableEq κ] {knd : KeyKind X.prog X.w κ} {f : κ → V} (hc : X.calm = true) (hf : ∀ k u, RelV (f k) u → knd.is k u = true ∧ u.scannable = true) : CallR X (.type "set") (rSetG knd f) := by
  intro pins s σ H xs us Q I r h
  obtain ⟨l, zs, rfl, hl, hz, q⟩ := h
  obtain ⟨u, rfl, ru⟩ := Vals.one r
  cases ru
  obtain ⟨its, rv, p, _⟩ := I.tuple (SqT.of hl)
  have hsz : its.toArray.size = zs.length := by rw [List.size_toArray, ← rv.length, List.length_map]
  refine setG_of (knd := knd) zs (I.ok.hd hc) (show s.heap.IsTuple l its.toArray from p) hsz (fun i v hv => ?_) (by unfold scanBound; omega) fun h' tk ks hS hm hlen keep => ?_
  · have hi : i < zs.length := by rw [← hsz]; exact (Array.getElem?_eq_some_iff.mp hv).1
    have hx : (zs.map f)[i]? = some (f zs[i]) := by rw [List.getElem?_map, List.getElem?_eq_getElem hi]; rfl
    obtain ⟨u, hu, ru⟩ := rv.get hx
    rw [List.getElem?_toArray, hu] at hv
    cases hv
    exact ⟨zs[i], List.getElem?_eq_getElem hi, hf _ _ ru⟩
  · have nd : ks.Nodup := by
      obtain ⟨_, _, _, _, _, _, _, _, nd, _⟩ := hS
      exact nd
    exact ⟨.ref s.heap.objs.size, upd H s.heap.objs.size (SetGO knd s.heap.objs.size ks), I.laid (t' := tk) (fun b u e => keep b u e) (Nat.le_refl _) (setGO_new hS), rfl, q _ ks (I.hok.fresh (Nat.le_refl _)) nd hm hlen⟩
theorem rel_txt (k : Str) (u : Value) (r : RelV (.str k) u) : (PySem.strKind X.prog X.w).is k u = true ∧ u.scannable = true := by
  obtain ⟨t, rfl⟩ := r
  exact ⟨strKind_is _ _ _ _, rfl⟩
theorem rel_num (k : Int) (u : Value) (r : RelV (.int k) u) : (intKind X.prog X.w).is k u = true ∧ u.scannable = true := by
  obtain ⟨t, rfl⟩ := r
  exact ⟨intKind_is _ _ _ _, rfl⟩
/-- len of a set -/
def rLenG {P : Program} {w : World} {κ : Type} [DecidableEq κ] (knd : KeyKind P w κ) : List V → Hp → VK → Prop := fun xs H Q => ∃ (a : Addr) (ks : List κ), xs = [.ref a] ∧ H a = some (SetGO knd a ks) ∧ Q (.int ks.length) H
theorem cr_lenG {κ : Type} [DecidableEq κ] {knd : KeyKind X.prog X.w κ} : CallR X (.builtin "len") (rLenG knd) := by
  intro pins s σ H xs us Q I r h
  obtain ⟨a, ks, rfl, ha, q⟩ := h
  obtain ⟨u, rfl, ru⟩ := Vals.one r
  cases ru
  obtain ⟨ob, es, ep, tb, ho, hex, hd, g, nd, hb, hf, _⟩ := setGO_get I ha
  have e : es.size = ks.length := by rw [← Array.length_toList, Paired.length g]
  refine call_len_set ho hex hd hf (by have : scanBound ≤ 4096 := by decide
                                       omega) ⟨.int ks.length, H, I.tok _, ⟨_, by rw [e]⟩, q⟩
def strLe (a b : Str) : Bool := dLe (.str a) (.str b)
/-- sorted of a set of texts -/
def rSortedG {P : Program} {w : World} (knd : KeyKind P w Str) : List V → Hp → VK → Prop := fun xs H Q => ∃ (a : Addr) (ks : List Str), xs = [.ref a] ∧ H a = some (SetGO knd a ks) ∧
  ∀ (p : Addr) (out : List Str), H p = none → out.Perm ks → Q (.ref p) (upd H p (.lst ((out.mergeSort strLe).map V.str)))
end

section
variable {X : Cx}
theorem each_strs {P : Program} {w : World} : ∀ {vs : List Value} {ks : List Str}, Paired (fun v k => (PySem.strKind P w).is k v = true) vs ks → EachIs (fun u d => ∃ (x : Str) (t : Tok), u = Value.str x t ∧ d = PyData.str x) vs (ks.map PyData.str)
  | _, _, .nil => .nil
  | _, _, .cons h t => by
    obtain ⟨tk, e⟩ := Value.isStrOf_shape (show Value.isStrOf _ _ = true from h)
    exact .cons ⟨_, tk, e, rfl⟩ (each_strs t)
theorem vals_strs : ∀ {us : List Value} {ks : List Str}, EachIs (fun u d => ∃ (x : Str) (t : Tok), u = Value.str x t ∧ d = PyData.str x) us (ks.map PyData.str) → Vals (ks.map V.str) us
  | us, [], h => by cases h; exact .nil
  | us, k :: ks, h => by
    cases h with
    | cons h1 h2 =>
      obtain ⟨x, t, e1, e2⟩ := h1
      cases e2
      exact .cons ⟨t, e1⟩ (vals_strs h2)
theorem cr_sortedG (hc : X.calm = true) (hu : X.A.units + 64 < cLine) : CallR X (.builtin "sorted") (rSortedG (PySem.strKind X.prog X.w)) := by
  intro pins s σ H xs us Q I r h
  obtain ⟨a, ks, rfl, ha, q⟩ := h
  obtain ⟨u, rfl, ru⟩ := Vals.one r
  cases ru
  obtain ⟨ob, es, ep, tb, ho, hex, hd, g, nd, hb, hf, hr, hl⟩ := setGO_get I ha
  refine Calls.call_function_entry kind_sorted plain_sorted entry_sorted (args_sorted1 _) ?_
  unfold Builtin.«sorted»
  refine wpAny_bind (m := checkCount "sorted" 1 1 _) (wpAny_pure ?_)
  refine wpAny_bind (collect_set (A := X.A.in1) (I.ok.hd hc) ⟨ob, ho, hex.1, hd⟩ hf hb hr hl fun s1 vs k1 hz g1 o1 pm => ?_)
  have I1 : Inv X pins σ H s1 := I.call' (ch := []) o1 (Un.kept k1) (I.hok.kept k1) (by rw [g1]; exact I.bare) (fun _ z => nomatch z)
  have gv : Paired (fun v k => (PySem.strKind X.prog X.w).is k v = true) (es.toList.map (·.2)) ks := paired_map (R := fun v k => (PySem.strKind X.prog X.w).is k v = true) (paired_imp (fun e k h => h.1) g)
  obtain ⟨ks', pk, gp⟩ := paired_perm pm gv
  have e0 := each_strs gp
  have hvl : vs.length = ks.length := by rw [Paired.length gp, pk.length_eq]
  have hkl : ks.length = es.size := by rw [← Paired.length g, Array.length_toList]
  have small : vs.length ≤ sizeLine := by rw [hvl, hkl]; exact fits_of_scanBound hb
  refine wpAny_bind (wpAny_newList ?_ small)
  have at0 : (s1.heap.push (seqObj "list" vs.toArray 0)).get? s1.heap.objs.size = some (seqObj "list" vs.toArray 0) := Heap.get?_push_size _ rfl
  have old : ∀ (b : Addr) (o : Obj), s1.heap.get? b = some o → (PySem.W.sortingHeap (s1.heap.push (seqObj "list" vs.toArray 0)) s1.heap.objs.size vs).get? b = some o := fun b o e => PySem.W.sortingHeap_old (Nat.ne_of_lt (Heap.lt_size e)) (Heap.get?_push_of_some _ e)
  have er : EachIs (fun v d => ∃ as, Reads (PySem.W.sortingHeap (s1.heap.push (seqObj "list" vs.toArray 0)) s1.heap.objs.size vs) v d as) vs (ks'.map PyData.str) := e0.mono fun u d ⟨x, t, e1, e2⟩ => by
    subst e1 e2
    have dp : Dp X.K H (.str x) (.str x) := .str x
    obtain ⟨as, ra⟩ := Dp.reads I1 (.str x) (.str x) (.str x t) dp ⟨t, rfl⟩
    exact ⟨as, PyProof.Rows.Reads.keeps old ra⟩
  have isStr : ∀ d ∈ ks'.map PyData.str, ∃ x, d = PyData.str x := fun d hd => by
    obtain ⟨x, _, e⟩ := List.mem_map.mp hd
    exact ⟨x, e.symm⟩
  have hal : AllAlike (ks'.map PyData.str) := fun x hx y hy => by
    obtain ⟨a, rfl⟩ := isStr x hx
    obtain ⟨b, rfl⟩ := isStr y hy
    rfl
  have hnn : ∀ d ∈ ks'.map PyData.str, d ≠ .none := fun d hd => by
    obtain ⟨a, rfl⟩ := isStr d hd
    exact fun e => nomatch e
  have S : PySem.W.SortsAt X.prog X.w X.A.in1.in1 { s1 with heap := PySem.W.sortingHeap (s1.heap.push (seqObj "list" vs.toArray 0)) s1.heap.objs.size vs } (PySem.W.dataKind (PySem.W.sortingHeap (s1.heap.push (seqObj "list" vs.toArray 0)) s1.heap.objs.size vs) (ks'.map PyData.str)) vs :=
    Dat.SortsAt.any (s := { s1 with heap := PySem.W.sortingHeap (s1.heap.push (seqObj "list" vs.toArray 0)) s1.heap.objs.size vs }) er hal hnn fun d hd => by
      obtain ⟨x, rfl⟩ := isStr d hd
      have : (PyData.str x).depth ≤ 60 := Nat.zero_le _
      show X.A.units + 2 + _ < cLine
      omega
  refine wpAny_bind (wpAny_holding (wpAny_call_entry_kw slot_list_sort ⟨_, at0, rfl⟩ entry_list_sort ?body (args_list_sort _)))
  case body =>
    refine PySem.W.list_sort_vals (s := { s1 with heap := s1.heap.push (seqObj "list" vs.toArray 0) }) at0 S small ⟨_, rfl, wpAny_pure ⟨_, rfl, ?_⟩⟩
    have eo : EachIs _ (PySem.W.sortVals (PySem.W.dataKind (PySem.W.sortingHeap (s1.heap.push (seqObj "list" vs.toArray 0)) s1.heap.objs.size vs) (ks'.map PyData.str)) false vs vs) ((ks'.map PyData.str).mergeSort dLe) :=
      PySem.W.sortVals_each (κ := PySem.W.dataKind (PySem.W.sortingHeap (s1.heap.push (seqObj "list" vs.toArray 0)) s1.heap.objs.size vs) (ks'.map PyData.str)) (rev := false) (fun b => PySem.W.keyToks b) e0 (PySem.W.each_keys hal er)
    generalize PySem.W.sortVals (PySem.W.dataKind (PySem.W.sortingHeap (s1.heap.push (seqObj "list" vs.toArray 0)) s1.heap.objs.size vs) (ks'.map PyData.str)) false vs vs = outv at eo
    rw [← PySem.W.sort_maps PyData.str (r := strLe) (fun a _ b _ => rfl)] at eo
    have vv := vals_strs eo
    obtain ⟨c, hc'⟩ := sortedHeap_at (out := outv.toArray) at0
    have hl2 : ((ks'.mergeSort strLe).map V.str).length ≤ sizeLine := by
      rw [List.length_map, List.length_mergeSort, pk.length_eq, ← hvl]
      exact small
    refine ⟨.ref s1.heap.objs.size, _, I1.laid (t' := s1.toks) (fun b o e => ?_) (Nat.le_refl _) (show ObjOk X.prog X.w _ _ _ (.lst ((ks'.mergeSort strLe).map V.str)) from ⟨hl2, outv, c, vv, hc'⟩), rfl, q _ ks' (I1.hok.fresh (Nat.le_refl _)) pk⟩
    rw [sortedHeap_old (Nat.ne_of_lt (Heap.lt_size e)) (by rw [size_push']; exact Nat.lt_succ_of_lt (Heap.lt_size e))]
    exact Heap.get?_push_of_some _ e
end
/-! ### as expressions over data -/
section
variable {X : Cx} {a : Expr} {wa : WE} {pos pos1 p p1 : Pos}
/-- sorted(set(a tuple of texts)) -/
def gSortedSet : GF1 := fun d P => ∃ zs : List Str, d = .tuple (zs.map .str) ∧ zs.length ≤ 4000 ∧ ∀ ks : List Str, ks.Nodup → (∀ j, j ∈ ks ↔ j ∈ zs) → P ((ks.mergeSort strLe).map .str)
theorem df_sortedSet (hc : X.calm = true) (hu : X.A.units + 64 < cLine) (hg : Gl X "sorted") (hm : X.mg "sorted" = none) (hg1 : Gl X "set") (hm1 : X.mg "set" = none) (ha : DB X a wa)
    (h1 : starEach [a] X.env = (false, eval a X.env) :: starEach [] X.env := by rfl) (h2 : starEach [.Call (.Name "set" p1) [a] [] pos1] X.env = (false, eval (.Call (.Name "set" p1) [a] [] pos1) X.env) :: starEach [] X.env := by rfl)
    (hpl : (backTo pos (starEach [] X.env)).any (·.1) = false := by rfl) (hpl1 : (backTo pos1 (starEach [] X.env)).any (·.1) = false := by rfl) :
    DF X (.Call (.Name "sorted" p) [.Call (.Name "set" p1) [a] [] pos1] [] pos) (wF1 gSortedSet wa) :=
  peC (pe_callB (cr_sortedG hc hu) hg hm (by decide +kernel) (pa_cons (pe_callTy (cr_setG (f := V.str) hc rel_txt) hg1 hm1 (by decide +kernel) (pa_cons ha pa_nil h1) (by decide) (by decide) h1 hpl1) pa_nil h2) (by decide) (by decide) h2 hpl) fun σ H Q ⟨Γ, A, ρ, P, R, hw, k⟩ =>
  ⟨Γ, A, ρ, _, R, hw, fun v d H1 x1 g1 hv hP => by
    obtain ⟨zs, rfl, hz, hP⟩ := hP
    obtain ⟨b, vs, rfl, nb, hb, hvs⟩ := hv.tup
    have S1 := R.sit.ext x1 g1
    rw [hvs.strsE] at hb
    refine ⟨b, zs, rfl, hb, hz, fun q ks hq nd hm hlen => ⟨q, ks, rfl, upd_same, fun p' out hp' po => ?_⟩⟩
    have x2 := x1.trans (ExA.new (o := SetGO (PySem.strKind X.prog X.w) q ks) hq)
    have g2 : GOk Γ (upd H1 q (SetGO (PySem.strKind X.prog X.w) q ks)) := g1.new hq
    refine k p' _ ((out.mergeSort strLe).map .str) _ (back_none x2 g2 hp') (x2.trans (ExA.new hp')) (g2.new hp') upd_same (DAs.ofStrs _) (hP out (po.nodup_iff.mpr nd) fun j => ?_)
    rw [po.mem_iff]
    exact hm j⟩
/-- len(set(a tuple of whole numbers)) -/
def gLenSet : G1 := fun d P => ∃ zs : List Int, d = .tuple (zs.map .int) ∧ zs.length ≤ 4000 ∧ ∀ ks : List Int, ks.Nodup → (∀ j, j ∈ ks ↔ j ∈ zs) → ks.length ≤ zs.length → P (.int ks.length)
theorem de_lenSet (hc : X.calm = true) (hg : Gl X "len") (hm : X.mg "len" = none) (hg1 : Gl X "set") (hm1 : X.mg "set" = none) (ha : DB X a wa)
    (h1 : starEach [a] X.env = (false, eval a X.env) :: starEach [] X.env := by rfl) (h2 : starEach [.Call (.Name "set" p1) [a] [] pos1] X.env = (false, eval (.Call (.Name "set" p1) [a] [] pos1) X.env) :: starEach [] X.env := by rfl)
    (hpl : (backTo pos (starEach [] X.env)).any (·.1) = false := by rfl) (hpl1 : (backTo pos1 (starEach [] X.env)).any (·.1) = false := by rfl) :
    DE X (.Call (.Name "len" p) [.Call (.Name "set" p1) [a] [] pos1] [] pos) (w1 gLenSet wa) :=
  peC (pe_callB (cr_lenG (knd := intKind X.prog X.w)) hg hm (by decide +kernel) (pa_cons (pe_callTy (cr_setG (f := V.int) hc rel_num) hg1 hm1 (by decide +kernel) (pa_cons ha pa_nil h1) (by decide) (by decide) h1 hpl1) pa_nil h2) (by decide) (by decide) h2 hpl) fun σ H Q ⟨Γ, A, ρ, P, R, hw, k⟩ =>
  ⟨Γ, A, ρ, _, R, hw, fun v d H1 x1 g1 hv hP => by
    obtain ⟨zs, rfl, hz, hP⟩ := hP
    obtain ⟨b, vs, rfl, nb, hb, hvs⟩ := hv.tup
    rw [hvs.intsE] at hb
    refine ⟨b, zs, rfl, hb, hz, fun q ks hq nd hm hlen => ⟨q, ks, rfl, upd_same, ?_⟩⟩
    exact k _ _ _ (x1.trans (ExA.new hq)) (g1.new hq) (.int _) (hP ks nd hm hlen)⟩
end
end Dat

/-! Joi: sorted(set(one + other)). -/
namespace Dat
open PySem PySem.Spec PyProof.Rows L2
open PySem.W (Datum DatumOrd Tup T3)

theorem strLe_of (a b : Str) : strLe a b = leOf a b := by
  unfold strLe leOf dLe
  rw [← DatumOrd.lt_eq]
  rfl
theorem strLe_eq : strLe = (leOf : Str → Str → Bool) := funext fun a => funext fun b => strLe_of a b
theorem union_set {a b : Tags} (ha : a.items.Nodup) (hb : b.items.Nodup) {ks : List Str} (hn : ks.Nodup) (hm : ∀ j, j ∈ ks ↔ j ∈ a.items ++ b.items) : ks.mergeSort strLe = (unionT a b).items := by
  rw [strLe_eq]
  refine sort_nodup_eq hn (union_inc ha hb).nodup (sorted_pair _) fun t => ?_
  rw [hm, union_mem, List.mem_append]
def C__law_joined : Con := fun cs P => ∃ a b : Tags, cs = [.d (Datum.toD a), .d (Datum.toD b)] ∧ a.items.length ≤ 1000 ∧ b.items.length ≤ 1000 ∧ a.items.Nodup ∧ b.items.Nodup ∧ P (Datum.toD (unionT a b))
def W__law_joined : WS :=
  (sRet (w1 gTuple (wF (wF1 gSortedSet (w2 gAdd (wVar 0) (wVar 1))))))

theorem body__law_joined : ∀ cs P, cs.length = 2 → C__law_joined cs P → noOwn cs ∧ W__law_joined (startE 2 cs) (endD false P) := by
  rintro cs P _ ⟨a, b, rfl, la, lb, ha, hb, h⟩
  refine ⟨noOwn2, ?_⟩
  show W__law_joined [some (.d (Datum.toD a)), some (.d (Datum.toD b))] _
  unfold W__law_joined
  simp only [sSeq, sSet, sSetF, sRet, sRetN, sRetF, sNext, sIf, sFor, sAsg, sDrop, sBreak, sCont, w2, w1, wF1, wF, wC, wTst, wNot, wAnd, wOr, wAndV, wOrV, wNotV, wIfE, wIsN, wNotN, wTup, wCons, wNil, wCall, wCallL, wCallB, aD, aO, aNil, wLc, wSeqI, wEnum, wZip, wRg1, wO0, wO1, wSl, wNeg, wCat, wRevL, wIsi, wIsi2, wGn, wGtup, wGcons, wGnil, wYes, wipeE, endD, lawD, wVar, wOwn, List.getD_cons_zero, List.getD_cons_succ, List.set_cons_zero, List.set_cons_succ, Bool.false_eq_true, false_imp_iff, true_and, and_true, if_true, if_false, List.length_cons, List.length_nil, gTuple_lst, gAdd_int, gSub_int, gIxR0, gIxR1, gIxR2, gIxR3, isSeq_tup, isSeq_list, itemsD_tup, itemsD_list, isSeq_lst, itemsD_lst, isSeq_tp, itemsD_tp, gLenTup, gLenList, enumD_map, toD_pair, toD_int, toD_str, toD_bool, ite_self, reduceIte]
  refine gAddT_ (by omega) ?_
  refine ⟨a.items ++ b.items, rfl, by rw [List.length_append]; omega, fun ks hn hm => ?_⟩
  rw [union_set ha hb hn hm]
  exact h
end Dat

/-! Tgs: the tags of a sheet, elements with given styles. -/
namespace Dat
open PySem PySem.Spec PyProof.Rows L2
open PySem.W (Datum DatumOrd Tup T3)

def allTags (s : Sheet) : List Str := s.items.flatMap fun r => r.a.items
def tagsL (s : Sheet) : List Str := firstL ((allTags s).mergeSort leOf)
abbrev Sty := List (Str × Option Str)
def ewL (s : Sheet) (w : Sty) : List Tags := (elementsL (Tup.mk (tagsL s))).filter fun e => decide (stylesL s e = w)
def alwT (s : Sheet) (w : Sty) : Tags := Tup.mk ((tagsL s).filter fun t => (ewL s w).all fun e => decide (t ∈ e.items))
def nevT (s : Sheet) (w : Sty) : Tags := Tup.mk ((tagsL s).filter fun t => !(ewL s w).any fun e => decide (t ∈ e.items))
def sureO (s : Sheet) (w : Sty) : Option (Tags × Tags) := if ewL s w = [] then none else some (alwT s w, nevT s w)
def C_sheet_tags : Con := fun cs P => ∃ s : Sheet, cs = [.d (Datum.toD s)] ∧ SmallS s ∧ P (Datum.toD (tagsL s))
def C_elements_with : Con := fun cs P => ∃ (s : Sheet) (w : Sty), cs = [.d (Datum.toD s), .d (Datum.toD w)] ∧ SmallS s ∧ (tagsL s).length ≤ 10 ∧ P (Datum.toD (ewL s w))
def C_sure_tags : Con := fun cs P => ∃ (s : Sheet) (w : Sty), cs = [.d (Datum.toD s), .d (Datum.toD w)] ∧ SmallS s ∧ (tagsL s).length ≤ 10 ∧ P (Datum.toD (sureO s w))
def W_sheet_tags : WS :=
  (sSeq (sSet 1 (wF (wF1 gSorted (wF (wLc2 (wSeqI (wVar 0)) (wGn 2) wYes (wSeqI (w2 gIx (wVar 2) (wC (.int 0)))) (wGn 3) wYes (wVar 3) [2, 3] [3])))))
    (sRet (wF (wLc (wEnum (wVar 1)) (wGtup 2 (wGcons (wGn 4) (wGcons (wGn 3) wGnil))) (wTst (w2 gNi (wVar 3) (wSl (wVar 1) wO0 (wO1 (wVar 4))))) (wVar 3) [3, 4]))))

def W_elements_with : WS :=
  (sRet (wF (wLc (wSeqI (wCall C_elements_of (aD (wCall C_sheet_tags (aD (wVar 0) aNil)) aNil))) (wGn 2) (wTst (w2 gEq (wCall C_styles (aD (wVar 0) (aD (wVar 2) aNil))) (wVar 1))) (wVar 2) [2])))

def W_sure_tags : WS :=
  (sSeq (sAsg (wTup (wCons (wCall C_elements_with (aD (wVar 0) (aD (wVar 1) aNil))) (wCons (wCall C_sheet_tags (aD (wVar 0) aNil)) wNil))) (wGtup 2 (wGcons (wGn 2) (wGcons (wGn 3) wGnil))))
    (sSeq (sIf (wTst (w2 gEq (wVar 2) (wF wNil)))
    (sRet (wC .none))
    sNext)
    (sSeq (sSet 4 (w1 gTuple (wF (wLc (wSeqI (wVar 3)) (wGn 5) (wTst (w1 gAll (wF (wLc (wSeqI (wVar 2)) (wGn 6) wYes (w2 gIn (wVar 5) (wVar 6)) [6])))) (wVar 5) [5]))))
    (sRet (wTup (wCons (wVar 4) (wCons (w1 gTuple (wF (wLc (wSeqI (wVar 3)) (wGn 5) (wNot (wTst (w1 gAny (wF (wLc (wSeqI (wVar 2)) (wGn 6) wYes (w2 gIn (wVar 5) (wVar 6)) [6]))))) (wVar 5) [5]))) wNil)))))))

theorem body_sheet_tags : ∀ cs P, cs.length = 1 → C_sheet_tags cs P → noOwn cs ∧ W_sheet_tags (startE 5 cs) (endD false P) := by
  rintro cs P _ ⟨s, rfl, hs, h⟩
  refine ⟨noOwn1, ?_⟩
  show W_sheet_tags [some (.d (Datum.toD s)), none, none, none, none] _
  unfold W_sheet_tags
  have hl := hs.len
  simp only [sSeq, sSet, sSetF, sRet, sRetN, sRetF, sNext, sIf, sFor, sAsg, sDrop, sBreak, sCont, w2, w1, wF1, wF, wC, wTst, wNot, wAnd, wOr, wAndV, wOrV, wNotV, wIfE, wIsN, wNotN, wTup, wCons, wNil, wCall, wCallL, wCallB, aD, aO, aNil, wLc, wSeqI, wEnum, wZip, wRg1, wO0, wO1, wSl, wNeg, wCat, wRevL, wIsi, wIsi2, wGn, wGtup, wGcons, wGnil, wYes, wipeE, endD, lawD, wVar, wOwn, List.getD_cons_zero, List.getD_cons_succ, List.set_cons_zero, List.set_cons_succ, Bool.false_eq_true, false_imp_iff, true_and, and_true, if_true, if_false, List.length_cons, List.length_nil, gTuple_lst, gAdd_int, gSub_int, gIxR0, gIxR1, gIxR2, gIxR3, isSeq_tup, isSeq_list, itemsD_tup, itemsD_list, isSeq_lst, itemsD_lst, isSeq_tp, itemsD_tp, gLenTup, gLenList, enumD_map, toD_pair, toD_int, toD_str, toD_bool, ite_self, reduceIte,  wLc2]
  refine wComp2_m Datum.toD (fun r : Rule => r.a.items.map Datum.toD) s.items [] _ ?_ (fun r hrm acc Q hz hQ => ?_) ?_
  · have := flat_len (fun r : Rule => r.a.items.map (Datum.toD (α := Str))) 1000 s.items fun r q => by rw [List.length_map]; exact hs.tag r q
    rw [List.length_nil, sizeLine_eq]
    omega
  · simp only [sSeq, sSet, sSetF, sRet, sRetN, sRetF, sNext, sIf, sFor, sAsg, sDrop, sBreak, sCont, w2, w1, wF1, wF, wC, wTst, wNot, wAnd, wOr, wAndV, wOrV, wNotV, wIfE, wIsN, wNotN, wTup, wCons, wNil, wCall, wCallL, wCallB, aD, aO, aNil, wLc, wSeqI, wEnum, wZip, wRg1, wO0, wO1, wSl, wNeg, wCat, wRevL, wIsi, wIsi2, wGn, wGtup, wGcons, wGnil, wYes, wipeE, endD, lawD, wVar, wOwn, List.getD_cons_zero, List.getD_cons_succ, List.set_cons_zero, List.set_cons_succ, Bool.false_eq_true, false_imp_iff, true_and, and_true, if_true, if_false, List.length_cons, List.length_nil, gTuple_lst, gAdd_int, gSub_int, gIxR0, gIxR1, gIxR2, gIxR3, isSeq_tup, isSeq_list, itemsD_tup, itemsD_list, isSeq_lst, itemsD_lst, isSeq_tp, itemsD_tp, gLenTup, gLenList, enumD_map, toD_pair, toD_int, toD_str, toD_bool, ite_self, reduceIte]
    rw [List.length_map] at hz
    refine wIn_m Datum.toD (fun t : Str => Datum.toD t) r.a.items acc Q hz (fun t _ Q q => ?_) hQ
    simp only [sSeq, sSet, sSetF, sRet, sRetN, sRetF, sNext, sIf, sFor, sAsg, sDrop, sBreak, sCont, w2, w1, wF1, wF, wC, wTst, wNot, wAnd, wOr, wAndV, wOrV, wNotV, wIfE, wIsN, wNotN, wTup, wCons, wNil, wCall, wCallL, wCallB, aD, aO, aNil, wLc, wSeqI, wEnum, wZip, wRg1, wO0, wO1, wSl, wNeg, wCat, wRevL, wIsi, wIsi2, wGn, wGtup, wGcons, wGnil, wYes, wipeE, endD, lawD, wVar, wOwn, List.getD_cons_zero, List.getD_cons_succ, List.set_cons_zero, List.set_cons_succ, Bool.false_eq_true, false_imp_iff, true_and, and_true, if_true, if_false, List.length_cons, List.length_nil, gTuple_lst, gAdd_int, gSub_int, gIxR0, gIxR1, gIxR2, gIxR3, isSeq_tup, isSeq_list, itemsD_tup, itemsD_list, isSeq_lst, itemsD_lst, isSeq_tp, itemsD_tp, gLenTup, gLenList, enumD_map, toD_pair, toD_int, toD_str, toD_bool, ite_self, reduceIte]
    exact q
  · have e1 : ([] : List PyData) ++ s.items.flatMap (fun r : Rule => r.a.items.map Datum.toD) = (allTags s).map Datum.toD := by
      rw [List.nil_append]
      unfold allTags
      rw [List.map_flatMap]
    rw [e1]
    refine gSorted_ (α := Str) (by decide) ?_
    simp only [sSeq, sSet, sSetF, sRet, sRetN, sRetF, sNext, sIf, sFor, sAsg, sDrop, sBreak, sCont, w2, w1, wF1, wF, wC, wTst, wNot, wAnd, wOr, wAndV, wOrV, wNotV, wIfE, wIsN, wNotN, wTup, wCons, wNil, wCall, wCallL, wCallB, aD, aO, aNil, wLc, wSeqI, wEnum, wZip, wRg1, wO0, wO1, wSl, wNeg, wCat, wRevL, wIsi, wIsi2, wGn, wGtup, wGcons, wGnil, wYes, wipeE, endD, lawD, wVar, wOwn, List.getD_cons_zero, List.getD_cons_succ, List.set_cons_zero, List.set_cons_succ, Bool.false_eq_true, false_imp_iff, true_and, and_true, if_true, if_false, List.length_cons, List.length_nil, gTuple_lst, gAdd_int, gSub_int, gIxR0, gIxR1, gIxR2, gIxR3, isSeq_tup, isSeq_list, itemsD_tup, itemsD_list, isSeq_lst, itemsD_lst, isSeq_tp, itemsD_tp, gLenTup, gLenList, enumD_map, toD_pair, toD_int, toD_str, toD_bool, ite_self, reduceIte]
    refine wComp_fm Datum.toD (fun p : Int × Str => !decide (p.2 ∈ ((allTags s).mergeSort leOf).take p.1.toNat)) (fun p => Datum.toD p.2) _ (fun p hp Q R h1 h2 => ?_) ?_
    · obtain ⟨i, hi, hx⟩ := enumL_at hp
      obtain ⟨k, x⟩ := p
      subst hi
      simp only [sSeq, sSet, sSetF, sRet, sRetN, sRetF, sNext, sIf, sFor, sAsg, sDrop, sBreak, sCont, w2, w1, wF1, wF, wC, wTst, wNot, wAnd, wOr, wAndV, wOrV, wNotV, wIfE, wIsN, wNotN, wTup, wCons, wNil, wCall, wCallL, wCallB, aD, aO, aNil, wLc, wSeqI, wEnum, wZip, wRg1, wO0, wO1, wSl, wNeg, wCat, wRevL, wIsi, wIsi2, wGn, wGtup, wGcons, wGnil, wYes, wipeE, endD, lawD, wVar, wOwn, List.getD_cons_zero, List.getD_cons_succ, List.set_cons_zero, List.set_cons_succ, Bool.false_eq_true, false_imp_iff, true_and, and_true, if_true, if_false, List.length_cons, List.length_nil, gTuple_lst, gAdd_int, gSub_int, gIxR0, gIxR1, gIxR2, gIxR3, isSeq_tup, isSeq_list, itemsD_tup, itemsD_list, isSeq_lst, itemsD_lst, isSeq_tp, itemsD_tp, gLenTup, gLenList, enumD_map, toD_pair, toD_int, toD_str, toD_bool, ite_self, reduceIte]
      rw [show gSl (.list (((allTags s).mergeSort leOf).map Datum.toD)) none (some (i : Int)) = fun P => P (.list ((((allTags s).mergeSort leOf).take i).map Datum.toD)) from funext fun P => by rw [gSlL, cutL_to]]
      refine gNi_ (α := Str) (by decide) ?_
      exact ifB h1 h2
    have e2 : List.map (fun p : Int × Str => Datum.toD p.2) (List.filter (fun p : Int × Str => !decide (p.2 ∈ ((allTags s).mergeSort leOf).take p.1.toNat)) (enumL ((allTags s).mergeSort leOf))) = (tagsL s).map Datum.toD := by
      unfold tagsL firstL
      rw [List.map_map]
      rfl
    rw [e2]
    exact h
theorem body_elements_with : ∀ cs P, cs.length = 2 → C_elements_with cs P → noOwn cs ∧ W_elements_with (startE 3 cs) (endD false P) := by
  rintro cs P _ ⟨s, w, rfl, hs, hl, h⟩
  refine ⟨noOwn2, ?_⟩
  show W_elements_with [some (.d (Datum.toD s)), some (.d (Datum.toD w)), none] _
  unfold W_elements_with
  simp only [sSeq, sSet, sSetF, sRet, sRetN, sRetF, sNext, sIf, sFor, sAsg, sDrop, sBreak, sCont, w2, w1, wF1, wF, wC, wTst, wNot, wAnd, wOr, wAndV, wOrV, wNotV, wIfE, wIsN, wNotN, wTup, wCons, wNil, wCall, wCallL, wCallB, aD, aO, aNil, wLc, wSeqI, wEnum, wZip, wRg1, wO0, wO1, wSl, wNeg, wCat, wRevL, wIsi, wIsi2, wGn, wGtup, wGcons, wGnil, wYes, wipeE, endD, lawD, wVar, wOwn, List.getD_cons_zero, List.getD_cons_succ, List.set_cons_zero, List.set_cons_succ, Bool.false_eq_true, false_imp_iff, true_and, and_true, if_true, if_false, List.length_cons, List.length_nil, gTuple_lst, gAdd_int, gSub_int, gIxR0, gIxR1, gIxR2, gIxR3, isSeq_tup, isSeq_list, itemsD_tup, itemsD_list, isSeq_lst, itemsD_lst, isSeq_tp, itemsD_tp, gLenTup, gLenList, enumD_map, toD_pair, toD_int, toD_str, toD_bool, ite_self, reduceIte]
  refine ⟨s, rfl, hs, ?_⟩
  refine ⟨tagsL s, rfl, hl, ?_⟩
  simp only [sSeq, sSet, sSetF, sRet, sRetN, sRetF, sNext, sIf, sFor, sAsg, sDrop, sBreak, sCont, w2, w1, wF1, wF, wC, wTst, wNot, wAnd, wOr, wAndV, wOrV, wNotV, wIfE, wIsN, wNotN, wTup, wCons, wNil, wCall, wCallL, wCallB, aD, aO, aNil, wLc, wSeqI, wEnum, wZip, wRg1, wO0, wO1, wSl, wNeg, wCat, wRevL, wIsi, wIsi2, wGn, wGtup, wGcons, wGnil, wYes, wipeE, endD, lawD, wVar, wOwn, List.getD_cons_zero, List.getD_cons_succ, List.set_cons_zero, List.set_cons_succ, Bool.false_eq_true, false_imp_iff, true_and, and_true, if_true, if_false, List.length_cons, List.length_nil, gTuple_lst, gAdd_int, gSub_int, gIxR0, gIxR1, gIxR2, gIxR3, isSeq_tup, isSeq_list, itemsD_tup, itemsD_list, isSeq_lst, itemsD_lst, isSeq_tp, itemsD_tp, gLenTup, gLenList, enumD_map, toD_pair, toD_int, toD_str, toD_bool, ite_self, reduceIte]
  refine wComp_fme Datum.toD (fun e => decide (stylesL s e = w)) Datum.toD (elementsL (Tup.mk (tagsL s))) rfl (fun e _ Q R h1 h2 => ?_) h
  simp only [sSeq, sSet, sSetF, sRet, sRetN, sRetF, sNext, sIf, sFor, sAsg, sDrop, sBreak, sCont, w2, w1, wF1, wF, wC, wTst, wNot, wAnd, wOr, wAndV, wOrV, wNotV, wIfE, wIsN, wNotN, wTup, wCons, wNil, wCall, wCallL, wCallB, aD, aO, aNil, wLc, wSeqI, wEnum, wZip, wRg1, wO0, wO1, wSl, wNeg, wCat, wRevL, wIsi, wIsi2, wGn, wGtup, wGcons, wGnil, wYes, wipeE, endD, lawD, wVar, wOwn, List.getD_cons_zero, List.getD_cons_succ, List.set_cons_zero, List.set_cons_succ, Bool.false_eq_true, false_imp_iff, true_and, and_true, if_true, if_false, List.length_cons, List.length_nil, gTuple_lst, gAdd_int, gSub_int, gIxR0, gIxR1, gIxR2, gIxR3, isSeq_tup, isSeq_list, itemsD_tup, itemsD_list, isSeq_lst, itemsD_lst, isSeq_tp, itemsD_tp, gLenTup, gLenList, enumD_map, toD_pair, toD_int, toD_str, toD_bool, ite_self, reduceIte]
  refine ⟨s, e, rfl, ?_⟩
  exact gEqC (α := Sty) (by decide) (fun z => h1 (decide_eq_true z)) fun z => h2 (decide_eq_false z)
theorem wComp_all {wg : WG} {we : WE} {ρ : Env} {es : List Tags} {p : Tags → Bool} {g : List PyData → Prop} (hs : ∀ e ∈ es, ∀ Q : PyData → Prop, Q (.bool (p e)) → wg (Datum.toD e) ρ fun ρ1 => we ρ1 Q) (h : g (es.map fun e => .bool (p e))) :
    wComp wg wYes we ρ (es.map Datum.toD) g := wComp_m Datum.toD (fun e => .bool (p e)) es hs h
theorem body_sure_tags : ∀ cs P, cs.length = 2 → C_sure_tags cs P → noOwn cs ∧ W_sure_tags (startE 7 cs) (endD false P) := by
  rintro cs P _ ⟨s, w, rfl, hs, hl, h⟩
  refine ⟨noOwn2, ?_⟩
  show W_sure_tags [some (.d (Datum.toD s)), some (.d (Datum.toD w)), none, none, none, none, none] _
  unfold W_sure_tags
  simp only [sSeq, sSet, sSetF, sRet, sRetN, sRetF, sNext, sIf, sFor, sAsg, sDrop, sBreak, sCont, w2, w1, wF1, wF, wC, wTst, wNot, wAnd, wOr, wAndV, wOrV, wNotV, wIfE, wIsN, wNotN, wTup, wCons, wNil, wCall, wCallL, wCallB, aD, aO, aNil, wLc, wSeqI, wEnum, wZip, wRg1, wO0, wO1, wSl, wNeg, wCat, wRevL, wIsi, wIsi2, wGn, wGtup, wGcons, wGnil, wYes, wipeE, endD, lawD, wVar, wOwn, List.getD_cons_zero, List.getD_cons_succ, List.set_cons_zero, List.set_cons_succ, Bool.false_eq_true, false_imp_iff, true_and, and_true, if_true, if_false, List.length_cons, List.length_nil, gTuple_lst, gAdd_int, gSub_int, gIxR0, gIxR1, gIxR2, gIxR3, isSeq_tup, isSeq_list, itemsD_tup, itemsD_list, isSeq_lst, itemsD_lst, isSeq_tp, itemsD_tp, gLenTup, gLenList, enumD_map, toD_pair, toD_int, toD_str, toD_bool, ite_self, reduceIte]
  refine ⟨s, w, rfl, hs, hl, ?_⟩
  refine ⟨s, rfl, hs, ?_⟩
  simp only [sSeq, sSet, sSetF, sRet, sRetN, sRetF, sNext, sIf, sFor, sAsg, sDrop, sBreak, sCont, w2, w1, wF1, wF, wC, wTst, wNot, wAnd, wOr, wAndV, wOrV, wNotV, wIfE, wIsN, wNotN, wTup, wCons, wNil, wCall, wCallL, wCallB, aD, aO, aNil, wLc, wSeqI, wEnum, wZip, wRg1, wO0, wO1, wSl, wNeg, wCat, wRevL, wIsi, wIsi2, wGn, wGtup, wGcons, wGnil, wYes, wipeE, endD, lawD, wVar, wOwn, List.getD_cons_zero, List.getD_cons_succ, List.set_cons_zero, List.set_cons_succ, Bool.false_eq_true, false_imp_iff, true_and, and_true, if_true, if_false, List.length_cons, List.length_nil, gTuple_lst, gAdd_int, gSub_int, gIxR0, gIxR1, gIxR2, gIxR3, isSeq_tup, isSeq_list, itemsD_tup, itemsD_list, isSeq_lst, itemsD_lst, isSeq_tp, itemsD_tp, gLenTup, gLenList, enumD_map, toD_pair, toD_int, toD_str, toD_bool, ite_self, reduceIte]
  unfold sureO at h
  refine gEqC (α := List Tags) (b := []) (by decide) (fun z => ?_) fun z => ?_
  · (dsimp only; first | rw [if_pos rfl] | rw [if_neg (by simp)])
    rw [if_pos z] at h
    exact h
  · (dsimp only; first | rw [if_pos rfl] | rw [if_neg (by simp)])
    rw [if_neg z] at h
    refine wComp_fme Datum.toD (fun t => (ewL s w).all fun e => decide (t ∈ e.items)) Datum.toD (tagsL s) rfl (fun t _ Q R h1 h2 => ?_) ?_
    · simp only [sSeq, sSet, sSetF, sRet, sRetN, sRetF, sNext, sIf, sFor, sAsg, sDrop, sBreak, sCont, w2, w1, wF1, wF, wC, wTst, wNot, wAnd, wOr, wAndV, wOrV, wNotV, wIfE, wIsN, wNotN, wTup, wCons, wNil, wCall, wCallL, wCallB, aD, aO, aNil, wLc, wSeqI, wEnum, wZip, wRg1, wO0, wO1, wSl, wNeg, wCat, wRevL, wIsi, wIsi2, wGn, wGtup, wGcons, wGnil, wYes, wipeE, endD, lawD, wVar, wOwn, List.getD_cons_zero, List.getD_cons_succ, List.set_cons_zero, List.set_cons_succ, Bool.false_eq_true, false_imp_iff, true_and, and_true, if_true, if_false, List.length_cons, List.length_nil, gTuple_lst, gAdd_int, gSub_int, gIxR0, gIxR1, gIxR2, gIxR3, isSeq_tup, isSeq_list, itemsD_tup, itemsD_list, isSeq_lst, itemsD_lst, isSeq_tp, itemsD_tp, gLenTup, gLenList, enumD_map, toD_pair, toD_int, toD_str, toD_bool, ite_self, reduceIte]
      refine wComp_all (p := fun e => decide (t ∈ e.items)) (fun e _ Q q => ?_) ?_
      · simp only [sSeq, sSet, sSetF, sRet, sRetN, sRetF, sNext, sIf, sFor, sAsg, sDrop, sBreak, sCont, w2, w1, wF1, wF, wC, wTst, wNot, wAnd, wOr, wAndV, wOrV, wNotV, wIfE, wIsN, wNotN, wTup, wCons, wNil, wCall, wCallL, wCallB, aD, aO, aNil, wLc, wSeqI, wEnum, wZip, wRg1, wO0, wO1, wSl, wNeg, wCat, wRevL, wIsi, wIsi2, wGn, wGtup, wGcons, wGnil, wYes, wipeE, endD, lawD, wVar, wOwn, List.getD_cons_zero, List.getD_cons_succ, List.set_cons_zero, List.set_cons_succ, Bool.false_eq_true, false_imp_iff, true_and, and_true, if_true, if_false, List.length_cons, List.length_nil, gTuple_lst, gAdd_int, gSub_int, gIxR0, gIxR1, gIxR2, gIxR3, isSeq_tup, isSeq_list, itemsD_tup, itemsD_list, isSeq_lst, itemsD_lst, isSeq_tp, itemsD_tp, gLenTup, gLenList, enumD_map, toD_pair, toD_int, toD_str, toD_bool, ite_self, reduceIte]
        exact gInT_ (α := Str) (by decide) q
      · refine ⟨(ewL s w).map fun e => decide (t ∈ e.items), by rw [List.map_map]; rfl, ?_⟩
        rw [List.all_map]
        exact ifB h1 h2
    · refine wComp_fme Datum.toD (fun t => !(ewL s w).any fun e => decide (t ∈ e.items)) Datum.toD (tagsL s) rfl (fun t _ Q R h1 h2 => ?_) h
      simp only [sSeq, sSet, sSetF, sRet, sRetN, sRetF, sNext, sIf, sFor, sAsg, sDrop, sBreak, sCont, w2, w1, wF1, wF, wC, wTst, wNot, wAnd, wOr, wAndV, wOrV, wNotV, wIfE, wIsN, wNotN, wTup, wCons, wNil, wCall, wCallL, wCallB, aD, aO, aNil, wLc, wSeqI, wEnum, wZip, wRg1, wO0, wO1, wSl, wNeg, wCat, wRevL, wIsi, wIsi2, wGn, wGtup, wGcons, wGnil, wYes, wipeE, endD, lawD, wVar, wOwn, List.getD_cons_zero, List.getD_cons_succ, List.set_cons_zero, List.set_cons_succ, Bool.false_eq_true, false_imp_iff, true_and, and_true, if_true, if_false, List.length_cons, List.length_nil, gTuple_lst, gAdd_int, gSub_int, gIxR0, gIxR1, gIxR2, gIxR3, isSeq_tup, isSeq_list, itemsD_tup, itemsD_list, isSeq_lst, itemsD_lst, isSeq_tp, itemsD_tp, gLenTup, gLenList, enumD_map, toD_pair, toD_int, toD_str, toD_bool, ite_self, reduceIte]
      refine wComp_all (p := fun e => decide (t ∈ e.items)) (fun e _ Q q => ?_) ?_
      · simp only [sSeq, sSet, sSetF, sRet, sRetN, sRetF, sNext, sIf, sFor, sAsg, sDrop, sBreak, sCont, w2, w1, wF1, wF, wC, wTst, wNot, wAnd, wOr, wAndV, wOrV, wNotV, wIfE, wIsN, wNotN, wTup, wCons, wNil, wCall, wCallL, wCallB, aD, aO, aNil, wLc, wSeqI, wEnum, wZip, wRg1, wO0, wO1, wSl, wNeg, wCat, wRevL, wIsi, wIsi2, wGn, wGtup, wGcons, wGnil, wYes, wipeE, endD, lawD, wVar, wOwn, List.getD_cons_zero, List.getD_cons_succ, List.set_cons_zero, List.set_cons_succ, Bool.false_eq_true, false_imp_iff, true_and, and_true, if_true, if_false, List.length_cons, List.length_nil, gTuple_lst, gAdd_int, gSub_int, gIxR0, gIxR1, gIxR2, gIxR3, isSeq_tup, isSeq_list, itemsD_tup, itemsD_list, isSeq_lst, itemsD_lst, isSeq_tp, itemsD_tp, gLenTup, gLenList, enumD_map, toD_pair, toD_int, toD_str, toD_bool, ite_self, reduceIte]
        exact gInT_ (α := Str) (by decide) q
      · refine ⟨(ewL s w).map fun e => decide (t ∈ e.items), by rw [List.map_map]; rfl, ?_⟩
        rw [List.any_map]
        exact ifB h1 h2
theorem inc_firstL (xs : List Str) : Inc (firstL (xs.mergeSort leOf)) := by
  have h1 : (firstL (xs.mergeSort leOf)).Pairwise fun x y => leOf x y = true := (sorted_pair _).sublist (firstL_sub _)
  refine (h1.and (firstL_nodup (xs.mergeSort leOf))).imp fun {x y} q => ?_
  cases z : DatumOrd.lt x y with
  | true => rfl
  | false =>
    have h3 : leOf x y = true := q.1
    unfold leOf at h3
    exact absurd (LeL.tri _ _ z (by simpa using h3)) q.2
theorem inc_ext {l m : List Str} (hl : Inc l) (hm : Inc m) (h : ∀ t, t ∈ l ↔ t ∈ m) : l = m :=
  (sub_inc hl hm fun t ht => (h t).mp ht).eq_of_length (Nat.le_antisymm (sub_inc hl hm fun t ht => (h t).mp ht).length_le (sub_inc hm hl fun t ht => (h t).mpr ht).length_le)
theorem tagsL_mem {s : Sheet} {t : Str} : t ∈ tagsL s ↔ ∃ r ∈ s.items, t ∈ r.a.items := by
  unfold tagsL allTags
  rw [firstL_mem, List.mem_mergeSort, List.mem_flatMap]
theorem tagsL_in {s : Sheet} {pool : Tags} (hs : SheetIn pool s) (hp : Inc pool.items) : (tagsL s).Sublist pool.items := sub_inc (inc_firstL _) hp fun t ht => by
  obtain ⟨r, hr, q⟩ := tagsL_mem.mp ht
  exact (hs r hr).subset q
/-- the styles, property by property -/
def stQ (s : Sheet) (e : Tags) : Sty := (pqL.map fun n => (n, valO s e n)).filter fun x => x.2.isSome
theorem pqL_inc : Inc pqL := by decide +kernel
theorem stQ_styles {s : Sheet} (hn : NamesIn s) (e : Tags) : stQ s e = stylesL s e := by
  have e1 : stQ s e = (pqL.filter fun n => (valO s e n).isSome).map fun n => (n, valO s e n) := by
    unfold stQ
    rw [List.filter_map]
    rfl
  have e2 : (pqL.filter fun n => (valO s e n).isSome) = firstL (namesL s e) := by
    refine inc_ext (pqL_inc.sublist (List.filter_sublist ..)) (inc_firstL _) fun n => ?_
    rw [List.mem_filter]
    have hm : n ∈ firstL (namesL s e) ↔ valO s e n ≠ none := by
      rw [firstL_mem]
      unfold namesL
      rw [List.mem_mergeSort, List.mem_map, ne_eq, valO_none]
      constructor
      · rintro ⟨p, hp, rfl⟩ h
        have : p ∈ candL s e p.2.c := List.mem_filter.mpr ⟨hp, by simp⟩
        rw [h] at this
        cases this
      · intro h
        obtain ⟨p, hp⟩ := List.exists_mem_of_ne_nil _ h
        obtain ⟨h1, h2⟩ := List.mem_filter.mp hp
        exact ⟨p, h1, of_decide_eq_true h2⟩
    rw [hm]
    constructor
    · rintro ⟨_, h⟩ z
      rw [z] at h
      cases h
    · intro h
      refine ⟨?_, Option.isSome_iff_ne_none.mpr h⟩
      obtain ⟨r, hr, rfl⟩ := List.mem_map.mp (val_names h)
      exact hn r hr
  rw [e1, e2]
  rfl
end Dat

/-! Rem: rules whose removal changes nothing. -/
namespace Dat
open PySem PySem.Spec PyProof.Rows L2
open PySem.W (Datum DatumOrd Tup T3)

def withoutI (s : Sheet) (i : Nat) : Sheet := Tup.mk (s.items.take i ++ s.items.drop (i + 1))
def remB (s : Sheet) (p : Int × Rule) : Bool := (diffO (withoutI s p.1.toNat) s).isNone
def remL (s : Sheet) : List Int := ((enumL s.items).filter (remB s)).map (·.1)
def C_removable_rules : Con := fun cs P => ∃ s : Sheet, cs = [.d (Datum.toD s)] ∧ SmallS s ∧ P (Datum.toD (remL s))
def W_removable_rules : WS :=
  (sRetF (wLc (wRg1 (w1 gLen (wVar 0))) (wGn 1) (wTst (wCall C_equal (aD (w2 gAdd (wSl (wVar 0) wO0 (wO1 (wVar 1))) (wSl (wVar 0) (wO1 (w2 gAdd (wVar 1) (wC (.int 1)))) wO0)) (aD (wVar 0) aNil)))) (wVar 1) [1]))

theorem without_mem {s : Sheet} {i : Nat} {r : Rule} (h : r ∈ (withoutI s i).items) : r ∈ s.items := by
  unfold withoutI at h
  rcases List.mem_append.mp h with q | q
  · exact List.mem_of_mem_take q
  · exact List.mem_of_mem_drop q
theorem SmallS.without {s : Sheet} (h : SmallS s) (i : Nat) : SmallS (withoutI s i) := ⟨by
  have := h.len
  unfold withoutI
  rw [List.length_append, List.length_take, List.length_drop]
  omega, fun r hr => h.tag r (without_mem hr)⟩
theorem body_removable_rules : ∀ cs P, cs.length = 1 → C_removable_rules cs P → noOwn cs ∧ W_removable_rules (startE 2 cs) (endD true P) := by
  rintro cs P _ ⟨s, rfl, hs, h⟩
  refine ⟨noOwn1, ?_⟩
  show W_removable_rules [some (.d (Datum.toD s)), none] _
  unfold W_removable_rules
  have hl := hs.len
  simp only [sSeq, sSet, sSetF, sRet, sRetN, sRetF, sNext, sIf, sFor, sAsg, sDrop, sBreak, sCont, w2, w1, wF1, wF, wC, wTst, wNot, wAnd, wOr, wAndV, wOrV, wNotV, wIfE, wIsN, wNotN, wTup, wCons, wNil, wCall, wCallL, wCallB, aD, aO, aNil, wLc, wSeqI, wEnum, wZip, wRg1, wO0, wO1, wSl, wNeg, wCat, wRevL, wIsi, wIsi2, wGn, wGtup, wGcons, wGnil, wYes, wipeE, endD, lawD, wVar, wOwn, List.getD_cons_zero, List.getD_cons_succ, List.set_cons_zero, List.set_cons_succ, Bool.false_eq_true, false_imp_iff, true_and, and_true, if_true, if_false, List.length_cons, List.length_nil, gTuple_lst, gAdd_int, gSub_int, gIxR0, gIxR1, gIxR2, gIxR3, isSeq_tup, isSeq_list, itemsD_tup, itemsD_list, isSeq_lst, itemsD_lst, isSeq_tp, itemsD_tp, gLenTup, gLenList, enumD_map, toD_pair, toD_int, toD_str, toD_bool, ite_self, reduceIte]
  refine ⟨by omega, by omega, ?_⟩
  refine wComp_fme (fun p : Int × Rule => Datum.toD p.1) (remB s) (fun p => Datum.toD p.1) (enumL s.items) (by rw [rgD_enum, List.map_map]; rfl) (fun p hp Q R h1 h2 => ?_) ?_
  · obtain ⟨i, hi, hx⟩ := enumL_at hp
    obtain ⟨j, r⟩ := p
    have hi : j = (i : Int) := hi
    subst hi
    simp only [sSeq, sSet, sSetF, sRet, sRetN, sRetF, sNext, sIf, sFor, sAsg, sDrop, sBreak, sCont, w2, w1, wF1, wF, wC, wTst, wNot, wAnd, wOr, wAndV, wOrV, wNotV, wIfE, wIsN, wNotN, wTup, wCons, wNil, wCall, wCallL, wCallB, aD, aO, aNil, wLc, wSeqI, wEnum, wZip, wRg1, wO0, wO1, wSl, wNeg, wCat, wRevL, wIsi, wIsi2, wGn, wGtup, wGcons, wGnil, wYes, wipeE, endD, lawD, wVar, wOwn, List.getD_cons_zero, List.getD_cons_succ, List.set_cons_zero, List.set_cons_succ, Bool.false_eq_true, false_imp_iff, true_and, and_true, if_true, if_false, List.length_cons, List.length_nil, gTuple_lst, gAdd_int, gSub_int, gIxR0, gIxR1, gIxR2, gIxR3, isSeq_tup, isSeq_list, itemsD_tup, itemsD_list, isSeq_lst, itemsD_lst, isSeq_tp, itemsD_tp, gLenTup, gLenList, enumD_map, toD_pair, toD_int, toD_str, toD_bool, ite_self, reduceIte]
    rw [gSlTto, show ((i : Int) + 1) = ((i + 1 : Nat) : Int) from rfl, gSlTfrom]
    refine gAddT_ (xs := Tup.mk (s.items.take i)) (ys := Tup.mk (s.items.drop (i + 1))) (by show (s.items.take i).length + (s.items.drop (i + 1)).length ≤ _; rw [List.length_take, List.length_drop]; omega) ?_
    refine ⟨withoutI s i, s, rfl, hs.without i, hs, ifB (fun z => h1 ?_) fun z => h2 ?_⟩
    · exact z
    · exact z
  · have h : P (.list ((remL s).map Datum.toD)) := h
    unfold remL at h
    rw [List.map_map] at h
    exact h
theorem remL_len (s : Sheet) : (remL s).length ≤ s.items.length := by
  unfold remL
  rw [List.length_map]
  exact Nat.le_trans (List.length_filter_le ..) (by rw [enumL_len]; exact Nat.le_refl _)
/-- alike by all elements: the same values everywhere -/
theorem likeB_iff {s1 s2 : Sheet} {pool : Tags} (h1 : SheetIn pool s1) (h2 : SheetIn pool s2) (n1 : NamesIn s1) (n2 : NamesIn s2) (hp : Inc pool.items) : likeB s1 s2 pool = true ↔ ∀ e n, valO s1 e n = valO s2 e n := by
  constructor
  · intro h
    rw [← diff_none, ← unl_diff h1 h2 n1 n2 hp]
    unfold likeB at h
    rw [List.all_eq_true] at h
    have : rowsQ s1 s2 (elementsL pool) = [] := by
      cases q : rowsQ s1 s2 (elementsL pool) with
      | nil => rfl
      | cons t ts =>
        have hm : t ∈ rowsQ s1 s2 (elementsL pool) := by rw [q]; exact List.mem_cons_self ..
        unfold rowsQ at hm
        obtain ⟨e, he, ht⟩ := List.mem_flatMap.mp hm
        obtain ⟨n, hn, _⟩ := List.mem_map.mp ht
        obtain ⟨hn1, hn2⟩ := List.mem_filter.mp hn
        have := h e he
        rw [List.all_eq_true] at this
        have := this n hn1
        rw [this] at hn2
        cases hn2
    unfold unlO
    rw [this]
    rfl
  · exact likeB_true
theorem without_enum {s : Sheet} {i : Nat} : withoutI s i = Tup.mk (((enumL s.items).eraseIdx i).map (·.2)) := by
  rw [← eraseIdx_map', enum_snd, List.eraseIdx_eq_take_drop_succ]
  rfl
theorem mem_erase {l : List (Int × Rule)} {i : Nat} {p q : Int × Rule} (hp : l[i]? = some p) (hq : q ∈ l) (hne : q ≠ p) : q ∈ l.eraseIdx i := by
  have := (eraseIdx_perm hp).mem_iff.mp hq
  rcases List.mem_cons.mp this with e | e
  · exact absurd e hne
  · exact e
/-- a dead rule may go -/
theorem dead_gone {s : Sheet} {i : Nat} {r : Rule} (hi : s.items[i]? = some r) (hd : (beatO s i r).isSome = true) (e : Tags) (n : Str) : valO (withoutI s i) e n = valO s e n := by
  have hp : ((i : Int), r) ∈ enumL s.items := enumL_mem hi
  have hat : (enumL s.items)[i]? = some ((i : Int), r) := by
    unfold enumL
    rw [List.getElem?_mapIdx, hi]
    rfl
  rw [without_enum]
  have hpair : ((enumL s.items).eraseIdx i).Pairwise fun p q => p.1 < q.1 := (enumL_pair s.items).sublist (List.eraseIdx_sublist ..)
  rcases top_cases s e n with ⟨q, t, _, hv⟩ | ⟨h0, _, hv⟩
  · rw [hv]
    refine valO_part hpair (t.sub (fun x hx => List.mem_of_mem_eraseIdx hx) (mem_erase hat t.mem fun z => ?_))
    subst z
    have := (alive_iff t.mem).mpr (top_own t)
    rw [this] at hd
    cases hd
  · rw [hv]
    refine valO_part_none ?_
    rw [List.filter_eq_nil_iff] at h0 ⊢
    exact fun x hx => h0 x (List.mem_of_mem_eraseIdx hx)
/-- rules that all say the same of every element -/
theorem const_val {s : Sheet} {c d : Str} (h : ∀ r ∈ s.items, r.a = Tup.mk [] ∧ r.c = c ∧ r.d = d) (hne : s.items ≠ []) (e : Tags) (n : Str) : valO s e n = if n = c then some d else none := by
  rcases top_cases s e n with ⟨p, t, _, hv⟩ | ⟨h0, _, hv⟩
  · obtain ⟨i, _, hx⟩ := enumL_at t.mem
    obtain ⟨_, h2, h3⟩ := h p.2 (List.mem_of_getElem? hx)
    rw [hv, if_pos (by rw [← h2]; exact (good_iff.mp t.good).2.symm), h3]
  · rw [hv]
    by_cases q : n = c
    · obtain ⟨r, hr⟩ := List.exists_mem_of_ne_nil _ hne
      obtain ⟨i, hi⟩ := List.mem_iff_getElem?.mp hr
      obtain ⟨h1, h2, _⟩ := h r hr
      have : ((i : Int), r) ∈ (enumL s.items).filter (goodP e n) := List.mem_filter.mpr ⟨enumL_mem hi, good_iff.mpr ⟨fun t ht => (by rw [show ((i : Int), r).2.a = Tup.mk [] from h1] at ht; cases ht), h2.trans q.symm⟩⟩
      rw [h0] at this
      cases this
    · rw [if_neg q]
end Dat

/-! Tie: tied pairs. -/
namespace Dat
open PySem PySem.Spec PyProof.Rows L2
open PySem.W (Datum DatumOrd Tup T3)

def tiedB (s : Sheet) (p q : Int × Rule) : Bool := decide (q.2.c = p.2.c) && decide (levelOf q.2 = levelOf p.2) && decide (winI s (unionT q.2.a p.2.a) p.2.c = some p.1)
def rowsT (s : Sheet) (pre : List (Int × Rule)) : List (Int × Int) := pre.flatMap fun p => (((enumL s.items).take p.1.toNat).filter (tiedB s p)).map fun q => (q.1, p.1)
def tiedL (s : Sheet) : List (Int × Int) := (rowsT s (enumL s.items)).mergeSort leOf
def C_tied_pairs : Con := fun cs P => ∃ s : Sheet, cs = [.d (Datum.toD s)] ∧ SmallS s ∧ P (Datum.toD (tiedL s))
def B_tied_pairs_1 : WS :=
  (sSeq (sSet 5 (w2 gIx (wVar 0) (wVar 4)))
    (sIf (wAnd (wTst (w2 gEq (w2 gIx (wVar 5) (wC (.int 2))) (w2 gIx (wVar 3) (wC (.int 2))))) (wTst (w2 gEq (wCall C_level (aD (wVar 5) aNil)) (wCall C_level (aD (wVar 3) aNil)))))
    (sIf (wTst (w2 gEq (wCall C_winner (aD (wVar 0) (aD (wCall C_union (aD (w2 gIx (wVar 5) (wC (.int 0))) (aD (w2 gIx (wVar 3) (wC (.int 0))) aNil))) (aD (w2 gIx (wVar 3) (wC (.int 2))) aNil)))) (wVar 2)))
    (sApp 1 (wTup (wCons (wVar 4) (wCons (wVar 2) wNil))))
    sNext)
    sNext))
def B_tied_pairs_0 : WS :=
  (sFor (wRg1 (wVar 2)) (wGn 4) B_tied_pairs_1)
def W_tied_pairs : WS :=
  (sSeq (sSetF 1 wNil)
    (sSeq (sFor (wEnum (wVar 0)) (wGtup 2 (wGcons (wGn 2) (wGcons (wGn 3) wGnil))) B_tied_pairs_0)
    (sRetF (wF1 gSorted (wOwn 1)))))

theorem rowsT_len (s : Sheet) : ∀ pre : List (Int × Rule), (rowsT s pre).length ≤ pre.length * s.items.length
  | [] => Nat.zero_le _
  | p :: pre => by
    unfold rowsT
    rw [List.flatMap_cons, List.length_append, List.length_map, List.length_cons, Nat.succ_mul]
    have h1 := rowsT_len s pre
    unfold rowsT at h1
    have h2 : (((enumL s.items).take p.1.toNat).filter (tiedB s p)).length ≤ s.items.length := Nat.le_trans (List.length_filter_le ..) (by rw [List.length_take, enumL_len]; exact Nat.min_le_right ..)
    omega
theorem rgD_take {α : Type} (xs : List α) {j : Nat} (h : j ≤ xs.length) : rgD (j : Int) = ((enumL xs).take j).map fun q => Datum.toD q.1 := by
  unfold rgD enumL
  rw [Int.toNat_natCast]
  apply List.ext_getElem?
  intro i
  simp only [List.getElem?_map, List.getElem?_take, List.getElem?_mapIdx]
  by_cases hi : i < j
  · rw [List.getElem?_range hi, if_pos hi, List.getElem?_eq_getElem (by omega)]
    rfl
  · rw [List.getElem?_eq_none (by simpa using hi), if_neg hi]
    rfl
theorem body_tied_pairs : ∀ cs P, cs.length = 1 → C_tied_pairs cs P → noOwn cs ∧ W_tied_pairs (startE 6 cs) (endD true P) := by
  rintro cs P _ ⟨s, rfl, hs, h⟩
  refine ⟨noOwn1, ?_⟩
  show W_tied_pairs [some (.d (Datum.toD s)), none, none, none, none, none] _
  unfold W_tied_pairs
  have hl := hs.len
  simp only [sSeq, sSet, sSetF, sRet, sRetN, sRetF, sNext, sIf, sFor, sAsg, sDrop, sBreak, sCont, w2, w1, wF1, wF, wC, wTst, wNot, wAnd, wOr, wAndV, wOrV, wNotV, wIfE, wIsN, wNotN, wTup, wCons, wNil, wCall, wCallL, wCallB, aD, aO, aNil, wLc, wSeqI, wEnum, wZip, wRg1, wO0, wO1, wSl, wNeg, wCat, wRevL, wIsi, wIsi2, wGn, wGtup, wGcons, wGnil, wYes, wipeE, endD, lawD, wVar, wOwn, List.getD_cons_zero, List.getD_cons_succ, List.set_cons_zero, List.set_cons_succ, Bool.false_eq_true, false_imp_iff, true_and, and_true, if_true, if_false, List.length_cons, List.length_nil, gTuple_lst, gAdd_int, gSub_int, gIxR0, gIxR1, gIxR2, gIxR3, isSeq_tup, isSeq_list, itemsD_tup, itemsD_list, isSeq_lst, itemsD_lst, isSeq_tp, itemsD_tp, gLenTup, gLenList, enumD_map, toD_pair, toD_int, toD_str, toD_bool, ite_self, reduceIte]
  refine sLoop_ind Datum.toD (fun rest ρ => ∃ (pre : List (Int × Rule)) (x2 x3 x4 x5 : Option Cell), enumL s.items = pre ++ rest ∧ ρ = [some (.d (Datum.toD s)), some (.lst ((rowsT s pre).map Datum.toD)), x2, x3, x4, x5]) ?_ ?_ (enumL s.items) _ ⟨[], _, _, _, _, rfl, rfl⟩
  · rintro ρ ⟨pre, x2, x3, x4, x5, hpre, rfl⟩
    rw [List.append_nil] at hpre
    subst hpre
    simp only [sSeq, sSet, sSetF, sRet, sRetN, sRetF, sNext, sIf, sFor, sAsg, sDrop, sBreak, sCont, w2, w1, wF1, wF, wC, wTst, wNot, wAnd, wOr, wAndV, wOrV, wNotV, wIfE, wIsN, wNotN, wTup, wCons, wNil, wCall, wCallL, wCallB, aD, aO, aNil, wLc, wSeqI, wEnum, wZip, wRg1, wO0, wO1, wSl, wNeg, wCat, wRevL, wIsi, wIsi2, wGn, wGtup, wGcons, wGnil, wYes, wipeE, endD, lawD, wVar, wOwn, List.getD_cons_zero, List.getD_cons_succ, List.set_cons_zero, List.set_cons_succ, Bool.false_eq_true, false_imp_iff, true_and, and_true, if_true, if_false, List.length_cons, List.length_nil, gTuple_lst, gAdd_int, gSub_int, gIxR0, gIxR1, gIxR2, gIxR3, isSeq_tup, isSeq_list, itemsD_tup, itemsD_list, isSeq_lst, itemsD_lst, isSeq_tp, itemsD_tp, gLenTup, gLenList, enumD_map, toD_pair, toD_int, toD_str, toD_bool, ite_self, reduceIte]
    refine gSorted_ (α := Int × Int) (by decide) ?_
    exact h
  · rintro p rest ρ ⟨pre, x2, x3, x4, x5, hpre, rfl⟩ k hk
    have hp : p ∈ enumL s.items := by rw [hpre]; simp
    have hpl : pre.length ≤ 40 := by
      have := congrArg List.length hpre
      rw [enumL_len, List.length_append] at this
      omega
    obtain ⟨j, hj, hx⟩ := enumL_at hp
    have hjl : j < s.items.length := (List.getElem?_eq_some_iff.mp hx).1
    have hrl := rowsT_len s pre
    have hmul : pre.length * s.items.length ≤ 40 * 40 := Nat.mul_le_mul hpl hl
    have ht := hs.tag p.2 (List.mem_of_getElem? hx)
    unfold B_tied_pairs_0
    simp only [sSeq, sSet, sSetF, sRet, sRetN, sRetF, sNext, sIf, sFor, sAsg, sDrop, sBreak, sCont, w2, w1, wF1, wF, wC, wTst, wNot, wAnd, wOr, wAndV, wOrV, wNotV, wIfE, wIsN, wNotN, wTup, wCons, wNil, wCall, wCallL, wCallB, aD, aO, aNil, wLc, wSeqI, wEnum, wZip, wRg1, wO0, wO1, wSl, wNeg, wCat, wRevL, wIsi, wIsi2, wGn, wGtup, wGcons, wGnil, wYes, wipeE, endD, lawD, wVar, wOwn, List.getD_cons_zero, List.getD_cons_succ, List.set_cons_zero, List.set_cons_succ, Bool.false_eq_true, false_imp_iff, true_and, and_true, if_true, if_false, List.length_cons, List.length_nil, gTuple_lst, gAdd_int, gSub_int, gIxR0, gIxR1, gIxR2, gIxR3, isSeq_tup, isSeq_list, itemsD_tup, itemsD_list, isSeq_lst, itemsD_lst, isSeq_tp, itemsD_tp, gLenTup, gLenList, enumD_map, toD_pair, toD_int, toD_str, toD_bool, ite_self, reduceIte]
    rw [hj]
    refine ⟨by omega, by omega, ?_⟩
    rw [rgD_take s.items (Nat.le_of_lt hjl)]
    rw [← hj]
    refine sLoop_ind (fun q : Int × Rule => Datum.toD q.1) (fun rest2 ρ => ∃ (pre2 : List (Int × Rule)) (x4 x5 : Option Cell), (enumL s.items).take j = pre2 ++ rest2 ∧
      ρ = [some (.d (Datum.toD s)), some (.lst ((rowsT s pre ++ (pre2.filter (tiedB s p)).map fun q => (q.1, p.1)).map Datum.toD)), some (.d (.int p.1)), some (.d (Datum.toD p.2)), x4, x5]) ?_ ?_ ((enumL s.items).take j) _ ⟨[], x4, x5, rfl, by simp⟩
    · rintro ρ ⟨pre2, x4, x5, hpre2, rfl⟩
      rw [List.append_nil] at hpre2
      have e : rowsT s pre ++ (pre2.filter (tiedB s p)).map (fun q => (q.1, p.1)) = rowsT s (pre ++ [p]) := by
        rw [← hpre2]
        unfold rowsT
        rw [List.flatMap_append, List.flatMap_singleton, show p.1.toNat = j by omega]
      rw [e]
      exact hk _ ⟨pre ++ [p], _, _, _, _, by rw [hpre]; simp, rfl⟩
    · rintro q rest2 ρ ⟨pre2, x4, x5, hpre2, rfl⟩ k2 hk2
      have hq : q ∈ enumL s.items := List.mem_of_mem_take (i := j) (by rw [hpre2]; simp)
      obtain ⟨i, _, hy⟩ := enumL_at hq
      have htq := hs.tag q.2 (List.mem_of_getElem? hy)
      have hp2 : pre2.length ≤ 40 := by
        have e3 := congrArg List.length hpre2
        rw [List.length_take, enumL_len, List.length_append] at e3
        omega
      have hf : (pre2.filter (tiedB s p)).length ≤ 40 := Nat.le_trans (List.length_filter_le ..) hp2
      have skip : tiedB s p q = false → k2 [some (.d (Datum.toD s)), some (.lst ((rowsT s pre ++ (pre2.filter (tiedB s p)).map fun q => (q.1, p.1)).map Datum.toD)), some (.d (.int p.1)), some (.d (Datum.toD p.2)), some (.d (.int q.1)), some (.d (Datum.toD q.2))] := fun hb => by
        have e : pre2.filter (tiedB s p) = (pre2 ++ [q]).filter (tiedB s p) := by
          rw [List.filter_append, List.filter_cons_of_neg (by rw [hb]; simp)]
          simp
        rw [e]
        exact hk2 _ ⟨pre2 ++ [q], _, _, by rw [hpre2]; simp, rfl⟩
      unfold B_tied_pairs_1
      simp only [sSeq, sSet, sSetF, sRet, sRetN, sRetF, sNext, sIf, sFor, sAsg, sDrop, sBreak, sCont, w2, w1, wF1, wF, wC, wTst, wNot, wAnd, wOr, wAndV, wOrV, wNotV, wIfE, wIsN, wNotN, wTup, wCons, wNil, wCall, wCallL, wCallB, aD, aO, aNil, wLc, wSeqI, wEnum, wZip, wRg1, wO0, wO1, wSl, wNeg, wCat, wRevL, wIsi, wIsi2, wGn, wGtup, wGcons, wGnil, wYes, wipeE, endD, lawD, wVar, wOwn, List.getD_cons_zero, List.getD_cons_succ, List.set_cons_zero, List.set_cons_succ, Bool.false_eq_true, false_imp_iff, true_and, and_true, if_true, if_false, List.length_cons, List.length_nil, gTuple_lst, gAdd_int, gSub_int, gIxR0, gIxR1, gIxR2, gIxR3, isSeq_tup, isSeq_list, itemsD_tup, itemsD_list, isSeq_lst, itemsD_lst, isSeq_tp, itemsD_tp, gLenTup, gLenList, enumD_map, toD_pair, toD_int, toD_str, toD_bool, ite_self, reduceIte,  sApp]
      refine gIxT_ (mem_atI hq) ?_
      simp only [sSeq, sSet, sSetF, sRet, sRetN, sRetF, sNext, sIf, sFor, sAsg, sDrop, sBreak, sCont, w2, w1, wF1, wF, wC, wTst, wNot, wAnd, wOr, wAndV, wOrV, wNotV, wIfE, wIsN, wNotN, wTup, wCons, wNil, wCall, wCallL, wCallB, aD, aO, aNil, wLc, wSeqI, wEnum, wZip, wRg1, wO0, wO1, wSl, wNeg, wCat, wRevL, wIsi, wIsi2, wGn, wGtup, wGcons, wGnil, wYes, wipeE, endD, lawD, wVar, wOwn, List.getD_cons_zero, List.getD_cons_succ, List.set_cons_zero, List.set_cons_succ, Bool.false_eq_true, false_imp_iff, true_and, and_true, if_true, if_false, List.length_cons, List.length_nil, gTuple_lst, gAdd_int, gSub_int, gIxR0, gIxR1, gIxR2, gIxR3, isSeq_tup, isSeq_list, itemsD_tup, itemsD_list, isSeq_lst, itemsD_lst, isSeq_tp, itemsD_tp, gLenTup, gLenList, enumD_map, toD_pair, toD_int, toD_str, toD_bool, ite_self, reduceIte]
      refine gEqC (α := Str) (by decide) (fun z1 => ?_) (fun z1 => ?_)
      · (dsimp only; first | rw [if_pos rfl] | rw [if_neg (by simp)])
        refine ⟨q.2, rfl, ?_⟩
        refine ⟨p.2, rfl, ?_⟩
        refine gEqC (α := Int × Int) (by decide) (fun z2 => ?_) (fun z2 => ?_)
        · (dsimp only; first | rw [if_pos rfl] | rw [if_neg (by simp)])
          refine ⟨q.2.a, p.2.a, rfl, htq, ht, ?_⟩
          refine ⟨s, unionT q.2.a p.2.a, p.2.c, rfl, ?_⟩
          refine gEqC (α := Option Int) (b := some p.1) (by decide) (fun z3 => ?_) (fun z3 => ?_)
          · (dsimp only; first | rw [if_pos rfl] | rw [if_neg (by simp)])
            refine ⟨by rw [List.length_map, List.length_append, List.length_map, sizeLine_eq]; omega, ?_⟩
            have hb : tiedB s p q = true := by
              unfold tiedB
              rw [decide_eq_true z1, decide_eq_true z2, decide_eq_true z3]
              rfl
            have e : (rowsT s pre ++ (pre2.filter (tiedB s p)).map fun q => (q.1, p.1)).map Datum.toD ++ [PyData.tuple [.int q.1, .int p.1]] = (rowsT s pre ++ ((pre2 ++ [q]).filter (tiedB s p)).map fun q => (q.1, p.1)).map Datum.toD := by
              rw [List.filter_append, List.filter_cons_of_pos hb]
              simp only [List.map_append, List.append_assoc]
              rfl
            rw [e]
            exact hk2 _ ⟨pre2 ++ [q], _, _, by rw [hpre2]; simp, rfl⟩
          · (dsimp only; first | rw [if_pos rfl] | rw [if_neg (by simp)])
            refine skip ?_
            unfold tiedB
            rw [decide_eq_false z3]
            simp
        · (dsimp only; first | rw [if_pos rfl] | rw [if_neg (by simp)])
          refine skip ?_
          unfold tiedB
          rw [decide_eq_false z2]
          simp
      · (dsimp only; first | rw [if_pos rfl] | rw [if_neg (by simp)])
        refine skip ?_
        unfold tiedB
        rw [decide_eq_false z1]
        simp
theorem tied_mem {s : Sheet} {x : Int × Int} : x ∈ tiedL s ↔ ∃ p ∈ enumL s.items, ∃ q ∈ enumL s.items, q.1 < p.1 ∧ tiedB s p q = true ∧ x = (q.1, p.1) := by
  unfold tiedL rowsT
  rw [List.mem_mergeSort, List.mem_flatMap]
  have htake : ∀ (p q : Int × Rule), p ∈ enumL s.items → (q ∈ (enumL s.items).take p.1.toNat ↔ q ∈ enumL s.items ∧ q.1 < p.1) := fun p q hp => by
    obtain ⟨j, hj, _⟩ := enumL_at hp
    rw [hj, Int.toNat_natCast]
    constructor
    · intro h
      obtain ⟨i, hi⟩ := List.mem_iff_getElem?.mp h
      have hij : i < j := by
        have := (List.getElem?_eq_some_iff.mp hi).1
        rw [List.length_take] at this
        omega
      rw [List.getElem?_take_of_lt hij] at hi
      have hq := List.mem_of_getElem? hi
      refine ⟨hq, ?_⟩
      unfold enumL at hi
      rw [List.getElem?_mapIdx] at hi
      cases hx : s.items[i]? with
      | none => rw [hx] at hi; cases hi
      | some r =>
        rw [hx] at hi
        have := congrArg Prod.fst (Option.some.inj hi)
        have this : (i : Int) = q.1 := this
        omega
    · rintro ⟨h1, h2⟩
      obtain ⟨i, hi, hx⟩ := enumL_at h1
      rw [List.mem_iff_getElem?]
      refine ⟨i, ?_⟩
      rw [List.getElem?_take_of_lt (by omega)]
      unfold enumL
      rw [List.getElem?_mapIdx, hx]
      show some ((i : Int), q.2) = some q
      rw [← hi]
  constructor
  · rintro ⟨p, hp, h⟩
    obtain ⟨q, hq, rfl⟩ := List.mem_map.mp h
    obtain ⟨h1, h2⟩ := List.mem_filter.mp hq
    obtain ⟨h3, h4⟩ := (htake p q hp).mp h1
    exact ⟨p, hp, q, h3, h4, h2, rfl⟩
  · rintro ⟨p, hp, q, hq, hlt, hb, rfl⟩
    exact ⟨p, hp, List.mem_map.mpr ⟨q, List.mem_filter.mpr ⟨(htake p q hp).mpr ⟨hq, hlt⟩, hb⟩, rfl⟩⟩
end Dat

/-! Part: the smallest part of a sheet. -/
namespace Dat
open PySem PySem.Spec PyProof.Rows L2
open PySem.W (Datum DatumOrd Tup T3)

section
variable {α : Type}
def subsG : List α → List (Tup α) → List (Tup α)
  | [], f => f
  | t :: ts, f => subsG ts (f ++ f.map fun e => Tup.mk (e.items ++ [t]))
theorem subsG_mem : ∀ (ts : List α) (f : List (Tup α)) (e : Tup α), e ∈ subsG ts f ↔ ∃ b ∈ f, ∃ g : List α, g.Sublist ts ∧ e = Tup.mk (b.items ++ g)
  | [], f, e => by
    unfold subsG
    constructor
    · exact fun h => ⟨e, h, [], List.Sublist.refl _, by rw [List.append_nil]⟩
    · rintro ⟨b, hb, g, hg, rfl⟩
      rw [List.sublist_nil.mp hg, List.append_nil]
      exact hb
  | t :: ts, f, e => by
    unfold subsG
    rw [subsG_mem ts]
    constructor
    · rintro ⟨b, hb, g, hg, rfl⟩
      rcases List.mem_append.mp hb with h | h
      · exact ⟨b, h, g, hg.cons t, rfl⟩
      · obtain ⟨b', hb', rfl⟩ := List.mem_map.mp h
        exact ⟨b', hb', t :: g, hg.cons_cons t, by simp⟩
    · rintro ⟨b, hb, g, hg, rfl⟩
      cases hg with
      | cons _ h => exact ⟨b, List.mem_append_left _ hb, g, h, rfl⟩
      | cons_cons _ h => exact ⟨Tup.mk (b.items ++ [t]), List.mem_append_right _ (List.mem_map.mpr ⟨b, hb, rfl⟩), _, h, by simp⟩
theorem subsG_len : ∀ (ts : List α) (f : List (Tup α)), (subsG ts f).length = f.length * 2 ^ ts.length
  | [], f => by
    unfold subsG
    simp
  | t :: ts, f => by
    unfold subsG
    rw [subsG_len ts, List.length_append, List.length_map, List.length_cons, Nat.pow_succ, ← Nat.two_mul, Nat.mul_comm 2, Nat.mul_assoc, Nat.mul_comm 2]
end
abbrev Prt := Tup Int
def rangeL (n : Nat) : List Int := (List.range n).map fun i : Nat => (i : Int)
def rowI (p : Prt) : Int × Prt := ((p.items.length : Int), p)
def partsL (n : Nat) : List Prt := (((subsG (rangeL n) [Tup.mk []]).map rowI).mergeSort leOf).map (·.2)
theorem rgD_range (n : Nat) : rgD (n : Int) = (rangeL n).map Datum.toD := by
  unfold rgD rangeL
  rw [Int.toNat_natCast, List.map_map]
  rfl
theorem parts_mem {n : Nat} {p : Prt} : p ∈ partsL n ↔ p.items.Sublist (rangeL n) := by
  unfold partsL
  rw [List.mem_map]
  constructor
  · rintro ⟨x, hx, rfl⟩
    rw [List.mem_mergeSort] at hx
    obtain ⟨q, hq, rfl⟩ := List.mem_map.mp hx
    obtain ⟨b, hb, g, hg, rfl⟩ := (subsG_mem _ _ _).mp hq
    simp at hb
    subst hb
    exact hg
  · intro h
    exact ⟨rowI p, List.mem_mergeSort.mpr (List.mem_map.mpr ⟨p, (subsG_mem _ _ _).mpr ⟨Tup.mk [], by simp, p.items, h, rfl⟩, rfl⟩), rfl⟩
theorem parts_sorted (n : Nat) : (partsL n).Pairwise fun a b => leOf (rowI a) (rowI b) = true := by
  unfold partsL
  rw [List.pairwise_map]
  refine List.Pairwise.imp_of_mem ?_ (sorted_pair ((subsG (rangeL n) [Tup.mk []]).map rowI))
  intro a b ha hb h
  rw [List.mem_mergeSort] at ha hb
  obtain ⟨x, _, rfl⟩ := List.mem_map.mp ha
  obtain ⟨y, _, rfl⟩ := List.mem_map.mp hb
  exact h
theorem parts_len (n : Nat) : (partsL n).length = 2 ^ n := by
  unfold partsL
  rw [List.length_map, List.length_mergeSort, List.length_map, subsG_len]
  unfold rangeL
  rw [List.length_map, List.length_range]
  exact Nat.one_mul _
def C_parts : Con := fun cs P => ∃ n : Nat, cs = [.d (.int n)] ∧ n ≤ 10 ∧ P (Datum.toD (partsL n))
def B_parts_0 : WS :=
  (sSet 1 (w2 gAdd (wVar 1) (wF (wLc (wSeqI (wVar 1)) (wGn 3) wYes (w2 gAdd (wVar 3) (wTup (wCons (wVar 2) wNil))) [3]))))
def W_parts : WS :=
  (sSeq (sSet 1 (wF (wCons (wTup wNil) wNil)))
    (sSeq (sFor (wRg1 (wVar 0)) (wGn 2) B_parts_0)
    (sRet (wF (wLc (wSeqI (wF (wF1 gSorted (wF (wLc (wSeqI (wVar 1)) (wGn 3) wYes (wTup (wCons (w1 gLen (wVar 3)) (wCons (wVar 3) wNil))) [3]))))) (wGtup 2 (wGcons (wGn 4) (wGcons (wGn 3) wGnil))) wYes (wVar 3) [3, 4])))))

theorem loop_parts {c : Cell} {D : DEnds} : ∀ (rest : List Int) (f : List Prt) (x2 x3 x4 : Option Cell), f.length * 2 ^ rest.length ≤ 1024 → (∀ e ∈ f, e.items.length + rest.length ≤ 1000) → (∀ x2 x3 x4, D.nx [some c, some (.d (.list ((subsG rest f).map Datum.toD))), x2, x3, x4]) →
    sLoop (wGn 2) B_parts_0 D (rest.map Datum.toD) [some c, some (.d (.list (f.map Datum.toD))), x2, x3, x4]
  | [], f, x2, x3, x4, _, _, h => h x2 x3 x4
  | t :: rest, f, x2, x3, x4, hz, hl, h => by
    rw [List.length_cons, Nat.pow_succ] at hz
    have hp : 0 < 2 ^ rest.length := Nat.pow_pos (by decide)
    have hf : f.length * 1 ≤ f.length * 2 ^ rest.length := Nat.mul_le_mul_left _ hp
    have e0 : f.length * (2 ^ rest.length * 2) = f.length * 2 ^ rest.length + f.length * 2 ^ rest.length := by rw [← Nat.mul_assoc]; omega
    rw [List.map_cons, sLoop_cons]
    generalize hK : sLoop (wGn 2) B_parts_0 D (rest.map Datum.toD) = k
    unfold B_parts_0
    simp only [sSeq, sSet, sSetF, sRet, sRetN, sRetF, sNext, sIf, sFor, sAsg, sDrop, sBreak, sCont, w2, w1, wF1, wF, wC, wTst, wNot, wAnd, wOr, wAndV, wOrV, wNotV, wIfE, wIsN, wNotN, wTup, wCons, wNil, wCall, wCallL, wCallB, aD, aO, aNil, wLc, wSeqI, wEnum, wZip, wRg1, wO0, wO1, wSl, wNeg, wCat, wRevL, wIsi, wIsi2, wGn, wGtup, wGcons, wGnil, wYes, wipeE, endD, lawD, wVar, wOwn, List.getD_cons_zero, List.getD_cons_succ, List.set_cons_zero, List.set_cons_succ, Bool.false_eq_true, false_imp_iff, true_and, and_true, if_true, if_false, List.length_cons, List.length_nil, gTuple_lst, gAdd_int, gSub_int, gIxR0, gIxR1, gIxR2, gIxR3, isSeq_tup, isSeq_list, itemsD_tup, itemsD_list, isSeq_lst, itemsD_lst, isSeq_tp, itemsD_tp, gLenTup, gLenList, enumD_map, toD_pair, toD_int, toD_str, toD_bool, ite_self, reduceIte]
    subst hK
    refine wComp_m Datum.toD (fun e => Datum.toD (Tup.mk (e.items ++ [t]))) _ (fun e he Q q => ?_) ?_
    · simp only [sSeq, sSet, sSetF, sRet, sRetN, sRetF, sNext, sIf, sFor, sAsg, sDrop, sBreak, sCont, w2, w1, wF1, wF, wC, wTst, wNot, wAnd, wOr, wAndV, wOrV, wNotV, wIfE, wIsN, wNotN, wTup, wCons, wNil, wCall, wCallL, wCallB, aD, aO, aNil, wLc, wSeqI, wEnum, wZip, wRg1, wO0, wO1, wSl, wNeg, wCat, wRevL, wIsi, wIsi2, wGn, wGtup, wGcons, wGnil, wYes, wipeE, endD, lawD, wVar, wOwn, List.getD_cons_zero, List.getD_cons_succ, List.set_cons_zero, List.set_cons_succ, Bool.false_eq_true, false_imp_iff, true_and, and_true, if_true, if_false, List.length_cons, List.length_nil, gTuple_lst, gAdd_int, gSub_int, gIxR0, gIxR1, gIxR2, gIxR3, isSeq_tup, isSeq_list, itemsD_tup, itemsD_list, isSeq_lst, itemsD_lst, isSeq_tp, itemsD_tp, gLenTup, gLenList, enumD_map, toD_pair, toD_int, toD_str, toD_bool, ite_self, reduceIte]
      refine gAddT_ (ys := Tup.mk [t]) ?_ q
      have := hl e he
      show e.items.length + 1 ≤ 16777216
      omega
    · have e1 : List.map (fun e : Prt => Datum.toD (Tup.mk (e.items ++ [t]))) f = (f.map fun e : Prt => Tup.mk (e.items ++ [t])).map Datum.toD := by
        rw [List.map_map]
        rfl
      rw [e1]
      refine gAddL_ (by rw [List.length_map]; omega) ?_
      refine loop_parts rest (f ++ f.map fun e => Tup.mk (e.items ++ [t])) _ _ _ ?_ (fun e he => ?_) h
      · rw [List.length_append, List.length_map, Nat.add_mul]
        omega
      · rcases List.mem_append.mp he with q | q
        · have := hl e q
          simp at this
          omega
        · obtain ⟨e', q1, rfl⟩ := List.mem_map.mp q
          have := hl e' q1
          simp at this ⊢
          omega
theorem body_parts : ∀ cs P, cs.length = 1 → C_parts cs P → noOwn cs ∧ W_parts (startE 5 cs) (endD false P) := by
  rintro cs P _ ⟨n, rfl, hn, h⟩
  refine ⟨noOwn1, ?_⟩
  show W_parts [some (.d (.int n)), none, none, none, none] _
  unfold W_parts
  simp only [sSeq, sSet, sSetF, sRet, sRetN, sRetF, sNext, sIf, sFor, sAsg, sDrop, sBreak, sCont, w2, w1, wF1, wF, wC, wTst, wNot, wAnd, wOr, wAndV, wOrV, wNotV, wIfE, wIsN, wNotN, wTup, wCons, wNil, wCall, wCallL, wCallB, aD, aO, aNil, wLc, wSeqI, wEnum, wZip, wRg1, wO0, wO1, wSl, wNeg, wCat, wRevL, wIsi, wIsi2, wGn, wGtup, wGcons, wGnil, wYes, wipeE, endD, lawD, wVar, wOwn, List.getD_cons_zero, List.getD_cons_succ, List.set_cons_zero, List.set_cons_succ, Bool.false_eq_true, false_imp_iff, true_and, and_true, if_true, if_false, List.length_cons, List.length_nil, gTuple_lst, gAdd_int, gSub_int, gIxR0, gIxR1, gIxR2, gIxR3, isSeq_tup, isSeq_list, itemsD_tup, itemsD_list, isSeq_lst, itemsD_lst, isSeq_tp, itemsD_tp, gLenTup, gLenList, enumD_map, toD_pair, toD_int, toD_str, toD_bool, ite_self, reduceIte]
  refine ⟨by omega, by omega, ?_⟩
  rw [rgD_range]
  have hr : (rangeL n).length = n := by unfold rangeL; rw [List.length_map, List.length_range]
  refine loop_parts (rangeL n) [Tup.mk []] _ _ _ ?_ (fun e he => ?_) fun x2 x3 x4 => ?_
  · rw [hr]
    have : 2 ^ n ≤ 2 ^ 10 := Nat.pow_le_pow_right (by decide) hn
    show 1 * _ ≤ 1024
    omega
  · simp at he
    subst he
    rw [hr]
    show 0 + _ ≤ 1000
    omega
  · simp only [sSeq, sSet, sSetF, sRet, sRetN, sRetF, sNext, sIf, sFor, sAsg, sDrop, sBreak, sCont, w2, w1, wF1, wF, wC, wTst, wNot, wAnd, wOr, wAndV, wOrV, wNotV, wIfE, wIsN, wNotN, wTup, wCons, wNil, wCall, wCallL, wCallB, aD, aO, aNil, wLc, wSeqI, wEnum, wZip, wRg1, wO0, wO1, wSl, wNeg, wCat, wRevL, wIsi, wIsi2, wGn, wGtup, wGcons, wGnil, wYes, wipeE, endD, lawD, wVar, wOwn, List.getD_cons_zero, List.getD_cons_succ, List.set_cons_zero, List.set_cons_succ, Bool.false_eq_true, false_imp_iff, true_and, and_true, if_true, if_false, List.length_cons, List.length_nil, gTuple_lst, gAdd_int, gSub_int, gIxR0, gIxR1, gIxR2, gIxR3, isSeq_tup, isSeq_list, itemsD_tup, itemsD_list, isSeq_lst, itemsD_lst, isSeq_tp, itemsD_tp, gLenTup, gLenList, enumD_map, toD_pair, toD_int, toD_str, toD_bool, ite_self, reduceIte]
    refine wComp_m Datum.toD (fun p : Prt => Datum.toD (rowI p)) _ (fun p _ Q q => ?_) ?_
    · simp only [sSeq, sSet, sSetF, sRet, sRetN, sRetF, sNext, sIf, sFor, sAsg, sDrop, sBreak, sCont, w2, w1, wF1, wF, wC, wTst, wNot, wAnd, wOr, wAndV, wOrV, wNotV, wIfE, wIsN, wNotN, wTup, wCons, wNil, wCall, wCallL, wCallB, aD, aO, aNil, wLc, wSeqI, wEnum, wZip, wRg1, wO0, wO1, wSl, wNeg, wCat, wRevL, wIsi, wIsi2, wGn, wGtup, wGcons, wGnil, wYes, wipeE, endD, lawD, wVar, wOwn, List.getD_cons_zero, List.getD_cons_succ, List.set_cons_zero, List.set_cons_succ, Bool.false_eq_true, false_imp_iff, true_and, and_true, if_true, if_false, List.length_cons, List.length_nil, gTuple_lst, gAdd_int, gSub_int, gIxR0, gIxR1, gIxR2, gIxR3, isSeq_tup, isSeq_list, itemsD_tup, itemsD_list, isSeq_lst, itemsD_lst, isSeq_tp, itemsD_tp, gLenTup, gLenList, enumD_map, toD_pair, toD_int, toD_str, toD_bool, ite_self, reduceIte]
      exact q
    have e1 : List.map (fun p : Prt => Datum.toD (rowI p)) (subsG (rangeL n) [Tup.mk []]) = ((subsG (rangeL n) [Tup.mk []]).map rowI).map Datum.toD := by
      rw [List.map_map]
      rfl
    rw [e1]
    refine gSorted_ (α := Int × Prt) (by decide) ?_
    refine wComp_m Datum.toD (fun x : Int × Prt => Datum.toD x.2) _ (fun x _ Q q => ?_) ?_
    · simp only [sSeq, sSet, sSetF, sRet, sRetN, sRetF, sNext, sIf, sFor, sAsg, sDrop, sBreak, sCont, w2, w1, wF1, wF, wC, wTst, wNot, wAnd, wOr, wAndV, wOrV, wNotV, wIfE, wIsN, wNotN, wTup, wCons, wNil, wCall, wCallL, wCallB, aD, aO, aNil, wLc, wSeqI, wEnum, wZip, wRg1, wO0, wO1, wSl, wNeg, wCat, wRevL, wIsi, wIsi2, wGn, wGtup, wGcons, wGnil, wYes, wipeE, endD, lawD, wVar, wOwn, List.getD_cons_zero, List.getD_cons_succ, List.set_cons_zero, List.set_cons_succ, Bool.false_eq_true, false_imp_iff, true_and, and_true, if_true, if_false, List.length_cons, List.length_nil, gTuple_lst, gAdd_int, gSub_int, gIxR0, gIxR1, gIxR2, gIxR3, isSeq_tup, isSeq_list, itemsD_tup, itemsD_list, isSeq_lst, itemsD_lst, isSeq_tp, itemsD_tp, gLenTup, gLenList, enumD_map, toD_pair, toD_int, toD_str, toD_bool, ite_self, reduceIte]
      exact q
    have h : P (.list ((partsL n).map Datum.toD)) := h
    unfold partsL at h
    rw [List.map_map] at h
    exact h

/-! ### the value that a part gives -/
def firstV (s : Sheet) (row : List Int) (p : Prt) : Option Str := ((row.filter fun i => decide (i ∈ p.items)).head?).bind fun i => (L2.atI s.items i).map (·.d)
theorem pair_head {α : Type} [DecidableEq α] [DatumOrd α] [LeL α] {m : List α} {k : α} (hp : m.Pairwise fun a b => leOf a b = true) (hk : k ∈ m) (h : ∀ y ∈ m, leOf y k = true) : m.reverse.head? = some k := by
  rw [List.head?_reverse]
  cases q : m.getLast? with
  | none =>
    rw [List.getLast?_eq_none_iff] at q
    rw [q] at hk
    cases hk
  | some z =>
    obtain ⟨ys, e⟩ := List.getLast?_eq_some_iff.mp q
    subst e
    rw [List.pairwise_append] at hp
    have hkz : leOf k z = true := by
      rcases List.mem_append.mp hk with h1 | h1
      · exact hp.2.2 k h1 z (List.mem_singleton_self _)
      · rw [List.mem_singleton.mp h1]; exact leOf_refl _
    rw [leOf_anti (h z (by simp)) hkz]
def pickP (s : Sheet) (p : Prt) : List (Int × Rule) := (enumL s.items).filter fun x => decide (x.1 ∈ p.items)
def pickS (s : Sheet) (p : Prt) : Sheet := Tup.mk ((pickP s p).map (·.2))
theorem pick_pair (s : Sheet) (p : Prt) : (pickP s p).Pairwise fun a b => a.1 < b.1 := (enumL_pair s.items).filter _
theorem first_val (s : Sheet) (e : Tags) (n : Str) (p : Prt) : firstV s (rankL s e n) p = valO (pickS s p) e n := by
  have hf : (rankL s e n).filter (fun i => decide (i ∈ p.items)) = ((((((enumL s.items).filter (goodP e n)).map keyOf).mergeSort leOf).filter fun k => decide (k.2 ∈ p.items)).reverse).map (·.2) := by
    rw [rankL_of]
    unfold rankOf
    rw [List.filter_map, List.filter_reverse]
    rfl
  have hmem : ∀ k, k ∈ ((((enumL s.items).filter (goodP e n)).map keyOf).mergeSort leOf).filter (fun k => decide (k.2 ∈ p.items)) ↔ ∃ x ∈ pickP s p, goodP e n x = true ∧ keyOf x = k := fun k => by
    rw [List.mem_filter, List.mem_mergeSort, List.mem_map]
    unfold pickP
    constructor
    · rintro ⟨⟨x, hx, rfl⟩, h2⟩
      obtain ⟨h3, h4⟩ := List.mem_filter.mp hx
      exact ⟨x, List.mem_filter.mpr ⟨h3, h2⟩, h4, rfl⟩
    · rintro ⟨x, hx, hg, rfl⟩
      obtain ⟨h3, h4⟩ := List.mem_filter.mp hx
      exact ⟨⟨x, List.mem_filter.mpr ⟨h3, hg⟩, rfl⟩, h4⟩
  unfold firstV
  rw [hf, List.head?_map]
  by_cases hne : (pickP s p).filter (goodP e n) = []
  · have e0 : ((((enumL s.items).filter (goodP e n)).map keyOf).mergeSort leOf).filter (fun k => decide (k.2 ∈ p.items)) = [] := by
      cases q : ((((enumL s.items).filter (goodP e n)).map keyOf).mergeSort leOf).filter (fun k => decide (k.2 ∈ p.items)) with
      | nil => rfl
      | cons k ks =>
        obtain ⟨x, hx, hg, _⟩ := (hmem k).mp (by rw [q]; exact List.mem_cons_self ..)
        have : x ∈ (pickP s p).filter (goodP e n) := List.mem_filter.mpr ⟨hx, hg⟩
        rw [hne] at this
        cases this
    rw [e0]
    unfold pickS
    rw [valO_part_none hne]
    rfl
  · obtain ⟨x, t⟩ : ∃ x, Top e n (pickP s p) x := by
      cases hw : winI (pickS s p) e n with
      | none =>
        have := win_part_none hw
        exact absurd this hne
      | some k =>
        obtain ⟨j, x, _, h1, h2, h3⟩ := win_part (pick_pair s p) hw
        exact ⟨x, List.mem_of_getElem? h1, h2, h3⟩
    rw [pair_head (k := keyOf x) ((sorted_pair _).filter _) ((hmem _).mpr ⟨x, t.mem, t.good, rfl⟩) fun y hy => ?_]
    · unfold pickS
      rw [valO_part (pick_pair s p) t]
      show (L2.atI s.items x.1).map (·.d) = _
      rw [mem_atI (List.mem_filter.mp t.mem).1]
      rfl
    · obtain ⟨z, hz, hg, rfl⟩ := (hmem y).mp hy
      exact t.top z hz hg
def C_first_value : Con := fun cs P => ∃ (s : Sheet) (e : Tags) (n : Str) (p : Prt), cs = [.d (Datum.toD s), .d (Datum.toD (rankL s e n)), .d (Datum.toD p)] ∧ P (Datum.toD (valO (pickS s p) e n))
def W_first_value : WS :=
  (sSeq (sSet 3 (wF (wLc (wSeqI (wVar 1)) (wGn 4) (wTst (w2 gIn (wVar 4) (wVar 2))) (w2 gIx (w2 gIx (wVar 0) (wVar 4)) (wC (.int 3))) [4])))
    (sRet (wIfE (wTst (w2 gNe (wVar 3) (wF wNil))) (w2 gIx (wVar 3) (wC (.int 0))) (wC .none))))

theorem body_first_value : ∀ cs P, cs.length = 3 → C_first_value cs P → noOwn cs ∧ W_first_value (startE 5 cs) (endD false P) := by
  rintro cs P _ ⟨s, e, n, p, rfl, h⟩
  refine ⟨noOwn3, ?_⟩
  show W_first_value [some (.d (Datum.toD s)), some (.d (Datum.toD (rankL s e n))), some (.d (Datum.toD p)), none, none] _
  unfold W_first_value
  simp only [sSeq, sSet, sSetF, sRet, sRetN, sRetF, sNext, sIf, sFor, sAsg, sDrop, sBreak, sCont, w2, w1, wF1, wF, wC, wTst, wNot, wAnd, wOr, wAndV, wOrV, wNotV, wIfE, wIsN, wNotN, wTup, wCons, wNil, wCall, wCallL, wCallB, aD, aO, aNil, wLc, wSeqI, wEnum, wZip, wRg1, wO0, wO1, wSl, wNeg, wCat, wRevL, wIsi, wIsi2, wGn, wGtup, wGcons, wGnil, wYes, wipeE, endD, lawD, wVar, wOwn, List.getD_cons_zero, List.getD_cons_succ, List.set_cons_zero, List.set_cons_succ, Bool.false_eq_true, false_imp_iff, true_and, and_true, if_true, if_false, List.length_cons, List.length_nil, gTuple_lst, gAdd_int, gSub_int, gIxR0, gIxR1, gIxR2, gIxR3, isSeq_tup, isSeq_list, itemsD_tup, itemsD_list, isSeq_lst, itemsD_lst, isSeq_tp, itemsD_tp, gLenTup, gLenList, enumD_map, toD_pair, toD_int, toD_str, toD_bool, ite_self, reduceIte]
  have hat : ∀ i ∈ rankL s e n, ∃ r, L2.atI s.items i = some r := fun i hi => by
    obtain ⟨r, h1, _⟩ := winI_mem hi
    exact ⟨r, mem_atI h1⟩
  have hv : ∀ i ∈ rankL s e n, L2.atI s.items i = some ((L2.atI s.items i).getD ⟨Tup.mk [], 0, "", ""⟩) := fun i hi => by
    obtain ⟨r, hr⟩ := hat i hi
    rw [hr]
    rfl
  refine wComp_fme Datum.toD (fun i : Int => decide (i ∈ p.items)) (fun i => Datum.toD ((L2.atI s.items i).getD ⟨Tup.mk [], 0, "", ""⟩).d) (rankL s e n) rfl (fun i hi Q R h1 h2 => ?_) ?_
  · simp only [sSeq, sSet, sSetF, sRet, sRetN, sRetF, sNext, sIf, sFor, sAsg, sDrop, sBreak, sCont, w2, w1, wF1, wF, wC, wTst, wNot, wAnd, wOr, wAndV, wOrV, wNotV, wIfE, wIsN, wNotN, wTup, wCons, wNil, wCall, wCallL, wCallB, aD, aO, aNil, wLc, wSeqI, wEnum, wZip, wRg1, wO0, wO1, wSl, wNeg, wCat, wRevL, wIsi, wIsi2, wGn, wGtup, wGcons, wGnil, wYes, wipeE, endD, lawD, wVar, wOwn, List.getD_cons_zero, List.getD_cons_succ, List.set_cons_zero, List.set_cons_succ, Bool.false_eq_true, false_imp_iff, true_and, and_true, if_true, if_false, List.length_cons, List.length_nil, gTuple_lst, gAdd_int, gSub_int, gIxR0, gIxR1, gIxR2, gIxR3, isSeq_tup, isSeq_list, itemsD_tup, itemsD_list, isSeq_lst, itemsD_lst, isSeq_tp, itemsD_tp, gLenTup, gLenList, enumD_map, toD_pair, toD_int, toD_str, toD_bool, ite_self, reduceIte]
    refine gInTC (α := Int) (by decide) (fun z => ?_) fun z => h2 (decide_eq_false z)
    (dsimp only; first | rw [if_pos rfl] | rw [if_neg (by simp)])
    refine gIxT_ (hv i hi) ?_
    rw [gIxR3]
    exact h1 (decide_eq_true z)
  · rw [← first_val] at h
    unfold firstV at h
    have e1 : List.map (fun i : Int => Datum.toD ((L2.atI s.items i).getD ⟨Tup.mk [], 0, "", ""⟩).d) ((rankL s e n).filter fun i => decide (i ∈ p.items)) = (((rankL s e n).filter fun i => decide (i ∈ p.items)).map fun i => ((L2.atI s.items i).getD ⟨Tup.mk [], 0, "", ""⟩).d).map Datum.toD := by
      rw [List.map_map]
      rfl
    rw [e1]
    refine gNeC (α := List Str) (b := []) (by decide) (fun z => ?_) fun z => ?_
    · (dsimp only; first | rw [if_pos rfl] | rw [if_neg (by simp)])
      cases q : (rankL s e n).filter fun i => decide (i ∈ p.items) with
      | nil => rw [q] at z; exact absurd rfl z
      | cons i is =>
        rw [q] at h
        have hi : i ∈ rankL s e n := (List.mem_filter.mp (by rw [q]; exact List.mem_cons_self ..)).1
        have h : P (Datum.toD ((L2.atI s.items i).map (·.d))) := h
        rw [hv i hi] at h
        exact gIxL_ (t := List.map _ (i :: is)) (i := 0) atI_zero h
    · (dsimp only; first | rw [if_pos rfl] | rw [if_neg (by simp)])
      have q : (rankL s e n).filter (fun i => decide (i ∈ p.items)) = [] := List.map_eq_nil_iff.mp z
      rw [q] at h
      exact h

/-! ### the smallest part -/
def wholeP (s : Sheet) : Prt := Tup.mk (rangeL s.items.length)
def smallB (s : Sheet) (p : Prt) : Bool := (diffO (pickS s p) s).isNone
def smallO (s : Sheet) : Prt := match minL (((partsL s.items.length).filter (smallB s)).map rowI) with
  | some r => r.2
  | none => wholeP s
theorem pick_whole (s : Sheet) : pickS s (wholeP s) = s := by
  have : pickP s (wholeP s) = enumL s.items := by
    unfold pickP
    rw [List.filter_eq_self]
    intro p hp
    obtain ⟨i, hi, hx⟩ := enumL_at hp
    refine decide_eq_true (List.mem_map.mpr ⟨i, List.mem_range.mpr (List.getElem?_eq_some_iff.mp hx).1, hi.symm⟩)
  unfold pickS
  rw [this, enum_snd]
theorem pick_mem {s : Sheet} {p : Prt} {r : Rule} (h : r ∈ (pickS s p).items) : r ∈ s.items := by
  obtain ⟨x, hx, rfl⟩ := List.mem_map.mp h
  obtain ⟨i, _, hi⟩ := enumL_at (List.mem_filter.mp hx).1
  exact List.mem_of_getElem? hi
theorem pick_sels {s : Sheet} {p : Prt} {a : Tags} (h : a ∈ sels (pickS s p)) : a ∈ sels s := by
  unfold sels at h ⊢
  rcases List.mem_cons.mp h with q | q
  · rw [q]; exact List.mem_cons_self ..
  · obtain ⟨r, hr, rfl⟩ := List.mem_map.mp q
    exact List.mem_cons_of_mem _ (List.mem_map.mpr ⟨r, pick_mem hr, rfl⟩)
theorem small_iff {s : Sheet} {p : Prt} : smallB s p = true ↔ ∀ u ∈ pairsL s s, ∀ n ∈ s.items.map (·.c), valO (pickS s p) u n = valO s u n := by
  have h0 : smallB s p = true ↔ ∀ e n, valO (pickS s p) e n = valO s e n := by
    unfold smallB
    rw [Option.isNone_iff_eq_none, diff_none]
  rw [h0]
  constructor
  · exact fun h u _ n _ => h u n
  · intro h e n
    by_cases hn : n ∈ s.items.map (·.c)
    · obtain ⟨a, ha, a1, a2⟩ := sel_of (pickS s p) e n
      obtain ⟨b, hb, b1, b2⟩ := sel_of s e n
      have sub : ∀ t ∈ (unionT a b).items, t ∈ e.items := fun t ht => (union_mem.mp ht).elim (a1 t) (b1 t)
      rw [← val_same (s := pickS s p) (n := n) sub fun p tp t ht => union_mem.mpr (.inl (a2 p tp t ht)), ← val_same (s := s) (n := n) sub fun p tp t ht => union_mem.mpr (.inr (b2 p tp t ht))]
      exact h _ (List.mem_flatMap.mpr ⟨a, pick_sels ha, List.mem_map.mpr ⟨b, hb, rfl⟩⟩) n hn
    · have z1 : valO s e n = none := by
        cases q : valO s e n with
        | none => rfl
        | some v => exact absurd (val_names (e := e) (by rw [q]; simp)) hn
      have z2 : valO (pickS s p) e n = none := by
        cases q : valO (pickS s p) e n with
        | none => rfl
        | some v =>
          obtain ⟨r, hr, e2⟩ := List.mem_map.mp (val_names (s := pickS s p) (e := e) (n := n) (by rw [q]; simp))
          exact absurd (List.mem_map.mpr ⟨r, pick_mem hr, e2⟩) hn
      rw [z1, z2]
def nmL (s : Sheet) : List Str := (s.items.map (·.c)).mergeSort leOf
def spots (s : Sheet) (us : List Tags) : List (Tags × Str) := us.flatMap fun u => (nmL s).map fun n => (u, n)
theorem spots_len (s : Sheet) (us : List Tags) : (spots s us).length = us.length * s.items.length := by
  unfold spots nmL
  induction us with
  | nil => simp
  | cons u us ih => rw [List.flatMap_cons, List.length_append, ih, List.length_map, List.length_mergeSort, List.length_map, List.length_cons, Nat.succ_mul, Nat.add_comm]
def rankAt (s : Sheet) (x : Tags × Str) : List Int := rankL s x.1 x.2
def C_smallest_part : Con := fun cs P => ∃ s : Sheet, cs = [.d (Datum.toD s)] ∧ SmallS s ∧ s.items.length ≤ 10 ∧ P (Datum.toD (smallO s))
def B_smallest_part_0 : WS :=
  (sIf (wTst (w1 gAll (wF (wLc (wSeqI (wOwn 1)) (wGn 7) wYes (w2 gEq (wCall C_first_value (aD (wVar 0) (aD (wVar 7) (aD (wVar 6) aNil)))) (wCall C_first_value (aD (wVar 0) (aD (wVar 7) (aD (wVar 5) aNil))))) [7]))))
    (sRet (wVar 6))
    sNext)
def B_smallest_part_2 : WS :=
  (sApp 1 (wCall C_ranking (aD (wVar 0) (aD (wVar 2) (aD (wVar 3) aNil)))))
def B_smallest_part_1 : WS :=
  (sFor (wSeqI (wF (wF1 gSorted (wF (wLc (wSeqI (wVar 0)) (wGn 4) wYes (w2 gIx (wVar 4) (wC (.int 2))) [4]))))) (wGn 3) B_smallest_part_2)
def W_smallest_part : WS :=
  (sSeq (sSetF 1 wNil)
    (sSeq (sFor (wSeqI (wCall C_unions (aD (wVar 0) (aD (wVar 0) aNil)))) (wGn 2) B_smallest_part_1)
    (sSeq (sSet 5 (wTup (wRg1 (w1 gLen (wVar 0)))))
    (sSeq (sFor (wSeqI (wCall C_parts (aD (w1 gLen (wVar 0)) aNil))) (wGn 6) B_smallest_part_0)
    (sRet (wVar 5))))))

theorem body_smallest_part : ∀ cs P, cs.length = 1 → C_smallest_part cs P → noOwn cs ∧ W_smallest_part (startE 8 cs) (endD false P) := by
  rintro cs P _ ⟨s, rfl, hs, hl, h⟩
  refine ⟨noOwn1, ?_⟩
  show W_smallest_part [some (.d (Datum.toD s)), none, none, none, none, none, none, none] _
  unfold W_smallest_part
  simp only [sSeq, sSet, sSetF, sRet, sRetN, sRetF, sNext, sIf, sFor, sAsg, sDrop, sBreak, sCont, w2, w1, wF1, wF, wC, wTst, wNot, wAnd, wOr, wAndV, wOrV, wNotV, wIfE, wIsN, wNotN, wTup, wCons, wNil, wCall, wCallL, wCallB, aD, aO, aNil, wLc, wSeqI, wEnum, wZip, wRg1, wO0, wO1, wSl, wNeg, wCat, wRevL, wIsi, wIsi2, wGn, wGtup, wGcons, wGnil, wYes, wipeE, endD, lawD, wVar, wOwn, List.getD_cons_zero, List.getD_cons_succ, List.set_cons_zero, List.set_cons_succ, Bool.false_eq_true, false_imp_iff, true_and, and_true, if_true, if_false, List.length_cons, List.length_nil, gTuple_lst, gAdd_int, gSub_int, gIxR0, gIxR1, gIxR2, gIxR3, isSeq_tup, isSeq_list, itemsD_tup, itemsD_list, isSeq_lst, itemsD_lst, isSeq_tp, itemsD_tp, gLenTup, gLenList, enumD_map, toD_pair, toD_int, toD_str, toD_bool, ite_self, reduceIte]
  refine ⟨s, s, rfl, hs, hs, fun us hus _ _ hul => ?_⟩
  simp only [sSeq, sSet, sSetF, sRet, sRetN, sRetF, sNext, sIf, sFor, sAsg, sDrop, sBreak, sCont, w2, w1, wF1, wF, wC, wTst, wNot, wAnd, wOr, wAndV, wOrV, wNotV, wIfE, wIsN, wNotN, wTup, wCons, wNil, wCall, wCallL, wCallB, aD, aO, aNil, wLc, wSeqI, wEnum, wZip, wRg1, wO0, wO1, wSl, wNeg, wCat, wRevL, wIsi, wIsi2, wGn, wGtup, wGcons, wGnil, wYes, wipeE, endD, lawD, wVar, wOwn, List.getD_cons_zero, List.getD_cons_succ, List.set_cons_zero, List.set_cons_succ, Bool.false_eq_true, false_imp_iff, true_and, and_true, if_true, if_false, List.length_cons, List.length_nil, gTuple_lst, gAdd_int, gSub_int, gIxR0, gIxR1, gIxR2, gIxR3, isSeq_tup, isSeq_list, itemsD_tup, itemsD_list, isSeq_lst, itemsD_lst, isSeq_tp, itemsD_tp, gLenTup, gLenList, enumD_map, toD_pair, toD_int, toD_str, toD_bool, ite_self, reduceIte]
  refine sLoop_ind Datum.toD (fun rest ρ => ∃ (pre : List Tags) (x2 x3 x4 x5 x6 x7 : Option Cell), us = pre ++ rest ∧ ρ = [some (.d (Datum.toD s)), some (.lst (((spots s pre).map (rankAt s)).map Datum.toD)), x2, x3, x4, x5, x6, x7]) ?_ ?_ us _ ⟨[], _, _, _, _, _, _, rfl, rfl⟩
  · rintro ρ ⟨pre, x2, x3, x4, x5, x6, x7, hpre, rfl⟩
    rw [List.append_nil] at hpre
    subst hpre
    simp only [sSeq, sSet, sSetF, sRet, sRetN, sRetF, sNext, sIf, sFor, sAsg, sDrop, sBreak, sCont, w2, w1, wF1, wF, wC, wTst, wNot, wAnd, wOr, wAndV, wOrV, wNotV, wIfE, wIsN, wNotN, wTup, wCons, wNil, wCall, wCallL, wCallB, aD, aO, aNil, wLc, wSeqI, wEnum, wZip, wRg1, wO0, wO1, wSl, wNeg, wCat, wRevL, wIsi, wIsi2, wGn, wGtup, wGcons, wGnil, wYes, wipeE, endD, lawD, wVar, wOwn, List.getD_cons_zero, List.getD_cons_succ, List.set_cons_zero, List.set_cons_succ, Bool.false_eq_true, false_imp_iff, true_and, and_true, if_true, if_false, List.length_cons, List.length_nil, gTuple_lst, gAdd_int, gSub_int, gIxR0, gIxR1, gIxR2, gIxR3, isSeq_tup, isSeq_list, itemsD_tup, itemsD_list, isSeq_lst, itemsD_lst, isSeq_tp, itemsD_tp, gLenTup, gLenList, enumD_map, toD_pair, toD_int, toD_str, toD_bool, ite_self, reduceIte]
    refine ⟨by omega, by omega, ?_⟩
    refine ⟨s.items.length, rfl, hl, ?_⟩
    simp only [sSeq, sSet, sSetF, sRet, sRetN, sRetF, sNext, sIf, sFor, sAsg, sDrop, sBreak, sCont, w2, w1, wF1, wF, wC, wTst, wNot, wAnd, wOr, wAndV, wOrV, wNotV, wIfE, wIsN, wNotN, wTup, wCons, wNil, wCall, wCallL, wCallB, aD, aO, aNil, wLc, wSeqI, wEnum, wZip, wRg1, wO0, wO1, wSl, wNeg, wCat, wRevL, wIsi, wIsi2, wGn, wGtup, wGcons, wGnil, wYes, wipeE, endD, lawD, wVar, wOwn, List.getD_cons_zero, List.getD_cons_succ, List.set_cons_zero, List.set_cons_succ, Bool.false_eq_true, false_imp_iff, true_and, and_true, if_true, if_false, List.length_cons, List.length_nil, gTuple_lst, gAdd_int, gSub_int, gIxR0, gIxR1, gIxR2, gIxR3, isSeq_tup, isSeq_list, itemsD_tup, itemsD_list, isSeq_lst, itemsD_lst, isSeq_tp, itemsD_tp, gLenTup, gLenList, enumD_map, toD_pair, toD_int, toD_str, toD_bool, ite_self, reduceIte]
    rw [rgD_range]
    refine sLoop_ind Datum.toD (fun rest ρ => ∃ (pre : List Prt) (x2 x3 x4 x6 x7 : Option Cell), partsL s.items.length = pre ++ rest ∧ (∀ p ∈ pre, smallB s p = false) ∧
      ρ = [some (.d (Datum.toD s)), some (.lst (((spots s us).map (rankAt s)).map Datum.toD)), x2, x3, x4, some (.d (.tuple ((rangeL s.items.length).map Datum.toD))), x6, x7]) ?_ ?_ (partsL s.items.length) _ ⟨[], _, _, _, _, _, rfl, fun p hp => (by cases hp), rfl⟩
    · rintro ρ ⟨pre, x2, x3, x4, x6, x7, hpre, hno, rfl⟩
      rw [List.append_nil] at hpre
      subst hpre
      simp only [sSeq, sSet, sSetF, sRet, sRetN, sRetF, sNext, sIf, sFor, sAsg, sDrop, sBreak, sCont, w2, w1, wF1, wF, wC, wTst, wNot, wAnd, wOr, wAndV, wOrV, wNotV, wIfE, wIsN, wNotN, wTup, wCons, wNil, wCall, wCallL, wCallB, aD, aO, aNil, wLc, wSeqI, wEnum, wZip, wRg1, wO0, wO1, wSl, wNeg, wCat, wRevL, wIsi, wIsi2, wGn, wGtup, wGcons, wGnil, wYes, wipeE, endD, lawD, wVar, wOwn, List.getD_cons_zero, List.getD_cons_succ, List.set_cons_zero, List.set_cons_succ, Bool.false_eq_true, false_imp_iff, true_and, and_true, if_true, if_false, List.length_cons, List.length_nil, gTuple_lst, gAdd_int, gSub_int, gIxR0, gIxR1, gIxR2, gIxR3, isSeq_tup, isSeq_list, itemsD_tup, itemsD_list, isSeq_lst, itemsD_lst, isSeq_tp, itemsD_tp, gLenTup, gLenList, enumD_map, toD_pair, toD_int, toD_str, toD_bool, ite_self, reduceIte]
      have e0 : (partsL s.items.length).filter (smallB s) = [] := List.filter_eq_nil_iff.mpr fun p hp => by rw [hno p hp]; simp
      unfold smallO at h
      rw [e0] at h
      exact h
    · rintro p rest ρ ⟨pre, x2, x3, x4, x6, x7, hpre, hno, rfl⟩ k hk
      unfold B_smallest_part_0
      simp only [sSeq, sSet, sSetF, sRet, sRetN, sRetF, sNext, sIf, sFor, sAsg, sDrop, sBreak, sCont, w2, w1, wF1, wF, wC, wTst, wNot, wAnd, wOr, wAndV, wOrV, wNotV, wIfE, wIsN, wNotN, wTup, wCons, wNil, wCall, wCallL, wCallB, aD, aO, aNil, wLc, wSeqI, wEnum, wZip, wRg1, wO0, wO1, wSl, wNeg, wCat, wRevL, wIsi, wIsi2, wGn, wGtup, wGcons, wGnil, wYes, wipeE, endD, lawD, wVar, wOwn, List.getD_cons_zero, List.getD_cons_succ, List.set_cons_zero, List.set_cons_succ, Bool.false_eq_true, false_imp_iff, true_and, and_true, if_true, if_false, List.length_cons, List.length_nil, gTuple_lst, gAdd_int, gSub_int, gIxR0, gIxR1, gIxR2, gIxR3, isSeq_tup, isSeq_list, itemsD_tup, itemsD_list, isSeq_lst, itemsD_lst, isSeq_tp, itemsD_tp, gLenTup, gLenList, enumD_map, toD_pair, toD_int, toD_str, toD_bool, ite_self, reduceIte]
      refine wComp_me (fun x : Tags × Str => Datum.toD (rankAt s x)) (fun x => .bool (decide (valO (pickS s p) x.1 x.2 = valO s x.1 x.2))) (spots s us) (by rw [List.map_map]; rfl) (fun x hx Q q => ?_) ?_
      · simp only [sSeq, sSet, sSetF, sRet, sRetN, sRetF, sNext, sIf, sFor, sAsg, sDrop, sBreak, sCont, w2, w1, wF1, wF, wC, wTst, wNot, wAnd, wOr, wAndV, wOrV, wNotV, wIfE, wIsN, wNotN, wTup, wCons, wNil, wCall, wCallL, wCallB, aD, aO, aNil, wLc, wSeqI, wEnum, wZip, wRg1, wO0, wO1, wSl, wNeg, wCat, wRevL, wIsi, wIsi2, wGn, wGtup, wGcons, wGnil, wYes, wipeE, endD, lawD, wVar, wOwn, List.getD_cons_zero, List.getD_cons_succ, List.set_cons_zero, List.set_cons_succ, Bool.false_eq_true, false_imp_iff, true_and, and_true, if_true, if_false, List.length_cons, List.length_nil, gTuple_lst, gAdd_int, gSub_int, gIxR0, gIxR1, gIxR2, gIxR3, isSeq_tup, isSeq_list, itemsD_tup, itemsD_list, isSeq_lst, itemsD_lst, isSeq_tp, itemsD_tp, gLenTup, gLenList, enumD_map, toD_pair, toD_int, toD_str, toD_bool, ite_self, reduceIte]
        refine ⟨s, x.1, x.2, p, rfl, ?_⟩
        refine ⟨s, x.1, x.2, wholeP s, rfl, ?_⟩
        rw [pick_whole]
        exact gEq_ (α := Option Str) (by decide) q
      refine ⟨(spots s us).map fun x => decide (valO (pickS s p) x.1 x.2 = valO s x.1 x.2), by rw [List.map_map]; rfl, ?_⟩
      have hall : ((spots s us).map fun x => decide (valO (pickS s p) x.1 x.2 = valO s x.1 x.2)).all id = smallB s p := by
        rw [Bool.eq_iff_iff, small_iff, List.all_map, List.all_eq_true]
        unfold spots
        constructor
        · intro hh u hu n hn
          have := hh (u, n) (List.mem_flatMap.mpr ⟨u, (hus u).mpr hu, List.mem_map.mpr ⟨n, by unfold nmL; rw [List.mem_mergeSort]; exact hn, rfl⟩⟩)
          exact of_decide_eq_true this
        · intro hh x hx
          obtain ⟨u, hu, hx⟩ := List.mem_flatMap.mp hx
          obtain ⟨n, hn, rfl⟩ := List.mem_map.mp hx
          unfold nmL at hn
          rw [List.mem_mergeSort] at hn
          exact decide_eq_true (hh u ((hus u).mp hu) n hn)
      rw [hall]
      refine ifB (fun c => ?_) fun c => ?_
      · have hmin : minL (((partsL s.items.length).filter (smallB s)).map rowI) = some (rowI p) := by
          refine minL_of (List.mem_map.mpr ⟨p, List.mem_filter.mpr ⟨by rw [hpre]; simp, c⟩, rfl⟩) fun y hy => ?_
          obtain ⟨q, hq, rfl⟩ := List.mem_map.mp hy
          obtain ⟨hq1, hq2⟩ := List.mem_filter.mp hq
          have hsorted := parts_sorted s.items.length
          rw [hpre] at hq1 hsorted
          rcases List.mem_append.mp hq1 with z | z
          · rw [hno q z] at hq2; cases hq2
          · rcases List.mem_cons.mp z with z | z
            · rw [z]; exact leOf_refl _
            · rw [List.pairwise_append, List.pairwise_cons] at hsorted
              exact hsorted.2.1.1 q z
        unfold smallO at h
        rw [hmin] at h
        exact h
      · refine hk _ ⟨pre ++ [p], _, _, _, _, _, by rw [hpre]; simp, fun q hq => ?_, rfl⟩
        rcases List.mem_append.mp hq with z | z
        · exact hno q z
        · rw [List.mem_singleton] at z
          rw [z]
          exact c
  · rintro u rest ρ ⟨pre, x2, x3, x4, x5, x6, x7, hpre, rfl⟩ k hk
    have hpl : pre.length ≤ 1681 := by
      have := congrArg List.length hpre
      rw [List.length_append] at this
      omega
    have hsl := spots_len s pre
    have hmul : pre.length * s.items.length ≤ 1681 * 10 := Nat.mul_le_mul hpl hl
    unfold B_smallest_part_1
    simp only [sSeq, sSet, sSetF, sRet, sRetN, sRetF, sNext, sIf, sFor, sAsg, sDrop, sBreak, sCont, w2, w1, wF1, wF, wC, wTst, wNot, wAnd, wOr, wAndV, wOrV, wNotV, wIfE, wIsN, wNotN, wTup, wCons, wNil, wCall, wCallL, wCallB, aD, aO, aNil, wLc, wSeqI, wEnum, wZip, wRg1, wO0, wO1, wSl, wNeg, wCat, wRevL, wIsi, wIsi2, wGn, wGtup, wGcons, wGnil, wYes, wipeE, endD, lawD, wVar, wOwn, List.getD_cons_zero, List.getD_cons_succ, List.set_cons_zero, List.set_cons_succ, Bool.false_eq_true, false_imp_iff, true_and, and_true, if_true, if_false, List.length_cons, List.length_nil, gTuple_lst, gAdd_int, gSub_int, gIxR0, gIxR1, gIxR2, gIxR3, isSeq_tup, isSeq_list, itemsD_tup, itemsD_list, isSeq_lst, itemsD_lst, isSeq_tp, itemsD_tp, gLenTup, gLenList, enumD_map, toD_pair, toD_int, toD_str, toD_bool, ite_self, reduceIte]
    refine wComp_me Datum.toD (fun r : Rule => Datum.toD r.c) s.items rfl (fun r _ Q q => by simp only [sSeq, sSet, sSetF, sRet, sRetN, sRetF, sNext, sIf, sFor, sAsg, sDrop, sBreak, sCont, w2, w1, wF1, wF, wC, wTst, wNot, wAnd, wOr, wAndV, wOrV, wNotV, wIfE, wIsN, wNotN, wTup, wCons, wNil, wCall, wCallL, wCallB, aD, aO, aNil, wLc, wSeqI, wEnum, wZip, wRg1, wO0, wO1, wSl, wNeg, wCat, wRevL, wIsi, wIsi2, wGn, wGtup, wGcons, wGnil, wYes, wipeE, endD, lawD, wVar, wOwn, List.getD_cons_zero, List.getD_cons_succ, List.set_cons_zero, List.set_cons_succ, Bool.false_eq_true, false_imp_iff, true_and, and_true, if_true, if_false, List.length_cons, List.length_nil, gTuple_lst, gAdd_int, gSub_int, gIxR0, gIxR1, gIxR2, gIxR3, isSeq_tup, isSeq_list, itemsD_tup, itemsD_list, isSeq_lst, itemsD_lst, isSeq_tp, itemsD_tp, gLenTup, gLenList, enumD_map, toD_pair, toD_int, toD_str, toD_bool, ite_self, reduceIte]; exact q) ?_
    have e1 : List.map (fun r : Rule => Datum.toD r.c) s.items = (s.items.map (·.c)).map Datum.toD := by
      rw [List.map_map]
      rfl
    rw [e1]
    refine gSorted_ (α := Str) (by decide) ?_
    refine sLoop_ind (fun n : Str => Datum.toD n) (fun rest2 ρ => ∃ (pre2 : List Str) (x3 x4 x5 x6 x7 : Option Cell), nmL s = pre2 ++ rest2 ∧ ρ = [some (.d (Datum.toD s)), some (.lst (((spots s pre ++ pre2.map fun n => (u, n)).map (rankAt s)).map Datum.toD)), some (.d (Datum.toD u)), x3, x4, x5, x6, x7]) ?_ ?_ (nmL s) _ ⟨[], x3, x4, x5, x6, x7, rfl, by simp⟩
    · rintro ρ ⟨pre2, x3, x4, x5, x6, x7, hpre2, rfl⟩
      rw [List.append_nil] at hpre2
      have e2 : spots s pre ++ pre2.map (fun n => (u, n)) = spots s (pre ++ [u]) := by
        rw [← hpre2]
        unfold spots
        rw [List.flatMap_append]
        simp
      rw [e2]
      exact hk _ ⟨pre ++ [u], _, _, _, _, _, _, by rw [hpre]; simp, rfl⟩
    · rintro n rest2 ρ ⟨pre2, x3, x4, x5, x6, x7, hpre2, rfl⟩ k2 hk2
      have hp2 : pre2.length ≤ 10 := by
        have e3 := congrArg List.length hpre2
        unfold nmL at e3
        rw [List.length_mergeSort, List.length_map, List.length_append] at e3
        omega
      unfold B_smallest_part_2
      simp only [sSeq, sSet, sSetF, sRet, sRetN, sRetF, sNext, sIf, sFor, sAsg, sDrop, sBreak, sCont, w2, w1, wF1, wF, wC, wTst, wNot, wAnd, wOr, wAndV, wOrV, wNotV, wIfE, wIsN, wNotN, wTup, wCons, wNil, wCall, wCallL, wCallB, aD, aO, aNil, wLc, wSeqI, wEnum, wZip, wRg1, wO0, wO1, wSl, wNeg, wCat, wRevL, wIsi, wIsi2, wGn, wGtup, wGcons, wGnil, wYes, wipeE, endD, lawD, wVar, wOwn, List.getD_cons_zero, List.getD_cons_succ, List.set_cons_zero, List.set_cons_succ, Bool.false_eq_true, false_imp_iff, true_and, and_true, if_true, if_false, List.length_cons, List.length_nil, gTuple_lst, gAdd_int, gSub_int, gIxR0, gIxR1, gIxR2, gIxR3, isSeq_tup, isSeq_list, itemsD_tup, itemsD_list, isSeq_lst, itemsD_lst, isSeq_tp, itemsD_tp, gLenTup, gLenList, enumD_map, toD_pair, toD_int, toD_str, toD_bool, ite_self, reduceIte,  sApp]
      refine ⟨s, u, n, rfl, ?_⟩
      refine ⟨by rw [List.length_map, List.length_map, List.length_append, List.length_map, sizeLine_eq]; omega, ?_⟩
      have e2 : ((spots s pre ++ pre2.map fun n => (u, n)).map (rankAt s)).map Datum.toD ++ [Datum.toD (rankL s u n)] = ((spots s pre ++ (pre2 ++ [n]).map fun n => (u, n)).map (rankAt s)).map Datum.toD := by
        simp only [List.map_append, List.append_assoc]
        rfl
      rw [e2]
      exact hk2 _ ⟨pre2 ++ [n], _, _, _, _, _, by rw [hpre2]; simp, rfl⟩
end Dat

/-! Ord: a sheet's rules in an order. -/
namespace Dat
open PySem PySem.Spec PyProof.Rows L2
open PySem.W (Datum DatumOrd Tup T3)

def dRule : Rule := ⟨Tup.mk [], 0, "", ""⟩
def ruleAt (s : Sheet) (i : Int) : Rule := (L2.atI s.items i).getD dRule
def ordS (s : Sheet) (p : Prt) : Sheet := Tup.mk (p.items.map (ruleAt s))
def C__law_in_order : Con := fun cs P => ∃ (s : Sheet) (p : Prt), cs = [.d (Datum.toD s), .d (Datum.toD p)] ∧ (∀ i ∈ p.items, i ∈ rangeL s.items.length) ∧ P (Datum.toD (ordS s p))
theorem range_at {s : Sheet} {i : Int} (h : i ∈ rangeL s.items.length) : L2.atI s.items i = some (ruleAt s i) := by
  obtain ⟨j, hj, rfl⟩ := List.mem_map.mp h
  have hj := List.mem_range.mp hj
  unfold ruleAt
  rw [atI_nat (xs := s.items) (j := j) (List.getElem?_eq_getElem hj)]
  rfl
def W__law_in_order : WS :=
  (sRet (w1 gTuple (wF (wLc (wSeqI (wVar 1)) (wGn 2) wYes (w2 gIx (wVar 0) (wVar 2)) [2]))))

theorem body__law_in_order : ∀ cs P, cs.length = 2 → C__law_in_order cs P → noOwn cs ∧ W__law_in_order (startE 3 cs) (endD false P) := by
  rintro cs P _ ⟨s, p, rfl, hp, h⟩
  refine ⟨noOwn2, ?_⟩
  show W__law_in_order [some (.d (Datum.toD s)), some (.d (Datum.toD p)), none] _
  unfold W__law_in_order
  simp only [sSeq, sSet, sSetF, sRet, sRetN, sRetF, sNext, sIf, sFor, sAsg, sDrop, sBreak, sCont, w2, w1, wF1, wF, wC, wTst, wNot, wAnd, wOr, wAndV, wOrV, wNotV, wIfE, wIsN, wNotN, wTup, wCons, wNil, wCall, wCallL, wCallB, aD, aO, aNil, wLc, wSeqI, wEnum, wZip, wRg1, wO0, wO1, wSl, wNeg, wCat, wRevL, wIsi, wIsi2, wGn, wGtup, wGcons, wGnil, wYes, wipeE, endD, lawD, wVar, wOwn, List.getD_cons_zero, List.getD_cons_succ, List.set_cons_zero, List.set_cons_succ, Bool.false_eq_true, false_imp_iff, true_and, and_true, if_true, if_false, List.length_cons, List.length_nil, gTuple_lst, gAdd_int, gSub_int, gIxR0, gIxR1, gIxR2, gIxR3, isSeq_tup, isSeq_list, itemsD_tup, itemsD_list, isSeq_lst, itemsD_lst, isSeq_tp, itemsD_tp, gLenTup, gLenList, enumD_map, toD_pair, toD_int, toD_str, toD_bool, ite_self, reduceIte]
  refine wComp_me Datum.toD (fun i : Int => Datum.toD (ruleAt s i)) p.items rfl (fun i hi Q q => ?_) ?_
  · simp only [sSeq, sSet, sSetF, sRet, sRetN, sRetF, sNext, sIf, sFor, sAsg, sDrop, sBreak, sCont, w2, w1, wF1, wF, wC, wTst, wNot, wAnd, wOr, wAndV, wOrV, wNotV, wIfE, wIsN, wNotN, wTup, wCons, wNil, wCall, wCallL, wCallB, aD, aO, aNil, wLc, wSeqI, wEnum, wZip, wRg1, wO0, wO1, wSl, wNeg, wCat, wRevL, wIsi, wIsi2, wGn, wGtup, wGcons, wGnil, wYes, wipeE, endD, lawD, wVar, wOwn, List.getD_cons_zero, List.getD_cons_succ, List.set_cons_zero, List.set_cons_succ, Bool.false_eq_true, false_imp_iff, true_and, and_true, if_true, if_false, List.length_cons, List.length_nil, gTuple_lst, gAdd_int, gSub_int, gIxR0, gIxR1, gIxR2, gIxR3, isSeq_tup, isSeq_list, itemsD_tup, itemsD_list, isSeq_lst, itemsD_lst, isSeq_tp, itemsD_tp, gLenTup, gLenList, enumD_map, toD_pair, toD_int, toD_str, toD_bool, ite_self, reduceIte]
    exact gIxT_ (range_at (hp i hi)) q
  · have e : List.map (fun i : Int => Datum.toD (ruleAt s i)) p.items = (p.items.map (ruleAt s)).map Datum.toD := by
      rw [List.map_map]
      rfl
    rw [e]
    exact h
theorem filter_sub {α : Type} [DecidableEq α] : ∀ {l m : List α}, l.Sublist m → m.Nodup → m.filter (fun x => decide (x ∈ l)) = l := by
  intro l m h
  induction h with
  | slnil => intro _; rfl
  | cons a h ih =>
    intro hn
    rw [List.nodup_cons] at hn
    rw [List.filter_cons_of_neg (by simpa using fun z => hn.1 (h.subset z))]
    exact ih hn.2
  | cons_cons a h ih =>
    rename_i l m
    intro hn
    rw [List.nodup_cons] at hn
    rw [List.filter_cons_of_pos (by simp)]
    congr 1
    refine Eq.trans (List.filter_congr fun x hx => ?_) (ih hn.2)
    have hne : x ≠ a := fun e => hn.1 (e ▸ hx)
    simp [hne]
theorem enum_fst {α : Type} (xs : List α) : (enumL xs).map (·.1) = rangeL xs.length := by
  unfold enumL rangeL
  apply List.ext_getElem?
  intro i
  simp only [List.getElem?_map, List.getElem?_mapIdx, Option.map_map]
  by_cases h : i < xs.length
  · rw [List.getElem?_range h, List.getElem?_eq_getElem h]
    rfl
  · rw [List.getElem?_eq_none (by simpa using h), List.getElem?_eq_none (by simpa using h)]
    rfl
theorem range_nodup (n : Nat) : (rangeL n).Nodup := by
  unfold rangeL
  rw [List.Nodup, List.pairwise_map]
  exact List.nodup_range.imp fun {a b} h e => h (Int.ofNat.inj e)
theorem pick_ord {s : Sheet} {p : Prt} (h : p.items.Sublist (rangeL s.items.length)) : ordS s p = pickS s p := by
  have e1 : p.items = (pickP s p).map (·.1) := by
    have := filter_sub h (range_nodup _)
    rw [← enum_fst, List.filter_map] at this
    exact this.symm
  unfold ordS pickS
  rw [e1, List.map_map]
  congr 1
  refine List.map_congr_left fun x hx => ?_
  show ruleAt s x.1 = x.2
  unfold ruleAt
  rw [mem_atI (List.mem_filter.mp hx).1]
  rfl
end Dat

/-! Any: a drawn order; the winners of all elements; free items. -/
namespace Dat
open PySem PySem.Spec PyProof.Rows L2
open PySem.W (Datum DatumOrd Tup T3 T4)

theorem range_get {n : Nat} {pre rest : List Int} {x : Int} (h : rangeL n = pre ++ x :: rest) : x = (pre.length : Int) ∧ pre.length < n := by
  have h1 : (rangeL n)[pre.length]? = some x := by rw [h, List.getElem?_append_right (Nat.le_refl _), Nat.sub_self]; rfl
  unfold rangeL at h1
  rw [List.getElem?_map] at h1
  have hl : pre.length < n := by
    apply Classical.byContradiction
    intro q
    rw [List.getElem?_eq_none (by rw [List.length_range]; omega)] at h1
    cases h1
  rw [List.getElem?_range hl] at h1
  exact ⟨(Option.some.inj h1).symm, hl⟩
def C__law_any_order : Con := fun cs P => ∃ (T L : Addr) (n : Nat), cs = [.obj T (.tape L), .d (.int n)] ∧ n ≤ 1000 ∧ ∀ p : Prt, p.items.Perm (rangeL n) → P (Datum.toD p)
/-- the strongest rule itself -/
def winR (s : Sheet) (e : Tags) (n : Str) : Option Rule := (winI s e n).bind fun i => L2.atI s.items i
def winsL (s : Sheet) (es : List Tags) : List (Option Rule) := es.flatMap fun e => pqL.map fun n => winR s e n
def C__law_winners : Con := fun cs P => ∃ (s : Sheet) (pool : Tags), cs = [.d (Datum.toD s), .d (Datum.toD pool)] ∧ pool.items.length ≤ 10 ∧ P (Datum.toD (winsL s (elementsL pool)))
def waitL (pairs : List (Int × Int)) (p : Prt) : List Int := (pairs.filter fun x => !decide (x.1 ∈ p.items)).map (·.2)
def freeL (n : Nat) (pairs : List (Int × Int)) (p : Prt) : List Int := (rangeL n).filter fun i => !decide (i ∈ p.items) && !decide (i ∈ waitL pairs p)
def C_free_items : Con := fun cs P => ∃ (n : Nat) (pairs : List (Int × Int)) (p : Prt), cs = [.d (.int n), .d (Datum.toD pairs), .d (Datum.toD p)] ∧ n ≤ 1000 ∧ P (Datum.toD (freeL n pairs p))
def B__law_any_order_0 : WS :=
  (sIns 2 (wCall C_draw (aO 0 (aD (w2 gAdd (wVar 3) (wC (.int 1))) aNil))) (wVar 3))
def W__law_any_order : WS :=
  (sSeq (sSetF 2 wNil)
    (sSeq (sFor (wRg1 (wVar 1)) (wGn 3) B__law_any_order_0)
    (sRet (w1 gTuple (wOwn 2)))))

def B__law_winners_1 : WS :=
  (sSeq (sSet 5 (wCall C__law_best (aD (wVar 0) (aD (wVar 3) (aD (wVar 4) aNil)))))
    (sApp 2 (wIfE (wTst (wIsN (wVar 5))) (wC .none) (w2 gIx (wVar 0) (wVar 5)))))
def B__law_winners_0 : WS :=
  (sFor (wSeqI (wTup (wCons (wC (.str "p")) (wCons (wC (.str "q")) wNil)))) (wGn 4) B__law_winners_1)
def W__law_winners : WS :=
  (sSeq (sSetF 2 wNil)
    (sSeq (sFor (wSeqI (wCall C__law_elements (aD (wVar 1) aNil))) (wGn 3) B__law_winners_0)
    (sRetO 2)))

def W_free_items : WS :=
  (sSeq (sSet 3 (wF (wLc (wSeqI (wVar 1)) (wGtup 2 (wGcons (wGn 4) (wGcons (wGn 5) wGnil))) (wTst (w2 gNi (wVar 4) (wVar 2))) (wVar 5) [4, 5])))
    (sRet (wF (wLc (wRg1 (wVar 0)) (wGn 6) (wAnd (wTst (w2 gNi (wVar 6) (wVar 2))) (wTst (w2 gNi (wVar 6) (wVar 3)))) (wVar 6) [6]))))

theorem body__law_any_order : ∀ cs P, cs.length = 2 → C__law_any_order cs P → noOwn cs ∧ W__law_any_order (startE 4 cs) (endD false P) := by
  rintro cs P _ ⟨T, L, n, rfl, hn, h⟩
  refine ⟨fun c hc => by simp at hc; rcases hc with e | e <;> subst e <;> rfl, ?_⟩
  show W__law_any_order [some (.obj T (.tape L)), some (.d (.int n)), none, none] _
  unfold W__law_any_order
  simp only [sSeq, sSet, sSetF, sRet, sRetN, sRetF, sNext, sIf, sFor, sAsg, sDrop, sBreak, sCont, w2, w1, wF1, wF, wC, wTst, wNot, wAnd, wOr, wAndV, wOrV, wNotV, wIfE, wIsN, wNotN, wTup, wCons, wNil, wCall, wCallL, wCallB, aD, aO, aNil, wLc, wSeqI, wEnum, wZip, wRg1, wO0, wO1, wSl, wNeg, wCat, wRevL, wIsi, wIsi2, wGn, wGtup, wGcons, wGnil, wYes, wipeE, endD, lawD, wVar, wOwn, List.getD_cons_zero, List.getD_cons_succ, List.set_cons_zero, List.set_cons_succ, Bool.false_eq_true, false_imp_iff, true_and, and_true, if_true, if_false, List.length_cons, List.length_nil, gTuple_lst, gAdd_int, gSub_int, gIxR0, gIxR1, gIxR2, gIxR3, isSeq_tup, isSeq_list, itemsD_tup, itemsD_list, isSeq_lst, itemsD_lst, isSeq_tp, itemsD_tp, gLenTup, gLenList, enumD_map, toD_pair, toD_int, toD_str, toD_bool, ite_self, reduceIte]
  refine ⟨by omega, by omega, ?_⟩
  rw [rgD_range]
  refine sLoop_ind Datum.toD (fun rest ρ => ∃ (pre f : List Int) (x3 : Option Cell), rangeL n = pre ++ rest ∧ f.Perm pre ∧ ρ = [some (.obj T (.tape L)), some (.d (.int n)), some (.lst (f.map Datum.toD)), x3]) ?_ ?_ (rangeL n) _ ⟨[], [], _, rfl, List.Perm.nil, rfl⟩
  · rintro ρ ⟨pre, f, x3, hpre, hf, rfl⟩
    rw [List.append_nil] at hpre
    subst hpre
    simp only [sSeq, sSet, sSetF, sRet, sRetN, sRetF, sNext, sIf, sFor, sAsg, sDrop, sBreak, sCont, w2, w1, wF1, wF, wC, wTst, wNot, wAnd, wOr, wAndV, wOrV, wNotV, wIfE, wIsN, wNotN, wTup, wCons, wNil, wCall, wCallL, wCallB, aD, aO, aNil, wLc, wSeqI, wEnum, wZip, wRg1, wO0, wO1, wSl, wNeg, wCat, wRevL, wIsi, wIsi2, wGn, wGtup, wGcons, wGnil, wYes, wipeE, endD, lawD, wVar, wOwn, List.getD_cons_zero, List.getD_cons_succ, List.set_cons_zero, List.set_cons_succ, Bool.false_eq_true, false_imp_iff, true_and, and_true, if_true, if_false, List.length_cons, List.length_nil, gTuple_lst, gAdd_int, gSub_int, gIxR0, gIxR1, gIxR2, gIxR3, isSeq_tup, isSeq_list, itemsD_tup, itemsD_list, isSeq_lst, itemsD_lst, isSeq_tp, itemsD_tp, gLenTup, gLenList, enumD_map, toD_pair, toD_int, toD_str, toD_bool, ite_self, reduceIte]
    exact h (Tup.mk f) hf
  · rintro x rest ρ ⟨pre, f, x3, hpre, hf, rfl⟩ k hk
    obtain ⟨hx, hl⟩ := range_get hpre
    have hfl := hf.length_eq
    unfold B__law_any_order_0
    simp only [sSeq, sSet, sSetF, sRet, sRetN, sRetF, sNext, sIf, sFor, sAsg, sDrop, sBreak, sCont, w2, w1, wF1, wF, wC, wTst, wNot, wAnd, wOr, wAndV, wOrV, wNotV, wIfE, wIsN, wNotN, wTup, wCons, wNil, wCall, wCallL, wCallB, aD, aO, aNil, wLc, wSeqI, wEnum, wZip, wRg1, wO0, wO1, wSl, wNeg, wCat, wRevL, wIsi, wIsi2, wGn, wGtup, wGcons, wGnil, wYes, wipeE, endD, lawD, wVar, wOwn, List.getD_cons_zero, List.getD_cons_succ, List.set_cons_zero, List.set_cons_succ, Bool.false_eq_true, false_imp_iff, true_and, and_true, if_true, if_false, List.length_cons, List.length_nil, gTuple_lst, gAdd_int, gSub_int, gIxR0, gIxR1, gIxR2, gIxR3, isSeq_tup, isSeq_list, itemsD_tup, itemsD_list, isSeq_lst, itemsD_lst, isSeq_tp, itemsD_tp, gLenTup, gLenList, enumD_map, toD_pair, toD_int, toD_str, toD_bool, ite_self, reduceIte,  sIns]
    rw [hx]
    refine draw_ (m := (pre.length : Int) + 1) (by omega) (by omega) fun r r0 r1 => ?_
    refine ⟨r0, by omega, by rw [List.length_map, sizeLine_eq]; omega, ?_⟩
    have e : (f.map Datum.toD).take r.toNat ++ [PyData.int (pre.length : Int)] ++ (f.map Datum.toD).drop r.toNat = (f.take r.toNat ++ [(pre.length : Int)] ++ f.drop r.toNat).map Datum.toD := by
      rw [List.map_append, List.map_append, List.map_take, List.map_drop]
      rfl
    rw [e]
    refine hk _ ⟨pre ++ [(pre.length : Int)], _, _, by rw [hpre, hx]; simp, ?_, rfl⟩
    have p1 : (f.take r.toNat ++ [(pre.length : Int)] ++ f.drop r.toNat).Perm ((pre.length : Int) :: f) := by
      rw [List.append_assoc]
      refine (List.perm_middle (a := (pre.length : Int)) (l₁ := f.take r.toNat) (l₂ := f.drop r.toNat)).trans ?_
      rw [List.take_append_drop]
    exact p1.trans ((List.Perm.cons _ hf).trans (List.perm_append_singleton _ _).symm)
theorem winR_at {s : Sheet} {e : Tags} {n : Str} {i : Int} (h : winI s e n = some i) : ∃ r, L2.atI s.items i = some r ∧ winR s e n = some r := by
  obtain ⟨r, hr⟩ := winI_some h
  refine ⟨r, hr, ?_⟩
  unfold winR
  rw [h]
  exact hr
theorem winsL_len (s : Sheet) : ∀ es : List Tags, (winsL s es).length = 2 * es.length
  | [] => rfl
  | e :: es => by
    have := winsL_len s es
    unfold winsL at this ⊢
    rw [List.flatMap_cons, List.length_append, this, List.length_map, List.length_cons]
    show 2 + _ = _
    omega
theorem body__law_winners : ∀ cs P, cs.length = 2 → C__law_winners cs P → noOwn cs ∧ W__law_winners (startE 6 cs) (endD false P) := by
  rintro cs P _ ⟨s, pool, rfl, hp, h⟩
  refine ⟨noOwn2, ?_⟩
  show W__law_winners [some (.d (Datum.toD s)), some (.d (Datum.toD pool)), none, none, none, none] _
  unfold W__law_winners
  have hel : (elementsL pool).length ≤ 1024 := by
    rw [elements_len]
    exact Nat.pow_le_pow_right (n := 2) (by decide) hp
  simp only [sSeq, sSet, sSetF, sRet, sRetN, sRetF, sNext, sIf, sFor, sAsg, sDrop, sBreak, sCont, w2, w1, wF1, wF, wC, wTst, wNot, wAnd, wOr, wAndV, wOrV, wNotV, wIfE, wIsN, wNotN, wTup, wCons, wNil, wCall, wCallL, wCallB, aD, aO, aNil, wLc, wSeqI, wEnum, wZip, wRg1, wO0, wO1, wSl, wNeg, wCat, wRevL, wIsi, wIsi2, wGn, wGtup, wGcons, wGnil, wYes, wipeE, endD, lawD, wVar, wOwn, List.getD_cons_zero, List.getD_cons_succ, List.set_cons_zero, List.set_cons_succ, Bool.false_eq_true, false_imp_iff, true_and, and_true, if_true, if_false, List.length_cons, List.length_nil, gTuple_lst, gAdd_int, gSub_int, gIxR0, gIxR1, gIxR2, gIxR3, isSeq_tup, isSeq_list, itemsD_tup, itemsD_list, isSeq_lst, itemsD_lst, isSeq_tp, itemsD_tp, gLenTup, gLenList, enumD_map, toD_pair, toD_int, toD_str, toD_bool, ite_self, reduceIte]
  refine ⟨pool, rfl, hp, ?_⟩
  simp only [sSeq, sSet, sSetF, sRet, sRetN, sRetF, sNext, sIf, sFor, sAsg, sDrop, sBreak, sCont, w2, w1, wF1, wF, wC, wTst, wNot, wAnd, wOr, wAndV, wOrV, wNotV, wIfE, wIsN, wNotN, wTup, wCons, wNil, wCall, wCallL, wCallB, aD, aO, aNil, wLc, wSeqI, wEnum, wZip, wRg1, wO0, wO1, wSl, wNeg, wCat, wRevL, wIsi, wIsi2, wGn, wGtup, wGcons, wGnil, wYes, wipeE, endD, lawD, wVar, wOwn, List.getD_cons_zero, List.getD_cons_succ, List.set_cons_zero, List.set_cons_succ, Bool.false_eq_true, false_imp_iff, true_and, and_true, if_true, if_false, List.length_cons, List.length_nil, gTuple_lst, gAdd_int, gSub_int, gIxR0, gIxR1, gIxR2, gIxR3, isSeq_tup, isSeq_list, itemsD_tup, itemsD_list, isSeq_lst, itemsD_lst, isSeq_tp, itemsD_tp, gLenTup, gLenList, enumD_map, toD_pair, toD_int, toD_str, toD_bool, ite_self, reduceIte]
  refine sLoop_ind Datum.toD (fun rest ρ => ∃ (pre : List Tags) (x3 x4 x5 : Option Cell), elementsL pool = pre ++ rest ∧ ρ = [some (.d (Datum.toD s)), some (.d (Datum.toD pool)), some (.lst ((winsL s pre).map Datum.toD)), x3, x4, x5]) ?_ ?_ (elementsL pool) _ ⟨[], _, _, _, rfl, rfl⟩
  · rintro ρ ⟨pre, x3, x4, x5, hpre, rfl⟩
    rw [List.append_nil] at hpre
    subst hpre
    exact h
  · rintro e rest ρ ⟨pre, x3, x4, x5, hpre, rfl⟩ k hk
    have hpl : pre.length ≤ 1024 := by
      have := congrArg List.length hpre
      rw [List.length_append] at this
      omega
    have hwl := winsL_len s pre
    unfold B__law_winners_0
    simp only [sSeq, sSet, sSetF, sRet, sRetN, sRetF, sNext, sIf, sFor, sAsg, sDrop, sBreak, sCont, w2, w1, wF1, wF, wC, wTst, wNot, wAnd, wOr, wAndV, wOrV, wNotV, wIfE, wIsN, wNotN, wTup, wCons, wNil, wCall, wCallL, wCallB, aD, aO, aNil, wLc, wSeqI, wEnum, wZip, wRg1, wO0, wO1, wSl, wNeg, wCat, wRevL, wIsi, wIsi2, wGn, wGtup, wGcons, wGnil, wYes, wipeE, endD, lawD, wVar, wOwn, List.getD_cons_zero, List.getD_cons_succ, List.set_cons_zero, List.set_cons_succ, Bool.false_eq_true, false_imp_iff, true_and, and_true, if_true, if_false, List.length_cons, List.length_nil, gTuple_lst, gAdd_int, gSub_int, gIxR0, gIxR1, gIxR2, gIxR3, isSeq_tup, isSeq_list, itemsD_tup, itemsD_list, isSeq_lst, itemsD_lst, isSeq_tp, itemsD_tp, gLenTup, gLenList, enumD_map, toD_pair, toD_int, toD_str, toD_bool, ite_self, reduceIte]
    refine sLoop_ind (fun n : Str => .str n) (fun rest2 ρ => ∃ (pre2 : List Str) (x4 x5 : Option Cell), pqL = pre2 ++ rest2 ∧ ρ = [some (.d (Datum.toD s)), some (.d (Datum.toD pool)), some (.lst ((winsL s pre ++ pre2.map fun n => winR s e n).map Datum.toD)), some (.d (Datum.toD e)), x4, x5]) ?_ ?_ pqL _ ⟨[], x4, x5, rfl, by simp⟩
    · rintro ρ ⟨pre2, x4, x5, hpre2, rfl⟩
      rw [List.append_nil] at hpre2
      have e1 : winsL s pre ++ pre2.map (fun n => winR s e n) = winsL s (pre ++ [e]) := by
        rw [← hpre2]
        unfold winsL
        rw [List.flatMap_append]
        simp
      rw [e1]
      exact hk _ ⟨pre ++ [e], _, _, _, by rw [hpre]; simp, rfl⟩
    · rintro n rest2 ρ ⟨pre2, x4, x5, hpre2, rfl⟩ k2 hk2
      have hp2 : pre2.length ≤ 2 := by
        have := congrArg List.length hpre2
        rw [List.length_append] at this
        have e2 : pqL.length = 2 := rfl
        omega
      unfold B__law_winners_1
      simp only [sSeq, sSet, sSetF, sRet, sRetN, sRetF, sNext, sIf, sFor, sAsg, sDrop, sBreak, sCont, w2, w1, wF1, wF, wC, wTst, wNot, wAnd, wOr, wAndV, wOrV, wNotV, wIfE, wIsN, wNotN, wTup, wCons, wNil, wCall, wCallL, wCallB, aD, aO, aNil, wLc, wSeqI, wEnum, wZip, wRg1, wO0, wO1, wSl, wNeg, wCat, wRevL, wIsi, wIsi2, wGn, wGtup, wGcons, wGnil, wYes, wipeE, endD, lawD, wVar, wOwn, List.getD_cons_zero, List.getD_cons_succ, List.set_cons_zero, List.set_cons_succ, Bool.false_eq_true, false_imp_iff, true_and, and_true, if_true, if_false, List.length_cons, List.length_nil, gTuple_lst, gAdd_int, gSub_int, gIxR0, gIxR1, gIxR2, gIxR3, isSeq_tup, isSeq_list, itemsD_tup, itemsD_list, isSeq_lst, itemsD_lst, isSeq_tp, itemsD_tp, gLenTup, gLenList, enumD_map, toD_pair, toD_int, toD_str, toD_bool, ite_self, reduceIte,  sApp]
      refine ⟨s, e, n, rfl, ?_⟩
      have e1 : ∀ o, winR s e n = o → (winsL s pre ++ pre2.map fun n => winR s e n).map Datum.toD ++ [Datum.toD o] = (winsL s pre ++ (pre2 ++ [n]).map fun n => winR s e n).map Datum.toD := fun o ho => by
        simp only [List.map_append, List.append_assoc, List.map_cons, List.map_nil, ho]
      have hsz : ((winsL s pre ++ pre2.map fun n => winR s e n).map Datum.toD).length < sizeLine := by rw [List.length_map, List.length_append, List.length_map, sizeLine_eq]; omega
      cases hw : winI s e n with
      | none =>
        have ho : winR s e n = none := by unfold winR; rw [hw]; rfl
        refine ⟨hsz, ?_⟩
        have := e1 none ho
        rw [show (PyData.none) = Datum.toD (none : Option Rule) from rfl, this]
        exact hk2 _ ⟨pre2 ++ [n], _, _, by rw [hpre2]; simp, rfl⟩
      | some i =>
        obtain ⟨r, hr, ho⟩ := winR_at hw
        refine gIxT_ (i := i) hr ?_
        refine ⟨hsz, ?_⟩
        have := e1 (some r) ho
        rw [show Datum.toD r = Datum.toD (some r : Option Rule) from rfl, this]
        exact hk2 _ ⟨pre2 ++ [n], _, _, by rw [hpre2]; simp, rfl⟩
theorem body_free_items : ∀ cs P, cs.length = 3 → C_free_items cs P → noOwn cs ∧ W_free_items (startE 7 cs) (endD false P) := by
  rintro cs P _ ⟨n, pairs, p, rfl, hn, h⟩
  refine ⟨noOwn3, ?_⟩
  show W_free_items [some (.d (.int n)), some (.d (Datum.toD pairs)), some (.d (Datum.toD p)), none, none, none, none] _
  unfold W_free_items
  simp only [sSeq, sSet, sSetF, sRet, sRetN, sRetF, sNext, sIf, sFor, sAsg, sDrop, sBreak, sCont, w2, w1, wF1, wF, wC, wTst, wNot, wAnd, wOr, wAndV, wOrV, wNotV, wIfE, wIsN, wNotN, wTup, wCons, wNil, wCall, wCallL, wCallB, aD, aO, aNil, wLc, wSeqI, wEnum, wZip, wRg1, wO0, wO1, wSl, wNeg, wCat, wRevL, wIsi, wIsi2, wGn, wGtup, wGcons, wGnil, wYes, wipeE, endD, lawD, wVar, wOwn, List.getD_cons_zero, List.getD_cons_succ, List.set_cons_zero, List.set_cons_succ, Bool.false_eq_true, false_imp_iff, true_and, and_true, if_true, if_false, List.length_cons, List.length_nil, gTuple_lst, gAdd_int, gSub_int, gIxR0, gIxR1, gIxR2, gIxR3, isSeq_tup, isSeq_list, itemsD_tup, itemsD_list, isSeq_lst, itemsD_lst, isSeq_tp, itemsD_tp, gLenTup, gLenList, enumD_map, toD_pair, toD_int, toD_str, toD_bool, ite_self, reduceIte]
  refine wComp_fme Datum.toD (fun x : Int × Int => !decide (x.1 ∈ p.items)) (fun x => Datum.toD x.2) pairs rfl (fun x _ Q R h1 h2 => ?_) ?_
  · simp only [sSeq, sSet, sSetF, sRet, sRetN, sRetF, sNext, sIf, sFor, sAsg, sDrop, sBreak, sCont, w2, w1, wF1, wF, wC, wTst, wNot, wAnd, wOr, wAndV, wOrV, wNotV, wIfE, wIsN, wNotN, wTup, wCons, wNil, wCall, wCallL, wCallB, aD, aO, aNil, wLc, wSeqI, wEnum, wZip, wRg1, wO0, wO1, wSl, wNeg, wCat, wRevL, wIsi, wIsi2, wGn, wGtup, wGcons, wGnil, wYes, wipeE, endD, lawD, wVar, wOwn, List.getD_cons_zero, List.getD_cons_succ, List.set_cons_zero, List.set_cons_succ, Bool.false_eq_true, false_imp_iff, true_and, and_true, if_true, if_false, List.length_cons, List.length_nil, gTuple_lst, gAdd_int, gSub_int, gIxR0, gIxR1, gIxR2, gIxR3, isSeq_tup, isSeq_list, itemsD_tup, itemsD_list, isSeq_lst, itemsD_lst, isSeq_tp, itemsD_tp, gLenTup, gLenList, enumD_map, toD_pair, toD_int, toD_str, toD_bool, ite_self, reduceIte]
    refine gNiT_ (α := Int) (by decide) ?_
    exact ifB h1 h2
  have e1 : List.map (fun x : Int × Int => Datum.toD x.2) (pairs.filter fun x => !decide (x.1 ∈ p.items)) = (waitL pairs p).map Datum.toD := by
    unfold waitL
    rw [List.map_map]
    rfl
  rw [e1]
  refine ⟨by omega, by omega, ?_⟩
  rw [rgD_range]
  refine wComp_fme Datum.toD (fun i : Int => !decide (i ∈ p.items) && !decide (i ∈ waitL pairs p)) Datum.toD (rangeL n) rfl (fun i _ Q R h1 h2 => ?_) h
  simp only [sSeq, sSet, sSetF, sRet, sRetN, sRetF, sNext, sIf, sFor, sAsg, sDrop, sBreak, sCont, w2, w1, wF1, wF, wC, wTst, wNot, wAnd, wOr, wAndV, wOrV, wNotV, wIfE, wIsN, wNotN, wTup, wCons, wNil, wCall, wCallL, wCallB, aD, aO, aNil, wLc, wSeqI, wEnum, wZip, wRg1, wO0, wO1, wSl, wNeg, wCat, wRevL, wIsi, wIsi2, wGn, wGtup, wGcons, wGnil, wYes, wipeE, endD, lawD, wVar, wOwn, List.getD_cons_zero, List.getD_cons_succ, List.set_cons_zero, List.set_cons_succ, Bool.false_eq_true, false_imp_iff, true_and, and_true, if_true, if_false, List.length_cons, List.length_nil, gTuple_lst, gAdd_int, gSub_int, gIxR0, gIxR1, gIxR2, gIxR3, isSeq_tup, isSeq_list, itemsD_tup, itemsD_list, isSeq_lst, itemsD_lst, isSeq_tp, itemsD_tp, gLenTup, gLenList, enumD_map, toD_pair, toD_int, toD_str, toD_bool, ite_self, reduceIte]
  refine gNiTC (α := Int) (by decide) (fun z => ?_) fun z => h2 (by simp [z])
  (dsimp only; first | rw [if_pos rfl] | rw [if_neg (by simp)])
  exact gNiC (α := Int) (by decide) (fun z2 => h1 (by simp [z, z2])) fun z2 => h2 (by simp [z2])
end Dat

/-! Nf: normal forms over data. -/
namespace Dat
open PySem PySem.Spec PyProof.Rows L2
open PySem.W (Datum DatumOrd Tup T3 T4)

section
variable {α β γ δ : Type} [DecidableEq α] [DatumOrd α] [DecidableEq β] [DatumOrd β] [DecidableEq γ] [DatumOrd γ] [DecidableEq δ] [DatumOrd δ]
def t4p (t : T4 α β γ δ) : α × (β × (γ × δ)) := (t.a, (t.b, (t.c, t.d)))
theorem t4Lt {p q : T4 α β γ δ} : DatumOrd.lt p q = DatumOrd.lt (t4p p) (t4p q) := rfl
instance [LeL α] [LeL β] [LeL γ] [LeL δ] : LeL (T4 α β γ δ) where
  irrefl a := by rw [t4Lt]; exact LeL.irrefl _
  trans a b c h1 h2 := by rw [t4Lt] at *; exact LeL.trans _ _ _ h1 h2
  tri a b h1 h2 := by
    rw [t4Lt] at *
    have := LeL.tri _ _ h1 h2
    cases a; cases b
    unfold t4p at this
    simp only [Prod.mk.injEq] at this
    obtain ⟨rfl, rfl, rfl, rfl⟩ := this
    rfl
end
def pickMin (s : Sheet) (pl : List Int) : Option (Rule × Int) := minL ((freeL s.items.length (tiedL s) (Tup.mk pl)).map fun i => (ruleAt s i, i))
def nfTail (s : Sheet) : Nat → List Int → List Int
  | 0, _ => []
  | k + 1, pl => match pickMin s pl with
    | some x => x.2 :: nfTail s k (pl ++ [x.2])
    | none => []
def normP (s : Sheet) : List Int := nfTail s s.items.length []
def NF (s : Sheet) : Sheet := Tup.mk ((normP s).map (ruleAt s))
theorem tied_lt {s : Sheet} {x : Int × Int} (h : x ∈ tiedL s) : x.1 < x.2 ∧ x.1 ∈ rangeL s.items.length ∧ x.2 ∈ rangeL s.items.length := by
  obtain ⟨p, hp, q, hq, hlt, _, rfl⟩ := tied_mem.mp h
  rw [← enum_fst]
  exact ⟨hlt, List.mem_map.mpr ⟨q, hq, rfl⟩, List.mem_map.mpr ⟨p, hp, rfl⟩⟩
theorem free_mem {s : Sheet} {pl : List Int} {i : Int} : i ∈ freeL s.items.length (tiedL s) (Tup.mk pl) ↔ i ∈ rangeL s.items.length ∧ i ∉ pl ∧ ∀ j, (j, i) ∈ tiedL s → j ∈ pl := by
  unfold freeL waitL
  rw [List.mem_filter, Bool.and_eq_true]
  constructor
  · rintro ⟨h1, h2, h3⟩
    refine ⟨h1, by simpa using h2, fun j hj => ?_⟩
    apply Classical.byContradiction
    intro q
    have h3 : i ∉ ((tiedL s).filter fun x => !decide (x.1 ∈ pl)).map (·.2) := by simpa using h3
    exact h3 (List.mem_map.mpr ⟨(j, i), List.mem_filter.mpr ⟨hj, by simpa using q⟩, rfl⟩)
  · rintro ⟨h1, h2, h3⟩
    refine ⟨h1, by simpa using h2, ?_⟩
    have : i ∉ ((tiedL s).filter fun x => !decide (x.1 ∈ pl)).map (·.2) := fun h => by
      obtain ⟨x, hx, rfl⟩ := List.mem_map.mp h
      obtain ⟨h4, h5⟩ := List.mem_filter.mp hx
      have := h3 x.1 h4
      simp [this] at h5
    simpa using this
theorem sub_len {α : Type} [DecidableEq α] : ∀ {l m : List α}, l.Nodup → (∀ x ∈ l, x ∈ m) → l.length ≤ m.length
  | [], _, _, _ => Nat.zero_le _
  | x :: l, m, hn, h => by
    rw [List.nodup_cons] at hn
    have hx := h x (List.mem_cons_self ..)
    have := sub_len (m := m.erase x) hn.2 fun y hy => (List.mem_erase_of_ne (fun e => hn.1 (by rw [← e]; exact hy))).mpr (h y (List.mem_cons_of_mem _ hy))
    rw [List.length_erase_of_mem hx] at this
    have h0 : 0 < m.length := List.length_pos_of_mem hx
    rw [List.length_cons]
    omega
/-- as long as not all are placed, one is free -/
theorem free_some {s : Sheet} {pl : List Int} (hn : pl.Nodup) (hs : ∀ i ∈ pl, i ∈ rangeL s.items.length) (hl : pl.length < s.items.length) : ∃ i, i ∈ freeL s.items.length (tiedL s) (Tup.mk pl) := by
  have hex : ∃ m : Nat, m < s.items.length ∧ (m : Int) ∉ pl := by
    apply Classical.byContradiction
    intro q
    have sub : ∀ i ∈ rangeL s.items.length, i ∈ pl := fun i hi => by
      obtain ⟨m, hm, rfl⟩ := List.mem_map.mp hi
      apply Classical.byContradiction
      exact fun z => q ⟨m, List.mem_range.mp hm, z⟩
    have := sub_len (range_nodup _) sub
    unfold rangeL at this
    rw [List.length_map, List.length_range] at this
    omega
  have least : ∀ m : Nat, m < s.items.length → (m : Int) ∉ pl → ∃ k : Nat, k < s.items.length ∧ (k : Int) ∉ pl ∧ ∀ j : Nat, j < k → (j : Int) ∈ pl := by
    intro m
    induction m using Nat.strongRecOn with
    | ind m ih =>
      intro h1 h2
      by_cases h : ∃ j : Nat, j < m ∧ (j : Int) ∉ pl
      · obtain ⟨j, hj, hjp⟩ := h
        exact ih j hj (by omega) hjp
      · refine ⟨m, h1, h2, fun j hj => ?_⟩
        apply Classical.byContradiction
        exact fun z => h ⟨j, hj, z⟩
  obtain ⟨m, h1, h2⟩ := hex
  obtain ⟨k, k1, k2, k3⟩ := least m h1 h2
  refine ⟨(k : Int), free_mem.mpr ⟨List.mem_map.mpr ⟨k, List.mem_range.mpr k1, rfl⟩, k2, fun j hj => ?_⟩⟩
  obtain ⟨t1, t2, _⟩ := tied_lt hj
  obtain ⟨j', _, rfl⟩ := List.mem_map.mp t2
  have t1 : (j' : Int) < k := t1
  exact k3 j' (by omega)
theorem pick_some {s : Sheet} {pl : List Int} (hn : pl.Nodup) (hs : ∀ i ∈ pl, i ∈ rangeL s.items.length) (hl : pl.length < s.items.length) : ∃ x, pickMin s pl = some x ∧ x.1 = ruleAt s x.2 ∧ x.2 ∈ freeL s.items.length (tiedL s) (Tup.mk pl) ∧
    ∀ i ∈ freeL s.items.length (tiedL s) (Tup.mk pl), leOf x (ruleAt s i, i) = true := by
  obtain ⟨i, hi⟩ := free_some hn hs hl
  cases q : pickMin s pl with
  | none =>
    have h := minL_nil q
    have : (ruleAt s i, i) ∈ (freeL s.items.length (tiedL s) (Tup.mk pl)).map fun i => (ruleAt s i, i) := List.mem_map.mpr ⟨i, hi, rfl⟩
    rw [h] at this
    cases this
  | some x =>
    obtain ⟨h1, h2⟩ := minL_spec q
    obtain ⟨j, hj, e⟩ := List.mem_map.mp h1
    refine ⟨x, rfl, by rw [← e], by rw [← e]; exact hj, fun i hi => h2 _ (List.mem_map.mpr ⟨i, hi, rfl⟩)⟩
def C_normal_form : Con := fun cs P => ∃ s : Sheet, cs = [.d (Datum.toD s)] ∧ SmallS s ∧ P (Datum.toD (NF s))
def sortR (s : Sheet) : List Rule := s.items.mergeSort leOf
def C_same_winners : Con := fun cs P => ∃ s t : Sheet, cs = [.d (Datum.toD s), .d (Datum.toD t)] ∧ SmallS s ∧ SmallS t ∧ P (.bool (decide (sortR s = sortR t) && decide (NF s = NF t)))
def B_normal_form_0 : WS :=
  (sSeq (sAsg (w1 gMin (wF (wLc (wSeqI (wCall C_free_items (aD (w1 gLen (wVar 0)) (aD (wVar 1) (aD (wVar 2) aNil))))) (wGn 6) wYes (wTup (wCons (w2 gIx (wVar 0) (wVar 6)) (wCons (wVar 6) wNil))) [6]))) (wGtup 2 (wGcons (wGn 5) (wGcons (wGn 6) wGnil))))
    (sMany [2, 3] (aD (w2 gAdd (wVar 2) (wTup (wCons (wVar 6) wNil))) (aD (w2 gAdd (wVar 3) (wTup (wCons (wVar 5) wNil))) aNil))))
def W_normal_form : WS :=
  (sSeq (sMany [1, 2, 3] (aD (wCall C_tied_pairs (aD (wVar 0) aNil)) (aD (wTup wNil) (aD (wTup wNil) aNil))))
    (sSeq (sFor (wRg1 (w1 gLen (wVar 0))) (wGn 4) B_normal_form_0)
    (sRet (wVar 3))))

def W_same_winners : WS :=
  (sRet (wAndV (w2 gEq (wF (wF1 gSorted (wVar 0))) (wF (wF1 gSorted (wVar 1)))) (w2 gEq (wCall C_normal_form (aD (wVar 0) aNil)) (wCall C_normal_form (aD (wVar 1) aNil)))))

theorem body_normal_form : ∀ cs P, cs.length = 1 → C_normal_form cs P → noOwn cs ∧ W_normal_form (startE 7 cs) (endD false P) := by
  rintro cs P _ ⟨s, rfl, hs, h⟩
  refine ⟨noOwn1, ?_⟩
  show W_normal_form [some (.d (Datum.toD s)), none, none, none, none, none, none] _
  unfold W_normal_form
  have hl := hs.len
  simp only [sSeq, sSet, sSetF, sRet, sRetN, sRetF, sNext, sIf, sFor, sAsg, sDrop, sBreak, sCont, w2, w1, wF1, wF, wC, wTst, wNot, wAnd, wOr, wAndV, wOrV, wNotV, wIfE, wIsN, wNotN, wTup, wCons, wNil, wCall, wCallL, wCallB, aD, aO, aNil, wLc, wSeqI, wEnum, wZip, wRg1, wO0, wO1, wSl, wNeg, wCat, wRevL, wIsi, wIsi2, wGn, wGtup, wGcons, wGnil, wYes, wipeE, endD, lawD, wVar, wOwn, List.getD_cons_zero, List.getD_cons_succ, List.set_cons_zero, List.set_cons_succ, Bool.false_eq_true, false_imp_iff, true_and, and_true, if_true, if_false, List.length_cons, List.length_nil, gTuple_lst, gAdd_int, gSub_int, gIxR0, gIxR1, gIxR2, gIxR3, isSeq_tup, isSeq_list, itemsD_tup, itemsD_list, isSeq_lst, itemsD_lst, isSeq_tp, itemsD_tp, gLenTup, gLenList, enumD_map, toD_pair, toD_int, toD_str, toD_bool, ite_self, reduceIte,  sMany, setAll]
  refine ⟨s, rfl, hs, ?_⟩
  simp only [sSeq, sSet, sSetF, sRet, sRetN, sRetF, sNext, sIf, sFor, sAsg, sDrop, sBreak, sCont, w2, w1, wF1, wF, wC, wTst, wNot, wAnd, wOr, wAndV, wOrV, wNotV, wIfE, wIsN, wNotN, wTup, wCons, wNil, wCall, wCallL, wCallB, aD, aO, aNil, wLc, wSeqI, wEnum, wZip, wRg1, wO0, wO1, wSl, wNeg, wCat, wRevL, wIsi, wIsi2, wGn, wGtup, wGcons, wGnil, wYes, wipeE, endD, lawD, wVar, wOwn, List.getD_cons_zero, List.getD_cons_succ, List.set_cons_zero, List.set_cons_succ, Bool.false_eq_true, false_imp_iff, true_and, and_true, if_true, if_false, List.length_cons, List.length_nil, gTuple_lst, gAdd_int, gSub_int, gIxR0, gIxR1, gIxR2, gIxR3, isSeq_tup, isSeq_list, itemsD_tup, itemsD_list, isSeq_lst, itemsD_lst, isSeq_tp, itemsD_tp, gLenTup, gLenList, enumD_map, toD_pair, toD_int, toD_str, toD_bool, ite_self, reduceIte]
  refine ⟨by omega, by omega, ?_⟩
  rw [rgD_range]
  have hr : (rangeL s.items.length).length = s.items.length := by unfold rangeL; rw [List.length_map, List.length_range]
  refine sLoop_ind Datum.toD (fun rest ρ => ∃ (pl : List Int) (x4 x5 x6 : Option Cell), pl.length + rest.length = s.items.length ∧ pl.Nodup ∧ (∀ i ∈ pl, i ∈ rangeL s.items.length) ∧ pl ++ nfTail s rest.length pl = normP s ∧
    ρ = [some (.d (Datum.toD s)), some (.d (Datum.toD (tiedL s))), some (.d (Datum.toD (Tup.mk pl))), some (.d (Datum.toD (Tup.mk (pl.map (ruleAt s))))), x4, x5, x6]) ?_ ?_ (rangeL s.items.length) _ ⟨[], _, _, _, by rw [hr]; simp, List.nodup_nil, fun i hi => (by cases hi), by rw [hr]; rfl, rfl⟩
  · rintro ρ ⟨pl, x4, x5, x6, _, _, _, hp, rfl⟩
    have hp : pl ++ [] = normP s := hp
    rw [List.append_nil] at hp
    subst hp
    exact h
  · rintro t rest ρ ⟨pl, x4, x5, x6, hlen, hnd, hsub, hp, rfl⟩ k hk
    rw [List.length_cons] at hlen
    obtain ⟨x, hx, hx1, hx2, _⟩ := pick_some hnd hsub (by omega)
    obtain ⟨f1, f2, _⟩ := free_mem.mp hx2
    unfold B_normal_form_0
    simp only [sSeq, sSet, sSetF, sRet, sRetN, sRetF, sNext, sIf, sFor, sAsg, sDrop, sBreak, sCont, w2, w1, wF1, wF, wC, wTst, wNot, wAnd, wOr, wAndV, wOrV, wNotV, wIfE, wIsN, wNotN, wTup, wCons, wNil, wCall, wCallL, wCallB, aD, aO, aNil, wLc, wSeqI, wEnum, wZip, wRg1, wO0, wO1, wSl, wNeg, wCat, wRevL, wIsi, wIsi2, wGn, wGtup, wGcons, wGnil, wYes, wipeE, endD, lawD, wVar, wOwn, List.getD_cons_zero, List.getD_cons_succ, List.set_cons_zero, List.set_cons_succ, Bool.false_eq_true, false_imp_iff, true_and, and_true, if_true, if_false, List.length_cons, List.length_nil, gTuple_lst, gAdd_int, gSub_int, gIxR0, gIxR1, gIxR2, gIxR3, isSeq_tup, isSeq_list, itemsD_tup, itemsD_list, isSeq_lst, itemsD_lst, isSeq_tp, itemsD_tp, gLenTup, gLenList, enumD_map, toD_pair, toD_int, toD_str, toD_bool, ite_self, reduceIte,  sMany, setAll]
    refine ⟨s.items.length, tiedL s, Tup.mk pl, rfl, by omega, ?_⟩
    simp only [sSeq, sSet, sSetF, sRet, sRetN, sRetF, sNext, sIf, sFor, sAsg, sDrop, sBreak, sCont, w2, w1, wF1, wF, wC, wTst, wNot, wAnd, wOr, wAndV, wOrV, wNotV, wIfE, wIsN, wNotN, wTup, wCons, wNil, wCall, wCallL, wCallB, aD, aO, aNil, wLc, wSeqI, wEnum, wZip, wRg1, wO0, wO1, wSl, wNeg, wCat, wRevL, wIsi, wIsi2, wGn, wGtup, wGcons, wGnil, wYes, wipeE, endD, lawD, wVar, wOwn, List.getD_cons_zero, List.getD_cons_succ, List.set_cons_zero, List.set_cons_succ, Bool.false_eq_true, false_imp_iff, true_and, and_true, if_true, if_false, List.length_cons, List.length_nil, gTuple_lst, gAdd_int, gSub_int, gIxR0, gIxR1, gIxR2, gIxR3, isSeq_tup, isSeq_list, itemsD_tup, itemsD_list, isSeq_lst, itemsD_lst, isSeq_tp, itemsD_tp, gLenTup, gLenList, enumD_map, toD_pair, toD_int, toD_str, toD_bool, ite_self, reduceIte]
    refine wComp_me Datum.toD (fun i : Int => Datum.toD ((ruleAt s i, i) : Rule × Int)) (freeL s.items.length (tiedL s) (Tup.mk pl)) rfl (fun i hi Q q => ?_) ?_
    · simp only [sSeq, sSet, sSetF, sRet, sRetN, sRetF, sNext, sIf, sFor, sAsg, sDrop, sBreak, sCont, w2, w1, wF1, wF, wC, wTst, wNot, wAnd, wOr, wAndV, wOrV, wNotV, wIfE, wIsN, wNotN, wTup, wCons, wNil, wCall, wCallL, wCallB, aD, aO, aNil, wLc, wSeqI, wEnum, wZip, wRg1, wO0, wO1, wSl, wNeg, wCat, wRevL, wIsi, wIsi2, wGn, wGtup, wGcons, wGnil, wYes, wipeE, endD, lawD, wVar, wOwn, List.getD_cons_zero, List.getD_cons_succ, List.set_cons_zero, List.set_cons_succ, Bool.false_eq_true, false_imp_iff, true_and, and_true, if_true, if_false, List.length_cons, List.length_nil, gTuple_lst, gAdd_int, gSub_int, gIxR0, gIxR1, gIxR2, gIxR3, isSeq_tup, isSeq_list, itemsD_tup, itemsD_list, isSeq_lst, itemsD_lst, isSeq_tp, itemsD_tp, gLenTup, gLenList, enumD_map, toD_pair, toD_int, toD_str, toD_bool, ite_self, reduceIte]
      exact gIxT_ (range_at (free_mem.mp hi).1) q
    have e1 : List.map (fun i : Int => Datum.toD ((ruleAt s i, i) : Rule × Int)) (freeL s.items.length (tiedL s) (Tup.mk pl)) = ((freeL s.items.length (tiedL s) (Tup.mk pl)).map fun i => ((ruleAt s i, i) : Rule × Int)).map Datum.toD := by
      rw [List.map_map]
      rfl
    rw [e1]
    unfold pickMin at hx
    cases hq : (freeL s.items.length (tiedL s) (Tup.mk pl)).map fun i => ((ruleAt s i, i) : Rule × Int) with
    | nil => rw [hq] at hx; cases hx
    | cons y ys =>
      rw [hq] at hx
      have hx : PySem.W.minOf y ys = x := Option.some.inj hx
      refine gMin_ (α := Rule × Int) (x := y) (xs := ys) (by decide) ?_
      rw [hx]
      refine ⟨rfl, ?_⟩
      simp only [sSeq, sSet, sSetF, sRet, sRetN, sRetF, sNext, sIf, sFor, sAsg, sDrop, sBreak, sCont, w2, w1, wF1, wF, wC, wTst, wNot, wAnd, wOr, wAndV, wOrV, wNotV, wIfE, wIsN, wNotN, wTup, wCons, wNil, wCall, wCallL, wCallB, aD, aO, aNil, wLc, wSeqI, wEnum, wZip, wRg1, wO0, wO1, wSl, wNeg, wCat, wRevL, wIsi, wIsi2, wGn, wGtup, wGcons, wGnil, wYes, wipeE, endD, lawD, wVar, wOwn, List.getD_cons_zero, List.getD_cons_succ, List.set_cons_zero, List.set_cons_succ, Bool.false_eq_true, false_imp_iff, true_and, and_true, if_true, if_false, List.length_cons, List.length_nil, gTuple_lst, gAdd_int, gSub_int, gIxR0, gIxR1, gIxR2, gIxR3, isSeq_tup, isSeq_list, itemsD_tup, itemsD_list, isSeq_lst, itemsD_lst, isSeq_tp, itemsD_tp, gLenTup, gLenList, enumD_map, toD_pair, toD_int, toD_str, toD_bool, ite_self, reduceIte]
      refine gAddT_ (xs := Tup.mk pl) (ys := Tup.mk [x.2]) (by show pl.length + 1 ≤ _; omega) ?_
      refine gAddT_ (xs := Tup.mk (pl.map (ruleAt s))) (ys := Tup.mk [x.1]) (by show (pl.map _).length + 1 ≤ _; rw [List.length_map]; omega) ?_
      have e2 : pl.map (ruleAt s) ++ [x.1] = (pl ++ [x.2]).map (ruleAt s) := by rw [List.map_append, hx1]; rfl
      show k [_, _, some (.d (Datum.toD (Tup.mk (pl ++ [x.2])))), some (.d (Datum.toD (Tup.mk (pl.map (ruleAt s) ++ [x.1])))), _, _, _]
      rw [e2]
      refine hk _ ⟨pl ++ [x.2], _, _, _, by rw [List.length_append, List.length_singleton]; omega, ?_, fun i hi => ?_, ?_, rfl⟩
      · rw [List.nodup_append]
        refine ⟨hnd, by simp, fun a ha b hb e => ?_⟩
        rw [List.mem_singleton] at hb
        exact f2 (by rw [← hb, ← e]; exact ha)
      · rcases List.mem_append.mp hi with q | q
        · exact hsub i q
        · rw [List.mem_singleton.mp q]; exact f1
      · have e3 : nfTail s (rest.length + 1) pl = x.2 :: nfTail s rest.length (pl ++ [x.2]) := by
          have hpm : pickMin s pl = some x := by
            unfold pickMin
            rw [hq]
            show some _ = _
            rw [hx]
          show (match pickMin s pl with | some x => x.2 :: nfTail s rest.length (pl ++ [x.2]) | none => []) = _
          rw [hpm]
        rw [← hp, List.length_cons, e3, List.append_assoc]
        rfl
theorem body_same_winners : ∀ cs P, cs.length = 2 → C_same_winners cs P → noOwn cs ∧ W_same_winners (startE 2 cs) (endD false P) := by
  rintro cs P _ ⟨s, t, rfl, hs, ht, h⟩
  refine ⟨noOwn2, ?_⟩
  show W_same_winners [some (.d (Datum.toD s)), some (.d (Datum.toD t))] _
  unfold W_same_winners
  simp only [sSeq, sSet, sSetF, sRet, sRetN, sRetF, sNext, sIf, sFor, sAsg, sDrop, sBreak, sCont, w2, w1, wF1, wF, wC, wTst, wNot, wAnd, wOr, wAndV, wOrV, wNotV, wIfE, wIsN, wNotN, wTup, wCons, wNil, wCall, wCallL, wCallB, aD, aO, aNil, wLc, wSeqI, wEnum, wZip, wRg1, wO0, wO1, wSl, wNeg, wCat, wRevL, wIsi, wIsi2, wGn, wGtup, wGcons, wGnil, wYes, wipeE, endD, lawD, wVar, wOwn, List.getD_cons_zero, List.getD_cons_succ, List.set_cons_zero, List.set_cons_succ, Bool.false_eq_true, false_imp_iff, true_and, and_true, if_true, if_false, List.length_cons, List.length_nil, gTuple_lst, gAdd_int, gSub_int, gIxR0, gIxR1, gIxR2, gIxR3, isSeq_tup, isSeq_list, itemsD_tup, itemsD_list, isSeq_lst, itemsD_lst, isSeq_tp, itemsD_tp, gLenTup, gLenList, enumD_map, toD_pair, toD_int, toD_str, toD_bool, ite_self, reduceIte]
  refine gSortedT_ (by decide) ?_
  refine gSortedT_ (by decide) ?_
  refine gEqC (α := List Rule) (by decide) (fun z => ?_) fun z => ?_
  · (dsimp only; first | rw [if_pos rfl] | rw [if_neg (by simp)])
    refine ⟨s, rfl, hs, ?_⟩
    refine ⟨t, rfl, ht, ?_⟩
    refine gEq_ (α := Sheet) (by decide) ?_
    rw [decide_eq_true (show sortR s = sortR t from z), Bool.true_and] at h
    exact h
  · (dsimp only; first | rw [if_pos rfl] | rw [if_neg (by simp)])
    rw [decide_eq_false (show ¬ sortR s = sortR t from z), Bool.false_and] at h
    exact h
end Dat

/-! DatQ: x += e; a dict that remembers results: new, asked, stored into. -/
namespace Dat
open PySem PySem.Spec PyProof.Rows L2

section
variable {X : Cx} {e : Expr} {we : WE} {pos pos' : Pos}
/-- x op= e, both whole numbers -/
def sAug (i : Nat) (f : Int → Int → Int) (we : WE) : WS := fun ρ D => match ρ.getD i none with
  | some (.d (.int a)) => we ρ fun d => match d with
    | .int b => D.nx (ρ.set i (some (.d (.int (f a b)))))
    | _ => False
  | _ => False
theorem ds_aug {i : Nat} {x : Str} {op : Operator} {f : Int → Int → Int} (hN : X.N.Nodup) (hi : X.N[i]? = some x) (hx : Loc X.env.scope x) (ho : PIp X op (ipI f)) (he : DE X e we) (hf : X.fn x = true ∨ X.env.scope.names.lookup x = some .local := by first | exact .inl rfl | exact .inr rfl) :
    DS X (.AugAssign (.Name x pos') op e pos) (sAug i f we) := psC (ps_aug hN hi hx he ho hf) fun D σ H ⟨F, Γ, A, ρ, Dd, R, hw, E⟩ => by
  unfold sAug at hw
  split at hw
  · rename_i a q
    obtain ⟨v, h1, h2⟩ := R.e.cells i _ (getD_some q)
    have e1 := (DA.b (Γ := Γ) h2).int
    subst e1
    refine ⟨_, h1, Γ, A, ρ, _, R.e, hw, fun u d H1 x g hu hP => ?_⟩
    cases d with
    | int b =>
      have e2 := (DA.b (Γ := Γ) hu).int
      subst e2
      exact ⟨a, b, rfl, rfl, E.nx Γ A _ H1 _ ((R.step x g).setD (.int _)) (LaterS.of_ext R.sit x) hP⟩
    | _ => exact hP.elim
  · exact hw.elim
end

/-! ### keys -/
def nKey (pl : List Nat) : List Key := pl.map fun n : Nat => (Sum.inl (n : Int) : Key)
def tupN (pl : List Nat) : PyData := .tuple (pl.map fun n : Nat => .int (n : Int))
theorem nKey_inj : ∀ {a b : List Nat}, nKey a = nKey b → a = b
  | [], [], _ => rfl
  | [], _ :: _, h => by cases h
  | _ :: _, [], h => by cases h
  | x :: a, y :: b, h => by
    unfold nKey at h
    rw [List.map_cons, List.map_cons, List.cons.injEq] at h
    have h1 : (x : Int) = (y : Int) := Sum.inl.inj h.1
    rw [nKey_inj (a := a) (b := b) h.2, show x = y by omega]
theorem key_at {K : PySem.W.Frag} {Γ : Gam} {A : Hot} {H : Hp} {v : V} {pl : List Nat} (h : DA K A H v (tupN pl)) : ∃ b, v = .ref b ∧ H b = some (.tup ((nKey pl).map kV)) := by
  obtain ⟨b, vs, rfl, _, hb, hvs⟩ := (DA.b (Γ := Γ) h).tup
  have e : (pl.map fun n : Nat => PyData.int (n : Int)) = (nKey pl).map keyD := by
    unfold nKey
    rw [List.map_map]
    rfl
  rw [e] at hvs
  rw [keys_of _ hvs] at hb
  exact ⟨b, rfl, hb⟩
theorem val_any {kvs : List (List Key × V)} {k : List Key} {v : V} (h : valV kvs k = some v) : (k, v) ∈ kvs := by
  unfold valV at h
  cases q : kvs.find? fun kv => decide (kv.1 = k) with
  | none => rw [q] at h; cases h
  | some p =>
    rw [q] at h
    have h1 := List.find?_some q
    have h2 := List.mem_of_find?_eq_some q
    have e1 : p.1 = k := of_decide_eq_true h1
    have e2 : p.2 = v := Option.some.inj h
    rw [← e1, ← e2]
    exact h2
theorem memo_val {H : Hp} {a : Addr} {f : List Nat → Int} {dom : List (List Nat)} {kvs : List (List Key × V)} {pl : List Nat} {v : V} (h : KOk H a (.memo f dom)) (e : H a = some (.dT kvs)) (hv : valV kvs (nKey pl) = some v) : v = .int (f pl) := by
  obtain ⟨kvs', e', _, hk⟩ := h
  rw [e] at e'
  cases e'
  obtain ⟨pl', _, e1, e2⟩ := hk _ (val_any hv)
  rw [nKey_inj (a := pl) (b := pl') e1]
  exact e2
theorem keys_put {kvs : List (List Key × V)} {k : List Key} {v : V} : (k ∈ kvs.map (·.1) ∧ (putK kvs k v).map (·.1) = kvs.map (·.1)) ∨ (k ∉ kvs.map (·.1) ∧ (putK kvs k v).map (·.1) = kvs.map (·.1) ++ [k]) := by
  unfold putK
  by_cases q : (kvs.any fun kv => decide (kv.1 = k)) = true
  · rw [if_pos q, List.map_map]
    obtain ⟨p, hp, e⟩ := List.any_eq_true.mp q
    refine .inl ⟨List.mem_map.mpr ⟨p, hp, of_decide_eq_true e⟩, List.map_congr_left fun p _ => ?_⟩
    show (if p.1 = k then (p.1, v) else p).1 = p.1
    split <;> rfl
  · rw [if_neg q, List.map_append]
    refine .inr ⟨fun h => q ?_, rfl⟩
    obtain ⟨p, hp, e⟩ := List.mem_map.mp h
    exact List.any_eq_true.mpr ⟨p, hp, decide_eq_true e⟩
theorem mem_put {kvs : List (List Key × V)} {k : List Key} {v : V} {p : List Key × V} (h : p ∈ putK kvs k v) : p ∈ kvs ∨ p = (k, v) := by
  unfold putK at h
  split at h
  · obtain ⟨q, hq, e⟩ := List.mem_map.mp h
    by_cases c : q.1 = k
    · rw [if_pos c] at e
      exact .inr (by rw [← e, c])
    · rw [if_neg c] at e
      exact .inl (e ▸ hq)
  · rcases List.mem_append.mp h with q | q
    · exact .inl q
    · exact .inr (List.mem_singleton.mp q)
theorem few_keys {α : Type} [DecidableEq α] : ∀ {l m : List α}, l.Nodup → (∀ x ∈ l, x ∈ m) → l.length ≤ m.length
  | [], _, _, _ => Nat.zero_le _
  | x :: l, m, hn, h => by
    rw [List.nodup_cons] at hn
    have hx := h x (List.mem_cons_self ..)
    have := few_keys (m := m.erase x) hn.2 fun y hy => (List.mem_erase_of_ne (fun e => hn.1 (by rw [← e]; exact hy))).mpr (h y (List.mem_cons_of_mem _ hy))
    rw [List.length_erase_of_mem hx] at this
    have h0 : 0 < m.length := List.length_pos_of_mem hx
    rw [List.length_cons]
    omega
/-- a result stored -/
theorem memo_put {Γ : Gam} {H : Hp} {a : Addr} {f : List Nat → Int} {dom : List (List Nat)} {pl : List Nat} (g : GOk Γ H) (ha : Γ a = some (.memo f dom)) (hp : pl ∈ dom) (hd : dom.length ≤ 100000) :
    ∃ kvs : List (List Key × V), H a = some (.dT kvs) ∧ kvs.length < sizeLine ∧ valV (putK kvs (nKey pl) (.int (f pl))) (nKey pl) = some (.int (f pl)) ∧
      Ext Γ H (upd H a (.dT (putK kvs (nKey pl) (.int (f pl))))) ∧ GOk Γ (upd H a (.dT (putK kvs (nKey pl) (.int (f pl))))) := by
  obtain ⟨kvs, e, nd, hk⟩ := g a _ ha
  have hl : kvs.length ≤ dom.length := by
    have := few_keys (m := dom.map nKey) nd fun k hk' => by
      obtain ⟨p, hp, rfl⟩ := List.mem_map.mp hk'
      obtain ⟨q, hq, e1, _⟩ := hk p hp
      exact List.mem_map.mpr ⟨q, hq, e1.symm⟩
    rwa [List.length_map, List.length_map] at this
  refine ⟨kvs, e, by rw [sizeLine_eq]; omega, by rw [valV_put, if_pos rfl], ExA.hot (by show Γ a ≠ none; rw [ha]; simp), fun b k hb => ?_⟩
  by_cases c : b = a
  · subst c
    rw [ha] at hb
    cases hb
    refine ⟨_, upd_same, ?_, fun p hp' => ?_⟩
    · rcases keys_put (kvs := kvs) (k := nKey pl) (v := .int (f pl)) with ⟨q, e1⟩ | ⟨q, e1⟩
      · rw [e1]; exact nd
      · rw [e1, List.nodup_append]
        refine ⟨nd, by simp, fun x hx y hy e => ?_⟩
        rw [List.mem_singleton] at hy
        exact q (by rw [← hy, ← e]; exact hx)
    · rcases mem_put hp' with q | q
      · exact hk p q
      · rw [q]
        exact ⟨pl, hp, rfl, rfl⟩
  · exact (g b k hb).same (upd_ne c)

/-! ### if k not in known: .., .., known[k] = v ; return known[k] -/
/-- i: the dict, j: the key, l: the value -/
def sMemo (i j l : Nat) (w1 w2 : WS) : WS := fun ρ D => match ρ.getD i none, ρ.getD j none with
  | some (.obj a (.memo f dom)), some (.d d) => ∃ pl, d = tupN pl ∧ pl ∈ dom ∧ dom.length ≤ 100000 ∧ D.rt (.int (f pl)) ∧
    w1 ρ { D with nx := fun ρ1 => w2 ρ1 { D with nx := fun ρ2 => ρ2.getD i none = some (.obj a (.memo f dom)) ∧ ρ2.getD j none = some (.d d) ∧ ρ2.getD l none = some (.d (.int (f pl))) } }
  | _, _ => False
theorem ds_memo {X : Cx} {i j l : Nat} {c o k o2 k2 v2 e : Expr} {st1 st2 : Stmt} {w1 w2 : WS} {pos pos1 pos2 pos3 pos4 : Pos} (hc : PT X c (tB (tDNotIn (tVar j) (tVar i)))) (h1 : DS X st1 w1) (h2 : DS X st2 w2)
    (hp : PS X (.Assign [.Subscript o k pos3] v2 pos4) (L2.sDPut (tVar i) (tVar j) (tVar l))) (hr : PE X e (tDGet (tVar i) (tVar j))) :
    DSs X [.If c [st1, st2, .Assign [.Subscript o k pos3] v2 pos4] [] pos, .Return (some e) pos2] (sMemo i j l w1 w2) :=
  pssC (pss_cons (ps_if hc (pss_cons h1 (pss_cons h2 (pss_one hp))) pss_nil) (pss_one (ps_ret hr))) fun D σ H ⟨F, Γ, A, ρ, Dd, R, hw, E⟩ => by
    unfold sMemo at hw
    split at hw
    · rename_i a f dom d qi qj
      obtain ⟨pl, rfl, hd, hdl, hrt, hw⟩ := hw
      -- the dict and the key, at any later place
      have look : ∀ {Γ' : Gam} {A' : Hot} {σ' : St} {H' : Hp} {ρ' : Env}, RepE X.K Γ' A' σ' H' ρ' → ρ'.getD i none = some (.obj a (.memo f dom)) → ρ'.getD j none = some (.d (tupN pl)) →
          ∃ b, σ'[i]? = some (some (.ref a)) ∧ Γ' a = some (.memo f dom) ∧ σ'[j]? = some (some (.ref b)) ∧ H' b = some (.tup ((nKey pl).map kV)) := fun {Γ' A' σ' H' ρ'} R' e1 e2 => by
        obtain ⟨v1, s1, rfl, g1⟩ := R'.cells i _ (getD_some e1)
        obtain ⟨v2, s2, hv⟩ := R'.cells j _ (getD_some e2)
        obtain ⟨b, rfl, hb⟩ := key_at (Γ := Γ') hv
        exact ⟨b, s1, g1, s2, hb⟩
      obtain ⟨b, s1, ga, s2, hb⟩ := look R.e qi qj
      obtain ⟨kvs, hk, _, _⟩ := id (R.sit.gok a _ ga)
      refine ⟨.ref b, s2, .ref a, s1, a, _, rfl, DGet.t hk hb, _, rfl, ?_⟩
      cases hv : valV kvs (nKey pl) with
      | some v =>
        rw [if_neg (by simp)]
        show tRet (tDGet (tVar i) (tVar j)) D σ H
        have ev := memo_val (R.sit.gok a _ ga) hk hv
        subst ev
        exact ⟨.ref a, s1, .ref b, s2, a, _, rfl, hv ▸ DGet.t hk hb, E.rt _ (.int (f pl)) H R.ext (R.fgok R.sit.gok) (.int _) hrt⟩
      | none =>
        refine ⟨F, Γ, A, ρ, _, R, hw, ⟨fun Γ1 A1 σ1 H1 ρ1 R1 l1 hw1 => ⟨F, Γ1, A1, ρ1, _, R1, hw1, ⟨fun Γ2 A2 σ2 H2 ρ2 R2 l2 hw2 => ?_, E.rt, E.rf, fun Γ2 A2 σ2 H2 ρ2 R2 l2 h => ?_, fun Γ2 A2 σ2 H2 ρ2 R2 l2 h => ?_⟩⟩, E.rt, E.rf, E.bk, E.ct⟩⟩
        · obtain ⟨e1, e2, e3⟩ := hw2
          obtain ⟨b2, t1, gb, t2, hb2⟩ := look R2.e e1 e2
          obtain ⟨vv, t3, hvv⟩ := R2.e.cells l _ (getD_some e3)
          have ev := (DA.b (Γ := Γ2) hvv).int
          subst ev
          obtain ⟨kvs2, hk2, hl2, hval, x, g⟩ := memo_put R2.sit.gok gb hd hdl
          refine ⟨.int (f pl), t3, .ref a, t1, .ref b2, t2, a, _, rfl, DPut.t hk2 hb2 hl2, ?_⟩
          have nab : b2 ≠ a := ne_of hb2 hk2 (fun z => nomatch z)
          exact ⟨.ref a, t1, .ref b2, t2, a, _, rfl, hval ▸ DGet.t upd_same (by rw [upd_ne nab]; exact hb2), E.rt _ (.int (f pl)) _ (R2.fext x) (R2.fgok g) (.int _) hrt⟩
        · exact E.bk Γ2 A2 σ2 H2 ρ2 R2 (l1.trans R1.sit l2) h
        · exact E.ct Γ2 A2 σ2 H2 ρ2 R2 (l1.trans R1.sit l2) h
    · exact hw.elim

/-! ### a new dict that remembers -/
def Gam.memo (Γ : Gam) (p : Addr) (f : List Nat → Int) (dom : List (List Nat)) (hp : Γ p = none) : Gam := ⟨fun a => if a = p then some (.memo f dom) else Γ a, fun a L e => by
  have e : (if a = p then some (Kind.memo f dom) else Γ a) = some (.tape L) := e
  show (if L = p then some (Kind.memo f dom) else Γ L) = some .intl
  by_cases c : a = p
  · rw [if_pos c] at e; cases e
  · rw [if_neg c] at e
    have w := Γ.wf a L e
    rw [if_neg (fun z => by rw [z] at w; rw [w] at hp; cases hp)]
    exact w⟩
section
variable {K : PySem.W.Frag} {Γ Γ' : Gam} {A A' : Hot} {σ : St} {H H' : Hp} {ρ : Env} {p : Addr} {f : List Nat → Int} {dom : List (List Nat)}
theorem memo_self (hp : Γ p = none) : (Γ.memo p f dom hp) p = some (.memo f dom) := if_pos rfl
theorem memo_old (hp : Γ p = none) {a : Addr} (h : a ≠ p) : (Γ.memo p f dom hp) a = Γ a := if_neg h
theorem memo_sit (S : Sit Γ A H) (h : H p = none) : Sit (Γ.memo p f dom (S.gcold h)) (hadd A p) (upd H p (.dT [])) where
  gok := fun a k e => by
    by_cases c : a = p
    · subst c
      rw [memo_self] at e
      cases e
      exact ⟨[], upd_same, List.nodup_nil, fun q hq => by cases hq⟩
    · rw [memo_old _ c] at e
      exact (S.gok a k e).same (upd_ne c)
  gdom := fun a e => by
    by_cases c : a = p
    · exact .inr c
    · rw [memo_old _ c] at e
      exact .inl (S.gdom a e)
  adom := fun a h2 => by
    by_cases c : a = p
    · rw [c, upd_same]; simp
    · rw [upd_ne c]
      exact S.adom a (h2.resolve_right c)
  nt := fun a ts h2 e => by
    by_cases c : a = p
    · rw [c, upd_same] at e; cases e
    · rw [upd_ne c] at e
      exact S.nt a ts (h2.resolve_right c) e
theorem memo_later (S : Sit Γ A H) (h : H p = none) : LaterS Γ A H (Γ.memo p f dom (S.gcold h)) (hadd A p) (upd H p (.dT [])) where
  a := fun _ h => .inl h
  an := fun x h1 h2 => h1.elim (fun z => absurd z h2) fun z => by rw [z]; exact h
  ex := ExA.new h
  g := fun x hx => memo_old _ fun z => by
    rw [z] at hx
    exact hx (S.gcold h)
  gn := fun x h1 h2 => by
    by_cases c : x = p
    · rw [c]; exact h
    · rw [memo_old _ c] at h2
      exact absurd h1 h2
/-- cells at a later place -/
theorem CellOk.later {v : V} {c : Cell} (l : LaterS Γ A H Γ' A' H') (x : Ext Γ H H') (h : CellOk K Γ A H v c) : CellOk K Γ' A' H' v c := by
  have g0 : ∀ {a : Addr} {o : HO}, Γ a = none → H a = some o → Γ' a = none := fun {a o} h1 h2 => by
    cases q : Γ' a with
    | none => rfl
    | some k =>
      have := l.gn a h1 (by rw [q]; simp)
      rw [h2] at this
      cases this
  cases c with
  | d y => exact l.da h
  | obj a k => exact ⟨h.1, (l.g a (by rw [h.2]; simp)).trans h.2⟩
  | lst xs => obtain ⟨a, vs, h1, h2, h3, h4, h5⟩ := h; exact ⟨a, vs, h1, l.a a h2, g0 h3 h4, x a _ (by simp [h3]) h4, l.das h5⟩
  | dT kvs => obtain ⟨a, vs, h1, h2, h3, h4, h5, h6⟩ := h; exact ⟨a, vs, h1, l.a a h2, g0 h3 h4, x a _ (by simp [h3]) h4, h5, l.das h6⟩
  | dK kvs => obtain ⟨a, vs, h1, h2, h3, h4, h5, h6⟩ := h; exact ⟨a, vs, h1, l.a a h2, g0 h3 h4, x a _ (by simp [h3]) h4, h5, l.das h6⟩
theorem RepE.later (R : RepE K Γ A σ H ρ) (S : Sit Γ' A' H') (l : LaterS Γ A H Γ' A' H') (x : Ext Γ H H') : RepE K Γ' A' σ H' ρ :=
  ⟨S, R.len, fun i c h => let ⟨v, h1, h2⟩ := R.cells i c h; ⟨v, h1, h2.later l x⟩⟩
theorem Rep.later {F : Fra} (R : Rep K F Γ A σ H ρ) (S : Sit Γ' A' H') (l : LaterS Γ A H Γ' A' H') (x : Ext Γ H H') : Rep K F Γ' A' σ H' ρ :=
  ⟨R.e.later S l x, R.fext x, fun a h => by rw [l.g a (by rw [R.g0 a h]; exact h)]; exact R.g0 a h, fun a h n => by
    by_cases c : Γ a = none
    · exact R.back (l.gn a c n)
    · exact R.gn a h c, fun a h => l.a a (R.a0 a h), R.own, R.inj⟩
theorem gok_down (l : LaterS Γ A H Γ' A' H') {H2 : Hp} (g : GOk Γ' H2) : GOk Γ H2 := fun a k h => g a k ((l.g a (by rw [h]; simp)).trans h)
theorem ext_down (l : LaterS Γ A H Γ' A' H') (x : Ext Γ H H') {H2 : Hp} (y : Ext Γ' H' H2) : Ext Γ H H2 := fun a o n e => by
  refine y a o (fun z => ?_) (x a o n e)
  have c : Γ a = none := by
    cases q : Γ a with
    | none => rfl
    | some k => exact absurd (show Γ a ≠ none by rw [q]; simp) n
  have := l.gn a c z
  rw [e] at this
  cases this
end
/-- arguments, one of them a new dict -/
def tArM (K : PySem.W.Frag) (n : Nat) (w : WA) : TA := fun σ H Q => ∃ Γ A ρ P, RepE K Γ A σ H ρ ∧ w ρ P ∧ ∀ vs cs Γ' A' H', LaterS Γ A H Γ' A' H' → Sit Γ' A' H' → Ext Γ H H' → CellsOk K Γ' A' H' vs cs → cs.length = n → P cs → Q vs H'
abbrev DArM (X : Cx) (es : List Expr) (n : Nat) (w : WA) : Prop := PA X es (tArM X.K n w)
/-- {}, then data -/
def aM (wa : WA) : WA := fun ρ P => ∃ f dom, ∀ a, wa ρ fun cs => P (.obj a (.memo f dom) :: cs)
section
variable {X : Cx} {e : Expr} {es : List Expr} {w : WE} {wa : WA} {n : Nat} {pos : Pos}
theorem arm_new (hr : DAr X es n wa) (hs : starEach (.Dict [] [] pos :: es) X.env = (false, eval (.Dict [] [] pos) X.env) :: starEach es X.env := by rfl) : DArM X (.Dict [] [] pos :: es) (n + 1) (aM wa) := paC (pa_cons pe_dnewT hr hs) fun σ H Q ⟨Γ, A, ρ, P, R, hw, k⟩ => fun p hp => by
  obtain ⟨f, dom, hw⟩ := hw
  have S := R.sit
  have l := memo_later (f := f) (dom := dom) S hp
  have S' := memo_sit (f := f) (dom := dom) S hp
  refine ⟨Γ.memo p f dom (S.gcold hp), hadd A p, ρ, _, R.later S' l (ExA.new hp), hw p, fun vs cs H2 x2 g2 hvs hn hP => ?_⟩
  have l2 := l.trans S' (LaterS.of_ext S' x2)
  have S2 := S'.ext x2 g2
  refine k _ _ _ _ H2 l2 S2 (ext_down l (ExA.new hp) x2) (.cons (show CellOk X.K (Γ.memo p f dom (S.gcold hp)) (hadd A p) H2 (.ref p) (.obj p (.memo f dom)) from ⟨rfl, memo_self _⟩) hvs) (by rw [List.length_cons, hn]) hP
theorem arm_d (h : DE X e w) (hr : DArM X es n wa) (hs : starEach (e :: es) X.env = (false, eval e X.env) :: starEach es X.env := by rfl) : DArM X (e :: es) (n + 1) (aD w wa) := paC (pa_cons h hr hs) fun σ H Q ⟨Γ, A, ρ, P, R, hw, k⟩ =>
  ⟨Γ, A, ρ, _, R, hw, fun v d H1 x1 g1 hv hP => ⟨Γ, A, ρ, _, R.ext x1 g1, hP, fun vs cs Γ' A' H2 l2 S2 x2 hvs hn hP2 =>
    k _ _ Γ' A' H2 ((LaterS.of_ext R.sit x1).trans (R.sit.ext x1 g1) l2) S2 (x1.trans x2) (.cons (show CellOk X.K Γ' A' H2 v (.d d) from l2.da hv) hvs) (by rw [List.length_cons, hn]) hP2⟩⟩
theorem t_callM {K : PySem.W.Frag} {fr : Bool} {C : Con} : ∀ σ H Q, tE K (wCall C wa) σ H Q → tCall (spD K n fr C) [] E0 (tArM K n wa) σ H Q := fun σ H Q ⟨Γ, A, ρ, P, R, hw, k⟩ =>
  ⟨Γ, A, ρ, _, R, hw, fun vs cs Γ' A' H1 l S x hvs hn hP => by
    dsimp only
    rw [List.append_nil]
    exact ⟨Γ', A', cs, P, S, hvs, hn, hP, fun v d H' x2 g hd _ hP2 => k v d H' (ext_down l x x2) (gok_down l g) (hd.weak l.a) hP2⟩⟩
theorem de_callM {x : Str} {f : Addr} {fd : FuncData} {ps : List Str} {k : Nat} {fr : Bool} {C : Con} {p : Pos} (F : FnOk X.prog X.w X.K X.mg X.base CX0 k f fd ps (spD X.K n fr C)) (hr : Room k X.A) (hg : Gl X x) (hm : X.mg x = some (.ref f)) (hk : PySem.W.keepIn X.K (.ref f) = true) (hb : Binds X.K fd ps [])
    (ha : DArM X (e :: es) n wa) (hdb : (x == ("__debug__" : Str)) = false := by decide) (he : starEach (e :: es) X.env = (false, eval e X.env) :: starEach es X.env := by rfl) (hpl : (backTo pos (starEach es X.env)).any (·.1) = false := by rfl) :
    DE X (.Call (.Name x p) (e :: es) [] pos) (wCall C wa) := peC (pe_call F hr hg hm hk hb .nil pass0 ha hdb he hpl) t_callM
/-- three names at once, the first a new dict -/
def noOwnC (cs : List Cell) : Prop := ∀ c ∈ cs, isOwn c = false
def sManyM (is : List Nat) (wa : WA) : WS := fun ρ D => wa ρ fun cs => noOwnC cs ∧ D.nx (setAll is cs ρ)
theorem manyM_ends {K : PySem.W.Frag} {F : Fra} {Γ Γ' : Gam} {A A' : Hot} {σ : St} {H H' : Hp} {ρ : Env} {D : Ends} {Dd : DEnds} {is : List Nat} {vs : List V} {cs : List Cell} (R : Rep K F Γ A σ H ρ) (E : EndsOk K F Γ A H Dd D) (l : LaterS Γ A H Γ' A' H') (S : Sit Γ' A' H') (x : Ext Γ H H')
    (h : CellsOk K Γ' A' H' vs cs) (no : noOwnC cs) (q : Dd.nx (setAll is cs ρ)) : D.nx (setsV is vs σ) H' := by
  have R' := R.later S l x
  have none' : ∀ i a, ¬ OwnAt vs cs i a := fun i a ⟨c, h1, h2, _⟩ => by
    rw [no c (List.mem_of_getElem? h1)] at h2
    cases h2
  exact E.nx Γ' A' _ H' _ (Rep.setMany (H0 := H) (is := is) R' h (fun i a h => absurd h (none' i a)) (fun i j a h => absurd h (none' i a)) fun j c a i _ _ _ q4 => none' i a q4) l q
theorem ds_manyM3 {i j l : Nat} {x y z : Str} {a b c : Expr} {px py pz pt : Pos} {kt k2 pt2} (hc : X.calm = true) (hN : X.N.Nodup) (hi : X.N[i]? = some x) (hj : X.N[j]? = some y) (hl : X.N[l]? = some z) (hij : i ≠ j) (hil : i ≠ l) (hjl : j ≠ l)
    (hx : X.env.scope.names.lookup x = some .local) (hy : X.env.scope.names.lookup y = some .local) (hz : X.env.scope.names.lookup z = some .local) (ha : DArM X [a, b, c] 3 wa)
    (hw : swappedStores [.Tuple [.Name x px, .Name y py, .Name z pz] kt pt] (.Tuple [a, b, c] k2 pt2) X.env = pure (some [x, y, z])) (hs : swapsWithSole [.Tuple [.Name x px, .Name y py, .Name z pz] kt pt] (.Tuple [a, b, c] k2 pt2) pos.line X.env = pure false := by rfl) :
    DS X (.Assign [.Tuple [.Name x px, .Name y py, .Name z pz] kt pt] (.Tuple [a, b, c] k2 pt2) pos) (sManyM [i, j, l] wa) := psC (ps_par3 hc hN hi hj hl hij hil hjl hx hy hz ha hw hs) fun D σ H ⟨F, Γ, A, ρ, Dd, R, hw, E⟩ =>
  ⟨Γ, A, ρ, _, R.e, hw, fun vs cs Γ' A' H1 lt S x h hl hP => by
    match cs, vs, h, hl with
    | [c1, c2, c3], [v1, v2, v3], h, _ => exact ⟨_, _, _, rfl, manyM_ends (is := [i, j, l]) R E lt S x h hP.1 hP.2⟩
    | [_, _, _], [], h, _ => cases h
    | [_, _, _], [_], h, _ => cases h; rename_i h; cases h
    | [_, _, _], [_, _], h, _ => cases h; rename_i h; cases h; rename_i h; cases h
    | [_, _, _], _ :: _ :: _ :: _ :: _, h, _ => cases h; rename_i h; cases h; rename_i h; cases h; rename_i h; cases h⟩
end
end Dat

/-! DatV: own lists kept at the end, set at a place, asked for places and counts; range of two; two new lists at once. -/
namespace Dat
open PySem PySem.Spec PyProof.Rows L2

section
variable {X : Cx} {e e2 : Expr} {we we2 wa wb : WE} {wt : WT} {pos pos' : Pos}
theorem Rep.fcold {K : PySem.W.Frag} {F : Fra} {Γ : Gam} {A : Hot} {σ : St} {H : Hp} {ρ : Env} {a : Addr} (h : F.H a = none) : ¬ F.A a := fun z => F.ad a z h
/-- return (x, y), x an own list -/
def sRetOV (i j : Nat) : WS := fun ρ D => match ρ.getD i none, ρ.getD j none with
  | some (.lst xs), some (.d d) => D.rt (.tuple [.list xs, d])
  | _, _ => False
theorem ds_retOV {i j k : Nat} {a b : Expr} {tpos : Pos} (ha : PE X a (tVar i)) (hb : PE X b (tVar j)) (h1 : starEach [a, b] X.env = (false, eval a X.env) :: starEach [b] X.env := by rfl) (h2 : starEach [b] X.env = (false, eval b X.env) :: starEach [] X.env := by rfl) :
    DS X (.Return (some (.Tuple [a, b] k tpos)) pos) (sRetOV i j) := psC (ps_ret (pe_tup (pa_cons ha (pa_cons hb pa_nil h2) h1))) fun D σ H ⟨F, Γ, A, ρ, Dd, R, hw, E⟩ => by
  unfold sRetOV at hw
  split at hw
  · rename_i xs d q1 q2
    obtain ⟨v, s1, c, vs, e1, a2, a3, a4, a5⟩ := R.e.cells i _ (getD_some q1)
    obtain ⟨u, s2, hu⟩ := R.e.cells j _ (getD_some q2)
    subst e1
    have hu : DA X.K A H u d := hu
    refine ⟨_, s1, u, s2, ⟨by show 2 ≤ sizeLine; decide, fun p hp => ?_⟩⟩
    have ca : ¬ F.A c := Rep.fcold (K := X.K) (σ := σ) (ρ := ρ) (Γ := Γ) (A := A) (H := H) (R.own i _ c (getD_some q1) rfl s1)
    have cp : ¬ F.A p := Rep.fcold (K := X.K) (σ := σ) (ρ := ρ) (Γ := Γ) (A := A) (H := H) (R.back hp)
    have nc : c ≠ p := ne_of_none a4 hp
    refine E.rt (.ref p) _ _ (R.fext (ExA.new hp)) (R.fgok (R.sit.gok.new hp)) (.tup cp upd_same (.cons (.lst ca (by rw [upd_ne nc]; exact a4) ((a5.weak R.a0).ext (ExA.new hp))) (.cons ((hu.weak R.a0).ext (ExA.new hp)) .nil))) hw
  · exact hw.elim
/-- return e if c else x, x an own list -/
def sRetIf (wt : WT) (we : WE) (i : Nat) : WS := fun ρ D => wt ρ fun b => if b = true then we ρ D.rt else sRetO i ρ D
theorem ds_retIf {i : Nat} {c a b : Expr} {ipos : Pos} (hc : DT X c wt) (ha : DE X a we) (hb : PE X b (tVar i)) : DS X (.Return (some (.IfExp c a b ipos)) pos) (sRetIf wt we i) :=
  psC (ps_ret (pe_ifExp hc ha hb)) fun D σ H ⟨F, Γ, A, ρ, Dd, R, hw, E⟩ => ⟨Γ, A, ρ, _, R.e, hw, fun t H1 x g hP => by
    have R1 := R.step x g
    cases t with
    | true => exact ⟨Γ, A, ρ, _, R1.e, hP, fun v d H2 x2 g2 hv hd => E.rt v d H2 (R1.fext x2) (R1.fgok g2) (hv.weak R.a0) hd⟩
    | false =>
      have hP : sRetO i ρ Dd := hP
      unfold sRetO at hP
      split at hP
      · rename_i xs q
        obtain ⟨v, h1, a, vs, e1, e2, e3, e4, e5⟩ := R1.e.cells i _ (getD_some q)
        subst e1
        exact ⟨_, h1, E.rf a vs xs H1 (R1.own i _ a (getD_some q) rfl h1) R1.ext (R1.fgok R1.sit.gok) e4 (e5.weak fun b h => h.elim (fun z => R1.a0 b z) fun z => by rw [z]; exact e2) hP⟩
      · rename_i d q
        obtain ⟨v, h1, h2⟩ := R1.e.cells i _ (getD_some q)
        exact ⟨v, h1, E.rt v d H1 R1.ext (R1.fgok R1.sit.gok) (DA.weak R1.a0 h2) hP⟩
      · exact hP.elim⟩
/-- xs[k] = v, xs an own list -/
def sLSet (i : Nat) (wk wv : WE) : WS := fun ρ D => match ρ.getD i none with
  | some (.lst xs) => wv ρ fun d => wk ρ fun n => match n with
    | .int n => ∃ j, ixN xs.length n = some j ∧ D.nx (ρ.set i (some (.lst (xs.set j d))))
    | _ => False
  | _ => False
theorem ds_lset {i : Nat} {o k v : Expr} {wk wv : WE} {tpos : Pos} (ho : PE X o (tVar i)) (hk : DE X k wk) (hv : DE X v wv) (ha : ∀ u, assign (.Subscript o k tpos) X.env u = (do
      let ov ← holding [u] (eval o X.env)
      let iv ← holding [u, ov] (eval k X.env)
      standAt tpos
      holding [u, ov, iv] (setItem ov iv u)
      release [u, ov, iv] []) := by intro _; rfl) (hs : swapsWithSole [.Subscript o k tpos] v pos.line X.env = pure false := by rfl) (hw : swappedStores [.Subscript o k tpos] v X.env = pure none := by rfl) (h1 : (assignEach [.Subscript o k tpos] X.env).map (·.2) = [assign (.Subscript o k tpos) X.env] := by rfl) :
    DS X (.Assign [.Subscript o k tpos] v pos) (sLSet i wk wv) := psC (ps_asg hv (pg_sub ho hk set_list ha) hs hw h1) fun D σ H ⟨F, Γ, A, ρ, Dd, R, hw, E⟩ => by
  unfold sLSet at hw
  split at hw
  · rename_i xs q
    obtain ⟨v0, s1, a, vs, e1, a2, a3, a4, a5⟩ := R.e.cells i _ (getD_some q)
    subst e1
    refine ⟨Γ, A, ρ, _, R.e, hw, fun u d H1 x1 g1 hu1 hP => ⟨_, s1, Γ, A, ρ, _, R.e.ext x1 g1, hP, fun un dn H2 x2 g2 hun hP2 => ?_⟩⟩
    cases dn with
    | int n =>
      have en := (DA.b (Γ := Γ) hun).int
      subst en
      obtain ⟨j, hj, hn⟩ := hP2
      have R2 := (R.step x1 g1).step x2 g2
      have x12 := x1.trans x2
      have H2a : H2 a = some (.lst vs) := x12 a _ (by simp [a3]) a4
      refine ⟨a, vs, n, j, rfl, rfl, H2a, by rw [a5.length]; exact hj, ?_⟩
      have dd := (a5.ext (x12.weak R.sit.gdom)).set (hu1.ext (x2.weak R.sit.gdom)) j
      obtain ⟨R3, l3⟩ := R2.putO (i := i) (o := .lst (vs.set j u)) (c' := .lst (xs.set j d)) (getD_some q) rfl s1 a2 a3 rfl (fun _ e => nomatch e) ⟨a, _, rfl, a2, a3, upd_same, dd.ext (ExA.hot a2)⟩
      exact E.nx Γ A σ _ _ R3 ((LaterS.of_ext R.sit x12).trans R2.sit l3) hn
    | _ => exact hP2.elim
  · exact hw.elim
/-! ### range(a, b) -/
def rg2D (a b : Int) : List PyData := (List.range (b - a).toNat).map fun i => PyData.int (a + (i : Nat))
def wRg2 (wa wb : WE) : WL := fun ρ P => wa ρ fun d => wb ρ fun e => match d, e with
  | .int a, .int b => -1000000 ≤ a ∧ a ≤ 1000000 ∧ -1000000 ≤ b ∧ b ≤ 1000000 ∧ P (rg2D a b)
  | _, _ => False
theorem di_range2 {tg a b : Expr} {p : Pos} (hg : Gl X "range") (hm : X.mg "range" = none) (ha : DE X a wa) (hb : DE X b wb) (h1 : starEach [a, b] X.env = (false, eval a X.env) :: starEach [b] X.env := by rfl) (h2 : starEach [b] X.env = (false, eval b X.env) :: starEach [] X.env := by rfl)
    (hs : starEach [a, b] X.env = [(false, eval a X.env), (false, eval b X.env)] := by rfl) (hs2 : starEach [b] X.env = [(false, eval b X.env)] := by rfl) : DI X tg (.Call (.Name "range" p) [a, b] [] pos) (wRg2 wa wb) :=
  piC (pi_range2 hg hm (pa_cons ha (pa_cons hb pa_nil h2) h1) hs hs2) fun σ H Q ⟨Γ, A, ρ, P, R, hw, k⟩ => ⟨Γ, A, ρ, _, R, hw, fun v d H1 x1 g1 hv hP => ⟨Γ, A, ρ, _, R.ext x1 g1, hP, fun u e H2 x2 g2 hu hP2 => by
    cases d with
    | int i =>
      cases e with
      | int j =>
        cases hv
        cases hu
        obtain ⟨b1, b2, b3, b4, hP3⟩ := hP2
        refine ⟨i, j, rfl, ⟨by omega, by omega, by omega, by omega⟩, k _ _ H2 (x1.trans x2) g2 ⟨⟨YFn fun n => .int (i + n), ?_, fun n H x H' hn y Γ' A' l S => ?_⟩, ?_⟩ hP3⟩
        · have el : (rg2D i j).length = (j - i).toNat := by simp [rg2D]
          rw [el]
          exact walk_range.mono (fun _ _ => trivial) fun i H x H' _ _ y => y
        · obtain ⟨rfl, rfl⟩ := y
          have hn' : n < (j - i).toNat := by simpa [rg2D] using hn
          refine ⟨ExA.refl _ _, S.gok, .int (i + (n : Nat)), ?_, .int _⟩
          unfold rg2D
          rw [List.getElem?_map, List.getElem?_range hn']
          rfl
        · have el : (rg2D i j).length = (j - i).toNat := by simp [rg2D]
          rw [el, sizeLine_eq]
          omega
      | _ => exact hP2.elim
    | _ => exact hP2.elim⟩⟩
/-! ### xs.index(k), xs.count(k), whole numbers -/
def gIndexL : G2 := fun d e P => ∃ (zs : List Int) (z : Int) (j : Nat), d = .list (zs.map .int) ∧ e = .int z ∧ zs[j]? = some z ∧ (∀ m : Nat, m < j → zs[m]? ≠ some z) ∧ P (.int j)
def gCountL : G2 := fun d e P => ∃ (zs : List Int) (z : Int), d = .list (zs.map .int) ∧ e = .int z ∧ P (.int (zs.count z : Nat))
/-- a list's method of one argument -/
def wMeth (g : G2) (wa wb : WE) : WE := fun ρ P => wa ρ fun d => (∃ xs, d = .list xs) ∧ wb ρ fun e => g d e P
theorem listTy {K : PySem.W.Frag} {Γ : Gam} {A : Hot} {H : Hp} {v : V} {xs : List PyData} (S : Sit Γ A H) (h : DBd K Γ A H v (.list xs)) : tyV K "list" v H := by
  obtain ⟨a, vs, rfl, ha, _, _⟩ := h.lst S
  exact .inl ⟨rfl, vs, SqL.of ha⟩
theorem de_indexL {apos cpos : Pos} (ha : DB X e wa) (hb : DE X e2 wb)
    (hbase : attributeBase e "index" X.env (eval e X.env) = eval e X.env := by rfl)
    (hfew : ((backTo cpos (starEach [e2] X.env)).all (fun x => !x.1) && (backToKw cpos (keywordEach [] X.env)).all (fun x => x.1.isSome)
      && decide (([e2] : List Expr).length + ([] : List Keyword).length + (if ([] : List Keyword).isEmpty then 0 else 1) < 30)) = true := by rfl)
    (hline : (apos.endLine == cpos.line) = true := by rfl) (h1 : starEach [e2] X.env = (false, eval e2 X.env) :: starEach [] X.env := by rfl) (hplain : (backTo cpos (starEach [] X.env)).any (·.1) = false := by rfl) :
    DE X (.Call (.Attribute e "index" apos) [e2] [] cpos) (wMeth gIndexL wa wb) :=
  peC (pe_bm PySem.F.plainAttrs_list PySem.F.slot_list_index PySem.F.type_list_index mt_index ha (pa_cons hb pa_nil h1) hbase hfew hline h1 hplain) fun σ H Q ⟨Γ, A, ρ, P, R, hw, k⟩ =>
  ⟨Γ, A, ρ, _, R, hw, fun v d H1 x1 g1 hv hP => by
    obtain ⟨⟨xs, rfl⟩, hP⟩ := hP
    have S1 := R.sit.ext x1 g1
    refine ⟨listTy S1 hv, Γ, A, ρ, _, R.ext x1 g1, hP, fun u d2 H2 x2 g2 hu hP2 => ?_⟩
    obtain ⟨zs, z, j, e1, rfl, hj, hno, hP3⟩ := hP2
    cases e1
    have S2 := S1.ext x2 g2
    obtain ⟨a, vs, rfl, ha, hvs, _⟩ := (hv.ext S1 x2).lst S2
    cases hu
    rw [hvs.intsE] at ha
    have at' : ∀ {m : Nat} {y : V}, (zs.map V.int)[m]? = some y → ∃ n, zs[m]? = some n ∧ y = .int n := fun {m y} h => by
      rw [List.getElem?_map] at h
      cases q : zs[m]? with
      | none => rw [q] at h; cases h
      | some n => rw [q] at h; exact ⟨n, rfl, (Option.some.inj h).symm⟩
    have eqI : ∀ a b : Int, eqV (.int a) (.int b) = decide (a = b) := fun a b => by
      first | rfl | simp [eqV]
    refine ⟨a, zs.map V.int, .int z, j, .int z, rfl, rfl, SqL.of ha, rfl, ?_, by rw [List.getElem?_map, hj]; rfl, ?_, fun m z' hm hz' => ?_, k _ _ H2 (x1.trans x2) g2 (.int _) hP3⟩
    · rw [List.all_map]
      exact List.all_eq_true.mpr fun _ _ => rfl
    · rw [eqI]
      exact decide_eq_true rfl
    · obtain ⟨n, h1, rfl⟩ := at' hz'
      rw [eqI]
      exact decide_eq_false fun h => hno m hm (by rw [h1, h])⟩
theorem de_countL {apos cpos : Pos} (ha : DB X e wa) (hb : DE X e2 wb)
    (hbase : attributeBase e "count" X.env (eval e X.env) = eval e X.env := by rfl)
    (hfew : ((backTo cpos (starEach [e2] X.env)).all (fun x => !x.1) && (backToKw cpos (keywordEach [] X.env)).all (fun x => x.1.isSome)
      && decide (([e2] : List Expr).length + ([] : List Keyword).length + (if ([] : List Keyword).isEmpty then 0 else 1) < 30)) = true := by rfl)
    (hline : (apos.endLine == cpos.line) = true := by rfl) (h1 : starEach [e2] X.env = (false, eval e2 X.env) :: starEach [] X.env := by rfl) (hplain : (backTo cpos (starEach [] X.env)).any (·.1) = false := by rfl) :
    DE X (.Call (.Attribute e "count" apos) [e2] [] cpos) (wMeth gCountL wa wb) :=
  peC (pe_bm PySem.F.plainAttrs_list PySem.F.slot_list_count PySem.F.type_list_count mt_lcount ha (pa_cons hb pa_nil h1) hbase hfew hline h1 hplain) fun σ H Q ⟨Γ, A, ρ, P, R, hw, k⟩ =>
  ⟨Γ, A, ρ, _, R, hw, fun v d H1 x1 g1 hv hP => by
    obtain ⟨⟨xs, rfl⟩, hP⟩ := hP
    have S1 := R.sit.ext x1 g1
    refine ⟨listTy S1 hv, Γ, A, ρ, _, R.ext x1 g1, hP, fun u d2 H2 x2 g2 hu hP2 => ?_⟩
    obtain ⟨zs, z, e1, rfl, hP3⟩ := hP2
    cases e1
    have S2 := S1.ext x2 g2
    obtain ⟨a, vs, rfl, ha, hvs, _⟩ := (hv.ext S1 x2).lst S2
    cases hu
    rw [hvs.intsE] at ha
    exact ⟨a, zs, z, rfl, rfl, SqL.of ha, k _ _ H2 (x1.trans x2) g2 (.int _) hP3⟩⟩
/-! ### x, y = [], []: x kept as it is, y changed later on -/
def sTwoL (i j : Nat) : WS := fun ρ D => D.nx ((ρ.set i (some (.d (.list [])))).set j (some (.lst [])))
theorem ds_twoL {i j : Nat} {x y : Str} {px py pt p1 p2 pt2 : Pos} {kt k2 : Nat} (hc : X.calm = true) (hij : i ≠ j) (hx : PG X (.Name x px) (gName i)) (hy : PG X (.Name y py) (gName j)) (hs : swapsWithSole [.Tuple [.Name x px, .Name y py] kt pt] (.Tuple [.List [] p1, .List [] p2] k2 pt2) pos.line X.env = pure false := by rfl)
    (hw : swappedStores [.Tuple [.Name x px, .Name y py] kt pt] (.Tuple [.List [] p1, .List [] p2] k2 pt2) X.env = pure none := by rfl) (h1 : (assignEach [.Tuple [.Name x px, .Name y py] kt pt] X.env).map (·.2) = [assign (.Tuple [.Name x px, .Name y py] kt pt) X.env] := by rfl)
    (hn : (assignEach [.Name x px, .Name y py] X.env).length = 2 := by rfl) (hst : (assignEach [.Name x px, .Name y py] X.env).findIdx? (·.1) = none := by rfl)
    (e1 : (assignEach [.Name x px, .Name y py] X.env).map (·.2) = assign (.Name x px) X.env :: (assignEach [.Name y py] X.env).map (·.2) := by rfl) (e2 : (assignEach [.Name y py] X.env).map (·.2) = assign (.Name y py) X.env :: (assignEach [] X.env).map (·.2) := by rfl)
    (n1 : starEach [.List [] p1, .List [] p2] X.env = (false, eval (.List [] p1) X.env) :: starEach [.List [] p2] X.env := by rfl) (n2 : starEach [.List [] p2] X.env = (false, eval (.List [] p2) X.env) :: starEach [] X.env := by rfl) :
    DS X (.Assign [.Tuple [.Name x px, .Name y py] kt pt] (.Tuple [.List [] p1, .List [] p2] k2 pt2) pos) (sTwoL i j) :=
  psC (ps_asg (pe_tup (pa_cons (pe_lst pa_nil) (pa_cons (pe_lst pa_nil) pa_nil n2) n1)) (pg_tup hc (pgs_cons hx (pgs_cons hy pgs_nil e2) e1) hn hst) hs hw h1) fun D σ H ⟨F, Γ, A, ρ, Dd, R, hw, E⟩ => by
  refine ⟨Nat.zero_le _, fun a ha => ⟨Nat.zero_le _, fun b hb => ⟨by show 2 ≤ sizeLine; decide, fun p hp => ?_⟩⟩⟩
  have nab : a ≠ b := ne_of_none upd_same hb
  have hb0 : H b = none := by rw [upd_ne nab.symm] at hb; exact hb
  have nbp : b ≠ p := ne_of_none upd_same hp
  have nap : a ≠ p := ne_of_none (by rw [upd_ne nab]; exact upd_same) hp
  have x1 : Ext Γ H (upd H a (.lst [])) := ExA.new ha
  have x2 : Ext Γ H (upd (upd H a (.lst [])) b (.lst [])) := x1.trans (ExA.new hb)
  have x3 : Ext Γ H (upd (upd (upd H a (.lst [])) b (.lst [])) p (.tup [.ref a, .ref b])) := x2.trans (ExA.new hp)
  have g3 : GOk Γ (upd (upd (upd H a (.lst [])) b (.lst [])) p (.tup [.ref a, .ref b])) := ((R.sit.gok.new ha).new hb).new hp
  have atb : (upd (upd (upd H a (.lst [])) b (.lst [])) p (.tup [.ref a, .ref b])) b = some (.lst []) := by rw [upd_ne nbp, upd_same]
  have ata : (upd (upd (upd H a (.lst [])) b (.lst [])) p (.tup [.ref a, .ref b])) a = some (.lst []) := by rw [upd_ne nap, upd_ne nab, upd_same]
  refine ⟨p, [.ref a, .ref b], rfl, SqT.of upd_same, rfl, _, _, rfl, _, _, rfl, rfl, ?_⟩
  have R1 := R.setO (i := j) (c := .lst []) hb0 x3 g3 ⟨_, atb, fun _ e => nomatch e⟩ ⟨b, [], rfl, .inr rfl, R.sit.gcold hb0, atb, .nil⟩
  have ca : ¬ hadd A b a := fun z => z.elim (R.sit.cold ha) nab
  have R2 := R1.setD (i := i) (v := .ref a) (d := .list []) (.lst ca ata .nil)
  rw [List.set_comm _ _ (Ne.symm hij), List.set_comm _ _ (Ne.symm hij)] at R2
  exact E.nx Γ (hadd A b) _ _ _ R2 (later_new R.sit hb0 x3) hw
end
end Dat

/-! DatW: dicts over tuples by a comprehension; asked whether a key is there. -/
namespace Dat
open PySem PySem.Spec PyProof.Rows L2

section
variable {X : Cx}
/-- an entry stored by a comprehension's turn; the key a tuple -/
theorem store_turn {pins : List (Addr × Obj)} {σ : L2.St} {H : Hp} {s : Shared} {E : Value → Shared → Prop} {d b : Addr} {kvs : List (List Key × V)} {k : List Key} {y : V} {r : Value} {Q : Unit → Shared → Prop} (room : X.A.units + 1 < cLine) (I : Inv X pins σ H s)
    (hd : H d = some (.dT kvs)) (few : kvs.length < sizeLine) (hb : H b = some (.tup (k.map kV))) (ry : RelV y r) (go : ∀ s', Inv X pins σ (upd H d (.dT (putK kvs k y))) s' → Q () s') : wpAny (model X.prog X.w) X.A (dictSet d (.ref b) r) Q E s := by
  obtain ⟨_, nosys, rows, rel, dd⟩ := dt_of I.hok hd
  have small : rows.length ≤ sizeLine := by rw [← Paired.length rel]; omega
  refine wpAny_dictSet_heap (hsz := small) (show X.A.units < cLine from Nat.lt_of_succ_lt room) (key_of I.hok hb) dd fun h' dd' same => go _ ?_
  obtain ⟨ob, es, ep, at', p2, p3, p4, _, p5⟩ := dd'
  have len' : (putK kvs k y).length ≤ sizeLine := Nat.le_trans (length_putK kvs k y) few
  refine d_write I (by rw [hd]; trivial) same ⟨ob, at'⟩ ⟨len', nosys, _, (rel.put k hb ry).keeps fun c zs ec => ?_, ob, es, ep, at', p2, p3, p4, p5⟩
  rw [upd_ne (fun z => by rw [z, hd] at ec; cases ec)]
  exact ec
/-- {key: value for target in iterable if ..}, d the new dict: what a turn is to reach -/
def tTabC (wi : TI) (g : TG) (tt : TT) (tk tv : TE) (vs : List Nat) : TE := fun σ H Q => wi σ H fun J H1 => ∀ d, H1 d = none → ∃ W : Nat → Nat → Hp → Prop, (∃ m, W 0 m (upd H1 d (.dT []))) ∧ ∀ i m H, W i m H →
  (J.stop i H ∧ Q (.ref d) H) ∨ (J.go i H ∧ ∃ Nx : Hp → Prop, (∀ H', Nx H' → ∃ m', m' < m ∧ W (i + 1) m' H') ∧ ∀ x H', J.yld i H x H' → g x (wipe σ vs) H' fun σ2 H2 => wipe σ2 vs = wipe σ vs ∧ tt σ2 H2 fun c H3 =>
    if c = true then tk σ2 H3 fun y H4 => tv σ2 H4 fun z H5 => ∃ (kvs : List (List Key × V)) (k : List Key) (b : Addr), y = .ref b ∧ H5 b = some (.tup (k.map kV)) ∧ H5 d = some (.dT kvs) ∧ kvs.length < sizeLine ∧ Nx (upd H5 d (.dT (putK kvs k z))) else Nx H3)
theorem tabC_core {kx vx tg it : Expr} {ifs : List Expr} {sc : Scope} {own : List (Str × Nat)} {pos pos' : Pos} {wi : TI} {g : TG} {tt : TT} {tk tv : TE} {use : Option (Value → Sem Unit)} {Qf : Value → Shared → Prop} {pins : List (Addr × Obj)} {s : Shared} {σ : L2.St} {H : Hp} {Q : VK}
    (calm : X.calm = true) (room : X.A.units + 1 < cLine) (nd : X.N.Nodup) (hi : PI X tg it wi) (blk : BlkOk X.N X.env.scope sc own)
    (ht : ∀ (s : Shared) (H : Hp) (C : Addr) (cl : List (Str × Addr)) (fp : List Addr), PG (X.blk s H sc (compEnvC sc cl C X.env) fp) tg g) (hc : ∀ (s : Shared) (H : Hp) (C : Addr) (cl : List (Str × Addr)) (fp : List Addr), PTs (X.blk s H sc (compEnvC sc cl C X.env) fp) ifs tt)
    (hk : ∀ (s : Shared) (H : Hp) (C : Addr) (cl : List (Str × Addr)) (fp : List Addr), PE (X.blk s H sc (compEnvC sc cl C X.env) fp) kx tk)
    (hv : ∀ (s : Shared) (H : Hp) (C : Addr) (cl : List (Str × Addr)) (fp : List Addr), PE (X.blk s H sc (compEnvC sc cl C X.env) fp) vx tv) (plain : ∀ x, foldedSetIterable it X.env x = pure x)
    (I : Inv X pins σ H s) (want : tTabC wi g tt tk tv (own.map (·.2)) σ H Q)
    (ends : ∀ (d C : Addr) (s' : Shared) (m : Str → Option Value) (H' : Hp), Inv X pins σ H' s' → Q (.ref d) H' → s'.heap.Ns C m → FpOk X pins H' C → compPost (model X.prog X.w) X.A X.xe use Qf (.ref d) C (.ok .next) s') :
    wpAny (model X.prog X.w) X.A (comprehension (.DictComp kx vx [⟨tg, it, ifs, 0⟩] sc pos) sc X.env pos' newDict false (eval it X.env) use) Qf X.xe s := by
  have frees : ∀ y ∈ sc.names, y.2 = .free → ∃ c, X.env.cells.lookup y.1 = some c := fun y hy e => I.ok.has _ (by
    rcases blk.free y hy e with k | k
    · exact .inl k
    · exact .inr k)
  refine wpAny_comprehension_free (use := use) rfl plain (closure_ok frees) blk.kind (fun y hy e => by rw [blk.uniq y hy, e]) (thn (hi.run pins s σ H _ I want) fun _ s1 got => thn got fun _ s2 got2 => ?_)
  obtain ⟨itr, fp, turnS, J, H2, rfl, I2, T, at0, free0, more⟩ := got2
  -- the dict
  refine wpAny_newObj_type (newEnv_comp ?_)
  generalize hd : s2.heap.objs.size = d
  have newD : H2 d = none := I2.hok.fresh (Nat.le_of_eq hd)
  obtain ⟨W, ⟨m0, start⟩, turn⟩ := more d newD
  generalize hs3 : ({ s2 with heap := s2.heap.push { cls := .type "dict", data := .dict #[] } } : Shared) = s3
  have heap3 : s3.heap = s2.heap.push { cls := .type "dict", data := .dict #[] } := by rw [← hs3]
  have I3 : Inv X pins σ (upd H2 d (.dT [])) s3 := by
    subst hs3
    exact I2.laid (t' := s2.toks) (fun _ _ e => Heap.get?_push_of_some _ e) (Nat.le_of_eq hd) (hd ▸ dt_empty s2.heap I2.big)
  have there : ∀ b ∈ fp, b < s2.heap.objs.size := fun b hb => by
    obtain ⟨_, e, _⟩ := T.obj _ _ at0 b hb
    exact Heap.lt_size e
  have free3 : ∀ b ∈ fp, FpOk X pins (upd H2 d (.dT [])) b ∧ b < s3.heap.objs.size := fun b hb => by
    have lt := there b hb
    have ne : b ≠ d := fun z => by rw [z, ← hd] at lt; exact Nat.lt_irrefl _ lt
    exact ⟨⟨by rw [upd_ne ne]; exact (free0 b hb).1, (free0 b hb).2⟩, by rw [heap3, Heap.size_push]; exact Nat.lt_succ_of_lt lt⟩
  have st3 : turnS 0 s3.heap := T.keep _ _ _ at0 fun b _ o e => by rw [heap3]; exact Heap.get?_push_of_some _ e
  -- the block
  have I4 := block_start I3 blk nd free3
  let cl := cellsFrom (s3.heap.objs.size + 1) sc.names (cloFrom X.env.cells sc.names [])
  have rt := ht s3 (upd H2 d (.dT [])) s3.heap.objs.size cl fp
  have rc := hc s3 (upd H2 d (.dT [])) s3.heap.objs.size cl fp
  have rk := hk s3 (upd H2 d (.dT [])) s3.heap.objs.size cl fp
  have rv := hv s3 (upd H2 d (.dT [])) s3.heap.objs.size cl fp
  have none3 : ∀ b ∈ fp, (upd H2 d (.dT [])) b = none := fun b hb => (free3 b hb).1.1
  show codeAny _ _ (.compStart (.DictComp kx vx [⟨tg, it, ifs, 0⟩] sc pos) 0 (.ref itr) (.ref d) (compEnvC sc cl s3.heap.objs.size X.env)) (compPost (model X.prog X.w) X.A X.xe use Qf (.ref d) s3.heap.objs.size) { s3 with heap := pushCells (s3.heap.push { cls := .type "dict", data := .dict #[] }) sc.names }
  generalize hce : compEnvC sc cl s3.heap.objs.size X.env = ce at I4 rt rc rk rv ⊢
  have loc : ce.locals = s3.heap.objs.size := by subst hce; rfl
  generalize hH3 : upd H2 d (.dT []) = H3 at I3 I4 rt rc rk rv start none3 free3
  generalize hs4 : ({ s3 with heap := pushCells (s3.heap.push { cls := .type "dict", data := .dict #[] }) sc.names } : Shared) = s4 at I4 ⊢
  have st4 : turnS 0 s4.heap := T.keep _ _ _ st3 fun b _ o e => by subst hs4; exact pushCells_keeps _ _ _ _ (Heap.get?_push_of_some _ e)
  have stays : ∀ {σ' : L2.St} {H' : Hp} {s' : Shared}, Inv (X.blk s3 H3 sc ce fp) [] σ' H' s' → (∀ b ∈ fp, H' b = none) → ∀ b ∈ fp, FpOk (X.blk s3 H3 sc ce fp) [] H' b := fun {σ' H' s'} I' no b hb => by
    obtain ⟨e1, e2⟩ := I'.ok.exf b hb
    exact ⟨no b hb, e1, I'.ok.exfs b hb, .inl hb, fun x c q => e2 x c q, fun p hp => by cases hp⟩
  have loop : codeAny (model X.prog X.w) X.A (.compLoop (.DictComp kx vx [⟨tg, it, ifs, 0⟩] sc pos) 0 (.ref itr) (.ref d) ce) (compPost (model X.prog X.w) X.A X.xe use Qf (.ref d) s3.heap.objs.size) s4 := by
    refine compLoop_anyD (fun n s' => ∃ i H', Inv (X.blk s3 H3 sc ce fp) [] (wipe σ (own.map (·.2))) H' s' ∧ turnS i s'.heap ∧ (∀ b ∈ fp, H' b = none) ∧ W i n H') ?_ m0 ⟨0, H3, I4, st4, none3, start⟩
    rintro n s5 ⟨i, H5, I5, at5, no5, w5⟩
    cases turn i n H5 w5 with
    | inl fin =>
      obtain ⟨stop, reached⟩ := fin
      refine thnF (T.done (X.blk s3 H3 sc ce fp) rfl rfl rfl calm i [] s5 _ H5 (fun _ _ => False) I5 (stays I5 no5) at5 stop) fun _ s6 ⟨e, I6⟩ => ?_
      subst e
      have back : Inv X pins σ H5 s6 := I3.call' (ch := fp) I6.os I6.base I6.hok I6.bare fun b hb => by
        obtain ⟨⟨_, f1, _, f3, f4, f5⟩, _⟩ := free3 b hb
        exact ⟨f3, f1, f4, f5⟩
      have untracked : H5 s3.heap.objs.size = none := loc ▸ (show H5 ce.locals = none from I6.free)
      obtain ⟨m, ns, _⟩ := I6.loc
      have ns : s6.heap.Ns s3.heap.objs.size m := loc ▸ (show s6.heap.Ns ce.locals m from ns)
      exact ends d s3.heap.objs.size s6 m H5 back reached ns (I3.fpOk (Nat.le_refl _) untracked)
    | inr step =>
      obtain ⟨goes, Nx, later, each⟩ := step
      refine thnF (T.item (X.blk s3 H3 sc ce fp) rfl rfl rfl calm i [] s5 _ H5 (fun _ _ => False) I5 (stays I5 no5) at5 goes) fun _ s6 ⟨u, e, got6⟩ => ?_
      subst e
      refine thnF got6 fun _ s7 ⟨x, H7, I7, r7, yields, at7, no7⟩ => ?_
      refine thnF (rt.run _ s7 _ H7 x u _ (I7.pinned (stays I7 no7) (T.obj _ _ at7)) r7 (each x H7 yields)) fun _ s8 ⟨σ8, H8, I8, same8, q8⟩ => ?_
      refine thnF (rc.run _ s8 σ8 H8 _ I8 q8) fun c s9 ⟨H9, I9, q9⟩ => ?_
      have next : ∀ {s' : Shared} {H' : Hp}, Inv (X.blk s3 H3 sc ce fp) ([] ++ pinsAt fp s7.heap) σ8 H' s' → Nx H' → ∃ m, m < n ∧ ∃ i H', Inv (X.blk s3 H3 sc ce fp) [] (wipe σ (own.map (·.2))) H' s' ∧ turnS i s'.heap ∧ (∀ b ∈ fp, H' b = none) ∧ W i m H' := fun {s' H'} I' nx => by
        obtain ⟨m', less, w'⟩ := later H' nx
        have held : ∀ b ∈ fp, ∀ o, s7.heap.get? b = some o → s'.heap.get? b = some o ∧ H' b = none := fun b hb o e => by
          have z := I'.pin (b, o) (List.mem_append_right _ (List.mem_append_right _ (mem_pinsAt hb e)))
          exact ⟨z.1, z.2.1⟩
        refine ⟨m', less, i + 1, H', (I'.unpinned (pins := [])).weak (by rw [← same8, wipe_length]) (fun j v e => ?_), T.keep _ _ _ at7 fun b hb o e => (held b hb o e).1, fun b hb => ?_, w'⟩
        · rw [← same8] at e
          exact (wipe_some e).1
        · obtain ⟨o, e, _⟩ := T.obj _ _ at7 b hb
          exact (held b hb o e).2
      cases c with
      | false =>
        simp only [Bool.false_eq_true, if_false] at q9 ⊢
        exact next I9 q9
      | true =>
        simp only [if_true] at q9 ⊢
        refine thnF (rk.run _ s9 σ8 H9 _ I9 q9) fun ku s10 ⟨yk, H10, I10, r10, q10⟩ => ?_
        refine thnF (rv.run _ s10 σ8 H10 _ I10 q10) fun vu s11 ⟨yv, H11, I11, r11, kvs, k, b, ek, hb, hd11, few, nx⟩ => ?_
        subst ek
        cases r10
        exact store_turn (X := X.blk s3 H3 sc ce fp) room I11 hd11 few hb r11 fun s12 I12 => next I12 nx
  exact codeAny_compStart_dict loop (T.self X.A 0 _ _ _ st4 loop)
variable {kx vx tg it : Expr} {ifs : List Expr} {sc : Scope} {own : List (Str × Nat)} {pos : Pos}
/-- x = {k: v for ..} -/
theorem ps_tabC {i : Nat} {y : Str} {py spos : Pos} {wi : TI} {g : TG} {tt : TT} {tk tv : TE} (calm : X.calm = true) (room : X.A.units + 1 < cLine) (nd : X.N.Nodup) (hy : X.N[i]? = some y) (loc : X.env.scope.names.lookup y = some .local)
    (sw : swapsWith (.DictComp kx vx [⟨tg, it, ifs, 0⟩] sc pos) (some (.Name y py)) spos.line X.env = pure true) (hi : PI X tg it wi) (blk : BlkOk X.N X.env.scope sc own)
    (ht : ∀ (s : Shared) (H : Hp) (C : Addr) (cl : List (Str × Addr)) (fp : List Addr), PG (X.blk s H sc (compEnvC sc cl C X.env) fp) tg g) (hc : ∀ (s : Shared) (H : Hp) (C : Addr) (cl : List (Str × Addr)) (fp : List Addr), PTs (X.blk s H sc (compEnvC sc cl C X.env) fp) ifs tt)
    (hk : ∀ (s : Shared) (H : Hp) (C : Addr) (cl : List (Str × Addr)) (fp : List Addr), PE (X.blk s H sc (compEnvC sc cl C X.env) fp) kx tk)
    (hv : ∀ (s : Shared) (H : Hp) (C : Addr) (cl : List (Str × Addr)) (fp : List Addr), PE (X.blk s H sc (compEnvC sc cl C X.env) fp) vx tv) (plain : ∀ x, foldedSetIterable it X.env x = pure x := by intro _; rfl) :
    PS X (.Assign [.Name y py] (.DictComp kx vx [⟨tg, it, ifs, 0⟩] sc pos) spos) (tAsg (tTabC wi g tt tk tv (own.map (·.2))) (gName i)) := by
  constructor
  intro pins s σ H D I want
  rw [exec_Assign_Name_used _ _ _ _ sw]
  refine wpAny_bind (wpAny_standAt (wpAny_bind ?_))
  have want : tTabC wi g tt tk tv (own.map (·.2)) σ H (fun x H1 => gName i x σ H1 D.nx) := want
  show wpAny _ X.A (do let _ ← comprehension (.DictComp kx vx [⟨tg, it, ifs, 0⟩] sc pos) sc X.env (firstIterPos [⟨tg, it, ifs, 0⟩] pos) newDict false (eval it X.env) (some (assign (.Name y py) X.env))) _ _ s
  refine wpAny_bind (thn (tabC_core (Qf := fun _ s' => SP X pins D .next s') calm room nd hi blk ht hc hk hv plain I want fun d C s' m H' I' q ns f => ?_) fun _ s' done => wpAny_pure (wpAny_pure done))
  show wpAny _ _ (assign (.Name y py) X.env (.ref d)) _ _ _
  refine wpAny_assign_Name (store_ok2 (v := V.ref d) I' nd hy (.inl loc) rfl (fun s2 I2 ⟨a, same, ha⟩ => ?_) (.inr loc))
  obtain ⟨f0, f1, _, f3, f4, f5⟩ := f
  have other : C ≠ a := by
    rcases ha with z | z
    · rw [z]; exact f1
    · exact fun e => f4 y a z e.symm
  exact ⟨m, ns.sameBut same other, fun h3 same3 => ⟨_, H', I2.turned (t' := s2.toks) (fun b o ne e => (same3.2 b ne).trans e) f0 f1 f3 f4 f5, q⟩⟩
theorem sw_dict {gs : List Comprehension} {py : Pos} {y : Str} {l : Nat} {env : PySem.Env} (hk : env.scope.kind = .function) (hy : env.scope.names.lookup y = some .local) (hl : (py.line == pos.line) = true)
    (ha : (sc.names.any fun (n, k) => n == y && (k == .local || k == .cell)) = false) : swapsWith (.DictComp kx vx gs sc pos) (some (.Name y py)) l env = pure true := by
  have e1 : env.kindOf y = some .local := hy
  have e2 : env.blockKind = .function := by unfold Env.blockKind; rw [hk]; rfl
  unfold swapsWith
  simp only [e2, e1, ha, Expr.pos, hl]
  rfl

/-! ### over data -/
def wTabL (wg : WG) (wt : WT) (wk wv : WE) (ρ : Env) : List PyData → DTab → (DTab → Prop) → Prop
  | [], acc, P => P acc
  | d :: ds, acc, P => wg d ρ fun ρ1 => wt ρ1 fun b => if b = true then wk ρ1 fun kd => wv ρ1 fun e => ∃ k, kd = tupD k ∧ acc.length < sizeLine ∧ wTabL wg wt wk wv ρ ds (putD acc k e) P else wTabL wg wt wk wv ρ ds acc P
/-- x = {k: v for ..} -/
def sTabC (i : Nat) (wi : WL) (wg : WG) (wt : WT) (wk wv : WE) (vs : List Nat) : WS := fun ρ D => wi ρ fun ds => wTabL wg wt wk wv (wipeE ρ vs) ds [] fun kvs => D.nx (ρ.set i (some (.dT kvs)))
theorem ds_tabC {i : Nat} {y : Str} {py spos : Pos} {wi : WL} {wg : WG} {wt : WT} {wk wv : WE} {is : List Nat} (calm : X.calm = true) (room : X.A.units + 1 < cLine) (nd : X.N.Nodup) (hy : X.N[i]? = some y) (loc : X.env.scope.names.lookup y = some .local)
    (sw : swapsWith (.DictComp kx vx [⟨tg, it, ifs, 0⟩] sc pos) (some (.Name y py)) spos.line X.env = pure true) (hi : DIe X tg it wi) (blk : BlkOk X.N X.env.scope sc own)
    (ht : ∀ (s : Shared) (H : Hp) (C : Addr) (cl : List (Str × Addr)) (fp : List Addr), DG (X.blk s H sc (compEnvC sc cl C X.env) fp) tg is wg) (hc : ∀ (s : Shared) (H : Hp) (C : Addr) (cl : List (Str × Addr)) (fp : List Addr), DTs (X.blk s H sc (compEnvC sc cl C X.env) fp) ifs wt)
    (hk : ∀ (s : Shared) (H : Hp) (C : Addr) (cl : List (Str × Addr)) (fp : List Addr), DE (X.blk s H sc (compEnvC sc cl C X.env) fp) kx wk)
    (hv : ∀ (s : Shared) (H : Hp) (C : Addr) (cl : List (Str × Addr)) (fp : List Addr), DE (X.blk s H sc (compEnvC sc cl C X.env) fp) vx wv) (hvs : ∀ i ∈ is, i ∈ own.map (·.2) := by decide) (plain : ∀ x, foldedSetIterable it X.env x = pure x := by intro _; rfl) :
    DS X (.Assign [.Name y py] (.DictComp kx vx [⟨tg, it, ifs, 0⟩] sc pos) spos) (sTabC i wi wg wt wk wv (own.map (·.2))) :=
  psC (ps_tabC (wi := tIe X.K wi) (g := tGd X.K is wg) (tt := tTs X.K wt) (tk := tE X.K wk) (tv := tE X.K wv) calm room nd hy loc sw hi blk ht hc hk hv plain) fun D σ H ⟨F, Γ, A, ρ, Dd, R, hw, E⟩ => ⟨Γ, A, ρ, _, R.e, hw, fun J ds H1 x1 g1 hJ hP => fun d hd => by
    obtain ⟨⟨Y, w, itm⟩, sm⟩ := hJ
    have hP : wTabL wg wt wk wv (wipeE ρ (own.map (·.2))) ds [] fun kvs => Dd.nx (ρ.set i (some (.dT kvs))) := hP
    have RW := (R.e.ext x1 g1).wipe (own.map (·.2))
    have inv : ∀ H2, Ext Γ H1 H2 → GOk Γ H2 → (∃ acc, H2 d = some (.dT acc)) → RepE X.K Γ (hadd A d) (wipe σ (own.map (·.2))) H2 (wipeE ρ (own.map (·.2))) := fun H2 x g ⟨acc, h⟩ => RW.addHot hd x g ⟨_, h, fun _ e => nomatch e⟩
    have lat : ∀ H2, Ext Γ H1 H2 → LaterE Γ A H1 Γ (hadd A d) H2 := fun H2 x => ⟨rfl, fun _ h => .inl h, hadd_avoid hd, x⟩
    have hd0 : H d = none := back_none x1 g1 hd
    have gD : Γ d = none := R.sit.gcold hd0
    refine walk_z w (fun n H2 => ∃ (acc : List (List Key × V)) (kvs : DTab), H2 d = some (.dT acc) ∧ acc.map (·.1) = kvs.map (·.1) ∧ DAs X.K (hadd A d) H2 (acc.map (·.2)) (kvs.map (·.2)) ∧ Ext Γ H1 H2 ∧ GOk Γ H2 ∧
        wTabL wg wt wk wv (wipeE ρ (own.map (·.2))) (ds.drop n) kvs fun kvs => Dd.nx (ρ.set i (some (.dT kvs)))) _
      ⟨[], [], upd_same, rfl, .nil, ExA.new hd, g1.new hd, hP⟩ (fun n H2 _ ⟨acc, kvs, h1, _, _, h4, h5, _⟩ => ⟨Γ, hadd A d, lat H2 h4, (inv H2 h4 h5 ⟨_, h1⟩).sit⟩) ?_ ?_
    · rintro n x H2 H3 hn ⟨acc, kvs, h1, h2, h3, h4, h5, h6⟩ hy'
      have S2 := (inv H2 h4 h5 ⟨_, h1⟩).sit
      obtain ⟨x3, g3, e, he, hx⟩ := itm n H2 x H3 hn hy' Γ (hadd A d) (lat H2 h4) S2
      have hd3 : H3 d = some (.dT acc) := x3 d _ (by simp [gD]) h1
      have x13 := h4.trans x3
      have R3 := inv H3 x13 g3 ⟨_, hd3⟩
      have hdr : ds.drop n = e :: ds.drop (n + 1) := by
        obtain ⟨hlt, q⟩ := List.getElem?_eq_some_iff.mp he
        rw [List.drop_eq_getElem_cons hlt, q]
      rw [hdr] at h6
      refine ⟨Γ, hadd A d, _, e, _, R3, hx, h6, fun σ2 ρ2 R4 st hP2 => ⟨wipe_sets st hvs, ⟨Γ, hadd A d, ρ2, _, R4, hP2, fun b H4 x4 g4 hb => ?_⟩⟩⟩
      have hd4 : H4 d = some (.dT acc) := x4 d _ (by simp [gD]) hd3
      have x14 := x13.trans x4
      have a34 : DAs X.K (hadd A d) H4 (acc.map (·.2)) (kvs.map (·.2)) := h3.ext ((x3.trans x4).weak S2.gdom)
      have R44 := R4.ext x4 g4
      cases b with
      | false => exact ⟨acc, kvs, hd4, h2, a34, x14, g4, hb⟩
      | true =>
        refine ⟨Γ, hadd A d, ρ2, _, R44, hb, fun yk kd H5 x5 g5 hyk hkd => ⟨Γ, hadd A d, ρ2, _, R44.ext x5 g5, hkd, fun yv vd H6 x6 g6 hyv hvd => ?_⟩⟩
        obtain ⟨k, rfl, few, more⟩ := hvd
        have x56 := x5.trans x6
        have hd6 : H6 d = some (.dT acc) := x56 d _ (by simp [gD]) hd4
        obtain ⟨b, vs, rfl, nb, hb6, hvs6⟩ := (DA.b (Γ := Γ) (hyk.ext (x6.weak R44.sit.gdom))).tup
        have ek := keys_of k hvs6
        subst ek
        have la : acc.length < sizeLine := by
          have := congrArg List.length h2
          rw [List.length_map, List.length_map] at this
          omega
        obtain ⟨p1, p2⟩ := put_das hyv k h2 (a34.ext (x56.weak R44.sit.gdom))
        refine ⟨acc, k, b, rfl, hb6, hd6, la, putK acc k yv, putD kvs k vd, upd_same, p1, p2.ext (ExA.hot (.inr rfl)), ?_, g6.put gD, more⟩
        intro a o n' e'
        rw [upd_ne (ne_of_none e' hd)]
        exact (x14.trans x56) a o n' e'
    · rintro H2 ⟨acc, kvs, h1, h2, h3, h4, h5, h6⟩
      rw [List.drop_length] at h6
      have x := x1.trans h4
      exact E.nx Γ (hadd A d) _ H2 _ (R.setO (c := .dT kvs) hd0 x h5 ⟨_, h1, fun _ e => nomatch e⟩ ⟨d, acc, rfl, .inr rfl, gD, h1, h2, h3⟩) (later_new R.sit hd0 x) h6⟩
/-- k in x, x an own dict -/
def hasD (kvs : DTab) (k : List Key) : Bool := kvs.any fun kv => decide (kv.1 = k)
def wHasT (i : Nat) (wk : WE) : WE := fun ρ P => match ρ.getD i none with
  | some (.dT kvs) => wk ρ fun kd => ∃ k, kd = tupD k ∧ P (.bool (hasD kvs k))
  | _ => False
theorem dt_hasT {i : Nat} {k o : Expr} {wk : WE} (room : X.A.units + 1 < cLine) (hk : DE X k wk) (ho : PE X o (tVar i)) (hm : behindInMarks .In o = false := by first | exact nobehind _ (by decide) (by decide) | rfl) : DT X (.Compare k [.In] [o] pos) (wTst (wHasT i wk)) :=
  ptC (pt_cmp (pc_din room hk ho) hm) fun σ H Q ⟨Γ, A, ρ, P, R, hw, kk⟩ => by
    have hw : wHasT i wk ρ fun d => match d with | .bool b => P b | _ => False := hw
    unfold wHasT at hw
    split at hw
    · rename_i kvs q
      obtain ⟨v0, s1, a, ws, e1, a2, a3, a4, a5, a6⟩ := R.cells i _ (getD_some q)
      subst e1
      refine ⟨Γ, A, ρ, _, R, hw, fun u kd H1 x1 g1 hu hP => ⟨_, s1, ?_⟩⟩
      obtain ⟨k', rfl, hP⟩ := hP
      obtain ⟨b, vs, rfl, nb, hb, hvs⟩ := (DA.b (Γ := Γ) hu).tup
      have ek := keys_of k' hvs
      subst ek
      have H1a : H1 a = some (.dT ws) := x1 a _ (by simp [a3]) a4
      refine ⟨a, _, rfl, DGet.t H1a hb, _, rfl, ?_⟩
      rw [← valV_any, any_keys k' a5]
      exact kk _ H1 x1 g1 hP
    · exact hw.elim
end
end Dat

/-! DatU: own dicts with plain keys: dict(pairs), k not in d, d[k] = v, sorted(d.items()). -/
namespace Dat
open PySem PySem.SeqAt PySem.W PySem.Calls PyProof.Rows
section
variable {prog : Program} {w : World} {A : Around} {E : Value → Shared → Prop} {s : Shared} {K : Type} [DecidableEq K] {knd : KeyKind prog w K} {r d : Addr} {kvs : List (K × Value)} {ep : Nat}
theorem sorted_items {Q : Value → Shared → Prop} (hh : A.handled = none) (hv : s.heap.IsItemsView r d) (hm : s.heap.DictAt knd d kvs ep) (hn : kvs.length ≤ sizeLine)
    (h : ∀ (h' : Heap) (tk : Nat) (as : List Addr), (∀ b o, s.heap.get? b = some o → h'.get? b = some o) → as.length = kvs.length → KdxG knd kvs s.heap.objs.size h' as →
      ∀ E' : Value → Shared → Prop, wpAny (model prog w) A.in1.in1 (Builtin.«list.sort» ⟨[.ref h'.objs.size], []⟩) (fun f s' => f = .done (.ret .none) ∧ Q (.ref h'.objs.size) s') E' { s with heap := h'.push (seqObj "list" (as.map Value.ref).toArray 0), toks := tk }) :
    wpAny (model prog w) A (call (.builtin "sorted") [.ref r]) Q E s := by
  refine call_function_entry kind_sorted plain_sorted entry_sorted (args_sorted1 _) ?_
  unfold Builtin.«sorted»
  refine wpAny_bind (m := checkCount "sorted" 1 1 _) (wpAny_pure ?_)
  refine wpAny_bind (kdx_collect (A := A.in1) hh hv hm hn fun h' tk as hk hl hG => ?_)
  refine wpAny_bind (wpAny_newList ?_ (by rw [List.length_map, hl]; exact hn))
  refine wpAny_bind (wpAny_holding (wpAny_call_entry_kw slot_list_sort ⟨_, Heap.get?_push_size _ rfl, rfl⟩ entry_list_sort ?body (args_list_sort _)))
  case body =>
    refine wpAny_mono (h h' tk as hk hl hG _) (fun f s' hf => ?_) fun _ _ e => e
    obtain ⟨rfl, hq⟩ := hf
    exact ⟨_, rfl, wpAny_pure ⟨_, rfl, hq⟩⟩
end
end Dat

namespace Dat
open PySem PySem.Spec PyProof.Rows L2
open PySem.W (EachIs AllAlike)

abbrev KTab := List (Key × PyData)
def pairD (p : Key × PyData) : PyData := .tuple [keyD p.1, p.2]
section
variable {X : Cx}
def rItemsK : V → List V → Hp → VK → Prop := fun x xs H Q => ∃ (a : Addr) (kvs : List (Key × V)), x = .ref a ∧ xs = [] ∧ H a = some (.dK kvs) ∧ ∀ p, H p = none → Q (.ref p) (upd H p (DX.itemsO p a))
theorem mt_itemsK : MtR X "dict.items" rItemsK := by
  intro pins s σ H x xs v us Q I rx rxs h
  obtain ⟨a, kvs, rfl, rfl, ha, q⟩ := h
  cases rx
  cases rxs
  obtain ⟨z, hd, vs, kv, o, es, ep, ho, hx, hdat, _⟩ := (show ObjOk X.prog X.w H s.heap a (.dK kvs) from I.hok a _ ha)
  refine DT.callItems (es := es) (ep := ep) hd ⟨o, ho, hx, hdat⟩ ?_
  have hf : H s.heap.objs.size = none := I.hok.fresh (Nat.le_refl _)
  exact ⟨.ref s.heap.objs.size, upd H s.heap.objs.size (DX.itemsO s.heap.objs.size a), I.laid (t' := s.toks) (fun b u e => Heap.get?_push_of_some _ e) (Nat.le_refl _) (DX.itemsO_ok (Heap.get?_push_size _ rfl)), rfl, q _ hf⟩
def rSortItK (K : PySem.W.Frag) : List V → Hp → VK → Prop := fun xs H Q => ∃ (A : Hot) (p a : Addr) (ws : List (Key × V)) (kvs : KTab), xs = [.ref p] ∧ H p = some (DX.itemsO p a) ∧ H a = some (.dK ws) ∧ ws.map (·.1) = kvs.map (·.1) ∧ DAs K A H (ws.map (·.2)) (kvs.map (·.2)) ∧
  (∀ b, A b → H b ≠ none) ∧ AllAlike (kvs.map pairD) ∧ (∀ d ∈ kvs.map pairD, d.depth ≤ 60) ∧
  ∀ (H' : Hp) (l : Addr) (out : List V), (∀ b o, H b = some o → H' b = some o) → H l = none → H' l = some (.lst out) → DAs K (hadd A l) H' out ((kvs.map pairD).mergeSort dLe) → Q (.ref l) H'
theorem map_get {α β γ : Type} {f : α → γ} {g : β → γ} {xs : List α} {ys : List β} (h : xs.map f = ys.map g) {i : Nat} {x : α} {y : β} (hx : xs[i]? = some x) (hy : ys[i]? = some y) : f x = g y := by
  have := congrArg (fun l => l[i]?) h
  simp only [List.getElem?_map, hx, hy, Option.map_some] at this
  exact Option.some.inj this
theorem vals_refs' : ∀ as : List Addr, Vals (as.map V.ref) (as.map Value.ref)
  | [] => .nil
  | _ :: as => .cons rfl (vals_refs' as)
theorem cr_sortedItK (hc : X.calm = true) (hu : X.A.units + 64 < cLine) : CallR X (.builtin "sorted") (rSortItK X.K) := by
  intro pins s σ H xs us Q I r h
  obtain ⟨A, p, a, ws, kvs, rfl, hp, ha, ek, hds, hA, hal, hdep, q⟩ := h
  obtain rfl := Vals.ref1 r
  have view : s.heap.IsItemsView p a := (show ObjOk X.prog X.w H s.heap p (DX.itemsO p a) from I.hok p _ hp).1
  obtain ⟨hz, hs0, vs, kv, hdo⟩ := (show ObjOk X.prog X.w H s.heap a (.dK ws) from I.hok a _ ha)
  obtain ⟨ep, hat⟩ := hdo.dictAt
  have lk : ws.length = vs.length := Paired.length kv
  have lk2 : ws.length = kvs.length := by
    have := congrArg List.length ek
    rwa [List.length_map, List.length_map] at this
  refine sorted_items (knd := mixKind X.prog X.w) (I.ok.hd hc) view hat (by omega) fun h' tk as hk hl hG E' => ?_
  have I1 : Inv X pins σ H { s with heap := h', toks := tk } := I.kept hk
  have nd : as.Nodup := List.Pairwise.imp (fun {a b} (h : a < b) => Nat.ne_of_lt h) hG.rise
  obtain ⟨H2, I2, g, qt⟩ := DX.takeT (P := fun b xs => ∃ (j : Nat) (e : Key × V), as[j]? = some b ∧ ws[j]? = some e ∧ xs = [kV e.1, e.2]) I as H I1 nd fun b hb => by
    obtain ⟨j, hj⟩ := List.mem_iff_getElem?.mp hb
    obtain ⟨key, k, x, f1, f2, f3⟩ := hG.pairs j b hj
    obtain ⟨e, g1, g2, g3⟩ := DX.pget kv f1
    have hbl : s.heap.objs.size ≤ b := Nat.le_of_lt (hG.above b hb)
    have rk : RelV (kV e.1) key := by
      rw [g2]
      exact relV_key (show keyIs k key = true from f2)
    exact ⟨hbl, I.hok.fresh hbl, [kV e.1, e.2], ⟨j, e, hj, g1, rfl⟩, fun H3 => ⟨(by rw [sizeLine_eq]; show 2 ≤ 16777216; omega), [key, x], .cons rk (.cons g3 .nil), ⟨_, f3, rfl, _, rfl⟩⟩⟩
  have hds2 : DAs X.K A H2 (ws.map (·.2)) (kvs.map (·.2)) := hds.ext fun b o _ e => g b o e
  have das : DAs X.K A H2 (as.map V.ref) (kvs.map pairD) := by
    refine DAs.of (by rw [List.length_map, List.length_map]; omega) fun i v d h1 h2 => ?_
    rw [List.getElem?_map] at h1 h2
    cases hb : as[i]? with
    | none => rw [hb] at h1; cases h1
    | some b =>
      cases hy : kvs[i]? with
      | none => rw [hy] at h2; cases h2
      | some y =>
        rw [hb] at h1
        rw [hy] at h2
        cases h1
        cases h2
        obtain ⟨zs, ⟨j, e, j1, j2, rfl⟩, hH⟩ := qt b (List.mem_of_getElem? hb)
        have eij : i = j := (List.getElem?_inj (List.getElem?_eq_some_iff.mp hb).1 nd).mp (hb.trans j1.symm)
        subst eij
        have e1 : e.1 = y.1 := map_get ek j2 hy
        obtain ⟨d', hd1, hd2⟩ := hds2.at' (show (ws.map (·.2))[i]? = some e.2 by rw [List.getElem?_map, j2]; rfl)
        rw [List.getElem?_map, hy] at hd1
        cases hd1
        refine .tup (fun z => hA b z (I.hok.fresh (Nat.le_of_lt (hG.above b (List.mem_of_getElem? hb))))) hH (.cons ?_ (.cons hd2 .nil))
        rw [e1]
        exact da_key _
  have e0 := each_of_vals (vals_refs' as) das
  have at0 : (h'.push (seqObj "list" (as.map Value.ref).toArray 0)).get? h'.objs.size = some (seqObj "list" (as.map Value.ref).toArray 0) := Heap.get?_push_size _ rfl
  have old : ∀ (b : Addr) (o : Obj), h'.get? b = some o → (PySem.W.sortingHeap (h'.push (seqObj "list" (as.map Value.ref).toArray 0)) h'.objs.size (as.map Value.ref)).get? b = some o := fun b o e => PySem.W.sortingHeap_old (Nat.ne_of_lt (Heap.lt_size e)) (Heap.get?_push_of_some _ e)
  have er : EachIs (fun v d => ∃ bs, Reads (PySem.W.sortingHeap (h'.push (seqObj "list" (as.map Value.ref).toArray 0)) h'.objs.size (as.map Value.ref)) v d bs) (as.map Value.ref) (kvs.map pairD) := e0.mono fun u d ⟨x, rx, hx⟩ => by
    obtain ⟨bs, rb⟩ := Dp.reads I2 d x u hx.dp rx
    exact ⟨bs, PyProof.Rows.Reads.keeps old rb⟩
  have hnn : ∀ d ∈ kvs.map pairD, d ≠ .none := fun d hd => by
    obtain ⟨y, _, rfl⟩ := List.mem_map.mp hd
    exact fun e => nomatch e
  have S : PySem.W.SortsAt X.prog X.w X.A.in1.in1 { s with heap := PySem.W.sortingHeap (h'.push (seqObj "list" (as.map Value.ref).toArray 0)) h'.objs.size (as.map Value.ref), toks := tk } (PySem.W.dataKind (PySem.W.sortingHeap (h'.push (seqObj "list" (as.map Value.ref).toArray 0)) h'.objs.size (as.map Value.ref)) (kvs.map pairD)) (as.map Value.ref) :=
    Dat.SortsAt.any (s := { s with heap := PySem.W.sortingHeap (h'.push (seqObj "list" (as.map Value.ref).toArray 0)) h'.objs.size (as.map Value.ref), toks := tk }) er hal hnn fun d hd => by
      have := hdep d hd
      show X.A.units + 2 + _ < cLine
      omega
  refine PySem.W.list_sort_vals (s := { s with heap := h'.push (seqObj "list" (as.map Value.ref).toArray 0), toks := tk }) at0 S (by rw [List.length_map]; omega) ⟨rfl, ?_⟩
  have eo : EachIs _ (PySem.W.sortVals (PySem.W.dataKind (PySem.W.sortingHeap (h'.push (seqObj "list" (as.map Value.ref).toArray 0)) h'.objs.size (as.map Value.ref)) (kvs.map pairD)) false (as.map Value.ref) (as.map Value.ref)) ((kvs.map pairD).mergeSort dLe) :=
    PySem.W.sortVals_each (κ := PySem.W.dataKind (PySem.W.sortingHeap (h'.push (seqObj "list" (as.map Value.ref).toArray 0)) h'.objs.size (as.map Value.ref)) (kvs.map pairD)) (rev := false) (fun b => PySem.W.keyToks b) e0 (PySem.W.each_keys hal er)
  generalize PySem.W.sortVals (PySem.W.dataKind (PySem.W.sortingHeap (h'.push (seqObj "list" (as.map Value.ref).toArray 0)) h'.objs.size (as.map Value.ref)) (kvs.map pairD)) false (as.map Value.ref) (as.map Value.ref) = out at eo
  obtain ⟨os, hw1, hw2⟩ := vals_of_each eo
  obtain ⟨c, hc'⟩ := sortedHeap_at (out := out.toArray) at0
  have hl2 : os.length ≤ sizeLine := by
    rw [hw2.length, List.length_mergeSort, List.length_map]
    omega
  have hnew : H2 h'.objs.size = none := I2.hok.fresh (Nat.le_refl _)
  have hnew0 : H h'.objs.size = none := by
    cases z : H h'.objs.size with
    | none => rfl
    | some o =>
      have := g _ o z
      rw [hnew] at this
      cases this
  refine ⟨.ref h'.objs.size, _, I2.laid (t' := tk) (fun b o e => ?_) (Nat.le_refl _) (show ObjOk X.prog X.w _ _ _ (.lst os) from ⟨hl2, out, c, hw1, hc'⟩), rfl, q _ _ os (fun b o e => ?_) hnew0 upd_same ((hw2.avoid (hadd_avoid hnew)).ext fun b o _ e => ?_)⟩
  · rw [sortedHeap_old (Nat.ne_of_lt (Heap.lt_size e)) (by rw [size_push']; exact Nat.lt_succ_of_lt (Heap.lt_size e))]
    exact Heap.get?_push_of_some _ e
  · rw [upd_ne (ne_of_none (g b o e) hnew)]
    exact g b o e
  · rw [upd_ne (ne_of_none e hnew)]
    exact e
end
section
variable {X : Cx} {e : Expr} {we wk wv : WE} {pos pos' : Pos}
theorem gok_grow {Γ : Gam} {H H' : Hp} (g : GOk Γ H) (k : ∀ b o, H b = some o → H' b = some o) : GOk Γ H' := g.same fun a ha => by
  cases q : Γ a with
  | none => exact absurd q ha
  | some kd =>
    cases r : H a with
    | none => exact absurd r (g a kd q).there
    | some o => exact k a o r
/-- sorted(x.items()) -/
def wSortI (i : Nat) : WL := fun ρ P => match ρ.getD i none with
  | some (.dK kvs) => AllAlike (kvs.map pairD) ∧ (∀ d ∈ kvs.map pairD, d.depth ≤ 60) ∧ P ((kvs.map pairD).mergeSort dLe)
  | _ => False
theorem df_sortedI {i : Nat} {x : Str} {p apos cpos : Pos} (hc : X.calm = true) (hu : X.A.units + 64 < cLine) (hg : Gl X x) (hm : X.mg x = none) (hv : bootBuiltins x = some (.builtin "sorted")) (ha : PE X e (tVar i)) (hn : x ≠ "__name__" := by decide) (hdb : (x == ("__debug__" : Str)) = false := by decide)
    (hbase : attributeBase e "items" X.env (eval e X.env) = eval e X.env := by rfl) (hline : (apos.endLine == cpos.line) = true := by rfl)
    (he : starEach [.Call (.Attribute e "items" apos) [] [] cpos] X.env = (false, eval (.Call (.Attribute e "items" apos) [] [] cpos) X.env) :: starEach [] X.env := by rfl) (hpl : (backTo pos (starEach [] X.env)).any (·.1) = false := by rfl) :
    DF X (.Call (.Name x p) [.Call (.Attribute e "items" apos) [] [] cpos] [] pos) (wSortI i) :=
  peC (pe_callB (cr_sortedItK hc hu) hg hm hv (pa_cons (pe_bm0 PySem.F.plainAttrs_dict PySem.F.slot_dict_items PySem.F.type_dict_items mt_itemsK ha hbase hline) pa_nil he) hn hdb he hpl) fun σ H Q ⟨Γ, A, ρ, P, R, hw, k⟩ => by
    unfold wSortI at hw
    split at hw
    · rename_i kvs q
      obtain ⟨v0, s1, a, ws, e1, a2, a3, a4, a5, a6⟩ := R.cells i _ (getD_some q)
      subst e1
      obtain ⟨h1, h2, h3⟩ := hw
      refine ⟨_, s1, .inr (.inr (.inl ⟨rfl, .inl ⟨ws, a4⟩⟩)), a, ws, rfl, rfl, a4, fun p hp => ?_⟩
      have hpa : a ≠ p := ne_of_none a4 hp
      have up : ∀ b o, H b = some o → upd H p (DX.itemsO p a) b = some o := fun b o e => by rw [upd_ne (ne_of_none e hp)]; exact e
      refine ⟨A, p, a, ws, kvs, rfl, upd_same, up _ _ a4, a5, a6.ext fun b o _ e => up b o e, fun b hb => ?_, h1, h2, fun H' l out kk hl hH' hout => ?_⟩
      · cases z : H b with
        | none => exact absurd z (R.sit.adom b hb)
        | some o => rw [up b o z]; exact fun y => nomatch y
      · have kk' : ∀ b o, H b = some o → H' b = some o := fun b o e => kk b o (up b o e)
        have hl' : H l = none := by
          cases z : H l with
          | none => rfl
          | some o =>
            have := up l o z
            rw [hl] at this
            cases this
        exact k l out _ H' hl' (fun b o _ e => kk' b o e) (gok_grow R.sit.gok kk') hH' hout h3
    · exact hw.elim
/-- x = dict(pairs) -/
def sDictOf (i : Nat) (we : WE) : WS := fun ρ D => we ρ fun d => ∃ kvs : KTab, d = .list (kvs.map pairD) ∧ (kvs.map (·.1)).Nodup ∧ D.nx (ρ.set i (some (.dK kvs)))
theorem merge_new : ∀ {more kvs : List (Key × V)}, ((kvs ++ more).map (·.1)).Nodup → mergeK kvs more = kvs ++ more
  | [], kvs, _ => by simp [mergeK]
  | p :: more, kvs, h => by
    have hp : p.1 ∉ kvs.map (·.1) := by
      rw [List.map_append, List.nodup_append] at h
      intro z
      exact h.2.2 p.1 z p.1 (by simp) rfl
    have e : putK kvs p.1 p.2 = kvs ++ [p] := by
      unfold putK
      rw [if_neg]
      intro z
      obtain ⟨y, hy, ey⟩ := List.any_eq_true.mp z
      exact hp (List.mem_map.mpr ⟨y, hy, of_decide_eq_true ey⟩)
    show mergeK (putK kvs p.1 p.2) more = _
    rw [e, merge_new (by rw [List.append_assoc]; exact h), List.append_assoc]
    rfl
theorem key_of_da {K : PySem.W.Frag} {A : Hot} {H : Hp} {u : V} {k : Key} (h : DA K A H u (keyD k)) : u = kV k := by
  cases k with
  | inl i => cases h; rfl
  | inr x => cases h; rfl
theorem pair_in {K : PySem.W.Frag} {A : Hot} {H : Hp} {v : V} {y : Key × PyData} (h : DA K A H v (pairD y)) : ∃ b vs, v = V.ref b ∧ H b = some (.tup vs) ∧ DAs K A H vs [keyD y.1, y.2] := by
  unfold pairD at h
  cases h with
  | tup n s hs => exact ⟨_, _, rfl, s, hs⟩
theorem pairs_in {K : PySem.W.Frag} {A : Hot} {H : Hp} : ∀ {kvs : KTab} {xs : List V}, DAs K A H xs (kvs.map pairD) → ∃ (ps : List Addr) (ws : List (Key × V)), xs = ps.map V.ref ∧ Paired (fun p (kv : Key × V) => SqT K H p [kV kv.1, kv.2]) ps ws ∧ ws.map (·.1) = kvs.map (·.1) ∧ DAs K A H (ws.map (·.2)) (kvs.map (·.2))
  | [], xs, h => by
    cases h
    exact ⟨[], [], rfl, .nil, rfl, .nil⟩
  | y :: kvs, xs, h => by
    cases h with
    | cons h1 h2 =>
      obtain ⟨ps, ws, rfl, e2, e3, e4⟩ := pairs_in h2
      obtain ⟨b, vs, rfl, s, hs⟩ := pair_in h1
      obtain ⟨vk, vv, rfl, k1, k3⟩ : ∃ vk vv, vs = [vk, vv] ∧ DA K A H vk (keyD y.1) ∧ DA K A H vv y.2 := by
        cases hs with
        | cons k1 k2 =>
          cases k2 with
          | cons k3 k4 =>
            cases k4
            exact ⟨_, _, rfl, k1, k3⟩
      have ek := key_of_da k1
      subst ek
      exact ⟨b :: ps, (y.1, vv) :: ws, rfl, .cons (SqT.of s) e2, by simp [e3], .cons k3 e4⟩
theorem ds_dictOf {i : Nat} {x f : Str} {p pos2 : Pos} (hc : X.calm = true) (hN : X.N.Nodup) (hi : X.N[i]? = some x) (hx : Loc X.env.scope x) (hg : Gl X f) (hm : X.mg f = none) (hv : bootBuiltins f = some (.type "dict")) (he : DE X e we)
    (hn : f ≠ "__name__" := by decide) (hdb : (f == ("__debug__" : Str)) = false := by decide)
    (hst : starEach [e] X.env = (false, eval e X.env) :: starEach [] X.env := by rfl) (hpl : (backTo pos' (starEach [] X.env)).any (·.1) = false := by rfl)
    (hs : swapsWith (.Call (.Name f p) [e] [] pos') (some (.Name x pos2)) pos.line X.env = pure false := by rfl) (hf : X.fn x = true ∨ X.env.scope.names.lookup x = some .local := by first | exact .inl rfl | exact .inr rfl) :
    DS X (.Assign [.Name x pos2] (.Call (.Name f p) [e] [] pos') pos) (sDictOf i we) :=
  psC (ps_set hN hi hx (pe_callTy (call_dictP hc) hg hm hv (pa_cons he pa_nil hst) hn hdb hst hpl) hs hf) fun D σ H ⟨F, Γ, A, ρ, Dd, R, hw, E⟩ => by
    refine ⟨Γ, A, ρ, _, R.e, hw, fun v d H1 x1 g1 hv hP => ?_⟩
    obtain ⟨kvs, rfl, hnd, hP⟩ := hP
    have R1 := R.step x1 g1
    cases hv with
    | lst n s hs =>
      obtain ⟨ps, ws, rfl, e2, e3, e4⟩ := pairs_in hs
      refine ⟨_, ps, ws, rfl, SqL.of s, e2, fun p hp => ?_⟩
      rw [merge_new (by rw [List.nil_append, e3]; exact hnd), List.nil_append]
      have S1 := R1.sit
      exact E.nx Γ (hadd A p) _ _ _ (R1.setO (c := .dK kvs) hp (ExA.new hp) (S1.gok.new hp) ⟨_, upd_same, fun _ e => nomatch e⟩ ⟨p, ws, rfl, .inr rfl, S1.gcold hp, upd_same, e3, (e4.avoid (hadd_avoid hp)).ext (ExA.new hp)⟩) ((LaterS.of_ext R.sit x1).trans S1 (later_new S1 hp (ExA.new hp))) hP
def hasK (kvs : KTab) (k : Key) : Bool := kvs.any fun kv => decide (kv.1 = k)
theorem any_keysK : ∀ {ws : List (Key × V)} {kvs : KTab} (k : Key), ws.map (·.1) = kvs.map (·.1) → (ws.any fun kv => decide (kv.1 = k)) = kvs.any fun kv => decide (kv.1 = k)
  | [], [], _, _ => rfl
  | [], _ :: _, _, h => by cases h
  | _ :: _, [], _, h => by cases h
  | w :: ws, x :: kvs, k, h => by
    simp only [List.map_cons, List.cons.injEq] at h
    rw [List.any_cons, List.any_cons, any_keysK k h.2, h.1]
/-- k not in x -/
def wNoK (i : Nat) (wk : WE) : WE := fun ρ P => match ρ.getD i none with
  | some (.dK kvs) => wk ρ fun kd => ∃ k, kd = keyD k ∧ P (.bool (!hasK kvs k))
  | _ => False
theorem dt_noK {i : Nat} {k o : Expr} {wk : WE} (room : X.A.units + 1 < cLine) (hk : DE X k wk) (ho : PE X o (tVar i)) (hm : behindInMarks .NotIn o = false := by first | exact nobehind _ (by decide) (by decide) | rfl) : DT X (.Compare k [.NotIn] [o] pos) (wTst (wNoK i wk)) :=
  ptC (pt_cmp (pc_dnotin room hk ho) hm) fun σ H Q ⟨Γ, A, ρ, P, R, hw, kk⟩ => by
    have hw : wNoK i wk ρ fun d => match d with | .bool b => P b | _ => False := hw
    unfold wNoK at hw
    split at hw
    · rename_i kvs q
      obtain ⟨v0, s1, a, ws, e1, a2, a3, a4, a5, a6⟩ := R.cells i _ (getD_some q)
      subst e1
      refine ⟨Γ, A, ρ, _, R, hw, fun u kd H1 x1 g1 hu hP => ⟨_, s1, ?_⟩⟩
      obtain ⟨k', rfl, hP⟩ := hP
      have ek := key_of_da hu
      subst ek
      have H1a : H1 a = some (.dK ws) := x1 a _ (by simp [a3]) a4
      refine ⟨a, _, rfl, DGet.k H1a, _, rfl, ?_⟩
      rw [← valV_any, any_keysK k' a5]
      exact kk _ H1 x1 g1 hP
    · exact hw.elim
theorem repl_dasK {K : PySem.W.Frag} {A : Hot} {H : Hp} {v : V} {d : PyData} (hd : DA K A H v d) (k : Key) : ∀ {ws : List (Key × V)} {kvs : KTab}, ws.map (·.1) = kvs.map (·.1) → DAs K A H (ws.map (·.2)) (kvs.map (·.2)) →
    (ws.map (fun kv => if kv.1 = k then (kv.1, v) else kv)).map (·.1) = (kvs.map (fun kv => if kv.1 = k then (kv.1, d) else kv)).map (·.1) ∧
    DAs K A H ((ws.map (fun kv => if kv.1 = k then (kv.1, v) else kv)).map (·.2)) ((kvs.map (fun kv => if kv.1 = k then (kv.1, d) else kv)).map (·.2))
  | [], [], _, _ => ⟨rfl, .nil⟩
  | [], _ :: _, h, _ => by cases h
  | _ :: _, [], h, _ => by cases h
  | w :: ws, x :: kvs, h, hs => by
    simp only [List.map_cons, List.cons.injEq] at h
    cases hs with
    | cons h1 h2 =>
      obtain ⟨i1, i2⟩ := repl_dasK hd k h.2 h2
      rw [List.map_cons, List.map_cons, List.map_cons, List.map_cons, List.map_cons, List.map_cons, h.1]
      by_cases e : x.1 = k
      · rw [if_pos e, if_pos e, i1]
        exact ⟨rfl, .cons hd i2⟩
      · rw [if_neg e, if_neg e, i1, h.1]
        exact ⟨rfl, .cons h1 i2⟩
def putKD (kvs : KTab) (k : Key) (d : PyData) : KTab := if (kvs.any fun kv => decide (kv.1 = k)) = true then kvs.map (fun kv => if kv.1 = k then (kv.1, d) else kv) else kvs ++ [(k, d)]
theorem put_dasK {K : PySem.W.Frag} {A : Hot} {H : Hp} {v : V} {d : PyData} (hd : DA K A H v d) (k : Key) {ws : List (Key × V)} {kvs : KTab} (h : ws.map (·.1) = kvs.map (·.1)) (hs : DAs K A H (ws.map (·.2)) (kvs.map (·.2))) :
    (putK ws k v).map (·.1) = (putKD kvs k d).map (·.1) ∧ DAs K A H ((putK ws k v).map (·.2)) ((putKD kvs k d).map (·.2)) := by
  unfold putK putKD
  rw [any_keysK k h]
  by_cases e : (kvs.any fun kv => decide (kv.1 = k)) = true
  · rw [if_pos e, if_pos e]
    exact repl_dasK hd k h hs
  · rw [if_neg e, if_neg e, List.map_append, List.map_append, List.map_append, List.map_append, h]
    exact ⟨rfl, hs.append (.cons hd .nil)⟩
/-- x[k] = v -/
def sKPut (i : Nat) (wk wv : WE) : WS := fun ρ D => match ρ.getD i none with
  | some (.dK kvs) => wv ρ fun d => wk ρ fun kd => ∃ k, kd = keyD k ∧ kvs.length < sizeLine ∧ D.nx (ρ.set i (some (.dK (putKD kvs k d))))
  | _ => False
theorem ds_kput {i : Nat} {o k v : Expr} {tpos : Pos} (ho : PE X o (tVar i)) (hk : DE X k wk) (hv : DE X v wv) (hu : X.A.units + 1 < cLine) (ha : ∀ u, assign (.Subscript o k tpos) X.env u = (do
      let ov ← holding [u] (eval o X.env)
      let iv ← holding [u, ov] (eval k X.env)
      standAt tpos
      holding [u, ov, iv] (setItem ov iv u)
      release [u, ov, iv] []) := by intro _; rfl) (hs : swapsWithSole [.Subscript o k tpos] v pos.line X.env = pure false := by rfl) (hw : swappedStores [.Subscript o k tpos] v X.env = pure none := by rfl) (h1 : (assignEach [.Subscript o k tpos] X.env).map (·.2) = [assign (.Subscript o k tpos) X.env] := by rfl) :
    DS X (.Assign [.Subscript o k tpos] v pos) (sKPut i wk wv) := psC (ps_asg hv (pg_sub ho hk (set_dict hu) ha) hs hw h1) fun D σ H ⟨F, Γ, A, ρ, Dd, R, hw, E⟩ => by
  unfold sKPut at hw
  split at hw
  · rename_i kvs q
    obtain ⟨v0, s1, a, ws, e1, a2, a3, a4, a5, a6⟩ := R.e.cells i _ (getD_some q)
    subst e1
    refine ⟨Γ, A, ρ, _, R.e, hw, fun u d H1 x1 g1 hu1 hP => ⟨_, s1, Γ, A, ρ, _, R.e.ext x1 g1, hP, fun uk kd H2 x2 g2 huk hP2 => ?_⟩⟩
    obtain ⟨kk, rfl, hz, hn⟩ := hP2
    have ek := key_of_da huk
    subst ek
    have R2 := (R.step x1 g1).step x2 g2
    have H2a : H2 a = some (.dK ws) := x2 a _ (by simp [a3]) (x1 a _ (by simp [a3]) a4)
    have lw : ws.length < sizeLine := by
      have := congrArg List.length a5
      rw [List.length_map, List.length_map] at this
      omega
    refine ⟨a, _, rfl, DPut.k H2a lw, ?_⟩
    have x12 := (x1.trans x2).weak R.sit.gdom
    obtain ⟨p1, p2⟩ := put_dasK (hu1.ext (x2.weak R.sit.gdom)) kk a5 (a6.ext x12)
    obtain ⟨R3, l3⟩ := R2.putO (i := i) (o := .dK (putK ws kk u)) (c' := .dK (putKD kvs kk d)) (getD_some q) rfl s1 a2 a3 rfl (fun _ e => nomatch e) ⟨a, _, rfl, a2, a3, upd_same, p1, p2.ext (ExA.hot a2)⟩
    exact E.nx Γ A σ _ _ R3 ((LaterS.of_ext R.sit (x1.trans x2)).trans R2.sit l3) hn
  · exact hw.elim
end
end Dat

/-! Doc: computed styles of a document. -/
namespace Dat
open PySem PySem.Spec PyProof.Rows L2
open PySem.W (Datum DatumOrd Tup T3 T4)

abbrev Nd := Option Int × Tags
abbrev Doc := Tup Nd
abbrev Fn := Str → Option Str
def rowS (ns : List Str) (f : Fn) : List (Str × Str) := ns.filterMap fun n => (f n).map fun v => (n, v)
def mixV (a : Fn) (inh : List Str) (g : Fn) : Fn := fun n => if (a n).isSome || !decide (n ∈ inh) then a n else g n
def parF (tb : List Fn) : Option Int → Fn
  | none => fun _ => none
  | some j => tb.getD j.toNat fun _ => none
def stepV (s : Sheet) (inh : List Str) (tb : List Fn) (nd : Nd) : Fn := mixV (valO s nd.2) inh (parF tb nd.1)
def foldV (s : Sheet) (inh : List Str) (l : List Nd) (tb : List Fn) : List Fn := l.foldl (fun tb nd => tb ++ [stepV s inh tb nd]) tb
def tabV (s : Sheet) (inh : List Str) (l : List Nd) : List Fn := foldV s inh l []
def compL (ns : List Str) (s : Sheet) (inh : List Str) (d : Doc) : List (List (Str × Str)) := (tabV s inh d.items).map (rowS ns)
section
variable {s : Sheet} {inh : List Str} {ns : List Str}
theorem foldV_cons (nd : Nd) (l : List Nd) (tb : List Fn) : foldV s inh (nd :: l) tb = foldV s inh l (tb ++ [stepV s inh tb nd]) := rfl
theorem foldV_app (a b : List Nd) (tb : List Fn) : foldV s inh (a ++ b) tb = foldV s inh b (foldV s inh a tb) := List.foldl_append
theorem foldV_len : ∀ (l : List Nd) (tb : List Fn), (foldV s inh l tb).length = tb.length + l.length
  | [], _ => rfl
  | nd :: l, tb => by
    rw [foldV_cons, foldV_len l]
    simp only [List.length_append, List.length_cons, List.length_nil]
    omega
theorem foldV_pre : ∀ (l : List Nd) (tb : List Fn), tb <+: foldV s inh l tb
  | [], tb => List.prefix_refl _
  | nd :: l, tb => by
    rw [foldV_cons]
    exact (List.prefix_append tb _).trans (foldV_pre l _)
theorem tabV_len (l : List Nd) : (tabV s inh l).length = l.length := by
  unfold tabV
  rw [foldV_len]
  exact Nat.zero_add _
theorem tabV_snoc (l : List Nd) (nd : Nd) : tabV s inh (l ++ [nd]) = tabV s inh l ++ [stepV s inh (tabV s inh l) nd] := by
  unfold tabV
  rw [foldV_app]
  rfl
theorem tabV_take (l : List Nd) (i : Nat) : tabV s inh (l.take i) <+: tabV s inh l := by
  have h : tabV s inh l = foldV s inh (l.drop i) (tabV s inh (l.take i)) := by
    unfold tabV
    rw [← foldV_app, List.take_append_drop]
  rw [h]
  exact foldV_pre _ _
theorem pre_get {α : Type} {a b : List α} (h : a <+: b) {j : Nat} (hj : j < a.length) : b[j]? = a[j]? := by
  obtain ⟨t, rfl⟩ := h
  rw [List.getElem?_append_left hj]
theorem tab_at0 {l : List Nd} {i : Nat} {nd : Nd} (h : l[i]? = some nd) : (tabV s inh l)[i]? = some (stepV s inh (tabV s inh (l.take i)) nd) := by
  obtain ⟨hi, e⟩ := List.getElem?_eq_some_iff.mp h
  have h1 : l.take (i + 1) = l.take i ++ [nd] := by rw [List.take_succ_eq_append_getElem hi, e]
  have h2 := tabV_take (s := s) (inh := inh) l (i + 1)
  rw [h1, tabV_snoc] at h2
  have hl : (tabV s inh (l.take i)).length = i := by rw [tabV_len, List.length_take]; omega
  rw [pre_get h2 (by rw [List.length_append, hl]; exact Nat.lt_succ_self _), List.getElem?_append_right (by omega), hl, Nat.sub_self]
  rfl
def DocOk (l : List Nd) : Prop := ∀ (k : Nat) (nd : Nd), l[k]? = some nd → ∀ j, nd.1 = some j → 0 ≤ j ∧ j < (k : Int)
theorem parF_pre {l : List Nd} {i : Nat} {o : Option Int} (hi : i ≤ l.length) (h : ∀ j, o = some j → 0 ≤ j ∧ j < (i : Int)) : parF (tabV s inh (l.take i)) o = parF (tabV s inh l) o := by
  cases o with
  | none => rfl
  | some j =>
    obtain ⟨h0, h1⟩ := h j rfl
    show List.getD _ _ _ = List.getD _ _ _
    rw [List.getD_eq_getElem?_getD, List.getD_eq_getElem?_getD, pre_get (tabV_take l i) (by rw [tabV_len, List.length_take]; omega)]
theorem tab_at {l : List Nd} (ok : DocOk l) {i : Nat} {nd : Nd} (h : l[i]? = some nd) : (tabV s inh l)[i]? = some (mixV (valO s nd.2) inh (parF (tabV s inh l) nd.1)) := by
  rw [tab_at0 h]
  unfold stepV
  rw [parF_pre (Nat.le_of_lt (List.getElem?_eq_some_iff.mp h).1) fun j hj => ok i nd h j hj]
theorem rowS_mem {f : Fn} {p : Str × Str} : p ∈ rowS ns f ↔ p.1 ∈ ns ∧ f p.1 = some p.2 := by
  unfold rowS
  rw [List.mem_filterMap]
  constructor
  · rintro ⟨n, hn, h⟩
    cases q : f n with
    | none => rw [q] at h; cases h
    | some v =>
      rw [q] at h
      have h : (n, v) = p := Option.some.inj h
      rw [← h]
      exact ⟨hn, q⟩
  · rintro ⟨h1, h2⟩
    exact ⟨p.1, h1, by rw [h2]; rfl⟩
theorem rowS_keys (f : Fn) : (rowS ns f).map (·.1) = ns.filter fun n => (f n).isSome := by
  unfold rowS
  induction ns with
  | nil => rfl
  | cons n ns ih =>
    cases q : f n with
    | none => rw [List.filterMap_cons_none (by rw [q]; rfl), List.filter_cons_of_neg (by rw [q]; simp), ih]
    | some v => rw [List.filterMap_cons_some (b := (n, v)) (by rw [q]; rfl), List.filter_cons_of_pos (by rw [q]; rfl), List.map_cons, ih]
theorem rowS_nodup (hn : Inc ns) (f : Fn) : ((rowS ns f).map (·.1)).Nodup := by
  rw [rowS_keys]
  exact hn.nodup.filter _
theorem keys_nodup {l : List (Str × Str)} (h : (l.map (·.1)).Nodup) : l.Nodup := by
  rw [List.Nodup, List.pairwise_map] at h
  exact h.imp fun {a b} z e => z (by rw [e])
theorem rowS_sorted (hn : Inc ns) (f : Fn) : (rowS ns f).Pairwise fun a b => leOf a b = true := by
  have h : ((rowS ns f).map (·.1)).Pairwise fun a b => DatumOrd.lt a b = true := by
    rw [rowS_keys]
    exact hn.sublist (List.filter_sublist ..)
  rw [List.pairwise_map] at h
  refine h.imp fun {a b} z => lt_leOf ?_
  rw [pairLt, if_neg]
  · exact z
  · intro e
    rw [e, LeL.irrefl] at z
    cases z
theorem rowS_len (hn : Inc ns) (f : Fn) : (rowS ns f).length ≤ ns.length := by
  have := congrArg List.length (rowS_keys (ns := ns) f)
  rw [List.length_map] at this
  rw [this]
  exact List.length_filter_le ..
theorem sort_row (hn : Inc ns) {f : Fn} {own : List (Str × Str)} (hk : (own.map (·.1)).Nodup) (hm : ∀ p : Str × Str, p ∈ own ↔ p.1 ∈ ns ∧ f p.1 = some p.2) : own.mergeSort leOf = rowS ns f :=
  sort_nodup_eq (keys_nodup hk) (keys_nodup (rowS_nodup hn f)) (rowS_sorted hn f) fun p => by rw [hm, rowS_mem]
abbrev NamesN (ns : List Str) (s : Sheet) : Prop := ∀ r ∈ s.items, r.c ∈ ns
theorem val_in (hs : NamesN ns s) {e : Tags} {n : Str} (h : valO s e n ≠ none) : n ∈ ns := by
  obtain ⟨r, hr, rfl⟩ := List.mem_map.mp (val_names h)
  exact hs r hr
theorem styles_row (hn : Inc ns) (hs : NamesN ns s) (e : Tags) : Datum.toD (stylesL s e) = .list ((rowS ns (valO s e)).map Datum.toD) := by
  have e2 : (ns.filter fun n => (valO s e n).isSome) = firstL (namesL s e) := by
    refine inc_ext (hn.sublist (List.filter_sublist ..)) (inc_firstL _) fun n => ?_
    rw [List.mem_filter]
    have hm : n ∈ firstL (namesL s e) ↔ valO s e n ≠ none := by
      rw [firstL_mem]
      unfold namesL
      rw [List.mem_mergeSort, List.mem_map, ne_eq, valO_none]
      constructor
      · rintro ⟨p, hp, rfl⟩ h
        have : p ∈ candL s e p.2.c := List.mem_filter.mpr ⟨hp, by simp⟩
        rw [h] at this
        cases this
      · intro h
        obtain ⟨p, hp⟩ := List.exists_mem_of_ne_nil _ h
        obtain ⟨h1, h2⟩ := List.mem_filter.mp hp
        exact ⟨p, h1, of_decide_eq_true h2⟩
    rw [hm]
    constructor
    · rintro ⟨_, h⟩ z
      rw [z] at h
      cases h
    · intro h
      exact ⟨val_in hs h, Option.isSome_iff_ne_none.mpr h⟩
  unfold stylesL
  rw [← e2]
  show PyData.list (((ns.filter fun n => (valO s e n).isSome).map fun n => (n, valO s e n)).map Datum.toD) = _
  congr 1
  unfold rowS
  clear e2 hs hn
  induction ns with
  | nil => rfl
  | cons n ns ih =>
    cases q : valO s e n with
    | none => rw [List.filterMap_cons_none (by rw [q]; rfl), List.filter_cons_of_neg (by rw [q]; simp), ih]
    | some v =>
      rw [List.filterMap_cons_some (b := (n, v)) (by rw [q]; rfl), List.filter_cons_of_pos (by rw [q]; rfl), List.map_cons, List.map_cons, List.map_cons, ih, q]
      rfl
def kd (p : Str × Str) : Key × PyData := (Sum.inr p.1, .str p.2)
theorem kd_pair (l : List (Str × Str)) : (l.map kd).map pairD = l.map Datum.toD := by
  rw [List.map_map]
  rfl
theorem kd_keys {l : List (Str × Str)} (h : (l.map (·.1)).Nodup) : ((l.map kd).map (·.1)).Nodup := by
  rw [List.map_map]
  rw [List.Nodup, List.pairwise_map] at h ⊢
  exact h.imp fun {a b} z e => z (Sum.inr.inj e)
theorem kd_has (l : List (Str × Str)) (n : Str) : hasK (l.map kd) (Sum.inr n) = decide (n ∈ l.map (·.1)) := by
  unfold hasK
  rw [List.any_map]
  induction l with
  | nil => simp
  | cons p l ih =>
    rw [List.any_cons, ih, List.map_cons]
    by_cases h : p.1 = n
    · simp [kd, h]
    · have h' : ¬ n = p.1 := fun z => h z.symm
      simp [kd, h, h']
theorem kd_put {l : List (Str × Str)} {n v : Str} (h : n ∉ l.map (·.1)) : putKD (l.map kd) (Sum.inr n) (.str v) = (l ++ [(n, v)]).map kd := by
  have := kd_has l n
  unfold hasK at this
  unfold putKD
  rw [this, decide_eq_false h]
  rw [if_neg (by simp), List.map_append]
  rfl
end
def C_computed : Con := fun cs P => ∃ (ns : List Str) (s : Sheet) (d : Doc) (inh : Tags), cs = [.d (Datum.toD s), .d (Datum.toD d), .d (Datum.toD inh)] ∧ Inc ns ∧ ns.length ≤ 1000 ∧ NamesN ns s ∧ d.items.length ≤ 1000 ∧ DocOk d.items ∧ P (Datum.toD (compL ns s inh.items d))
def twT (e : Tags) (t : Str) : Tags := if t ∈ e.items then Tup.mk (e.items.filter fun u => !decide (u = t)) else Tup.mk ((e.items ++ [t]).mergeSort leOf)
def C_with_tag : Con := fun cs P => ∃ (e : Tags) (t : Str), cs = [.d (Datum.toD e), .d (.str t)] ∧ e.items.length ≤ 1000 ∧ P (Datum.toD (twT e t))
def setT (d : Doc) (i : Nat) (t : Str) : Doc := match d.items[i]? with
  | some nd => Tup.mk (d.items.set i (nd.1, twT nd.2 t))
  | none => d
def togL {α : Type} [DecidableEq α] (xs ys : List α) : List Int := ((enumL xs).filter fun p => !decide (some p.2 = L2.atI ys p.1)).map (·.1)
def C_toggled : Con := fun cs P => ∃ (ns : List Str) (s : Sheet) (d : Doc) (inh : Tags) (i : Nat) (t : Str), cs = [.d (Datum.toD s), .d (Datum.toD d), .d (Datum.toD inh), .d (.int i), .d (.str t)] ∧ Inc ns ∧ ns.length ≤ 1000 ∧ NamesN ns s ∧ d.items.length ≤ 1000 ∧ DocOk d.items ∧ i < d.items.length ∧
  (∀ nd ∈ d.items, nd.2.items.length ≤ 1000) ∧ P (Datum.toD (togL (compL ns s inh.items d) (compL ns s inh.items (setT d i t))))
def B_computed_1 : WS :=
  (sIf (wAnd (wTst (w2 gIn (wVar 7) (wVar 2))) (wTst (wNoK 6 (wVar 7))))
    (sKPut 6 (wVar 7) (wVar 8))
    sNext)
def B_computed_0 : WS :=
  (sSeq (sDictOf 6 (wCall C_styles (aD (wVar 0) (aD (wVar 5) aNil))))
    (sSeq (sFor (wSeqI (wIfE (wTst (wNotN (wVar 4))) (w2 gIx (wOwn 3) (wVar 4)) (wF wNil))) (wGtup 2 (wGcons (wGn 7) (wGcons (wGn 8) wGnil))) B_computed_1)
    (sApp 3 (wF (wSortI 6)))))
def W_computed : WS :=
  (sSeq (sSetF 3 wNil)
    (sSeq (sFor (wSeqI (wVar 1)) (wGtup 2 (wGcons (wGn 4) (wGcons (wGn 5) wGnil))) B_computed_0)
    (sRetO 3)))

def W_with_tag : WS :=
  (sSeq (sIf (wTst (w2 gIn (wVar 1) (wVar 0)))
    (sRet (w1 gTuple (wF (wLc (wSeqI (wVar 0)) (wGn 2) (wTst (w2 gNe (wVar 2) (wVar 1))) (wVar 2) [2]))))
    sNext)
    (sRet (w1 gTuple (wF (wF1 gSorted (w2 gAdd (wVar 0) (wTup (wCons (wVar 1) wNil))))))))

def W_toggled : WS :=
  (sSeq (sAsg (w2 gIx (wVar 1) (wVar 3)) (wGtup 2 (wGcons (wGn 5) (wGcons (wGn 6) wGnil))))
    (sSeq (sSet 7 (w2 gAdd (w2 gAdd (wSl (wVar 1) wO0 (wO1 (wVar 3))) (wTup (wCons (wTup (wCons (wVar 5) (wCons (wCall C_with_tag (aD (wVar 6) (aD (wVar 4) aNil))) wNil))) wNil))) (wSl (wVar 1) (wO1 (w2 gAdd (wVar 3) (wC (.int 1)))) wO0)))
    (sSeq (sAsg (wTup (wCons (wCall C_computed (aD (wVar 0) (aD (wVar 1) (aD (wVar 2) aNil)))) (wCons (wCall C_computed (aD (wVar 0) (aD (wVar 7) (aD (wVar 2) aNil)))) wNil))) (wGtup 2 (wGcons (wGn 8) (wGcons (wGn 9) wGnil))))
    (sRet (wF (wLc (wEnum (wVar 8)) (wGtup 2 (wGcons (wGn 10) (wGcons (wGn 11) wGnil))) (wTst (w2 gNe (wVar 11) (w2 gIx (wVar 9) (wVar 10)))) (wVar 10) [10, 11]))))))

section
variable {s : Sheet} {inh : Tags} {ns : List Str} {c0 c1 c3 c4 c5 c7 c8 : Option Cell} {D : DEnds}
theorem inner_ok (hn : Inc ns) (hl : ns.length ≤ 1000) {a g : Fn} (h : ∀ (own : List (Str × Str)) c7 c8, (own.map (·.1)).Nodup → (∀ p : Str × Str, p ∈ own ↔ p.1 ∈ ns ∧ mixV a inh.items g p.1 = some p.2) → D.nx [c0, c1, some (.d (Datum.toD inh)), c3, c4, c5, some (.dK (own.map kd)), c7, c8]) :
    sLoop (wGtup 2 (wGcons (wGn 7) (wGcons (wGn 8) wGnil))) B_computed_1 D ((rowS ns g).map Datum.toD) [c0, c1, some (.d (Datum.toD inh)), c3, c4, c5, some (.dK ((rowS ns a).map kd)), c7, c8] := by
  refine sLoop_ind Datum.toD (fun rest ρ => ∃ (own pre : List (Str × Str)) (c7 c8 : Option Cell), rowS ns g = pre ++ rest ∧ (own.map (·.1)).Nodup ∧ (∀ p : Str × Str, p ∈ own ↔ p.1 ∈ ns ∧ (a p.1 = some p.2 ∨ (a p.1 = none ∧ p.1 ∈ inh.items ∧ p ∈ pre))) ∧
    ρ = [c0, c1, some (.d (Datum.toD inh)), c3, c4, c5, some (.dK (own.map kd)), c7, c8]) ?_ ?_ (rowS ns g) _ ⟨rowS ns a, [], _, _, rfl, rowS_nodup hn a, fun p => by rw [rowS_mem]; simp, rfl⟩
  · rintro ρ ⟨own, pre, c7, c8, hpre, hk, hm, rfl⟩
    rw [List.append_nil] at hpre
    refine h own c7 c8 hk fun p => ?_
    rw [hm, ← hpre, rowS_mem]
    unfold mixV
    constructor
    · rintro ⟨h1, h2 | ⟨h2, h3, h4⟩⟩
      · exact ⟨h1, by rw [h2]; simp⟩
      · exact ⟨h1, by rw [h2]; simp [h3, h4.2]⟩
    · rintro ⟨h1, h2⟩
      refine ⟨h1, ?_⟩
      cases q : a p.1 with
      | some v => rw [q] at h2; simp at h2; exact .inl (by rw [h2])
      | none =>
        rw [q] at h2
        by_cases hi : p.1 ∈ inh.items
        · simp [hi] at h2
          exact .inr ⟨rfl, hi, h1, h2⟩
        · simp [hi] at h2
  · rintro p rest ρ ⟨own, pre, c7, c8, hpre, hk, hm, rfl⟩ k hk2
    have hp : p ∈ rowS ns g := by rw [hpre]; simp
    obtain ⟨hp1, hp2⟩ := rowS_mem.mp hp
    have hpn : p.1 ∉ pre.map (·.1) := by
      have := rowS_nodup hn g
      rw [hpre, List.map_append, List.nodup_append] at this
      exact fun z => this.2.2 p.1 z p.1 (by simp) rfl
    have hol : own.length ≤ 1000 := by
      have := sub_len hk fun n hn' => by
        obtain ⟨q, hq, rfl⟩ := List.mem_map.mp hn'
        exact ((hm q).mp hq).1
      rw [List.length_map] at this
      omega
    unfold B_computed_1
    simp only [sSeq, sSet, sSetF, sRet, sRetN, sRetF, sNext, sIf, sFor, sAsg, sDrop, sBreak, sCont, w2, w1, wF1, wF, wC, wTst, wNot, wAnd, wOr, wAndV, wOrV, wNotV, wIfE, wIsN, wNotN, wTup, wCons, wNil, wCall, wCallL, wCallB, aD, aO, aNil, wLc, wSeqI, wEnum, wZip, wRg1, wO0, wO1, wSl, wNeg, wCat, wRevL, wIsi, wIsi2, wGn, wGtup, wGcons, wGnil, wYes, wipeE, endD, lawD, wVar, wOwn, List.getD_cons_zero, List.getD_cons_succ, List.set_cons_zero, List.set_cons_succ, Bool.false_eq_true, false_imp_iff, true_and, and_true, if_true, if_false, List.length_cons, List.length_nil, gTuple_lst, gAdd_int, gSub_int, gIxR0, gIxR1, gIxR2, gIxR3, isSeq_tup, isSeq_list, itemsD_tup, itemsD_list, isSeq_lst, itemsD_lst, isSeq_tp, itemsD_tp, gLenTup, gLenList, enumD_map, toD_pair, toD_int, toD_str, toD_bool, ite_self, reduceIte,  wNoK]
    refine gInTC (α := Str) (by decide) (fun z => ?_) fun z => ?_
    · (dsimp only; first | rw [if_pos rfl] | rw [if_neg (by simp)])
      refine ⟨Sum.inr p.1, rfl, ?_⟩
      rw [kd_has]
      refine boolN (P := fun d => match d with | .bool b => if b = true then _ else _ | _ => False) (fun z2 => ?_) fun z2 => ?_
      · (dsimp only; first | rw [if_pos rfl] | rw [if_neg (by simp)])
        simp only [sSeq, sSet, sSetF, sRet, sRetN, sRetF, sNext, sIf, sFor, sAsg, sDrop, sBreak, sCont, w2, w1, wF1, wF, wC, wTst, wNot, wAnd, wOr, wAndV, wOrV, wNotV, wIfE, wIsN, wNotN, wTup, wCons, wNil, wCall, wCallL, wCallB, aD, aO, aNil, wLc, wSeqI, wEnum, wZip, wRg1, wO0, wO1, wSl, wNeg, wCat, wRevL, wIsi, wIsi2, wGn, wGtup, wGcons, wGnil, wYes, wipeE, endD, lawD, wVar, wOwn, List.getD_cons_zero, List.getD_cons_succ, List.set_cons_zero, List.set_cons_succ, Bool.false_eq_true, false_imp_iff, true_and, and_true, if_true, if_false, List.length_cons, List.length_nil, gTuple_lst, gAdd_int, gSub_int, gIxR0, gIxR1, gIxR2, gIxR3, isSeq_tup, isSeq_list, itemsD_tup, itemsD_list, isSeq_lst, itemsD_lst, isSeq_tp, itemsD_tp, gLenTup, gLenList, enumD_map, toD_pair, toD_int, toD_str, toD_bool, ite_self, reduceIte,  sKPut]
        refine ⟨Sum.inr p.1, rfl, by rw [List.length_map, sizeLine_eq]; omega, ?_⟩
        rw [kd_put z2]
        refine hk2 _ ⟨own ++ [(p.1, p.2)], pre ++ [p], _, _, by rw [hpre]; simp, ?_, fun q => ?_, rfl⟩
        · rw [List.map_append, List.nodup_append]
          refine ⟨hk, by simp, fun x hx y hy e => ?_⟩
          simp at hy
          exact z2 (by rw [← hy, ← e]; exact hx)
        · rw [List.mem_append, hm, List.mem_append, List.mem_singleton]
          have ha : a p.1 = none := by
            cases q2 : a p.1 with
            | none => rfl
            | some v => exact absurd (List.mem_map.mpr ⟨(p.1, v), (hm (p.1, v)).mpr ⟨hp1, .inl q2⟩, rfl⟩) z2
          constructor
          · rintro (⟨h1, h2 | ⟨h2, h3, h4⟩⟩ | h)
            · exact ⟨h1, .inl h2⟩
            · exact ⟨h1, .inr ⟨h2, h3, .inl h4⟩⟩
            · have h : q = p := h
              rw [h]
              exact ⟨hp1, .inr ⟨ha, z, .inr rfl⟩⟩
          · rintro ⟨h1, h2 | ⟨h2, h3, h4 | h4⟩⟩
            · exact .inl ⟨h1, .inl h2⟩
            · exact .inl ⟨h1, .inr ⟨h2, h3, h4⟩⟩
            · exact .inr h4
      · (dsimp only; first | rw [if_pos rfl] | rw [if_neg (by simp)])
        refine hk2 _ ⟨own, pre ++ [p], _, _, by rw [hpre]; simp, hk, fun q => ?_, rfl⟩
        rw [hm, List.mem_append, List.mem_singleton]
        have ha : a p.1 ≠ none := by
          obtain ⟨y, hy, e⟩ := List.mem_map.mp z2
          intro q2
          rcases ((hm y).mp hy).2 with h | ⟨_, _, h⟩
          · rw [e, q2] at h; cases h
          · exact hpn (by rw [← e]; exact List.mem_map.mpr ⟨y, h, rfl⟩)
        constructor
        · rintro ⟨h1, h2 | ⟨h2, h3, h4⟩⟩
          · exact ⟨h1, .inl h2⟩
          · exact ⟨h1, .inr ⟨h2, h3, .inl h4⟩⟩
        · rintro ⟨h1, h2 | ⟨h2, h3, h4 | h4⟩⟩
          · exact ⟨h1, .inl h2⟩
          · exact ⟨h1, .inr ⟨h2, h3, h4⟩⟩
          · rw [h4] at h2; exact absurd h2 ha
    · (dsimp only; first | rw [if_pos rfl] | rw [if_neg (by simp)])
      refine hk2 _ ⟨own, pre ++ [p], _, _, by rw [hpre]; simp, hk, fun q => ?_, rfl⟩
      rw [hm, List.mem_append, List.mem_singleton]
      constructor
      · rintro ⟨h1, h2 | ⟨h2, h3, h4⟩⟩
        · exact ⟨h1, .inl h2⟩
        · exact ⟨h1, .inr ⟨h2, h3, .inl h4⟩⟩
      · rintro ⟨h1, h2 | ⟨h2, h3, h4 | h4⟩⟩
        · exact ⟨h1, .inl h2⟩
        · exact ⟨h1, .inr ⟨h2, h3, h4⟩⟩
        · rw [h4] at h3; exact absurd h3 z
theorem row_ok (hn : Inc ns) (hl : ns.length ≤ 1000) (hs : NamesN ns s) {found : List (List (Str × Str))} {par : Option Int} {el : Tags} {c6 : Option Cell} {g : Fn} (hf : found.length ≤ 1000) (hg : ∀ j, par = some j → L2.atI found j = some (rowS ns g)) (hg0 : par = none → g = fun _ => none)
    (h : ∀ c6 c7 c8, D.nx [some (.d (Datum.toD s)), c1, some (.d (Datum.toD inh)), some (.lst ((found ++ [rowS ns (mixV (valO s el) inh.items g)]).map Datum.toD)), some (.d (Datum.toD par)), some (.d (Datum.toD el)), c6, c7, c8]) :
    B_computed_0 [some (.d (Datum.toD s)), c1, some (.d (Datum.toD inh)), some (.lst (found.map Datum.toD)), some (.d (Datum.toD par)), some (.d (Datum.toD el)), c6, c7, c8] D := by
  unfold B_computed_0
  simp only [sSeq, sSet, sSetF, sRet, sRetN, sRetF, sNext, sIf, sFor, sAsg, sDrop, sBreak, sCont, w2, w1, wF1, wF, wC, wTst, wNot, wAnd, wOr, wAndV, wOrV, wNotV, wIfE, wIsN, wNotN, wTup, wCons, wNil, wCall, wCallL, wCallB, aD, aO, aNil, wLc, wSeqI, wEnum, wZip, wRg1, wO0, wO1, wSl, wNeg, wCat, wRevL, wIsi, wIsi2, wGn, wGtup, wGcons, wGnil, wYes, wipeE, endD, lawD, wVar, wOwn, List.getD_cons_zero, List.getD_cons_succ, List.set_cons_zero, List.set_cons_succ, Bool.false_eq_true, false_imp_iff, true_and, and_true, if_true, if_false, List.length_cons, List.length_nil, gTuple_lst, gAdd_int, gSub_int, gIxR0, gIxR1, gIxR2, gIxR3, isSeq_tup, isSeq_list, itemsD_tup, itemsD_list, isSeq_lst, itemsD_lst, isSeq_tp, itemsD_tp, gLenTup, gLenList, enumD_map, toD_pair, toD_int, toD_str, toD_bool, ite_self, reduceIte,  sDictOf]
  refine ⟨s, el, rfl, ?_⟩
  rw [styles_row hn hs]
  refine ⟨(rowS ns (valO s el)).map kd, by rw [kd_pair], kd_keys (rowS_nodup hn _), ?_⟩
  have key : sLoop (wGtup 2 (wGcons (wGn 7) (wGcons (wGn 8) wGnil))) B_computed_1 { D with nx := fun ρ' => sApp 3 (wF (wSortI 6)) ρ' D } ((rowS ns g).map Datum.toD) [some (.d (Datum.toD s)), c1, some (.d (Datum.toD inh)), some (.lst (found.map Datum.toD)), some (.d (Datum.toD par)), some (.d (Datum.toD el)), some (.dK ((rowS ns (valO s el)).map kd)), c7, c8] := by
    refine inner_ok hn hl fun own c7 c8 hk hm => ?_
    simp only [sSeq, sSet, sSetF, sRet, sRetN, sRetF, sNext, sIf, sFor, sAsg, sDrop, sBreak, sCont, w2, w1, wF1, wF, wC, wTst, wNot, wAnd, wOr, wAndV, wOrV, wNotV, wIfE, wIsN, wNotN, wTup, wCons, wNil, wCall, wCallL, wCallB, aD, aO, aNil, wLc, wSeqI, wEnum, wZip, wRg1, wO0, wO1, wSl, wNeg, wCat, wRevL, wIsi, wIsi2, wGn, wGtup, wGcons, wGnil, wYes, wipeE, endD, lawD, wVar, wOwn, List.getD_cons_zero, List.getD_cons_succ, List.set_cons_zero, List.set_cons_succ, Bool.false_eq_true, false_imp_iff, true_and, and_true, if_true, if_false, List.length_cons, List.length_nil, gTuple_lst, gAdd_int, gSub_int, gIxR0, gIxR1, gIxR2, gIxR3, isSeq_tup, isSeq_list, itemsD_tup, itemsD_list, isSeq_lst, itemsD_lst, isSeq_tp, itemsD_tp, gLenTup, gLenList, enumD_map, toD_pair, toD_int, toD_str, toD_bool, ite_self, reduceIte,  sApp, wSortI]
    rw [kd_pair]
    have hs1 := sort_row hn hk hm
    have gs : gSorted (.list (own.map Datum.toD)) (fun xs => xs = (rowS ns (mixV (valO s el) inh.items g)).map Datum.toD) := gSorted_ (α := Str × Str) (xs := own) (by decide) (by rw [hs1])
    obtain ⟨_, g1, g2, g3⟩ := gs
    refine ⟨g1, fun d hd => (g2 d hd).2, by rw [List.length_map, sizeLine_eq]; omega, ?_⟩
    have g3 : (own.map Datum.toD).mergeSort dLe = (rowS ns (mixV (valO s el) inh.items g)).map Datum.toD := g3
    rw [g3]
    have := h (some (.dK (own.map kd))) c7 c8
    rw [List.map_append] at this
    exact this
  cases par with
  | none =>
    have e0 : rowS ns g = [] := by
      rw [hg0 rfl]
      unfold rowS
      exact List.filterMap_eq_nil_iff.mpr fun _ _ => rfl
    rw [e0] at key
    exact key
  | some j =>
    rw [if_pos (show (!gNone (Datum.toD (some j))) = true from rfl)]
    exact gIxL_ (t := found) (i := j) (hg j rfl) ⟨rfl, key⟩
theorem body_computed : ∀ cs P, cs.length = 3 → C_computed cs P → noOwn cs ∧ W_computed (startE 9 cs) (endD true P) := by
  rintro cs P _ ⟨ns, s, d, inh, rfl, hn, hl, hs, hd, ok, h⟩
  refine ⟨noOwn3, ?_⟩
  show W_computed [some (.d (Datum.toD s)), some (.d (Datum.toD d)), some (.d (Datum.toD inh)), none, none, none, none, none, none] _
  unfold W_computed
  simp only [sSeq, sSet, sSetF, sRet, sRetN, sRetF, sNext, sIf, sFor, sAsg, sDrop, sBreak, sCont, w2, w1, wF1, wF, wC, wTst, wNot, wAnd, wOr, wAndV, wOrV, wNotV, wIfE, wIsN, wNotN, wTup, wCons, wNil, wCall, wCallL, wCallB, aD, aO, aNil, wLc, wSeqI, wEnum, wZip, wRg1, wO0, wO1, wSl, wNeg, wCat, wRevL, wIsi, wIsi2, wGn, wGtup, wGcons, wGnil, wYes, wipeE, endD, lawD, wVar, wOwn, List.getD_cons_zero, List.getD_cons_succ, List.set_cons_zero, List.set_cons_succ, Bool.false_eq_true, false_imp_iff, true_and, and_true, if_true, if_false, List.length_cons, List.length_nil, gTuple_lst, gAdd_int, gSub_int, gIxR0, gIxR1, gIxR2, gIxR3, isSeq_tup, isSeq_list, itemsD_tup, itemsD_list, isSeq_lst, itemsD_lst, isSeq_tp, itemsD_tp, gLenTup, gLenList, enumD_map, toD_pair, toD_int, toD_str, toD_bool, ite_self, reduceIte,  sRetO]
  refine sLoop_ind Datum.toD (fun rest ρ => ∃ (pre : List Nd) (c4 c5 c6 c7 c8 : Option Cell), d.items = pre ++ rest ∧
    ρ = [some (.d (Datum.toD s)), some (.d (Datum.toD d)), some (.d (Datum.toD inh)), some (.lst (((tabV s inh.items pre).map (rowS ns)).map Datum.toD)), c4, c5, c6, c7, c8]) ?_ ?_ d.items _ ⟨[], _, _, _, _, _, rfl, rfl⟩
  · rintro ρ ⟨pre, c4, c5, c6, c7, c8, hpre, rfl⟩
    rw [List.append_nil] at hpre
    subst hpre
    exact h
  · rintro nd rest ρ ⟨pre, c4, c5, c6, c7, c8, hpre, rfl⟩ k hk
    obtain ⟨par, el⟩ := nd
    have hat : d.items[pre.length]? = some (par, el) := by rw [hpre, List.getElem?_append_right (Nat.le_refl _), Nat.sub_self]; rfl
    have okn := ok _ _ hat
    have hpl : pre.length ≤ 1000 := by
      have := congrArg List.length hpre
      rw [List.length_append] at this
      omega
    simp only [sSeq, sSet, sSetF, sRet, sRetN, sRetF, sNext, sIf, sFor, sAsg, sDrop, sBreak, sCont, w2, w1, wF1, wF, wC, wTst, wNot, wAnd, wOr, wAndV, wOrV, wNotV, wIfE, wIsN, wNotN, wTup, wCons, wNil, wCall, wCallL, wCallB, aD, aO, aNil, wLc, wSeqI, wEnum, wZip, wRg1, wO0, wO1, wSl, wNeg, wCat, wRevL, wIsi, wIsi2, wGn, wGtup, wGcons, wGnil, wYes, wipeE, endD, lawD, wVar, wOwn, List.getD_cons_zero, List.getD_cons_succ, List.set_cons_zero, List.set_cons_succ, Bool.false_eq_true, false_imp_iff, true_and, and_true, if_true, if_false, List.length_cons, List.length_nil, gTuple_lst, gAdd_int, gSub_int, gIxR0, gIxR1, gIxR2, gIxR3, isSeq_tup, isSeq_list, itemsD_tup, itemsD_list, isSeq_lst, itemsD_lst, isSeq_tp, itemsD_tp, gLenTup, gLenList, enumD_map, toD_pair, toD_int, toD_str, toD_bool, ite_self, reduceIte]
    refine row_ok hn hl hs (g := parF (tabV s inh.items pre) par) (by rw [List.length_map, tabV_len]; exact hpl) (fun j hj => ?_) (fun hj => by rw [hj]; rfl) fun c6 c7 c8 => hk _ ⟨pre ++ [(par, el)], some (.d (Datum.toD par)), some (.d (Datum.toD el)), c6, c7, c8, by rw [hpre]; simp, ?_⟩
    · obtain ⟨h0, h1⟩ := okn j hj
      have hj2 : j.toNat < (tabV s inh.items pre).length := by rw [tabV_len]; omega
      have e : ((tabV s inh.items pre).map (rowS ns))[j.toNat]? = some (rowS ns (parF (tabV s inh.items pre) par)) := by
        rw [List.getElem?_map, List.getElem?_eq_getElem hj2, hj]
        show some _ = some (rowS ns (List.getD _ _ _))
        rw [List.getD_eq_getElem?_getD, List.getElem?_eq_getElem hj2]
        rfl
      have := atI_nat e
      rw [Int.toNat_of_nonneg h0] at this
      exact this
    · rw [tabV_snoc, List.map_append, List.map_append, List.map_append]
      rfl
theorem body_with_tag : ∀ cs P, cs.length = 2 → C_with_tag cs P → noOwn cs ∧ W_with_tag (startE 3 cs) (endD false P) := by
  rintro cs P _ ⟨e, t, rfl, hl, h⟩
  refine ⟨noOwn2, ?_⟩
  show W_with_tag [some (.d (Datum.toD e)), some (.d (.str t)), none] _
  unfold W_with_tag
  simp only [sSeq, sSet, sSetF, sRet, sRetN, sRetF, sNext, sIf, sFor, sAsg, sDrop, sBreak, sCont, w2, w1, wF1, wF, wC, wTst, wNot, wAnd, wOr, wAndV, wOrV, wNotV, wIfE, wIsN, wNotN, wTup, wCons, wNil, wCall, wCallL, wCallB, aD, aO, aNil, wLc, wSeqI, wEnum, wZip, wRg1, wO0, wO1, wSl, wNeg, wCat, wRevL, wIsi, wIsi2, wGn, wGtup, wGcons, wGnil, wYes, wipeE, endD, lawD, wVar, wOwn, List.getD_cons_zero, List.getD_cons_succ, List.set_cons_zero, List.set_cons_succ, Bool.false_eq_true, false_imp_iff, true_and, and_true, if_true, if_false, List.length_cons, List.length_nil, gTuple_lst, gAdd_int, gSub_int, gIxR0, gIxR1, gIxR2, gIxR3, isSeq_tup, isSeq_list, itemsD_tup, itemsD_list, isSeq_lst, itemsD_lst, isSeq_tp, itemsD_tp, gLenTup, gLenList, enumD_map, toD_pair, toD_int, toD_str, toD_bool, ite_self, reduceIte]
  unfold twT at h
  refine gInTC (α := Str) (by decide) (fun z => ?_) fun z => ?_
  · (dsimp only; first | rw [if_pos rfl] | rw [if_neg (by simp)])
    rw [if_pos z] at h
    refine wComp_fme Datum.toD (fun u : Str => !decide (u = t)) Datum.toD e.items rfl (fun u _ Q R h1 h2 => ?_) h
    simp only [sSeq, sSet, sSetF, sRet, sRetN, sRetF, sNext, sIf, sFor, sAsg, sDrop, sBreak, sCont, w2, w1, wF1, wF, wC, wTst, wNot, wAnd, wOr, wAndV, wOrV, wNotV, wIfE, wIsN, wNotN, wTup, wCons, wNil, wCall, wCallL, wCallB, aD, aO, aNil, wLc, wSeqI, wEnum, wZip, wRg1, wO0, wO1, wSl, wNeg, wCat, wRevL, wIsi, wIsi2, wGn, wGtup, wGcons, wGnil, wYes, wipeE, endD, lawD, wVar, wOwn, List.getD_cons_zero, List.getD_cons_succ, List.set_cons_zero, List.set_cons_succ, Bool.false_eq_true, false_imp_iff, true_and, and_true, if_true, if_false, List.length_cons, List.length_nil, gTuple_lst, gAdd_int, gSub_int, gIxR0, gIxR1, gIxR2, gIxR3, isSeq_tup, isSeq_list, itemsD_tup, itemsD_list, isSeq_lst, itemsD_lst, isSeq_tp, itemsD_tp, gLenTup, gLenList, enumD_map, toD_pair, toD_int, toD_str, toD_bool, ite_self, reduceIte]
    refine gNe_ (α := Str) (by decide) ?_
    exact ifB h1 h2
  · (dsimp only; first | rw [if_pos rfl] | rw [if_neg (by simp)])
    rw [if_neg z] at h
    refine gAddT_ (xs := e) (ys := Tup.mk [t]) (by show e.items.length + 1 ≤ _; omega) ?_
    exact gSortedT_ (t := Tup.mk (e.items ++ [t])) (by decide) h
end
theorem enumL_get {α : Type} {xs : List α} {p : Int × α} (h : p ∈ enumL xs) : L2.atI xs p.1 = some p.2 := by
  obtain ⟨i, hi, hx⟩ := enumL_at h
  rw [hi]
  exact atI_nat hx
theorem comp_len {ns : List Str} {s : Sheet} {inh : List Str} {d : Doc} : (compL ns s inh d).length = d.items.length := by
  unfold compL
  rw [List.length_map, tabV_len]
theorem atI_ex {α : Type} {xs : List α} {i : Nat} (h : i < xs.length) : ∃ x, xs[i]? = some x ∧ L2.atI xs (i : Int) = some x := ⟨xs[i], List.getElem?_eq_getElem h, atI_nat (List.getElem?_eq_getElem h)⟩
/-- the places where two lists of one length part -/
theorem tog_comp {α : Type} [DecidableEq α] [Datum α] {xs ys : List α} {wg : WG} {ρ : Env} {P : List PyData → Prop} {we : WE} {wt : WT} (hd : Datum.depth α ≤ 60) (hl : xs.length = ys.length)
    (step : ∀ p ∈ enumL xs, ∀ (Q : PyData → Prop) (R : Prop), (∀ y, L2.atI ys p.1 = some y → gNe (Datum.toD p.2) (Datum.toD y) fun d => match d with | .bool b => if b = true then Q (.int p.1) else R | _ => False) → wg (Datum.toD p) ρ fun ρ1 => wt ρ1 fun b => if b = true then we ρ1 Q else R)
    (h : P ((togL xs ys).map Datum.toD)) : wComp wg wt we ρ ((enumL xs).map Datum.toD) P := by
  refine wComp_fme Datum.toD (fun p : Int × α => !decide (some p.2 = L2.atI ys p.1)) (fun p => .int p.1) (enumL xs) rfl (fun p hp Q R h1 h2 => ?_) ?_
  · refine step p hp Q R fun y hy => gNe_ hd ?_
    show if (!decide (p.2 = y)) = true then _ else _
    refine ifB (fun z => h1 ?_) fun z => h2 ?_
    · rw [hy]
      rw [Bool.not_eq_true', decide_eq_false_iff_not] at z ⊢
      exact fun e => z (Option.some.inj e)
    · rw [hy]
      rw [Bool.not_eq_false', decide_eq_true_eq] at z ⊢
      rw [z]
  · unfold togL at h
    rw [List.map_map] at h
    exact h
theorem setT_items {d : Doc} {i : Nat} {t : Str} {nd : Nd} (h : d.items[i]? = some nd) : setT d i t = Tup.mk (d.items.take i ++ [(nd.1, twT nd.2 t)] ++ d.items.drop (i + 1)) := by
  have hi := (List.getElem?_eq_some_iff.mp h).1
  unfold setT
  rw [h]
  show Tup.mk (d.items.set i _) = _
  rw [List.set_eq_take_append_cons_drop, if_pos hi, List.append_assoc]
  rfl
theorem setT_len {d : Doc} {i : Nat} {t : Str} : (setT d i t).items.length = d.items.length := by
  unfold setT
  split
  · exact List.length_set
  · rfl
theorem setT_at {d : Doc} {i : Nat} {t : Str} {k : Nat} {nd : Nd} (h : (setT d i t).items[k]? = some nd) : ∃ nd0, d.items[k]? = some nd0 ∧ nd.1 = nd0.1 ∧ (k ≠ i → nd = nd0) := by
  unfold setT at h
  split at h
  · rename_i ni hi
    by_cases e : k = i
    · subst e
      have hl := (List.getElem?_eq_some_iff.mp hi).1
      have h : (d.items.set k (ni.1, twT ni.2 t))[k]? = some nd := h
      rw [List.getElem?_set_self hl] at h
      cases h
      exact ⟨ni, hi, rfl, fun z => absurd rfl z⟩
    · have h : (d.items.set i (ni.1, twT ni.2 t))[k]? = some nd := h
      rw [List.getElem?_set_ne (Ne.symm e)] at h
      exact ⟨nd, h, rfl, fun _ => rfl⟩
  · exact ⟨nd, h, rfl, fun _ => rfl⟩
theorem setT_ok {d : Doc} {i : Nat} {t : Str} (ok : DocOk d.items) : DocOk (setT d i t).items := fun k nd h j hj => by
  obtain ⟨nd0, h1, h2, _⟩ := setT_at h
  exact ok k nd0 h1 j (by rw [← h2]; exact hj)
theorem body_toggled : ∀ cs P, cs.length = 5 → C_toggled cs P → noOwn cs ∧ W_toggled (startE 12 cs) (endD false P) := by
  rintro cs P _ ⟨ns, s, d, inh, i, t, rfl, hn, hl, hs, hd, ok, hi, hel, h⟩
  refine ⟨fun c hc => by simp only [List.mem_cons, List.not_mem_nil, or_false] at hc; rcases hc with e | e | e | e | e <;> subst e <;> rfl, ?_⟩
  show W_toggled [some (.d (Datum.toD s)), some (.d (Datum.toD d)), some (.d (Datum.toD inh)), some (.d (.int i)), some (.d (.str t)), none, none, none, none, none, none, none] _
  unfold W_toggled
  obtain ⟨⟨par, el⟩, h1, h2⟩ := atI_ex hi
  have hell := hel _ (List.mem_of_getElem? h1)
  simp only [sSeq, sSet, sSetF, sRet, sRetN, sRetF, sNext, sIf, sFor, sAsg, sDrop, sBreak, sCont, w2, w1, wF1, wF, wC, wTst, wNot, wAnd, wOr, wAndV, wOrV, wNotV, wIfE, wIsN, wNotN, wTup, wCons, wNil, wCall, wCallL, wCallB, aD, aO, aNil, wLc, wSeqI, wEnum, wZip, wRg1, wO0, wO1, wSl, wNeg, wCat, wRevL, wIsi, wIsi2, wGn, wGtup, wGcons, wGnil, wYes, wipeE, endD, lawD, wVar, wOwn, List.getD_cons_zero, List.getD_cons_succ, List.set_cons_zero, List.set_cons_succ, Bool.false_eq_true, false_imp_iff, true_and, and_true, if_true, if_false, List.length_cons, List.length_nil, gTuple_lst, gAdd_int, gSub_int, gIxR0, gIxR1, gIxR2, gIxR3, isSeq_tup, isSeq_list, itemsD_tup, itemsD_list, isSeq_lst, itemsD_lst, isSeq_tp, itemsD_tp, gLenTup, gLenList, enumD_map, toD_pair, toD_int, toD_str, toD_bool, ite_self, reduceIte]
  refine gIxT_ (t := d) h2 ?_
  simp only [sSeq, sSet, sSetF, sRet, sRetN, sRetF, sNext, sIf, sFor, sAsg, sDrop, sBreak, sCont, w2, w1, wF1, wF, wC, wTst, wNot, wAnd, wOr, wAndV, wOrV, wNotV, wIfE, wIsN, wNotN, wTup, wCons, wNil, wCall, wCallL, wCallB, aD, aO, aNil, wLc, wSeqI, wEnum, wZip, wRg1, wO0, wO1, wSl, wNeg, wCat, wRevL, wIsi, wIsi2, wGn, wGtup, wGcons, wGnil, wYes, wipeE, endD, lawD, wVar, wOwn, List.getD_cons_zero, List.getD_cons_succ, List.set_cons_zero, List.set_cons_succ, Bool.false_eq_true, false_imp_iff, true_and, and_true, if_true, if_false, List.length_cons, List.length_nil, gTuple_lst, gAdd_int, gSub_int, gIxR0, gIxR1, gIxR2, gIxR3, isSeq_tup, isSeq_list, itemsD_tup, itemsD_list, isSeq_lst, itemsD_lst, isSeq_tp, itemsD_tp, gLenTup, gLenList, enumD_map, toD_pair, toD_int, toD_str, toD_bool, ite_self, reduceIte]
  refine ⟨el, t, rfl, hell, ?_⟩
  dsimp only
  rw [cutD_map, cutL_to]
  refine gAddT_ (xs := Tup.mk (d.items.take i)) (ys := Tup.mk [((par, twT el t) : Nd)]) (by show (d.items.take i).length + 1 ≤ _; rw [List.length_take]; omega) ?_
  show gSl (Datum.toD d) (some ((i + 1 : Nat) : Int)) none _
  rw [gSlTfrom]
  refine gAddT_ (xs := Tup.mk (d.items.take i ++ [((par, twT el t) : Nd)])) (ys := Tup.mk (d.items.drop (i + 1))) (by show (d.items.take i ++ [_]).length + (d.items.drop (i + 1)).length ≤ _; rw [List.length_append, List.length_take, List.length_drop, List.length_singleton]; omega) ?_
  have e := setT_items (t := t) h1
  refine ⟨ns, s, d, inh, rfl, hn, hl, hs, hd, ok, ?_⟩
  refine ⟨ns, s, setT d i t, inh, by rw [e], hn, hl, hs, by rw [setT_len]; exact hd, setT_ok ok, ?_⟩
  refine ⟨rfl, ?_⟩
  show wComp _ _ _ _ (enumD ((compL ns s inh.items d).map Datum.toD)) _
  rw [enumD_map]
  refine tog_comp (ys := compL ns s inh.items (setT d i t)) (by decide) (by rw [comp_len, comp_len, setT_len]) (fun p hp Q R st => ?_) h
  have hp2 : ∃ y, L2.atI (compL ns s inh.items (setT d i t)) p.1 = some y := by
    obtain ⟨k, hk, hx⟩ := enumL_at hp
    have := (List.getElem?_eq_some_iff.mp hx).1
    rw [comp_len] at this
    obtain ⟨y, _, hy⟩ := atI_ex (xs := compL ns s inh.items (setT d i t)) (i := k) (by rw [comp_len, setT_len]; exact this)
    exact ⟨y, by rw [hk]; exact hy⟩
  obtain ⟨y, hy⟩ := hp2
  simp only [sSeq, sSet, sSetF, sRet, sRetN, sRetF, sNext, sIf, sFor, sAsg, sDrop, sBreak, sCont, w2, w1, wF1, wF, wC, wTst, wNot, wAnd, wOr, wAndV, wOrV, wNotV, wIfE, wIsN, wNotN, wTup, wCons, wNil, wCall, wCallL, wCallB, aD, aO, aNil, wLc, wSeqI, wEnum, wZip, wRg1, wO0, wO1, wSl, wNeg, wCat, wRevL, wIsi, wIsi2, wGn, wGtup, wGcons, wGnil, wYes, wipeE, endD, lawD, wVar, wOwn, List.getD_cons_zero, List.getD_cons_succ, List.set_cons_zero, List.set_cons_succ, Bool.false_eq_true, false_imp_iff, true_and, and_true, if_true, if_false, List.length_cons, List.length_nil, gTuple_lst, gAdd_int, gSub_int, gIxR0, gIxR1, gIxR2, gIxR3, isSeq_tup, isSeq_list, itemsD_tup, itemsD_list, isSeq_lst, itemsD_lst, isSeq_tp, itemsD_tp, gLenTup, gLenList, enumD_map, toD_pair, toD_int, toD_str, toD_bool, ite_self, reduceIte]
  exact gIxL_ hy (st y hy)
/-! ### the law's own -/
def C__law_document : Con := fun cs P => ∃ (T L : Addr) (pool : Tags), cs = [.obj T (.tape L), .d (Datum.toD pool)] ∧ pool.items.length ≤ 1000 ∧ ∀ d : Doc, DocOk d.items → 0 < d.items.length → d.items.length ≤ 10 → (∀ nd ∈ d.items, nd.2.items.Sublist pool.items) → P (Datum.toD d)
def C__law_found : Con := fun cs P => ∃ (s : Sheet) (d : Doc) (inh : Tags) (i : Nat) (n : Str), cs = [.d (Datum.toD s), .d (Datum.toD d), .d (Datum.toD inh), .d (.int i), .d (.str n)] ∧ DocOk d.items ∧ i < d.items.length ∧ P (Datum.toD ((tabV s inh.items d.items).getD i (fun _ => none) n))
def C__law_computed : Con := fun cs P => ∃ (s : Sheet) (d : Doc) (inh : Tags), cs = [.d (Datum.toD s), .d (Datum.toD d), .d (Datum.toD inh)] ∧ DocOk d.items ∧ d.items.length ≤ 1000 ∧ P (Datum.toD (compL pqL s inh.items d))
def B__law_document_0 : WS :=
  (sSeq (sSet 4 (wIfE (wTst (w2 gEq (wVar 3) (wC (.int 0)))) (wC .none) (wCall C_draw (aO 0 (aD (wVar 3) aNil)))))
    (sSet 2 (w2 gAdd (wVar 2) (wTup (wCons (wTup (wCons (wVar 4) (wCons (wCall C__law_tags (aO 0 (aD (wVar 1) (aD (w1 gLen (wVar 1)) aNil)))) wNil))) wNil)))))
def W__law_document : WS :=
  (sSeq (sSet 2 (wTup wNil))
    (sSeq (sFor (wRg1 (w2 gAdd (wC (.int 1)) (wCall C_draw (aO 0 (aD (wC (.int 10)) aNil))))) (wGn 3) B__law_document_0)
    (sRet (wVar 2))))

def B__law_found_0 : WS :=
  (sSeq (sSet 5 (wCall C__law_value (aD (wVar 0) (aD (w2 gIx (w2 gIx (wVar 1) (wVar 3)) (wC (.int 1))) (aD (wVar 4) aNil)))))
    (sSeq (sIf (wOr (wTst (wNotN (wVar 5))) (wTst (w2 gNi (wVar 4) (wVar 2))))
    (sRet (wVar 5))
    sNext)
    (sSet 3 (w2 gIx (w2 gIx (wVar 1) (wVar 3)) (wC (.int 0))))))
def W__law_found : WS :=
  (sSeq (sWhile (wTst (wNotN (wVar 3))) B__law_found_0)
    (sRet (wC .none)))

def B__law_computed_0 : WS :=
  (sSeq (sSet 5 (wF (wLc (wSeqI (wTup (wCons (wC (.str "p")) (wCons (wC (.str "q")) wNil)))) (wGn 6) wYes (wTup (wCons (wVar 6) (wCons (wCall C__law_found (aD (wVar 0) (aD (wVar 1) (aD (wVar 2) (aD (wVar 4) (aD (wVar 6) aNil)))))) wNil))) [6])))
    (sApp 3 (wF (wLc (wSeqI (wVar 5)) (wGn 7) (wTst (wNotN (w2 gIx (wVar 7) (wC (.int 1))))) (wVar 7) [7]))))
def W__law_computed : WS :=
  (sSeq (sSetF 3 wNil)
    (sSeq (sFor (wRg1 (w1 gLen (wVar 1))) (wGn 4) B__law_computed_0)
    (sRetO 3)))

theorem row_opt {ns : List Str} {f : Fn} : ((ns.map fun n => ((n, f n) : Str × Option Str)).filter fun p => p.2.isSome).map Datum.toD = (rowS ns f).map Datum.toD := by
  unfold rowS
  induction ns with
  | nil => rfl
  | cons n ns ih =>
    cases q : f n with
    | none => rw [List.filterMap_cons_none (by rw [q]; rfl), List.map_cons, List.filter_cons_of_neg (by rw [q]; simp), ih]
    | some v =>
      rw [List.filterMap_cons_some (b := (n, v)) (by rw [q]; rfl), List.map_cons, List.filter_cons_of_pos (by rw [q]; rfl), List.map_cons, List.map_cons, ih, q]
      rfl
theorem body__law_found : ∀ cs P, cs.length = 5 → C__law_found cs P → noOwn cs ∧ W__law_found (startE 6 cs) (endD false P) := by
  rintro cs P _ ⟨s, d, inh, i, n, rfl, ok, hi, h⟩
  refine ⟨fun c hc => by simp only [List.mem_cons, List.not_mem_nil, or_false] at hc; rcases hc with e | e | e | e | e <;> subst e <;> rfl, ?_⟩
  show W__law_found [some (.d (Datum.toD s)), some (.d (Datum.toD d)), some (.d (Datum.toD inh)), some (.d (.int i)), some (.d (.str n)), none] _
  unfold W__law_found
  simp only [sSeq, sSet, sSetF, sRet, sRetN, sRetF, sNext, sIf, sFor, sAsg, sDrop, sBreak, sCont, w2, w1, wF1, wF, wC, wTst, wNot, wAnd, wOr, wAndV, wOrV, wNotV, wIfE, wIsN, wNotN, wTup, wCons, wNil, wCall, wCallL, wCallB, aD, aO, aNil, wLc, wSeqI, wEnum, wZip, wRg1, wO0, wO1, wSl, wNeg, wCat, wRevL, wIsi, wIsi2, wGn, wGtup, wGcons, wGnil, wYes, wipeE, endD, lawD, wVar, wOwn, List.getD_cons_zero, List.getD_cons_succ, List.set_cons_zero, List.set_cons_succ, Bool.false_eq_true, false_imp_iff, true_and, and_true, if_true, if_false, List.length_cons, List.length_nil, gTuple_lst, gAdd_int, gSub_int, gIxR0, gIxR1, gIxR2, gIxR3, isSeq_tup, isSeq_list, itemsD_tup, itemsD_list, isSeq_lst, itemsD_lst, isSeq_tp, itemsD_tp, gLenTup, gLenList, enumD_map, toD_pair, toD_int, toD_str, toD_bool, ite_self, reduceIte,  sWhile]
  refine ⟨fun m ρ => ∃ (o : Option Int) (x5 : Option Cell), (∀ j, o = some j → 0 ≤ j ∧ j < (d.items.length : Int) ∧ j.toNat < m) ∧ parF (tabV s inh.items d.items) o n = (tabV s inh.items d.items).getD i (fun _ => none) n ∧
    ρ = [some (.d (Datum.toD s)), some (.d (Datum.toD d)), some (.d (Datum.toD inh)), some (.d (Datum.toD o)), some (.d (.str n)), x5], ⟨i + 1, some (i : Int), _, fun j hj => by cases hj; omega, rfl, rfl⟩, ?_⟩
  rintro m ρ ⟨o, x5, h1, h2, rfl⟩
  simp only [sSeq, sSet, sSetF, sRet, sRetN, sRetF, sNext, sIf, sFor, sAsg, sDrop, sBreak, sCont, w2, w1, wF1, wF, wC, wTst, wNot, wAnd, wOr, wAndV, wOrV, wNotV, wIfE, wIsN, wNotN, wTup, wCons, wNil, wCall, wCallL, wCallB, aD, aO, aNil, wLc, wSeqI, wEnum, wZip, wRg1, wO0, wO1, wSl, wNeg, wCat, wRevL, wIsi, wIsi2, wGn, wGtup, wGcons, wGnil, wYes, wipeE, endD, lawD, wVar, wOwn, List.getD_cons_zero, List.getD_cons_succ, List.set_cons_zero, List.set_cons_succ, Bool.false_eq_true, false_imp_iff, true_and, and_true, if_true, if_false, List.length_cons, List.length_nil, gTuple_lst, gAdd_int, gSub_int, gIxR0, gIxR1, gIxR2, gIxR3, isSeq_tup, isSeq_list, itemsD_tup, itemsD_list, isSeq_lst, itemsD_lst, isSeq_tp, itemsD_tp, gLenTup, gLenList, enumD_map, toD_pair, toD_int, toD_str, toD_bool, ite_self, reduceIte]
  cases o with
  | none =>
    rw [if_neg (show ¬ (!gNone (Datum.toD (none : Option Int))) = true from fun z => nomatch z)]
    rw [← h2] at h
    exact h
  | some j =>
    rw [if_pos (show (!gNone (Datum.toD (some j))) = true from rfl)]
    obtain ⟨h0, hlt, hm⟩ := h1 j rfl
    obtain ⟨⟨par, el⟩, hx, _⟩ := atI_ex (xs := d.items) (i := j.toNat) (by omega)
    have hx2 : L2.atI d.items j = some (par, el) := by
      have := atI_nat hx
      rw [Int.toNat_of_nonneg h0] at this
      exact this
    have ht := tab_at (s := s) (inh := inh.items) ok hx
    have e2 : parF (tabV s inh.items d.items) (some j) n = mixV (valO s el) inh.items (parF (tabV s inh.items d.items) par) n := by
      show (List.getD (tabV s inh.items d.items) j.toNat fun _ => none) n = _
      rw [List.getD_eq_getElem?_getD, ht]
      rfl
    rw [e2] at h2
    unfold B__law_found_0
    simp only [sSeq, sSet, sSetF, sRet, sRetN, sRetF, sNext, sIf, sFor, sAsg, sDrop, sBreak, sCont, w2, w1, wF1, wF, wC, wTst, wNot, wAnd, wOr, wAndV, wOrV, wNotV, wIfE, wIsN, wNotN, wTup, wCons, wNil, wCall, wCallL, wCallB, aD, aO, aNil, wLc, wSeqI, wEnum, wZip, wRg1, wO0, wO1, wSl, wNeg, wCat, wRevL, wIsi, wIsi2, wGn, wGtup, wGcons, wGnil, wYes, wipeE, endD, lawD, wVar, wOwn, List.getD_cons_zero, List.getD_cons_succ, List.set_cons_zero, List.set_cons_succ, Bool.false_eq_true, false_imp_iff, true_and, and_true, if_true, if_false, List.length_cons, List.length_nil, gTuple_lst, gAdd_int, gSub_int, gIxR0, gIxR1, gIxR2, gIxR3, isSeq_tup, isSeq_list, itemsD_tup, itemsD_list, isSeq_lst, itemsD_lst, isSeq_tp, itemsD_tp, gLenTup, gLenList, enumD_map, toD_pair, toD_int, toD_str, toD_bool, ite_self, reduceIte]
    refine gIxT_ (t := d) hx2 ?_
    show gIx (.tuple [Datum.toD par, Datum.toD el]) (.int 1) _
    rw [gIx_tuple (x := Datum.toD el) rfl]
    refine ⟨s, el, n, rfl, ?_⟩
    cases hv : valO s el n with
    | some v =>
      have e3 : mixV (valO s el) inh.items (parF (tabV s inh.items d.items) par) n = some v := by
        unfold mixV
        rw [hv]
        rfl
      rw [e3] at h2
      rw [← h2] at h
      exact h
    | none =>
      show if (!gNone (Datum.toD (none : Option Str))) = true then _ else _
      rw [if_neg (show ¬ (!gNone (Datum.toD (none : Option Str))) = true from fun z => nomatch z)]
      refine gNiTC (α := Str) (by decide) (fun z => ?_) fun z => ?_
      · have e3 : mixV (valO s el) inh.items (parF (tabV s inh.items d.items) par) n = none := by
          unfold mixV
          rw [hv, decide_eq_false z]
          rfl
        rw [e3] at h2
        rw [← h2] at h
        exact h
      · (dsimp only; first | rw [if_pos rfl] | rw [if_neg (by simp)])
        refine gIxT_ (t := d) hx2 ?_
        show gIx (.tuple [Datum.toD par, Datum.toD el]) (.int 0) _
        rw [gIx_tuple (x := Datum.toD par) rfl]
        refine ⟨j.toNat, hm, par, _, fun j' hj' => ?_, ?_, rfl⟩
        · obtain ⟨k0, k1⟩ := ok _ _ hx j' hj'
          exact ⟨k0, by omega, by omega⟩
        · rw [← h2]
          unfold mixV
          rw [hv, decide_eq_true z]
          rfl
theorem body__law_computed : ∀ cs P, cs.length = 3 → C__law_computed cs P → noOwn cs ∧ W__law_computed (startE 8 cs) (endD false P) := by
  rintro cs P _ ⟨s, d, inh, rfl, ok, hd, h⟩
  refine ⟨noOwn3, ?_⟩
  show W__law_computed [some (.d (Datum.toD s)), some (.d (Datum.toD d)), some (.d (Datum.toD inh)), none, none, none, none, none] _
  unfold W__law_computed
  simp only [sSeq, sSet, sSetF, sRet, sRetN, sRetF, sNext, sIf, sFor, sAsg, sDrop, sBreak, sCont, w2, w1, wF1, wF, wC, wTst, wNot, wAnd, wOr, wAndV, wOrV, wNotV, wIfE, wIsN, wNotN, wTup, wCons, wNil, wCall, wCallL, wCallB, aD, aO, aNil, wLc, wSeqI, wEnum, wZip, wRg1, wO0, wO1, wSl, wNeg, wCat, wRevL, wIsi, wIsi2, wGn, wGtup, wGcons, wGnil, wYes, wipeE, endD, lawD, wVar, wOwn, List.getD_cons_zero, List.getD_cons_succ, List.set_cons_zero, List.set_cons_succ, Bool.false_eq_true, false_imp_iff, true_and, and_true, if_true, if_false, List.length_cons, List.length_nil, gTuple_lst, gAdd_int, gSub_int, gIxR0, gIxR1, gIxR2, gIxR3, isSeq_tup, isSeq_list, itemsD_tup, itemsD_list, isSeq_lst, itemsD_lst, isSeq_tp, itemsD_tp, gLenTup, gLenList, enumD_map, toD_pair, toD_int, toD_str, toD_bool, ite_self, reduceIte,  sRetO]
  refine ⟨by omega, by omega, ?_⟩
  rw [rgD_range]
  refine sLoop_ind Datum.toD (fun rest ρ => ∃ (pre : List Int) (c4 c5 c6 c7 : Option Cell), rangeL d.items.length = pre ++ rest ∧
    ρ = [some (.d (Datum.toD s)), some (.d (Datum.toD d)), some (.d (Datum.toD inh)), some (.lst ((((tabV s inh.items d.items).take pre.length).map (rowS pqL)).map Datum.toD)), c4, c5, c6, c7]) ?_ ?_ (rangeL d.items.length) _ ⟨[], _, _, _, _, rfl, rfl⟩
  · rintro ρ ⟨pre, c4, c5, c6, c7, hpre, rfl⟩
    rw [List.append_nil] at hpre
    have e : (tabV s inh.items d.items).take pre.length = tabV s inh.items d.items := List.take_of_length_le (by rw [tabV_len, ← hpre]; unfold rangeL; rw [List.length_map, List.length_range]; exact Nat.le_refl _)
    rw [e]
    exact h
  · rintro x rest ρ ⟨pre, c4, c5, c6, c7, hpre, rfl⟩ k hk
    obtain ⟨hx, hpl⟩ := range_get hpre
    subst hx
    unfold B__law_computed_0
    simp only [sSeq, sSet, sSetF, sRet, sRetN, sRetF, sNext, sIf, sFor, sAsg, sDrop, sBreak, sCont, w2, w1, wF1, wF, wC, wTst, wNot, wAnd, wOr, wAndV, wOrV, wNotV, wIfE, wIsN, wNotN, wTup, wCons, wNil, wCall, wCallL, wCallB, aD, aO, aNil, wLc, wSeqI, wEnum, wZip, wRg1, wO0, wO1, wSl, wNeg, wCat, wRevL, wIsi, wIsi2, wGn, wGtup, wGcons, wGnil, wYes, wipeE, endD, lawD, wVar, wOwn, List.getD_cons_zero, List.getD_cons_succ, List.set_cons_zero, List.set_cons_succ, Bool.false_eq_true, false_imp_iff, true_and, and_true, if_true, if_false, List.length_cons, List.length_nil, gTuple_lst, gAdd_int, gSub_int, gIxR0, gIxR1, gIxR2, gIxR3, isSeq_tup, isSeq_list, itemsD_tup, itemsD_list, isSeq_lst, itemsD_lst, isSeq_tp, itemsD_tp, gLenTup, gLenList, enumD_map, toD_pair, toD_int, toD_str, toD_bool, ite_self, reduceIte,  sApp]

    have hlt : pre.length < (tabV s inh.items d.items).length := by rw [tabV_len]; exact hpl
    refine wComp_me (fun n : Str => .str n) (fun n => Datum.toD ((n, (tabV s inh.items d.items).getD pre.length (fun _ => none) n) : Str × Option Str)) pqL rfl (fun n _ Q q => ?_) ?_
    · simp only [sSeq, sSet, sSetF, sRet, sRetN, sRetF, sNext, sIf, sFor, sAsg, sDrop, sBreak, sCont, w2, w1, wF1, wF, wC, wTst, wNot, wAnd, wOr, wAndV, wOrV, wNotV, wIfE, wIsN, wNotN, wTup, wCons, wNil, wCall, wCallL, wCallB, aD, aO, aNil, wLc, wSeqI, wEnum, wZip, wRg1, wO0, wO1, wSl, wNeg, wCat, wRevL, wIsi, wIsi2, wGn, wGtup, wGcons, wGnil, wYes, wipeE, endD, lawD, wVar, wOwn, List.getD_cons_zero, List.getD_cons_succ, List.set_cons_zero, List.set_cons_succ, Bool.false_eq_true, false_imp_iff, true_and, and_true, if_true, if_false, List.length_cons, List.length_nil, gTuple_lst, gAdd_int, gSub_int, gIxR0, gIxR1, gIxR2, gIxR3, isSeq_tup, isSeq_list, itemsD_tup, itemsD_list, isSeq_lst, itemsD_lst, isSeq_tp, itemsD_tp, gLenTup, gLenList, enumD_map, toD_pair, toD_int, toD_str, toD_bool, ite_self, reduceIte]
      exact ⟨s, d, inh, pre.length, n, rfl, ok, hpl, q⟩
    · simp only [sSeq, sSet, sSetF, sRet, sRetN, sRetF, sNext, sIf, sFor, sAsg, sDrop, sBreak, sCont, w2, w1, wF1, wF, wC, wTst, wNot, wAnd, wOr, wAndV, wOrV, wNotV, wIfE, wIsN, wNotN, wTup, wCons, wNil, wCall, wCallL, wCallB, aD, aO, aNil, wLc, wSeqI, wEnum, wZip, wRg1, wO0, wO1, wSl, wNeg, wCat, wRevL, wIsi, wIsi2, wGn, wGtup, wGcons, wGnil, wYes, wipeE, endD, lawD, wVar, wOwn, List.getD_cons_zero, List.getD_cons_succ, List.set_cons_zero, List.set_cons_succ, Bool.false_eq_true, false_imp_iff, true_and, and_true, if_true, if_false, List.length_cons, List.length_nil, gTuple_lst, gAdd_int, gSub_int, gIxR0, gIxR1, gIxR2, gIxR3, isSeq_tup, isSeq_list, itemsD_tup, itemsD_list, isSeq_lst, itemsD_lst, isSeq_tp, itemsD_tp, gLenTup, gLenList, enumD_map, toD_pair, toD_int, toD_str, toD_bool, ite_self, reduceIte]
      have e1 : pqL.map (fun n => PyData.tuple [PyData.str n, Datum.toD ((tabV s inh.items d.items).getD pre.length (fun _ => none) n)]) = (pqL.map fun n => ((n, (tabV s inh.items d.items).getD pre.length (fun _ => none) n) : Str × Option Str)).map Datum.toD := by rw [List.map_map]; rfl
      rw [e1]
      refine wComp_fme Datum.toD (fun p : Str × Option Str => p.2.isSome) Datum.toD _ rfl (fun p _ Q R h1 h2 => ?_) ?_
      · obtain ⟨n, o⟩ := p
        simp only [sSeq, sSet, sSetF, sRet, sRetN, sRetF, sNext, sIf, sFor, sAsg, sDrop, sBreak, sCont, w2, w1, wF1, wF, wC, wTst, wNot, wAnd, wOr, wAndV, wOrV, wNotV, wIfE, wIsN, wNotN, wTup, wCons, wNil, wCall, wCallL, wCallB, aD, aO, aNil, wLc, wSeqI, wEnum, wZip, wRg1, wO0, wO1, wSl, wNeg, wCat, wRevL, wIsi, wIsi2, wGn, wGtup, wGcons, wGnil, wYes, wipeE, endD, lawD, wVar, wOwn, List.getD_cons_zero, List.getD_cons_succ, List.set_cons_zero, List.set_cons_succ, Bool.false_eq_true, false_imp_iff, true_and, and_true, if_true, if_false, List.length_cons, List.length_nil, gTuple_lst, gAdd_int, gSub_int, gIxR0, gIxR1, gIxR2, gIxR3, isSeq_tup, isSeq_list, itemsD_tup, itemsD_list, isSeq_lst, itemsD_lst, isSeq_tp, itemsD_tp, gLenTup, gLenList, enumD_map, toD_pair, toD_int, toD_str, toD_bool, ite_self, reduceIte]
        show gIx (.tuple [.str n, Datum.toD o]) (.int 1) _
        rw [gIx_tuple (x := Datum.toD o) rfl]
        cases o with
        | none => exact h2 rfl
        | some v => exact h1 rfl
      · refine ⟨by simp only [List.length_map, List.length_take]; rw [sizeLine_eq]; omega, ?_⟩
        rw [row_opt]
        have e6 : ((tabV s inh.items d.items).take pre.length |>.map (rowS pqL) |>.map Datum.toD) ++ [PyData.list ((rowS pqL ((tabV s inh.items d.items).getD pre.length fun _ => none)).map Datum.toD)] = ((tabV s inh.items d.items).take (pre ++ [(pre.length : Int)]).length |>.map (rowS pqL) |>.map Datum.toD) := by
          rw [List.length_append, List.length_singleton, List.take_succ_eq_append_getElem hlt, List.map_append, List.map_append]
          have e5 : (tabV s inh.items d.items).getD pre.length (fun _ => none) = (tabV s inh.items d.items)[pre.length] := by
            rw [List.getD_eq_getElem?_getD, List.getElem?_eq_getElem hlt]
            rfl
          rw [e5]
          rfl
        rw [e6]
        exact hk _ ⟨pre ++ [(pre.length : Int)], _, _, _, _, by rw [hpre]; simp, rfl⟩
theorem body__law_document : ∀ cs P, cs.length = 2 → C__law_document cs P → noOwn cs ∧ W__law_document (startE 5 cs) (endD false P) := by
  rintro cs P _ ⟨T, L, pool, rfl, hp, h⟩
  refine ⟨fun c hc => by simp only [List.mem_cons, List.not_mem_nil, or_false] at hc; rcases hc with e | e <;> subst e <;> rfl, ?_⟩
  show W__law_document [some (.obj T (.tape L)), some (.d (Datum.toD pool)), none, none, none] _
  unfold W__law_document
  simp only [sSeq, sSet, sSetF, sRet, sRetN, sRetF, sNext, sIf, sFor, sAsg, sDrop, sBreak, sCont, w2, w1, wF1, wF, wC, wTst, wNot, wAnd, wOr, wAndV, wOrV, wNotV, wIfE, wIsN, wNotN, wTup, wCons, wNil, wCall, wCallL, wCallB, aD, aO, aNil, wLc, wSeqI, wEnum, wZip, wRg1, wO0, wO1, wSl, wNeg, wCat, wRevL, wIsi, wIsi2, wGn, wGtup, wGcons, wGnil, wYes, wipeE, endD, lawD, wVar, wOwn, List.getD_cons_zero, List.getD_cons_succ, List.set_cons_zero, List.set_cons_succ, Bool.false_eq_true, false_imp_iff, true_and, and_true, if_true, if_false, List.length_cons, List.length_nil, gTuple_lst, gAdd_int, gSub_int, gIxR0, gIxR1, gIxR2, gIxR3, isSeq_tup, isSeq_list, itemsD_tup, itemsD_list, isSeq_lst, itemsD_lst, isSeq_tp, itemsD_tp, gLenTup, gLenList, enumD_map, toD_pair, toD_int, toD_str, toD_bool, ite_self, reduceIte]
  refine draw_ (m := 10) (by omega) (by omega) fun r r0 r1 => ?_
  rw [gAdd_int]
  dsimp only
  have e0 : (1 : Int) + r = ((r.toNat + 1 : Nat) : Int) := by omega
  rw [e0]
  refine ⟨by omega, by omega, ?_⟩
  rw [rgD_range]
  refine sLoop_ind Datum.toD (fun rest ρ => ∃ (l : List Nd) (pre : List Int) (c3 c4 : Option Cell), rangeL (r.toNat + 1) = pre ++ rest ∧ l.length = pre.length ∧ DocOk l ∧ (∀ nd ∈ l, nd.2.items.Sublist pool.items) ∧
    ρ = [some (.obj T (.tape L)), some (.d (Datum.toD pool)), some (.d (Datum.toD (Tup.mk l))), c3, c4]) ?_ ?_ (rangeL (r.toNat + 1)) _ ⟨[], [], _, _, rfl, rfl, fun k nd hk => (by simp at hk), fun nd hnd => (by cases hnd), rfl⟩
  · rintro ρ ⟨l, pre, c3, c4, hpre, hl, ok, hsub, rfl⟩
    rw [List.append_nil] at hpre
    have hl2 : l.length = r.toNat + 1 := by rw [hl, ← hpre]; unfold rangeL; rw [List.length_map, List.length_range]
    exact h (Tup.mk l) ok (by show 0 < l.length; omega) (by show l.length ≤ 10; omega) hsub
  · rintro x rest ρ ⟨l, pre, c3, c4, hpre, hl, ok, hsub, rfl⟩ k hk
    obtain ⟨hx, hpl⟩ := range_get hpre
    subst hx
    unfold B__law_document_0
    have fin : ∀ (par : Option Int) c3 c4 (e : Tags), (∀ j, par = some j → 0 ≤ j ∧ j < (pre.length : Int)) → e.items.Sublist pool.items → k [some (.obj T (.tape L)), some (.d (Datum.toD pool)), some (.d (Datum.toD (Tup.mk (l ++ [(par, e)])))), c3, c4] := fun par c3 c4 e hpar he =>
      hk _ ⟨l ++ [(par, e)], pre ++ [(pre.length : Int)], c3, c4, by rw [hpre]; simp, by simp [hl], fun i nd hi j hj => by
        by_cases q : i < l.length
        · rw [List.getElem?_append_left q] at hi
          exact ok i nd hi j hj
        · rw [List.getElem?_append_right (by omega)] at hi
          have hil : i - l.length = 0 := by
            have := (List.getElem?_eq_some_iff.mp hi).1
            simp at this
            omega
          rw [hil] at hi
          cases hi
          have := hpar j hj
          omega, fun nd hnd => by
        rcases List.mem_append.mp hnd with z | z
        · exact hsub nd z
        · rw [List.mem_singleton.mp z]; exact he, rfl⟩
    have tags : ∀ par : Option Int, (∀ j, par = some j → 0 ≤ j ∧ j < (pre.length : Int)) →
        C__law_tags [.obj T (.tape L), .d (Datum.toD pool), .d (.int pool.items.length)] fun d => gAdd (Datum.toD (Tup.mk l)) (.tuple [.tuple [Datum.toD par, d]]) fun d => k [some (.obj T (.tape L)), some (.d (Datum.toD pool)), some (.d d), some (.d (.int pre.length)), some (.d (Datum.toD par))] := fun par hpar => by
      refine ⟨T, L, pool, _, rfl, hp, fun f hf _ => ?_⟩
      refine gAddT_ (xs := Tup.mk l) (ys := Tup.mk [((par, f) : Nd)]) (by show l.length + 1 ≤ _; omega) ?_
      exact fin par _ _ f hpar hf
    simp only [sSeq, sSet, sSetF, sRet, sRetN, sRetF, sNext, sIf, sFor, sAsg, sDrop, sBreak, sCont, w2, w1, wF1, wF, wC, wTst, wNot, wAnd, wOr, wAndV, wOrV, wNotV, wIfE, wIsN, wNotN, wTup, wCons, wNil, wCall, wCallL, wCallB, aD, aO, aNil, wLc, wSeqI, wEnum, wZip, wRg1, wO0, wO1, wSl, wNeg, wCat, wRevL, wIsi, wIsi2, wGn, wGtup, wGcons, wGnil, wYes, wipeE, endD, lawD, wVar, wOwn, List.getD_cons_zero, List.getD_cons_succ, List.set_cons_zero, List.set_cons_succ, Bool.false_eq_true, false_imp_iff, true_and, and_true, if_true, if_false, List.length_cons, List.length_nil, gTuple_lst, gAdd_int, gSub_int, gIxR0, gIxR1, gIxR2, gIxR3, isSeq_tup, isSeq_list, itemsD_tup, itemsD_list, isSeq_lst, itemsD_lst, isSeq_tp, itemsD_tp, gLenTup, gLenList, enumD_map, toD_pair, toD_int, toD_str, toD_bool, ite_self, reduceIte]
    refine gEqC (α := Int) (by decide) (fun q => ?_) fun q => ?_
    · (dsimp only; first | rw [if_pos rfl] | rw [if_neg (by simp)])
      exact tags none fun j hj => nomatch hj
    · (dsimp only; first | rw [if_pos rfl] | rw [if_neg (by simp)])
      have q : ¬ (pre.length : Int) = 0 := q
      refine draw_ (m := (pre.length : Int)) (by omega) (by omega) fun j j0 j1 => ?_
      exact tags (some j) fun j' hj' => by cases hj'; exact ⟨j0, j1⟩
end Dat

/-! K18: documents with inheritance. -/
namespace Dat
open PySem PySem.Spec PyProof.Rows L2
open PySem.W (Datum DatumOrd Tup T3 T4)

def B_law_1 : WS :=
  (sSeq (sAsg (wTup (wCons (wCall C_draw (aO 1 (aD (w1 gLen (wVar 5)) aNil))) (wCons (w2 gIx (wF (wCons (wC (.str "a")) (wCons (wC (.str "b")) (wCons (wC (.str "c")) (wCons (wC (.str "zzz")) wNil))))) (wCall C_draw (aO 1 (aD (wC (.int 4)) aNil)))) wNil))) (wGtup 2 (wGcons (wGn 9) (wGcons (wGn 10) wGnil))))
    (sSeq (sAsg (w2 gIx (wVar 5) (wVar 9)) (wGtup 2 (wGcons (wGn 11) (wGcons (wGn 12) wGnil))))
    (sSeq (sSet 13 (wIfE (wTst (w2 gIn (wVar 10) (wVar 12))) (w1 gTuple (wF (wLc (wSeqI (wVar 12)) (wGn 14) (wTst (w2 gNe (wVar 14) (wVar 10))) (wVar 14) [14]))) (wCall C__law_joined (aD (wVar 12) (aD (wTup (wCons (wVar 10) wNil)) aNil)))))
    (sSeq (sSet 15 (w2 gAdd (w2 gAdd (wSl (wVar 5) wO0 (wO1 (wVar 9))) (wTup (wCons (wTup (wCons (wVar 11) (wCons (wVar 13) wNil))) wNil))) (wSl (wVar 5) (wO1 (w2 gAdd (wVar 9) (wC (.int 1)))) wO0)))
    (sSeq (sSet 16 (wCall C__law_computed (aD (wVar 4) (aD (wVar 15) (aD (wVar 6) aNil)))))
    (sSeq (sSet 17 (wF (wLc (wEnum (wVar 16)) (wGtup 2 (wGcons (wGn 18) (wGcons (wGn 19) wGnil))) (wTst (w2 gNe (wVar 19) (w2 gIx (wVar 7) (wVar 18)))) (wVar 18) [18, 19])))
    (sSeq (sIf (wNot (wTst (wCall (C__law_like 6) (aD (wCall C_toggled (aD (wVar 4) (aD (wVar 5) (aD (wVar 6) (aD (wVar 9) (aD (wVar 10) aNil)))))) (aD (wVar 17) aNil)))))
    (sRet (wC (.bool false)))
    sNext)
    (sIf (wOr (wAnd (wTst (w2 gEq (wVar 6) (wTup wNil))) (wTst (w2 gNe (wF (wLc (wSeqI (wVar 17)) (wGn 18) (wTst (w2 gNe (wVar 18) (wVar 9))) (wVar 18) [18])) (wF wNil)))) (wTst (w2 gNe (wF (wLc (wSeqI (wVar 17)) (wGn 18) (wTst (w2 gLt (wVar 18) (wVar 9))) (wVar 18) [18])) (wF wNil))))
    (sRet (wC (.bool false)))
    sNext))))))))
def B_law_0 : WS :=
  (sSeq (sMany [4, 5] (aD (wCall C__law_sheet (aO 1 (aD (wC (.int 8)) (aD (wVar 2) aNil)))) (aD (wCall C__law_document (aO 1 (aD (wVar 2) aNil))) aNil)))
    (sSeq (sSet 6 (w2 gIx (wF (wCons (wTup wNil) (wCons (wTup (wCons (wC (.str "p")) wNil)) (wCons (wTup (wCons (wC (.str "p")) (wCons (wC (.str "q")) wNil))) (wCons (wTup (wCons (wC (.str "other")) (wCons (wC (.str "q")) wNil))) wNil))))) (wCall C_draw (aO 1 (aD (wC (.int 4)) aNil)))))
    (sSeq (sSet 7 (wCall C_computed (aD (wVar 4) (aD (wVar 5) (aD (wVar 6) aNil)))))
    (sSeq (sIf (wNot (wTst (wCall (C__law_like 6) (aD (wVar 7) (aD (wCall C__law_computed (aD (wVar 4) (aD (wVar 5) (aD (wVar 6) aNil)))) aNil)))))
    (sRet (wC (.bool false)))
    sNext)
    (sFor (wRg1 (wC (.int 6))) (wGn 8) B_law_1)))))
def W_law : WS :=
  (sSeq (sSet 2 (wTup (wCons (wC (.str "a")) (wCons (wC (.str "b")) (wCons (wC (.str "c")) (wCons (wC (.str "d")) wNil))))))
    (sSeq (sFor (wRg1 (wC (.int 4))) (wGn 3) B_law_0)
    (sRet (wC (.bool true)))))

def poolD : Tags := Tup.mk ["a", "b", "c", "d"]
theorem poolD_inc : Inc poolD.items := by decide +kernel
theorem tog_range {α : Type} [DecidableEq α] (xs ys : List α) : togL xs ys = (rangeL xs.length).filter fun i => !decide (L2.atI xs i = L2.atI ys i) := by
  unfold togL
  rw [← enum_fst, List.filter_map]
  congr 1
  refine List.filter_congr fun p hp => ?_
  show (!decide (some p.2 = L2.atI ys p.1)) = !decide (L2.atI xs p.1 = L2.atI ys p.1)
  rw [enumL_get hp]
theorem tog_symm {α : Type} [DecidableEq α] {xs ys : List α} (h : xs.length = ys.length) : togL xs ys = togL ys xs := by
  rw [tog_range, tog_range, h]
  refine List.filter_congr fun i _ => ?_
  rw [decide_eq_decide.mpr ⟨Eq.symm, Eq.symm⟩]
theorem okD_comp {ns : List Str} {s : Sheet} {inh : List Str} {d : Doc} (hn : Inc ns) (h1 : ns.length ≤ 1000) (h2 : d.items.length ≤ 1000) : okD 6 (Datum.toD (compL ns s inh d)) := ⟨by rw [List.length_map, comp_len]; omega, fun x hx => by
  obtain ⟨r, hr, rfl⟩ := List.mem_map.mp hx
  unfold compL at hr
  obtain ⟨f, _, rfl⟩ := List.mem_map.mp hr
  have hlen := rowS_len hn f
  exact ⟨by rw [List.length_map]; omega, fun y hy => by
    obtain ⟨p, _, rfl⟩ := List.mem_map.mp hy
    exact ⟨by show 2 ≤ 1000000; omega, fun z hz => by
      simp only [List.mem_cons, List.not_mem_nil, or_false] at hz
      rcases hz with e | e <;> rw [e] <;> trivial⟩⟩⟩
theorem setT_take (d : Doc) (i : Nat) (t : Str) : (setT d i t).items.take i = d.items.take i := by
  unfold setT
  split
  · rename_i nd h
    show (d.items.set i _).take i = _
    rw [List.take_set_of_le (Nat.le_refl _)]
  · rfl
/-- a node ahead of the changed one stays as it is -/
theorem comp_low {ns : List Str} {s : Sheet} {inh : List Str} {d : Doc} {i : Nat} {t : Str} {k : Nat} (hk : k < i) (hi : i < d.items.length) : L2.atI (compL ns s inh (setT d i t)) (k : Int) = L2.atI (compL ns s inh d) (k : Int) := by
  have h1 : k < (compL ns s inh (setT d i t)).length := by rw [comp_len, setT_len]; omega
  have h2 : k < (compL ns s inh d).length := by rw [comp_len]; omega
  rw [atI_nat (List.getElem?_eq_getElem h1), atI_nat (List.getElem?_eq_getElem h2)]
  have e : (compL ns s inh (setT d i t))[k]? = (compL ns s inh d)[k]? := by
    unfold compL
    rw [List.getElem?_map, List.getElem?_map]
    have a1 := pre_get (tabV_take (s := s) (inh := inh) (setT d i t).items i) (j := k) (by rw [tabV_len, List.length_take, setT_len]; omega)
    have a2 := pre_get (tabV_take (s := s) (inh := inh) d.items i) (j := k) (by rw [tabV_len, List.length_take]; omega)
    rw [a1, a2, setT_take]
  rw [List.getElem?_eq_getElem h1, List.getElem?_eq_getElem h2] at e
  rw [Option.some.inj e]
theorem comp_none {ns : List Str} {s : Sheet} {d : Doc} {i : Nat} {t : Str} {k : Nat} (hk : k ≠ i) (hi : k < d.items.length) : L2.atI (compL ns s [] (setT d i t)) (k : Int) = L2.atI (compL ns s [] d) (k : Int) := by
  have h1 : k < (compL ns s [] (setT d i t)).length := by rw [comp_len, setT_len]; omega
  have h2 : k < (compL ns s [] d).length := by rw [comp_len]; omega
  rw [atI_nat (List.getElem?_eq_getElem h1), atI_nat (List.getElem?_eq_getElem h2)]
  have e : (compL ns s [] (setT d i t))[k]? = (compL ns s [] d)[k]? := by
    unfold compL
    rw [List.getElem?_map, List.getElem?_map]
    have h3 : k < (setT d i t).items.length := by rw [setT_len]; exact hi
    have g1 := List.getElem?_eq_getElem h3
    obtain ⟨nd0, g2, _, g3⟩ := setT_at g1
    rw [tab_at0 g1, tab_at0 g2, g3 hk]
    have m : ∀ (a : Fn) (g : Fn), mixV a [] g = a := fun a g => by
      funext n
      unfold mixV
      simp
    unfold stepV
    rw [m, m]
  rw [List.getElem?_eq_getElem h1, List.getElem?_eq_getElem h2] at e
  rw [Option.some.inj e]
theorem joined_tw {e : Tags} {t : Str} (h : t ∉ e.items) : unionT e (Tup.mk [t]) = twT e t := by
  unfold unionT twT
  rw [if_neg h]
  rw [List.filter_cons_of_pos (by simpa using h)]
  rfl
section
variable {T L : Addr} {c0 c2 c3 c8 c9 c10 c11 c12 c13 c14 c15 c16 c17 c18 c19 : Option Cell} {D : DEnds} {s : Sheet} {d : Doc} {inh : Tags} {told : PyData} {i : Nat} {t : Str} {par : Option Int} {el : Tags}
theorem t1 (K : WS) (hd : 0 < d.items.length) (hl : d.items.length ≤ 10) (h : ∀ (i : Nat) (t : Str), i < d.items.length → K [c0, some (.obj T (.tape L)), c2, c3, some (.d (Datum.toD s)), some (.d (Datum.toD d)), some (.d (Datum.toD inh)), some (.d told), c8, some (.d (.int i)), some (.d (.str t)), c11, c12, c13, c14, c15, c16, c17, c18, c19] D) :
    sSeq (sAsg (wTup (wCons (wCall C_draw (aO 1 (aD (w1 gLen (wVar 5)) aNil))) (wCons (w2 gIx (wF (wCons (wC (.str "a")) (wCons (wC (.str "b")) (wCons (wC (.str "c")) (wCons (wC (.str "zzz")) wNil))))) (wCall C_draw (aO 1 (aD (wC (.int 4)) aNil)))) wNil))) (wGtup 2 (wGcons (wGn 9) (wGcons (wGn 10) wGnil)))) K [c0, some (.obj T (.tape L)), c2, c3, some (.d (Datum.toD s)), some (.d (Datum.toD d)), some (.d (Datum.toD inh)), some (.d told), c8, c9, c10, c11, c12, c13, c14, c15, c16, c17, c18, c19] D := by
  simp only [sSeq, sSet, sSetF, sRet, sRetN, sRetF, sNext, sIf, sFor, sAsg, sDrop, sBreak, sCont, w2, w1, wF1, wF, wC, wTst, wNot, wAnd, wOr, wAndV, wOrV, wNotV, wIfE, wIsN, wNotN, wTup, wCons, wNil, wCall, wCallL, wCallB, aD, aO, aNil, wLc, wSeqI, wEnum, wZip, wRg1, wO0, wO1, wSl, wNeg, wCat, wRevL, wIsi, wIsi2, wGn, wGtup, wGcons, wGnil, wYes, wipeE, endD, lawD, wVar, wOwn, List.getD_cons_zero, List.getD_cons_succ, List.set_cons_zero, List.set_cons_succ, Bool.false_eq_true, false_imp_iff, true_and, and_true, if_true, if_false, List.length_cons, List.length_nil, gTuple_lst, gAdd_int, gSub_int, gIxR0, gIxR1, gIxR2, gIxR3, isSeq_tup, isSeq_list, itemsD_tup, itemsD_list, isSeq_lst, itemsD_lst, isSeq_tp, itemsD_tp, gLenTup, gLenList, enumD_map, toD_pair, toD_int, toD_str, toD_bool, ite_self, reduceIte]
  refine draw_ (m := (d.items.length : Int)) (by omega) (by omega) fun i i0 i1 => ?_
  refine draw_ (m := 4) (by omega) (by omega) fun r r0 r1 => ?_
  obtain ⟨j, rfl⟩ : ∃ j : Nat, i = j := ⟨i.toNat, by omega⟩
  obtain ⟨x, _, hx⟩ := atI_in (xs := [("a" : Str), "b", "c", "zzz"]) r0 r1
  refine gIxL_ (t := [("a" : Str), "b", "c", "zzz"]) hx ?_
  simp only [sSeq, sSet, sSetF, sRet, sRetN, sRetF, sNext, sIf, sFor, sAsg, sDrop, sBreak, sCont, w2, w1, wF1, wF, wC, wTst, wNot, wAnd, wOr, wAndV, wOrV, wNotV, wIfE, wIsN, wNotN, wTup, wCons, wNil, wCall, wCallL, wCallB, aD, aO, aNil, wLc, wSeqI, wEnum, wZip, wRg1, wO0, wO1, wSl, wNeg, wCat, wRevL, wIsi, wIsi2, wGn, wGtup, wGcons, wGnil, wYes, wipeE, endD, lawD, wVar, wOwn, List.getD_cons_zero, List.getD_cons_succ, List.set_cons_zero, List.set_cons_succ, Bool.false_eq_true, false_imp_iff, true_and, and_true, if_true, if_false, List.length_cons, List.length_nil, gTuple_lst, gAdd_int, gSub_int, gIxR0, gIxR1, gIxR2, gIxR3, isSeq_tup, isSeq_list, itemsD_tup, itemsD_list, isSeq_lst, itemsD_lst, isSeq_tp, itemsD_tp, gLenTup, gLenList, enumD_map, toD_pair, toD_int, toD_str, toD_bool, ite_self, reduceIte]
  exact h j x (by omega)
theorem t2 (K : WS) (hx : d.items[i]? = some (par, el)) (h : K [c0, some (.obj T (.tape L)), c2, c3, some (.d (Datum.toD s)), some (.d (Datum.toD d)), some (.d (Datum.toD inh)), some (.d told), c8, some (.d (.int i)), some (.d (.str t)), some (.d (Datum.toD par)), some (.d (Datum.toD el)), c13, c14, c15, c16, c17, c18, c19] D) :
    sSeq (sAsg (w2 gIx (wVar 5) (wVar 9)) (wGtup 2 (wGcons (wGn 11) (wGcons (wGn 12) wGnil)))) K [c0, some (.obj T (.tape L)), c2, c3, some (.d (Datum.toD s)), some (.d (Datum.toD d)), some (.d (Datum.toD inh)), some (.d told), c8, some (.d (.int i)), some (.d (.str t)), c11, c12, c13, c14, c15, c16, c17, c18, c19] D := by
  simp only [sSeq, sSet, sSetF, sRet, sRetN, sRetF, sNext, sIf, sFor, sAsg, sDrop, sBreak, sCont, w2, w1, wF1, wF, wC, wTst, wNot, wAnd, wOr, wAndV, wOrV, wNotV, wIfE, wIsN, wNotN, wTup, wCons, wNil, wCall, wCallL, wCallB, aD, aO, aNil, wLc, wSeqI, wEnum, wZip, wRg1, wO0, wO1, wSl, wNeg, wCat, wRevL, wIsi, wIsi2, wGn, wGtup, wGcons, wGnil, wYes, wipeE, endD, lawD, wVar, wOwn, List.getD_cons_zero, List.getD_cons_succ, List.set_cons_zero, List.set_cons_succ, Bool.false_eq_true, false_imp_iff, true_and, and_true, if_true, if_false, List.length_cons, List.length_nil, gTuple_lst, gAdd_int, gSub_int, gIxR0, gIxR1, gIxR2, gIxR3, isSeq_tup, isSeq_list, itemsD_tup, itemsD_list, isSeq_lst, itemsD_lst, isSeq_tp, itemsD_tp, gLenTup, gLenList, enumD_map, toD_pair, toD_int, toD_str, toD_bool, ite_self, reduceIte]
  refine gIxT_ (t := d) (atI_nat hx) ?_
  simp only [sSeq, sSet, sSetF, sRet, sRetN, sRetF, sNext, sIf, sFor, sAsg, sDrop, sBreak, sCont, w2, w1, wF1, wF, wC, wTst, wNot, wAnd, wOr, wAndV, wOrV, wNotV, wIfE, wIsN, wNotN, wTup, wCons, wNil, wCall, wCallL, wCallB, aD, aO, aNil, wLc, wSeqI, wEnum, wZip, wRg1, wO0, wO1, wSl, wNeg, wCat, wRevL, wIsi, wIsi2, wGn, wGtup, wGcons, wGnil, wYes, wipeE, endD, lawD, wVar, wOwn, List.getD_cons_zero, List.getD_cons_succ, List.set_cons_zero, List.set_cons_succ, Bool.false_eq_true, false_imp_iff, true_and, and_true, if_true, if_false, List.length_cons, List.length_nil, gTuple_lst, gAdd_int, gSub_int, gIxR0, gIxR1, gIxR2, gIxR3, isSeq_tup, isSeq_list, itemsD_tup, itemsD_list, isSeq_lst, itemsD_lst, isSeq_tp, itemsD_tp, gLenTup, gLenList, enumD_map, toD_pair, toD_int, toD_str, toD_bool, ite_self, reduceIte]
  exact h
theorem t3 (K : WS) (hl : el.items.length ≤ 1000) (hn : el.items.Nodup) (h : ∀ c14, K [c0, some (.obj T (.tape L)), c2, c3, some (.d (Datum.toD s)), some (.d (Datum.toD d)), some (.d (Datum.toD inh)), some (.d told), c8, some (.d (.int i)), some (.d (.str t)), some (.d (Datum.toD par)), some (.d (Datum.toD el)), some (.d (Datum.toD (twT el t))), c14, c15, c16, c17, c18, c19] D) :
    sSeq (sSet 13 (wIfE (wTst (w2 gIn (wVar 10) (wVar 12))) (w1 gTuple (wF (wLc (wSeqI (wVar 12)) (wGn 14) (wTst (w2 gNe (wVar 14) (wVar 10))) (wVar 14) [14]))) (wCall C__law_joined (aD (wVar 12) (aD (wTup (wCons (wVar 10) wNil)) aNil))))) K [c0, some (.obj T (.tape L)), c2, c3, some (.d (Datum.toD s)), some (.d (Datum.toD d)), some (.d (Datum.toD inh)), some (.d told), c8, some (.d (.int i)), some (.d (.str t)), some (.d (Datum.toD par)), some (.d (Datum.toD el)), c13, c14, c15, c16, c17, c18, c19] D := by
  simp only [sSeq, sSet, sSetF, sRet, sRetN, sRetF, sNext, sIf, sFor, sAsg, sDrop, sBreak, sCont, w2, w1, wF1, wF, wC, wTst, wNot, wAnd, wOr, wAndV, wOrV, wNotV, wIfE, wIsN, wNotN, wTup, wCons, wNil, wCall, wCallL, wCallB, aD, aO, aNil, wLc, wSeqI, wEnum, wZip, wRg1, wO0, wO1, wSl, wNeg, wCat, wRevL, wIsi, wIsi2, wGn, wGtup, wGcons, wGnil, wYes, wipeE, endD, lawD, wVar, wOwn, List.getD_cons_zero, List.getD_cons_succ, List.set_cons_zero, List.set_cons_succ, Bool.false_eq_true, false_imp_iff, true_and, and_true, if_true, if_false, List.length_cons, List.length_nil, gTuple_lst, gAdd_int, gSub_int, gIxR0, gIxR1, gIxR2, gIxR3, isSeq_tup, isSeq_list, itemsD_tup, itemsD_list, isSeq_lst, itemsD_lst, isSeq_tp, itemsD_tp, gLenTup, gLenList, enumD_map, toD_pair, toD_int, toD_str, toD_bool, ite_self, reduceIte]
  refine gInTC (α := Str) (by decide) (fun z => ?_) fun z => ?_
  · (dsimp only; first | rw [if_pos rfl] | rw [if_neg (by simp)])
    refine wComp_fme Datum.toD (fun u : Str => !decide (u = t)) Datum.toD el.items rfl (fun u _ Q R h1 h2 => ?_) ?_
    · simp only [sSeq, sSet, sSetF, sRet, sRetN, sRetF, sNext, sIf, sFor, sAsg, sDrop, sBreak, sCont, w2, w1, wF1, wF, wC, wTst, wNot, wAnd, wOr, wAndV, wOrV, wNotV, wIfE, wIsN, wNotN, wTup, wCons, wNil, wCall, wCallL, wCallB, aD, aO, aNil, wLc, wSeqI, wEnum, wZip, wRg1, wO0, wO1, wSl, wNeg, wCat, wRevL, wIsi, wIsi2, wGn, wGtup, wGcons, wGnil, wYes, wipeE, endD, lawD, wVar, wOwn, List.getD_cons_zero, List.getD_cons_succ, List.set_cons_zero, List.set_cons_succ, Bool.false_eq_true, false_imp_iff, true_and, and_true, if_true, if_false, List.length_cons, List.length_nil, gTuple_lst, gAdd_int, gSub_int, gIxR0, gIxR1, gIxR2, gIxR3, isSeq_tup, isSeq_list, itemsD_tup, itemsD_list, isSeq_lst, itemsD_lst, isSeq_tp, itemsD_tp, gLenTup, gLenList, enumD_map, toD_pair, toD_int, toD_str, toD_bool, ite_self, reduceIte]
      exact gNe_ (α := Str) (by decide) (ifB h1 h2)
    · have e : twT el t = Tup.mk (el.items.filter fun u => !decide (u = t)) := by unfold twT; rw [if_pos z]
      rw [e] at h
      exact h _
  · (dsimp only; first | rw [if_pos rfl] | rw [if_neg (by simp)])
    refine ⟨el, Tup.mk [t], rfl, hl, by show 1 ≤ 1000; omega, hn, by simp, ?_⟩
    rw [joined_tw z]
    exact h _
theorem t4 (K : WS) (hl : d.items.length ≤ 10) (hx : d.items[i]? = some (par, el)) (h : K [c0, some (.obj T (.tape L)), c2, c3, some (.d (Datum.toD s)), some (.d (Datum.toD d)), some (.d (Datum.toD inh)), some (.d told), c8, some (.d (.int i)), some (.d (.str t)), some (.d (Datum.toD par)), some (.d (Datum.toD el)), some (.d (Datum.toD (twT el t))), c14, some (.d (Datum.toD (setT d i t))), c16, c17, c18, c19] D) :
    sSeq (sSet 15 (w2 gAdd (w2 gAdd (wSl (wVar 5) wO0 (wO1 (wVar 9))) (wTup (wCons (wTup (wCons (wVar 11) (wCons (wVar 13) wNil))) wNil))) (wSl (wVar 5) (wO1 (w2 gAdd (wVar 9) (wC (.int 1)))) wO0))) K [c0, some (.obj T (.tape L)), c2, c3, some (.d (Datum.toD s)), some (.d (Datum.toD d)), some (.d (Datum.toD inh)), some (.d told), c8, some (.d (.int i)), some (.d (.str t)), some (.d (Datum.toD par)), some (.d (Datum.toD el)), some (.d (Datum.toD (twT el t))), c14, c15, c16, c17, c18, c19] D := by
  simp only [sSeq, sSet, sSetF, sRet, sRetN, sRetF, sNext, sIf, sFor, sAsg, sDrop, sBreak, sCont, w2, w1, wF1, wF, wC, wTst, wNot, wAnd, wOr, wAndV, wOrV, wNotV, wIfE, wIsN, wNotN, wTup, wCons, wNil, wCall, wCallL, wCallB, aD, aO, aNil, wLc, wSeqI, wEnum, wZip, wRg1, wO0, wO1, wSl, wNeg, wCat, wRevL, wIsi, wIsi2, wGn, wGtup, wGcons, wGnil, wYes, wipeE, endD, lawD, wVar, wOwn, List.getD_cons_zero, List.getD_cons_succ, List.set_cons_zero, List.set_cons_succ, Bool.false_eq_true, false_imp_iff, true_and, and_true, if_true, if_false, List.length_cons, List.length_nil, gTuple_lst, gAdd_int, gSub_int, gIxR0, gIxR1, gIxR2, gIxR3, isSeq_tup, isSeq_list, itemsD_tup, itemsD_list, isSeq_lst, itemsD_lst, isSeq_tp, itemsD_tp, gLenTup, gLenList, enumD_map, toD_pair, toD_int, toD_str, toD_bool, ite_self, reduceIte]
  rw [gSlTto]
  refine gAddT_ (xs := Tup.mk (d.items.take i)) (ys := Tup.mk [((par, twT el t) : Nd)]) (by show (d.items.take i).length + 1 ≤ _; rw [List.length_take]; omega) ?_
  show gSl (Datum.toD d) (some ((i + 1 : Nat) : Int)) none _
  rw [gSlTfrom]
  refine gAddT_ (xs := Tup.mk (d.items.take i ++ [((par, twT el t) : Nd)])) (ys := Tup.mk (d.items.drop (i + 1))) (by show (d.items.take i ++ [_]).length + (d.items.drop (i + 1)).length ≤ _; rw [List.length_append, List.length_take, List.length_drop, List.length_singleton]; omega) ?_
  have e := setT_items (t := t) hx
  rw [e] at h
  exact h
theorem t5 (K : WS) {d' : Doc} (ok : DocOk d'.items) (hl : d'.items.length ≤ 10) (h : K [c0, some (.obj T (.tape L)), c2, c3, some (.d (Datum.toD s)), some (.d (Datum.toD d)), some (.d (Datum.toD inh)), some (.d told), c8, c9, c10, c11, c12, c13, c14, some (.d (Datum.toD d')), some (.d (Datum.toD (compL pqL s inh.items d'))), c17, c18, c19] D) :
    sSeq (sSet 16 (wCall C__law_computed (aD (wVar 4) (aD (wVar 15) (aD (wVar 6) aNil))))) K [c0, some (.obj T (.tape L)), c2, c3, some (.d (Datum.toD s)), some (.d (Datum.toD d)), some (.d (Datum.toD inh)), some (.d told), c8, c9, c10, c11, c12, c13, c14, some (.d (Datum.toD d')), c16, c17, c18, c19] D := by
  simp only [sSeq, sSet, sSetF, sRet, sRetN, sRetF, sNext, sIf, sFor, sAsg, sDrop, sBreak, sCont, w2, w1, wF1, wF, wC, wTst, wNot, wAnd, wOr, wAndV, wOrV, wNotV, wIfE, wIsN, wNotN, wTup, wCons, wNil, wCall, wCallL, wCallB, aD, aO, aNil, wLc, wSeqI, wEnum, wZip, wRg1, wO0, wO1, wSl, wNeg, wCat, wRevL, wIsi, wIsi2, wGn, wGtup, wGcons, wGnil, wYes, wipeE, endD, lawD, wVar, wOwn, List.getD_cons_zero, List.getD_cons_succ, List.set_cons_zero, List.set_cons_succ, Bool.false_eq_true, false_imp_iff, true_and, and_true, if_true, if_false, List.length_cons, List.length_nil, gTuple_lst, gAdd_int, gSub_int, gIxR0, gIxR1, gIxR2, gIxR3, isSeq_tup, isSeq_list, itemsD_tup, itemsD_list, isSeq_lst, itemsD_lst, isSeq_tp, itemsD_tp, gLenTup, gLenList, enumD_map, toD_pair, toD_int, toD_str, toD_bool, ite_self, reduceIte]
  exact ⟨s, d', inh, rfl, ok, by omega, h⟩
theorem t6 (K : WS) {xs ys : List (List (Str × Str))} (hl : xs.length = ys.length) (h : ∀ c18 c19, K [c0, some (.obj T (.tape L)), c2, c3, some (.d (Datum.toD s)), some (.d (Datum.toD d)), some (.d (Datum.toD inh)), some (.d (Datum.toD xs)), c8, c9, c10, c11, c12, c13, c14, c15, some (.d (Datum.toD ys)), some (.d (Datum.toD (togL xs ys))), c18, c19] D) :
    sSeq (sSet 17 (wF (wLc (wEnum (wVar 16)) (wGtup 2 (wGcons (wGn 18) (wGcons (wGn 19) wGnil))) (wTst (w2 gNe (wVar 19) (w2 gIx (wVar 7) (wVar 18)))) (wVar 18) [18, 19]))) K [c0, some (.obj T (.tape L)), c2, c3, some (.d (Datum.toD s)), some (.d (Datum.toD d)), some (.d (Datum.toD inh)), some (.d (Datum.toD xs)), c8, c9, c10, c11, c12, c13, c14, c15, some (.d (Datum.toD ys)), c17, c18, c19] D := by
  simp only [sSeq, sSet, sSetF, sRet, sRetN, sRetF, sNext, sIf, sFor, sAsg, sDrop, sBreak, sCont, w2, w1, wF1, wF, wC, wTst, wNot, wAnd, wOr, wAndV, wOrV, wNotV, wIfE, wIsN, wNotN, wTup, wCons, wNil, wCall, wCallL, wCallB, aD, aO, aNil, wLc, wSeqI, wEnum, wZip, wRg1, wO0, wO1, wSl, wNeg, wCat, wRevL, wIsi, wIsi2, wGn, wGtup, wGcons, wGnil, wYes, wipeE, endD, lawD, wVar, wOwn, List.getD_cons_zero, List.getD_cons_succ, List.set_cons_zero, List.set_cons_succ, Bool.false_eq_true, false_imp_iff, true_and, and_true, if_true, if_false, List.length_cons, List.length_nil, gTuple_lst, gAdd_int, gSub_int, gIxR0, gIxR1, gIxR2, gIxR3, isSeq_tup, isSeq_list, itemsD_tup, itemsD_list, isSeq_lst, itemsD_lst, isSeq_tp, itemsD_tp, gLenTup, gLenList, enumD_map, toD_pair, toD_int, toD_str, toD_bool, ite_self, reduceIte]
  refine tog_comp (xs := ys) (ys := xs) (by decide) hl.symm (fun p hp Q R st => ?_) ?_
  · have hp2 : ∃ y, L2.atI xs p.1 = some y := by
      obtain ⟨k, hk, hx⟩ := enumL_at hp
      have := (List.getElem?_eq_some_iff.mp hx).1
      obtain ⟨y, _, hy⟩ := atI_ex (xs := xs) (i := k) (by omega)
      exact ⟨y, by rw [hk]; exact hy⟩
    obtain ⟨y, hy⟩ := hp2
    simp only [sSeq, sSet, sSetF, sRet, sRetN, sRetF, sNext, sIf, sFor, sAsg, sDrop, sBreak, sCont, w2, w1, wF1, wF, wC, wTst, wNot, wAnd, wOr, wAndV, wOrV, wNotV, wIfE, wIsN, wNotN, wTup, wCons, wNil, wCall, wCallL, wCallB, aD, aO, aNil, wLc, wSeqI, wEnum, wZip, wRg1, wO0, wO1, wSl, wNeg, wCat, wRevL, wIsi, wIsi2, wGn, wGtup, wGcons, wGnil, wYes, wipeE, endD, lawD, wVar, wOwn, List.getD_cons_zero, List.getD_cons_succ, List.set_cons_zero, List.set_cons_succ, Bool.false_eq_true, false_imp_iff, true_and, and_true, if_true, if_false, List.length_cons, List.length_nil, gTuple_lst, gAdd_int, gSub_int, gIxR0, gIxR1, gIxR2, gIxR3, isSeq_tup, isSeq_list, itemsD_tup, itemsD_list, isSeq_lst, itemsD_lst, isSeq_tp, itemsD_tp, gLenTup, gLenList, enumD_map, toD_pair, toD_int, toD_str, toD_bool, ite_self, reduceIte]
    exact gIxL_ hy (st y hy)
  · rw [tog_symm hl.symm]
    exact h _ _
theorem tog_okD (xs ys : List (List (Str × Str))) (h : xs.length ≤ 1000) : okD 6 (Datum.toD (togL xs ys)) := by
  refine okD_ints (n := 4) ?_
  unfold togL
  rw [List.length_map]
  have := List.length_filter_le (fun p : Int × List (Str × Str) => !decide (some p.2 = L2.atI ys p.1)) (enumL xs)
  rw [enumL_len] at this
  omega
theorem t7 (K : WS) (nin : NamesIn s) (ok : DocOk d.items) (hl : d.items.length ≤ 10) (hi : i < d.items.length) (hel : ∀ nd ∈ d.items, nd.2.items.length ≤ 1000)
    (h : K [c0, some (.obj T (.tape L)), c2, c3, some (.d (Datum.toD s)), some (.d (Datum.toD d)), some (.d (Datum.toD inh)), c8, c9, some (.d (.int i)), some (.d (.str t)), c11, c12, c13, c14, c15, c16, some (.d (Datum.toD (togL (compL pqL s inh.items d) (compL pqL s inh.items (setT d i t))))), c18, c19] D) :
    sSeq (sIf (wNot (wTst (wCall (C__law_like 6) (aD (wCall C_toggled (aD (wVar 4) (aD (wVar 5) (aD (wVar 6) (aD (wVar 9) (aD (wVar 10) aNil)))))) (aD (wVar 17) aNil))))) (sRet (wC (.bool false))) sNext) K [c0, some (.obj T (.tape L)), c2, c3, some (.d (Datum.toD s)), some (.d (Datum.toD d)), some (.d (Datum.toD inh)), c8, c9, some (.d (.int i)), some (.d (.str t)), c11, c12, c13, c14, c15, c16, some (.d (Datum.toD (togL (compL pqL s inh.items d) (compL pqL s inh.items (setT d i t))))), c18, c19] D := by
  simp only [sSeq, sSet, sSetF, sRet, sRetN, sRetF, sNext, sIf, sFor, sAsg, sDrop, sBreak, sCont, w2, w1, wF1, wF, wC, wTst, wNot, wAnd, wOr, wAndV, wOrV, wNotV, wIfE, wIsN, wNotN, wTup, wCons, wNil, wCall, wCallL, wCallB, aD, aO, aNil, wLc, wSeqI, wEnum, wZip, wRg1, wO0, wO1, wSl, wNeg, wCat, wRevL, wIsi, wIsi2, wGn, wGtup, wGcons, wGnil, wYes, wipeE, endD, lawD, wVar, wOwn, List.getD_cons_zero, List.getD_cons_succ, List.set_cons_zero, List.set_cons_succ, Bool.false_eq_true, false_imp_iff, true_and, and_true, if_true, if_false, List.length_cons, List.length_nil, gTuple_lst, gAdd_int, gSub_int, gIxR0, gIxR1, gIxR2, gIxR3, isSeq_tup, isSeq_list, itemsD_tup, itemsD_list, isSeq_lst, itemsD_lst, isSeq_tp, itemsD_tp, gLenTup, gLenList, enumD_map, toD_pair, toD_int, toD_str, toD_bool, ite_self, reduceIte]
  refine ⟨pqL, s, d, inh, i, t, rfl, pqL_inc, by decide, nin, by omega, ok, hi, hel, ?_⟩
  refine like_ (tog_okD _ _ (by rw [comp_len]; omega)) ?_
  exact noB h
theorem t8 {a0 a1 a2 a3 a4 a5 a7 a8 a10 a11 a12 a13 a14 a15 a16 : Option Cell} {due : List Int} (h1 : ∀ a ∈ due, (i : Int) ≤ a) (h2 : inh.items = [] → ∀ a ∈ due, a = (i : Int)) (h : ∀ c18, D.nx [a0, a1, a2, a3, a4, a5, some (.d (Datum.toD inh)), a7, a8, some (.d (.int i)), a10, a11, a12, a13, a14, a15, a16, some (.d (Datum.toD due)), c18, c19]) :
    (sIf (wOr (wAnd (wTst (w2 gEq (wVar 6) (wTup wNil))) (wTst (w2 gNe (wF (wLc (wSeqI (wVar 17)) (wGn 18) (wTst (w2 gNe (wVar 18) (wVar 9))) (wVar 18) [18])) (wF wNil)))) (wTst (w2 gNe (wF (wLc (wSeqI (wVar 17)) (wGn 18) (wTst (w2 gLt (wVar 18) (wVar 9))) (wVar 18) [18])) (wF wNil)))) (sRet (wC (.bool false))) sNext) [a0, a1, a2, a3, a4, a5, some (.d (Datum.toD inh)), a7, a8, some (.d (.int i)), a10, a11, a12, a13, a14, a15, a16, some (.d (Datum.toD due)), c18, c19] D := by
  simp only [sSeq, sSet, sSetF, sRet, sRetN, sRetF, sNext, sIf, sFor, sAsg, sDrop, sBreak, sCont, w2, w1, wF1, wF, wC, wTst, wNot, wAnd, wOr, wAndV, wOrV, wNotV, wIfE, wIsN, wNotN, wTup, wCons, wNil, wCall, wCallL, wCallB, aD, aO, aNil, wLc, wSeqI, wEnum, wZip, wRg1, wO0, wO1, wSl, wNeg, wCat, wRevL, wIsi, wIsi2, wGn, wGtup, wGcons, wGnil, wYes, wipeE, endD, lawD, wVar, wOwn, List.getD_cons_zero, List.getD_cons_succ, List.set_cons_zero, List.set_cons_succ, Bool.false_eq_true, false_imp_iff, true_and, and_true, if_true, if_false, List.length_cons, List.length_nil, gTuple_lst, gAdd_int, gSub_int, gIxR0, gIxR1, gIxR2, gIxR3, isSeq_tup, isSeq_list, itemsD_tup, itemsD_list, isSeq_lst, itemsD_lst, isSeq_tp, itemsD_tp, gLenTup, gLenList, enumD_map, toD_pair, toD_int, toD_str, toD_bool, ite_self, reduceIte]
  have low : ∀ c18 (P : List PyData → Prop), P [] → wComp (wGn 18) (wTst (w2 gLt (wVar 18) (wVar 9))) (wVar 18) [a0, a1, a2, a3, a4, a5, some (.d (Datum.toD inh)), a7, a8, some (.d (.int i)), a10, a11, a12, a13, a14, a15, a16, some (.d (Datum.toD due)), c18, c19] (due.map Datum.toD) P := fun c18 P hP => by
    refine wComp_fme Datum.toD (fun a : Int => decide (a < (i : Int))) Datum.toD due rfl (fun a _ Q R q1 q2 => ?_) ?_
    · simp only [sSeq, sSet, sSetF, sRet, sRetN, sRetF, sNext, sIf, sFor, sAsg, sDrop, sBreak, sCont, w2, w1, wF1, wF, wC, wTst, wNot, wAnd, wOr, wAndV, wOrV, wNotV, wIfE, wIsN, wNotN, wTup, wCons, wNil, wCall, wCallL, wCallB, aD, aO, aNil, wLc, wSeqI, wEnum, wZip, wRg1, wO0, wO1, wSl, wNeg, wCat, wRevL, wIsi, wIsi2, wGn, wGtup, wGcons, wGnil, wYes, wipeE, endD, lawD, wVar, wOwn, List.getD_cons_zero, List.getD_cons_succ, List.set_cons_zero, List.set_cons_succ, Bool.false_eq_true, false_imp_iff, true_and, and_true, if_true, if_false, List.length_cons, List.length_nil, gTuple_lst, gAdd_int, gSub_int, gIxR0, gIxR1, gIxR2, gIxR3, isSeq_tup, isSeq_list, itemsD_tup, itemsD_list, isSeq_lst, itemsD_lst, isSeq_tp, itemsD_tp, gLenTup, gLenList, enumD_map, toD_pair, toD_int, toD_str, toD_bool, ite_self, reduceIte]
      refine gLt_ (α := Int) (by decide) ?_
      exact ifB q1 q2
    · have e : due.filter (fun a => decide (a < (i : Int))) = [] := List.filter_eq_nil_iff.mpr fun a ha => by
        have := h1 a ha
        simp
        omega
      rw [e]
      exact hP
  refine gEqC (α := Tags) (b := Tup.mk []) (by decide) (fun z => ?_) fun z => ?_
  · (dsimp only; first | rw [if_pos rfl] | rw [if_neg (by simp)])
    have e0 : inh.items = [] := by rw [z]
    refine wComp_fme Datum.toD (fun a : Int => !decide (a = (i : Int))) Datum.toD due rfl (fun a _ Q R q1 q2 => ?_) ?_
    · simp only [sSeq, sSet, sSetF, sRet, sRetN, sRetF, sNext, sIf, sFor, sAsg, sDrop, sBreak, sCont, w2, w1, wF1, wF, wC, wTst, wNot, wAnd, wOr, wAndV, wOrV, wNotV, wIfE, wIsN, wNotN, wTup, wCons, wNil, wCall, wCallL, wCallB, aD, aO, aNil, wLc, wSeqI, wEnum, wZip, wRg1, wO0, wO1, wSl, wNeg, wCat, wRevL, wIsi, wIsi2, wGn, wGtup, wGcons, wGnil, wYes, wipeE, endD, lawD, wVar, wOwn, List.getD_cons_zero, List.getD_cons_succ, List.set_cons_zero, List.set_cons_succ, Bool.false_eq_true, false_imp_iff, true_and, and_true, if_true, if_false, List.length_cons, List.length_nil, gTuple_lst, gAdd_int, gSub_int, gIxR0, gIxR1, gIxR2, gIxR3, isSeq_tup, isSeq_list, itemsD_tup, itemsD_list, isSeq_lst, itemsD_lst, isSeq_tp, itemsD_tp, gLenTup, gLenList, enumD_map, toD_pair, toD_int, toD_str, toD_bool, ite_self, reduceIte]
      exact gNe_ (α := Int) (by decide) (ifB q1 q2)
    · have e : due.filter (fun a => !decide (a = (i : Int))) = [] := List.filter_eq_nil_iff.mpr fun a ha => by
        rw [h2 e0 a ha]
        simp
      rw [e]
      refine gNeC (α := List Int) (a := []) (b := []) (by decide) (fun y => absurd rfl y) fun _ => ?_
      (dsimp only; first | rw [if_pos rfl] | rw [if_neg (by simp)])
      refine low _ _ ?_
      refine gNeC (α := List Int) (a := []) (b := []) (by decide) (fun y => absurd rfl y) fun _ => ?_
      exact h _
  · (dsimp only; first | rw [if_pos rfl] | rw [if_neg (by simp)])
    refine low _ _ ?_
    refine gNeC (α := List Int) (a := []) (b := []) (by decide) (fun y => absurd rfl y) fun _ => ?_
    exact h _
end
theorem turn_ok {T L : Addr} {s : Sheet} {d : Doc} {inh : Tags} {c0 c2 c3 c8 c9 c10 c11 c12 c13 c14 c15 c16 c17 c18 c19 : Option Cell} {D : DEnds} (nin : NamesIn s) (ok : DocOk d.items) (hd : 0 < d.items.length) (hl : d.items.length ≤ 10) (hsub : ∀ nd ∈ d.items, nd.2.items.Sublist poolD.items)
    (h : ∀ c9 c10 c11 c12 c13 c14 c15 c16 c17 c18 c19, D.nx [c0, some (.obj T (.tape L)), c2, c3, some (.d (Datum.toD s)), some (.d (Datum.toD d)), some (.d (Datum.toD inh)), some (.d (Datum.toD (compL pqL s inh.items d))), c8, c9, c10, c11, c12, c13, c14, c15, c16, c17, c18, c19]) :
    B_law_1 [c0, some (.obj T (.tape L)), c2, c3, some (.d (Datum.toD s)), some (.d (Datum.toD d)), some (.d (Datum.toD inh)), some (.d (Datum.toD (compL pqL s inh.items d))), c8, c9, c10, c11, c12, c13, c14, c15, c16, c17, c18, c19] D := by
  unfold B_law_1
  refine t1 _ hd hl fun i t hi => ?_
  have hx := List.getElem?_eq_getElem hi
  have hel : ∀ nd ∈ d.items, nd.2.items.length ≤ 1000 := fun nd hnd => Nat.le_trans (hsub nd hnd).length_le (by decide)
  have hm := List.getElem_mem hi
  generalize d.items[i] = nd at hx hm
  obtain ⟨par, el⟩ := nd
  have hnd : el.items.Nodup := (hsub _ hm).nodup poolD_inc.nodup
  refine t2 _ hx ?_
  refine t3 _ (hel _ hm) hnd fun c14 => ?_
  refine t4 _ hl hx ?_
  refine t5 _ (setT_ok ok) (by rw [setT_len]; exact hl) ?_
  refine t6 _ (by rw [comp_len, comp_len, setT_len]) fun c18 c19 => ?_
  refine t7 _ nin ok hl hi hel ?_
  have mem : ∀ a ∈ togL (compL pqL s inh.items d) (compL pqL s inh.items (setT d i t)), ∃ k : Nat, a = (k : Int) ∧ k < d.items.length ∧ L2.atI (compL pqL s inh.items d) (k : Int) ≠ L2.atI (compL pqL s inh.items (setT d i t)) (k : Int) := fun a ha => by
    rw [tog_range] at ha
    obtain ⟨h1, h2⟩ := List.mem_filter.mp ha
    rw [comp_len] at h1
    obtain ⟨k, hk, rfl⟩ := List.mem_map.mp h1
    exact ⟨k, rfl, List.mem_range.mp hk, by simpa using h2⟩
  refine t8 (fun a ha => ?_) (fun he a ha => ?_) fun c18 => h _ _ _ _ _ _ _ _ _ _ _
  · obtain ⟨k, rfl, hk, hne⟩ := mem a ha
    rcases Nat.lt_or_ge k i with z | z
    · exact absurd (comp_low z hi).symm hne
    · omega
  · obtain ⟨k, rfl, hk, hne⟩ := mem a ha
    by_cases z : k = i
    · rw [z]
    · rw [he] at hne
      exact absurd (comp_none z hk).symm hne
theorem body_law (T L : Addr) : W_law (none :: some (.obj T (.tape L)) :: List.replicate 18 none) lawD := by
  show W_law [none, some (.obj T (.tape L)), none, none, none, none, none, none, none, none, none, none, none, none, none, none, none, none, none, none] _
  unfold W_law
  simp only [sSeq, sSet, sSetF, sRet, sRetN, sRetF, sNext, sIf, sFor, sAsg, sDrop, sBreak, sCont, w2, w1, wF1, wF, wC, wTst, wNot, wAnd, wOr, wAndV, wOrV, wNotV, wIfE, wIsN, wNotN, wTup, wCons, wNil, wCall, wCallL, wCallB, aD, aO, aNil, wLc, wSeqI, wEnum, wZip, wRg1, wO0, wO1, wSl, wNeg, wCat, wRevL, wIsi, wIsi2, wGn, wGtup, wGcons, wGnil, wYes, wipeE, endD, lawD, wVar, wOwn, List.getD_cons_zero, List.getD_cons_succ, List.set_cons_zero, List.set_cons_succ, Bool.false_eq_true, false_imp_iff, true_and, and_true, if_true, if_false, List.length_cons, List.length_nil, gTuple_lst, gAdd_int, gSub_int, gIxR0, gIxR1, gIxR2, gIxR3, isSeq_tup, isSeq_list, itemsD_tup, itemsD_list, isSeq_lst, itemsD_lst, isSeq_tp, itemsD_tp, gLenTup, gLenList, enumD_map, toD_pair, toD_int, toD_str, toD_bool, ite_self, reduceIte]
  refine ⟨by decide, by decide, ?_⟩
  refine sLoop_keep (fun ρ => ∃ x3 x4 x5 x6 x7 x8 x9 x10 x11 x12 x13 x14 x15 x16 x17 x18 x19, ρ = [none, some (.obj T (.tape L)), some (.d (Datum.toD poolD)), x3, x4, x5, x6, x7, x8, x9, x10, x11, x12, x13, x14, x15, x16, x17, x18, x19]) _ _ ⟨_, _, _, _, _, _, _, _, _, _, _, _, _, _, _, _, _, rfl⟩ (fun ρ h => trivial) ?_
  rintro x _ ρ ⟨x3, x4, x5, x6, x7, x8, x9, x10, x11, x12, x13, x14, x15, x16, x17, x18, x19, rfl⟩ k hk
  show B_law_0 [none, some (.obj T (.tape L)), some (.d (Datum.toD poolD)), some (.d x), x4, x5, x6, x7, x8, x9, x10, x11, x12, x13, x14, x15, x16, x17, x18, x19] _
  unfold B_law_0
  simp only [sSeq, sSet, sSetF, sRet, sRetN, sRetF, sNext, sIf, sFor, sAsg, sDrop, sBreak, sCont, w2, w1, wF1, wF, wC, wTst, wNot, wAnd, wOr, wAndV, wOrV, wNotV, wIfE, wIsN, wNotN, wTup, wCons, wNil, wCall, wCallL, wCallB, aD, aO, aNil, wLc, wSeqI, wEnum, wZip, wRg1, wO0, wO1, wSl, wNeg, wCat, wRevL, wIsi, wIsi2, wGn, wGtup, wGcons, wGnil, wYes, wipeE, endD, lawD, wVar, wOwn, List.getD_cons_zero, List.getD_cons_succ, List.set_cons_zero, List.set_cons_succ, Bool.false_eq_true, false_imp_iff, true_and, and_true, if_true, if_false, List.length_cons, List.length_nil, gTuple_lst, gAdd_int, gSub_int, gIxR0, gIxR1, gIxR2, gIxR3, isSeq_tup, isSeq_list, itemsD_tup, itemsD_list, isSeq_lst, itemsD_lst, isSeq_tp, itemsD_tp, gLenTup, gLenList, enumD_map, toD_pair, toD_int, toD_str, toD_bool, ite_self, reduceIte,  sMany, setAll]
  refine ⟨T, L, 8, poolD, rfl, by decide, by decide, by decide, fun s hs => ?_⟩
  have nin := hs.nin
  have hsl : s.items.length ≤ 8 := hs.len
  refine ⟨T, L, poolD, rfl, by decide, fun d ok hd hl hsub => ?_⟩
  simp only [sSeq, sSet, sSetF, sRet, sRetN, sRetF, sNext, sIf, sFor, sAsg, sDrop, sBreak, sCont, w2, w1, wF1, wF, wC, wTst, wNot, wAnd, wOr, wAndV, wOrV, wNotV, wIfE, wIsN, wNotN, wTup, wCons, wNil, wCall, wCallL, wCallB, aD, aO, aNil, wLc, wSeqI, wEnum, wZip, wRg1, wO0, wO1, wSl, wNeg, wCat, wRevL, wIsi, wIsi2, wGn, wGtup, wGcons, wGnil, wYes, wipeE, endD, lawD, wVar, wOwn, List.getD_cons_zero, List.getD_cons_succ, List.set_cons_zero, List.set_cons_succ, Bool.false_eq_true, false_imp_iff, true_and, and_true, if_true, if_false, List.length_cons, List.length_nil, gTuple_lst, gAdd_int, gSub_int, gIxR0, gIxR1, gIxR2, gIxR3, isSeq_tup, isSeq_list, itemsD_tup, itemsD_list, isSeq_lst, itemsD_lst, isSeq_tp, itemsD_tp, gLenTup, gLenList, enumD_map, toD_pair, toD_int, toD_str, toD_bool, ite_self, reduceIte,  setAll]
  refine draw_ (m := 4) (by omega) (by omega) fun r r0 r1 => ?_
  obtain ⟨inh, _, hinh⟩ := atI_in (xs := [(Tup.mk [] : Tags), Tup.mk ["p"], Tup.mk ["p", "q"], Tup.mk ["other", "q"]]) r0 r1
  refine gIxL_ (t := [(Tup.mk [] : Tags), Tup.mk ["p"], Tup.mk ["p", "q"], Tup.mk ["other", "q"]]) hinh ?_
  refine ⟨pqL, s, d, inh, rfl, pqL_inc, by decide, nin, by omega, ok, ?_⟩
  refine ⟨s, d, inh, rfl, ok, by omega, ?_⟩
  refine like_ (okD_comp pqL_inc (by decide) (by omega)) ?_
  refine noB ?_
  refine ⟨by decide, by decide, ?_⟩
  refine sLoop_keep (fun ρ => ∃ c8 c9 c10 c11 c12 c13 c14 c15 c16 c17 c18 c19, ρ = [none, some (.obj T (.tape L)), some (.d (Datum.toD poolD)), some (.d x), some (.d (Datum.toD s)), some (.d (Datum.toD d)), some (.d (Datum.toD inh)), some (.d (Datum.toD (compL pqL s inh.items d))), c8, c9, c10, c11, c12, c13, c14, c15, c16, c17, c18, c19]) _ _ ⟨_, _, _, _, _, _, _, _, _, _, _, _, rfl⟩ (fun ρ ⟨c8, c9, c10, c11, c12, c13, c14, c15, c16, c17, c18, c19, e⟩ => by rw [e]; exact hk _ ⟨_, _, _, _, _, _, _, _, _, _, _, _, _, _, _, _, _, rfl⟩) ?_
  rintro y _ ρ ⟨c8, c9, c10, c11, c12, c13, c14, c15, c16, c17, c18, c19, rfl⟩ k2 hk2
  simp only [sSeq, sSet, sSetF, sRet, sRetN, sRetF, sNext, sIf, sFor, sAsg, sDrop, sBreak, sCont, w2, w1, wF1, wF, wC, wTst, wNot, wAnd, wOr, wAndV, wOrV, wNotV, wIfE, wIsN, wNotN, wTup, wCons, wNil, wCall, wCallL, wCallB, aD, aO, aNil, wLc, wSeqI, wEnum, wZip, wRg1, wO0, wO1, wSl, wNeg, wCat, wRevL, wIsi, wIsi2, wGn, wGtup, wGcons, wGnil, wYes, wipeE, endD, lawD, wVar, wOwn, List.getD_cons_zero, List.getD_cons_succ, List.set_cons_zero, List.set_cons_succ, Bool.false_eq_true, false_imp_iff, true_and, and_true, if_true, if_false, List.length_cons, List.length_nil, gTuple_lst, gAdd_int, gSub_int, gIxR0, gIxR1, gIxR2, gIxR3, isSeq_tup, isSeq_list, itemsD_tup, itemsD_list, isSeq_lst, itemsD_lst, isSeq_tp, itemsD_tp, gLenTup, gLenList, enumD_map, toD_pair, toD_int, toD_str, toD_bool, ite_self, reduceIte]
  exact turn_ok nin ok hd hl hsub fun c9 c10 c11 c12 c13 c14 c15 c16 c17 c18 c19 => hk2 _ ⟨_, _, _, _, _, _, _, _, _, _, _, _, rfl⟩
end Dat

namespace Dat
open PySem PySem.Spec PyProof.Rows L2
/-! ### the text of stylepairs_k18_documents_with_inheritanc -/
def topS (i : Nat) : Stmt := PySem.Challenge.pw_stylepairs_k18_documents_with_inheritanc.main.body.getD i (.Pass ⟨0, 0, 0, 0⟩)
abbrev s_matches : Stmt := topS 1
theorem sc_matches : FnScope ["rule", "element", "tag"] ["rule", "element"] (defScope s_matches) := ⟨rfl, rfl, rfl, by decide +kernel, rfl, by decide +kernel, by decide +kernel⟩
abbrev s_level : Stmt := topS 2
theorem sc_level : FnScope ["rule"] ["rule"] (defScope s_level) := ⟨rfl, rfl, rfl, by decide +kernel, rfl, by decide +kernel, by decide +kernel⟩
abbrev s_matching : Stmt := topS 3
theorem sc_matching : FnScope ["sheet", "element", "index", "rule"] ["sheet", "element"] (defScope s_matching) := ⟨rfl, rfl, rfl, by decide +kernel, rfl, by decide +kernel, by decide +kernel⟩
abbrev s_ranking : Stmt := topS 4
theorem sc_ranking : FnScope ["sheet", "element", "name", "rows", "index", "rank"] ["sheet", "element", "name"] (defScope s_ranking) := ⟨rfl, rfl, rfl, by decide +kernel, rfl, by decide +kernel, by decide +kernel⟩
abbrev s_winner : Stmt := topS 5
theorem sc_winner : FnScope ["sheet", "element", "name", "rows"] ["sheet", "element", "name"] (defScope s_winner) := ⟨rfl, rfl, rfl, by decide +kernel, rfl, by decide +kernel, by decide +kernel⟩
abbrev s_value_of : Stmt := topS 6
theorem sc_value_of : FnScope ["sheet", "element", "name", "index"] ["sheet", "element", "name"] (defScope s_value_of) := ⟨rfl, rfl, rfl, by decide +kernel, rfl, by decide +kernel, by decide +kernel⟩
abbrev s_styles : Stmt := topS 7
theorem sc_styles : FnScope ["sheet", "element", "names", "index", "first", "at", "name"] ["sheet", "element"] (defScope s_styles) := ⟨rfl, rfl, rfl, by decide +kernel, rfl, by decide +kernel, by decide +kernel⟩
abbrev s_computed : Stmt := topS 9
theorem sc_computed : FnScope ["sheet", "document", "inherited", "found", "parent", "element", "own", "name", "value"] ["sheet", "document", "inherited"] (defScope s_computed) := ⟨rfl, rfl, rfl, by decide +kernel, rfl, by decide +kernel, by decide +kernel⟩
abbrev s_with_tag : Stmt := topS 10
theorem sc_with_tag : FnScope ["element", "tag", "other"] ["element", "tag"] (defScope s_with_tag) := ⟨rfl, rfl, rfl, by decide +kernel, rfl, by decide +kernel, by decide +kernel⟩
abbrev s_toggled : Stmt := topS 11
theorem sc_toggled : FnScope ["sheet", "document", "inherited", "node", "tag", "parent", "element", "changed", "before", "after", "index", "own"] ["sheet", "document", "inherited", "node", "tag"] (defScope s_toggled) := ⟨rfl, rfl, rfl, by decide +kernel, rfl, by decide +kernel, by decide +kernel⟩
abbrev s__law_draw : Stmt := topS 13
theorem sc__law_draw : FnScope ["tape", "many", "prime", "cell", "found"] ["tape", "many"] (defScope s__law_draw) := ⟨rfl, rfl, rfl, by decide +kernel, rfl, by decide +kernel, by decide +kernel⟩
abbrev s__law_like : Stmt := topS 14
theorem sc__law_like : FnScope ["one", "two", "k"] ["one", "two"] (defScope s__law_like) := ⟨rfl, rfl, rfl, by decide +kernel, rfl, by decide +kernel, by decide +kernel⟩
abbrev s__law_tags : Stmt := topS 15
theorem sc__law_tags : FnScope ["tape", "pool", "most", "found", "tag"] ["tape", "pool", "most"] (defScope s__law_tags) := ⟨rfl, rfl, rfl, by decide +kernel, rfl, by decide +kernel, by decide +kernel⟩
abbrev s__law_rule : Stmt := topS 16
theorem sc__law_rule : FnScope ["tape", "pool", "layer", "name"] ["tape", "pool"] (defScope s__law_rule) := ⟨rfl, rfl, rfl, by decide +kernel, rfl, by decide +kernel, by decide +kernel⟩
abbrev s__law_sheet : Stmt := topS 17
theorem sc__law_sheet : FnScope ["tape", "most", "pool", "found", "turn", "rule"] ["tape", "most", "pool"] (defScope s__law_sheet) := ⟨rfl, rfl, rfl, by decide +kernel, rfl, by decide +kernel, by decide +kernel⟩
abbrev s__law_level : Stmt := topS 18
theorem sc__law_level : FnScope ["rule"] ["rule"] (defScope s__law_level) := ⟨rfl, rfl, rfl, by decide +kernel, rfl, by decide +kernel, by decide +kernel⟩
abbrev s__law_best : Stmt := topS 19
theorem sc__law_best : FnScope ["sheet", "element", "name", "best", "index", "rule", "tag"] ["sheet", "element", "name"] (defScope s__law_best) := ⟨rfl, rfl, rfl, by decide +kernel, rfl, by decide +kernel, by decide +kernel⟩
abbrev s__law_value : Stmt := topS 20
theorem sc__law_value : FnScope ["sheet", "element", "name", "best"] ["sheet", "element", "name"] (defScope s__law_value) := ⟨rfl, rfl, rfl, by decide +kernel, rfl, by decide +kernel, by decide +kernel⟩
abbrev s__law_joined : Stmt := topS 21
theorem sc__law_joined : FnScope ["one", "other"] ["one", "other"] (defScope s__law_joined) := ⟨rfl, rfl, rfl, by decide +kernel, rfl, by decide +kernel, by decide +kernel⟩
abbrev s__law_document : Stmt := topS 22
theorem sc__law_document : FnScope ["tape", "pool", "found", "at", "parent"] ["tape", "pool"] (defScope s__law_document) := ⟨rfl, rfl, rfl, by decide +kernel, rfl, by decide +kernel, by decide +kernel⟩
abbrev s__law_found : Stmt := topS 23
theorem sc__law_found : FnScope ["sheet", "document", "inherited", "node", "name", "value"] ["sheet", "document", "inherited", "node", "name"] (defScope s__law_found) := ⟨rfl, rfl, rfl, by decide +kernel, rfl, by decide +kernel, by decide +kernel⟩
abbrev s__law_computed : Stmt := topS 24
theorem sc__law_computed : FnScope ["sheet", "document", "inherited", "found", "node", "rows", "name", "row"] ["sheet", "document", "inherited"] (defScope s__law_computed) := ⟨rfl, rfl, rfl, by decide +kernel, rfl, by decide +kernel, by decide +kernel⟩
abbrev s_law : Stmt := topS 25
theorem sc_law : FnScope ["script", "tape", "pool", "turn", "sheet", "document", "inherited", "told", "ask", "node", "tag", "parent", "element", "new", "own", "other", "rows", "due", "at", "some"] ["script"] (defScope s_law) := ⟨rfl, rfl, rfl, by decide +kernel, rfl, by decide +kernel, by decide +kernel⟩
structure Tx (K : PySem.W.Frag) (mg : Str → Option Value) where
  m_all : mg "all" = none
  m_bool : mg "bool" = none
  m_dict : mg "dict" = none
  m_enumerate : mg "enumerate" = none
  m_isinstance : mg "isinstance" = none
  m_len : mg "len" = none
  m_list : mg "list" = none
  m_range : mg "range" = none
  m_set : mg "set" = none
  m_sorted : mg "sorted" = none
  m_tuple : mg "tuple" = none
  a_matches : Addr
  d_matches : FuncData
  g_matches : mg "matches" = some (.ref a_matches)
  F_matches : Fun K "matches" "matches" s_matches a_matches d_matches
  b_matches : Binds K d_matches ["rule", "element"] []
  a_level : Addr
  d_level : FuncData
  g_level : mg "level" = some (.ref a_level)
  F_level : Fun K "level" "level" s_level a_level d_level
  b_level : Binds K d_level ["rule"] []
  a_matching : Addr
  d_matching : FuncData
  g_matching : mg "matching" = some (.ref a_matching)
  F_matching : Fun K "matching" "matching" s_matching a_matching d_matching
  b_matching : Binds K d_matching ["sheet", "element"] []
  a_ranking : Addr
  d_ranking : FuncData
  g_ranking : mg "ranking" = some (.ref a_ranking)
  F_ranking : Fun K "ranking" "ranking" s_ranking a_ranking d_ranking
  b_ranking : Binds K d_ranking ["sheet", "element", "name"] []
  a_winner : Addr
  d_winner : FuncData
  g_winner : mg "winner" = some (.ref a_winner)
  F_winner : Fun K "winner" "winner" s_winner a_winner d_winner
  b_winner : Binds K d_winner ["sheet", "element", "name"] []
  a_value_of : Addr
  d_value_of : FuncData
  g_value_of : mg "value_of" = some (.ref a_value_of)
  F_value_of : Fun K "value_of" "value_of" s_value_of a_value_of d_value_of
  b_value_of : Binds K d_value_of ["sheet", "element", "name"] []
  a_styles : Addr
  d_styles : FuncData
  g_styles : mg "styles" = some (.ref a_styles)
  F_styles : Fun K "styles" "styles" s_styles a_styles d_styles
  b_styles : Binds K d_styles ["sheet", "element"] []
  a_computed : Addr
  d_computed : FuncData
  g_computed : mg "computed" = some (.ref a_computed)
  F_computed : Fun K "computed" "computed" s_computed a_computed d_computed
  b_computed : Binds K d_computed ["sheet", "document", "inherited"] []
  a_with_tag : Addr
  d_with_tag : FuncData
  g_with_tag : mg "with_tag" = some (.ref a_with_tag)
  F_with_tag : Fun K "with_tag" "with_tag" s_with_tag a_with_tag d_with_tag
  b_with_tag : Binds K d_with_tag ["element", "tag"] []
  a_toggled : Addr
  d_toggled : FuncData
  g_toggled : mg "toggled" = some (.ref a_toggled)
  F_toggled : Fun K "toggled" "toggled" s_toggled a_toggled d_toggled
  b_toggled : Binds K d_toggled ["sheet", "document", "inherited", "node", "tag"] []
  a__law_draw : Addr
  d__law_draw : FuncData
  g__law_draw : mg "_law_draw" = some (.ref a__law_draw)
  F__law_draw : Fun K "_law_draw" "_law_draw" s__law_draw a__law_draw d__law_draw
  b__law_draw : Binds K d__law_draw ["tape", "many"] []
  a__law_like : Addr
  d__law_like : FuncData
  g__law_like : mg "_law_like" = some (.ref a__law_like)
  F__law_like : Fun K "_law_like" "_law_like" s__law_like a__law_like d__law_like
  b__law_like : Binds K d__law_like ["one", "two"] []
  a__law_tags : Addr
  d__law_tags : FuncData
  g__law_tags : mg "_law_tags" = some (.ref a__law_tags)
  F__law_tags : Fun K "_law_tags" "_law_tags" s__law_tags a__law_tags d__law_tags
  b__law_tags : Binds K d__law_tags ["tape", "pool", "most"] []
  a__law_rule : Addr
  d__law_rule : FuncData
  g__law_rule : mg "_law_rule" = some (.ref a__law_rule)
  F__law_rule : Fun K "_law_rule" "_law_rule" s__law_rule a__law_rule d__law_rule
  b__law_rule : Binds K d__law_rule ["tape", "pool"] []
  a__law_sheet : Addr
  d__law_sheet : FuncData
  g__law_sheet : mg "_law_sheet" = some (.ref a__law_sheet)
  F__law_sheet : Fun K "_law_sheet" "_law_sheet" s__law_sheet a__law_sheet d__law_sheet
  b__law_sheet : Binds K d__law_sheet ["tape", "most", "pool"] []
  a__law_level : Addr
  d__law_level : FuncData
  g__law_level : mg "_law_level" = some (.ref a__law_level)
  F__law_level : Fun K "_law_level" "_law_level" s__law_level a__law_level d__law_level
  b__law_level : Binds K d__law_level ["rule"] []
  a__law_best : Addr
  d__law_best : FuncData
  g__law_best : mg "_law_best" = some (.ref a__law_best)
  F__law_best : Fun K "_law_best" "_law_best" s__law_best a__law_best d__law_best
  b__law_best : Binds K d__law_best ["sheet", "element", "name"] []
  a__law_value : Addr
  d__law_value : FuncData
  g__law_value : mg "_law_value" = some (.ref a__law_value)
  F__law_value : Fun K "_law_value" "_law_value" s__law_value a__law_value d__law_value
  b__law_value : Binds K d__law_value ["sheet", "element", "name"] []
  a__law_joined : Addr
  d__law_joined : FuncData
  g__law_joined : mg "_law_joined" = some (.ref a__law_joined)
  F__law_joined : Fun K "_law_joined" "_law_joined" s__law_joined a__law_joined d__law_joined
  b__law_joined : Binds K d__law_joined ["one", "other"] []
  a__law_document : Addr
  d__law_document : FuncData
  g__law_document : mg "_law_document" = some (.ref a__law_document)
  F__law_document : Fun K "_law_document" "_law_document" s__law_document a__law_document d__law_document
  b__law_document : Binds K d__law_document ["tape", "pool"] []
  a__law_found : Addr
  d__law_found : FuncData
  g__law_found : mg "_law_found" = some (.ref a__law_found)
  F__law_found : Fun K "_law_found" "_law_found" s__law_found a__law_found d__law_found
  b__law_found : Binds K d__law_found ["sheet", "document", "inherited", "node", "name"] []
  a__law_computed : Addr
  d__law_computed : FuncData
  g__law_computed : mg "_law_computed" = some (.ref a__law_computed)
  F__law_computed : Fun K "_law_computed" "_law_computed" s__law_computed a__law_computed d__law_computed
  b__law_computed : Binds K d__law_computed ["sheet", "document", "inherited"] []
section
variable {P : Program} {w : World} {K : PySem.W.Frag} {mg : Str → Option Value} {base : Heap}
theorem ok_matches (T : Tx K mg) : FnOk P w K mg base CX0 1 T.a_matches T.d_matches ["rule", "element"] (spD K 2 false C_matches) := by
  exact fn_body (ws := W_matches) T.F_matches sc_matches rfl (by decide) (fun cdv A outer s H E hr => via ((dss_one (ds_ret (de_b1 (cr_all rfl) dr_all rfl T.m_all (by decide +kernel) (de_b (df_e (df_lc (own := [("tag", 2)]) rfl sc_matches.nd (di_e (di_seq (de_ix (de_b (de_var (pv 0))) (de_b de_int) (fun _ _ => rfl)))) (blkOk_by rfl) (fun _ _ _ _ _ => (dg_name (pg_name (i := 2) sc_matches.nd rfl (by first | exact Or.inl rfl | exact Or.inr rfl)))) (fun _ _ _ _ _ => dts_nil) (fun _ _ _ _ _ => (de_cmp (op_inP hr.units) drDD (de_b (de_var (pv 2))) (de_b (de_var (pv 1))) rfl))))))))) rfl) body_matches
theorem ok_level (T : Tx K mg) : FnOk P w K mg base CX0 1 T.a_level T.d_level ["rule"] (spD K 1 false C_level) := by
  exact fn_body (ws := W_level) T.F_level sc_level rfl (by decide) (fun cdv A outer s H E hr => via ((dss_one (ds_ret (de_tup (da_cons (de_ix (de_b (de_var (pv 0))) (de_b de_int) (fun _ _ => rfl)) (da_cons (de_b1 call_len dr_len rfl T.m_len (by decide +kernel) (de_b (de_ix (de_b (de_var (pv 0))) (de_b de_int) (fun _ _ => rfl)))) da_nil)))))) rfl) body_level
theorem ok_matching (T : Tx K mg) : FnOk P w K mg base CX0 2 T.a_matching T.d_matching ["sheet", "element"] (spD K 2 true C_matching) := by
  have G_matches : FnOk P w K mg base CX0 1 T.a_matches T.d_matches ["rule", "element"] (spD K 2 false C_matches) := ok_matches T
  exact fn_body (ws := W_matching) T.F_matching sc_matching rfl (by decide) (fun cdv A outer s H E hr => via ((dss_one (ds_retF (df_lc (own := [("index", 2), ("rule", 3)]) rfl sc_matching.nd (di_e (di_enum rfl T.m_enumerate (de_var (pv 0)))) (blkOk_by rfl) (fun _ _ _ _ _ => (dg_tup rfl (dgs_cons (dg_name (pg_name (i := 2) sc_matching.nd rfl (by first | exact Or.inl rfl | exact Or.inr rfl))) (dgs_cons (dg_name (pg_name (i := 3) sc_matching.nd rfl (by first | exact Or.inl rfl | exact Or.inr rfl))) dgs_nil)))) (fun _ _ _ _ _ => (dts_one (dt_val (de_call G_matches hr rfl T.g_matches T.F_matches.kp T.b_matches (ar_d (de_var (pv 3)) (ar_d (de_var (pv 1)) ar_nil)))))) (fun _ _ _ _ _ => (de_var (pv 2))))))) rfl) body_matching
theorem ok_ranking (T : Tx K mg) : FnOk P w K mg base CX0 3 T.a_ranking T.d_ranking ["sheet", "element", "name"] (spD K 3 false C_ranking) := by
  have G_level : FnOk P w K mg base CX0 1 T.a_level T.d_level ["rule"] (spD K 1 false C_level) := ok_level T
  have G_matching : FnOk P w K mg base CX0 2 T.a_matching T.d_matching ["sheet", "element"] (spD K 2 true C_matching) := ok_matching T
  exact fn_body (ws := W_ranking) T.F_ranking sc_ranking rfl (by decide) (fun cdv A outer s H E hr => via ((dss_cons (ds_lc (i := 3) (own := [("index", 4)]) rfl sc_ranking.nd rfl rfl (sw_true rfl rfl rfl (by decide +kernel)) (di_e (di_seq (de_call G_matching hr rfl T.g_matching T.F_matching.kp T.b_matching (ar_d (de_var (pv 0)) (ar_d (de_var (pv 1)) ar_nil))))) (blkOk_by rfl) (fun _ _ _ _ _ => (dg_name (pg_name (i := 4) sc_ranking.nd rfl (by first | exact Or.inl rfl | exact Or.inr rfl)))) (fun _ _ _ _ _ => (dts_one (dt_cmp (op_eqP hr.units) drDD (de_b (de_ix (de_b (de_ix (de_b (de_var (pv 0))) (de_b (de_var (pv 4))) (fun _ _ => rfl))) (de_b de_int) (fun _ _ => rfl))) (de_b (de_var (pv 2))) (nomark _)))) (fun _ _ _ _ _ => (de_tup (da_cons (de_call G_level (hr.mono (by decide)) rfl T.g_level T.F_level.kp T.b_level (ar_d (de_ix (de_b (de_var (pv 0))) (de_b (de_var (pv 4))) (fun _ _ => rfl)) ar_nil)) (da_cons (de_var (pv 4)) da_nil)))))
      (dss_one (ds_ret (df_e (df_lc (own := [("index", 4), ("rank", 5)]) rfl sc_ranking.nd (di_e (di_seq (df_e (df_rev (de_b (df_e (df_b1 (cr_sortedD hr.units) dr_sorted rfl T.m_sorted (by decide +kernel) (de_b (de_var (pv 3)))))))))) (blkOk_by rfl) (fun _ _ _ _ _ => (dg_tup rfl (dgs_cons (dg_name (pg_name (i := 5) sc_ranking.nd rfl (by first | exact Or.inl rfl | exact Or.inr rfl))) (dgs_cons (dg_name (pg_name (i := 4) sc_ranking.nd rfl (by first | exact Or.inl rfl | exact Or.inr rfl))) dgs_nil)))) (fun _ _ _ _ _ => dts_nil) (fun _ _ _ _ _ => (de_var (pv 4))))))))) rfl) body_ranking
theorem ok_winner (T : Tx K mg) : FnOk P w K mg base CX0 4 T.a_winner T.d_winner ["sheet", "element", "name"] (spD K 3 false C_winner) := by
  have G_ranking : FnOk P w K mg base CX0 3 T.a_ranking T.d_ranking ["sheet", "element", "name"] (spD K 3 false C_ranking) := ok_ranking T
  exact fn_body (ws := W_winner) T.F_winner sc_winner rfl (by decide) (fun cdv A outer s H E hr => via ((dss_cons (ds_set (i := 3) sc_winner.nd rfl (by first | exact Or.inl rfl | exact Or.inr rfl) (de_call G_ranking hr rfl T.g_ranking T.F_ranking.kp T.b_ranking (ar_d (de_var (pv 0)) (ar_d (de_var (pv 1)) (ar_d (de_var (pv 2)) ar_nil)))))
      (dss_one (ds_ret (de_if (dt_cmp (op_neP hr.units) drDD (de_b (de_var (pv 3))) (de_b (df_e (df_lst da_nil))) (nomark _)) (de_ix (de_b (de_var (pv 3))) (de_b de_int) (fun _ _ => rfl)) de_non))))) rfl) body_winner
theorem ok_value_of (T : Tx K mg) : FnOk P w K mg base CX0 5 T.a_value_of T.d_value_of ["sheet", "element", "name"] (spD K 3 false C_value_of) := by
  have G_winner : FnOk P w K mg base CX0 4 T.a_winner T.d_winner ["sheet", "element", "name"] (spD K 3 false C_winner) := ok_winner T
  exact fn_body (ws := W_value_of) T.F_value_of sc_value_of rfl (by decide) (fun cdv A outer s H E hr => via ((dss_cons (ds_set (i := 3) sc_value_of.nd rfl (by first | exact Or.inl rfl | exact Or.inr rfl) (de_call G_winner hr rfl T.g_winner T.F_winner.kp T.b_winner (ar_d (de_var (pv 0)) (ar_d (de_var (pv 1)) (ar_d (de_var (pv 2)) ar_nil)))))
      (dss_one (ds_ret (de_if (dt_notN (de_b (de_var (pv 3)))) (de_ix (de_b (de_ix (de_b (de_var (pv 0))) (de_b (de_var (pv 3))) (fun _ _ => rfl))) (de_b de_int) (fun _ _ => rfl)) de_non))))) rfl) body_value_of
theorem ok_styles (T : Tx K mg) : FnOk P w K mg base CX0 6 T.a_styles T.d_styles ["sheet", "element"] (spD K 2 false C_styles) := by
  have G_matching : FnOk P w K mg base CX0 2 T.a_matching T.d_matching ["sheet", "element"] (spD K 2 true C_matching) := ok_matching T
  have G_value_of : FnOk P w K mg base CX0 5 T.a_value_of T.d_value_of ["sheet", "element", "name"] (spD K 3 false C_value_of) := ok_value_of T
  exact fn_body (ws := W_styles) T.F_styles sc_styles rfl (by decide) (fun cdv A outer s H E hr => via ((dss_cons (ds_set (i := 2) sc_styles.nd rfl (by first | exact Or.inl rfl | exact Or.inr rfl) (df_e (df_b1 (cr_sortedD hr.units) dr_sorted rfl T.m_sorted (by decide +kernel) (de_b (df_e (df_lc (own := [("index", 3)]) rfl sc_styles.nd (di_e (di_seq (de_call G_matching (hr.mono (by decide)) rfl T.g_matching T.F_matching.kp T.b_matching (ar_d (de_var (pv 0)) (ar_d (de_var (pv 1)) ar_nil))))) (blkOk_by rfl) (fun _ _ _ _ _ => (dg_name (pg_name (i := 3) sc_styles.nd rfl (by first | exact Or.inl rfl | exact Or.inr rfl)))) (fun _ _ _ _ _ => dts_nil) (fun _ _ _ _ _ => (de_ix (de_b (de_ix (de_b (de_var (pv 0))) (de_b (de_var (pv 3))) (fun _ _ => rfl))) (de_b de_int) (fun _ _ => rfl)))))))))
      (dss_cons (ds_lc (i := 4) (own := [("at", 5), ("name", 6)]) rfl sc_styles.nd rfl rfl (sw_true rfl rfl rfl (by decide +kernel)) (di_e (di_enum rfl T.m_enumerate (de_var (pv 2)))) (blkOk_by rfl) (fun _ _ _ _ _ => (dg_tup rfl (dgs_cons (dg_name (pg_name (i := 5) sc_styles.nd rfl (by first | exact Or.inl rfl | exact Or.inr rfl))) (dgs_cons (dg_name (pg_name (i := 6) sc_styles.nd rfl (by first | exact Or.inl rfl | exact Or.inr rfl))) dgs_nil)))) (fun _ _ _ _ _ => (dts_one (dt_cmp (op_niP hr.units) drDD (de_b (de_var (pv 6))) (de_b (de_slice (de_b (de_var (pv 2))) do_none (do_some (de_b (de_var (pv 5)))))) rfl))) (fun _ _ _ _ _ => (de_var (pv 6))))
      (dss_one (ds_ret (df_e (df_lc (own := [("name", 6)]) rfl sc_styles.nd (di_e (di_seq (de_var (pv 4)))) (blkOk_by rfl) (fun _ _ _ _ _ => (dg_name (pg_name (i := 6) sc_styles.nd rfl (by first | exact Or.inl rfl | exact Or.inr rfl)))) (fun _ _ _ _ _ => dts_nil) (fun _ _ _ _ _ => (de_tup (da_cons (de_var (pv 6)) (da_cons (de_call G_value_of hr rfl T.g_value_of T.F_value_of.kp T.b_value_of (ar_d (de_var (pv 0)) (ar_d (de_var (pv 1)) (ar_d (de_var (pv 6)) ar_nil)))) da_nil))))))))))) rfl) body_styles
theorem ok_computed (T : Tx K mg) : FnOk P w K mg base CX0 7 T.a_computed T.d_computed ["sheet", "document", "inherited"] (spD K 3 true C_computed) := by
  have G_styles : FnOk P w K mg base CX0 6 T.a_styles T.d_styles ["sheet", "element"] (spD K 2 false C_styles) := ok_styles T
  exact fn_body (ws := W_computed) T.F_computed sc_computed rfl (by decide) (fun cdv A outer s H E hr => via ((dss_cons (ds_setF (i := 3) sc_computed.nd rfl (by first | exact Or.inl rfl | exact Or.inr rfl) (df_lst da_nil))
      (dss_cons (ds_for PassesOwn.never rfl (di_seq (de_var (pv 1))) (dg_tup rfl (dgs_cons (dg_name (pg_name (i := 4) sc_computed.nd rfl (by first | exact Or.inl rfl | exact Or.inr rfl))) (dgs_cons (dg_name (pg_name (i := 5) sc_computed.nd rfl (by first | exact Or.inl rfl | exact Or.inr rfl))) dgs_nil)))
      (dss_cons (ds_dictOf (i := 6) rfl sc_computed.nd rfl (by first | exact Or.inl rfl | exact Or.inr rfl) rfl T.m_dict (by decide +kernel) (de_call G_styles hr rfl T.g_styles T.F_styles.kp T.b_styles (ar_d (de_var (pv 0)) (ar_d (de_var (pv 5)) ar_nil))))
      (dss_cons (ds_for PassesOwn.never rfl (di_seq (de_if (dt_notN (de_b (de_var (pv 4)))) (de_ix (db_own (pv 3)) (de_b (de_var (pv 4))) (fun _ _ => rfl)) (df_e (df_lst da_nil)))) (dg_tup rfl (dgs_cons (dg_name (pg_name (i := 7) sc_computed.nd rfl (by first | exact Or.inl rfl | exact Or.inr rfl))) (dgs_cons (dg_name (pg_name (i := 8) sc_computed.nd rfl (by first | exact Or.inl rfl | exact Or.inr rfl))) dgs_nil)))
      (dss_one (ds_if (dw_t (dw_and (dt_cmp (op_inP hr.units) drDD (de_b (de_var (pv 7))) (de_b (de_var (pv 2))) rfl) (dw_and1 (dt_noK (i := 6) (Nat.lt_of_le_of_lt (Nat.add_le_add_left (by decide) _) hr.units) (de_var (pv 7)) (pv 6)))))
      (dss_one (ds_kput (i := 6) (pv 6) (de_var (pv 7)) (de_var (pv 8)) (Nat.lt_of_le_of_lt (Nat.add_le_add_left (by decide) _) hr.units)))
      dss_nil)))
      (dss_one (ds_app (i := 3) (pe_bm PySem.F.plainAttrs_list PySem.F.slot_list_append PySem.F.type_list_append mt_append (pv 3) (pa_cons (df_e (df_sortedI rfl hr.units rfl T.m_sorted (by decide +kernel) (pv 6))) pa_nil)))))))
      (dss_one (ds_retO (pv 3)))))) rfl) body_computed
theorem ok_with_tag (T : Tx K mg) : FnOk P w K mg base CX0 1 T.a_with_tag T.d_with_tag ["element", "tag"] (spD K 2 false C_with_tag) := by
  exact fn_body (ws := W_with_tag) T.F_with_tag sc_with_tag rfl (by decide) (fun cdv A outer s H E hr => via ((dss_cons (ds_if (dt_cmp (op_inP hr.units) drDD (de_b (de_var (pv 1))) (de_b (de_var (pv 0))) rfl)
      (dss_one (ds_ret (de_t1 call_tuple_of dr_tuple rfl T.m_tuple (by decide +kernel) (de_b (df_e (df_lc (own := [("other", 2)]) rfl sc_with_tag.nd (di_e (di_seq (de_var (pv 0)))) (blkOk_by rfl) (fun _ _ _ _ _ => (dg_name (pg_name (i := 2) sc_with_tag.nd rfl (by first | exact Or.inl rfl | exact Or.inr rfl)))) (fun _ _ _ _ _ => (dts_one (dt_cmp (op_neP hr.units) drDD (de_b (de_var (pv 2))) (de_b (de_var (pv 1))) (nomark _)))) (fun _ _ _ _ _ => (de_var (pv 2)))))))))
      dss_nil)
      (dss_one (ds_ret (de_t1 call_tuple_of dr_tuple rfl T.m_tuple (by decide +kernel) (de_b (df_e (df_b1 (cr_sortedD hr.units) dr_sorted rfl T.m_sorted (by decide +kernel) (de_b (de_op op_addD dr_add (de_b (de_var (pv 0))) (de_b (de_tup (da_cons (de_var (pv 1)) da_nil))))))))))))) rfl) body_with_tag
theorem ok_toggled (T : Tx K mg) : FnOk P w K mg base CX0 8 T.a_toggled T.d_toggled ["sheet", "document", "inherited", "node", "tag"] (spD K 5 false C_toggled) := by
  have G_computed : FnOk P w K mg base CX0 7 T.a_computed T.d_computed ["sheet", "document", "inherited"] (spD K 3 true C_computed) := ok_computed T
  have G_with_tag : FnOk P w K mg base CX0 1 T.a_with_tag T.d_with_tag ["element", "tag"] (spD K 2 false C_with_tag) := ok_with_tag T
  exact fn_body (ws := W_toggled) T.F_toggled sc_toggled rfl (by decide) (fun cdv A outer s H E hr => via ((dss_cons (ds_asg (de_ix (de_b (de_var (pv 1))) (de_b (de_var (pv 3))) (fun _ _ => rfl)) (dg_tup rfl (dgs_cons (dg_name (pg_name (i := 5) sc_toggled.nd rfl (by first | exact Or.inl rfl | exact Or.inr rfl))) (dgs_cons (dg_name (pg_name (i := 6) sc_toggled.nd rfl (by first | exact Or.inl rfl | exact Or.inr rfl))) dgs_nil))))
      (dss_cons (ds_set (i := 7) sc_toggled.nd rfl (by first | exact Or.inl rfl | exact Or.inr rfl) (de_op op_addD dr_add (de_b (de_op op_addD dr_add (de_b (de_slice (de_b (de_var (pv 1))) do_none (do_some (de_b (de_var (pv 3)))))) (de_b (de_tup (da_cons (de_tup (da_cons (de_var (pv 5)) (da_cons (de_call G_with_tag (hr.mono (by decide)) rfl T.g_with_tag T.F_with_tag.kp T.b_with_tag (ar_d (de_var (pv 6)) (ar_d (de_var (pv 4)) ar_nil))) da_nil))) da_nil))))) (de_b (de_slice (de_b (de_var (pv 1))) (do_some (de_b (de_op op_addD dr_add (de_b (de_var (pv 3))) (de_b de_int)))) do_none))))
      (dss_cons (ds_asg (de_tup (da_cons (de_call G_computed hr rfl T.g_computed T.F_computed.kp T.b_computed (ar_d (de_var (pv 0)) (ar_d (de_var (pv 1)) (ar_d (de_var (pv 2)) ar_nil)))) (da_cons (de_call G_computed hr rfl T.g_computed T.F_computed.kp T.b_computed (ar_d (de_var (pv 0)) (ar_d (de_var (pv 7)) (ar_d (de_var (pv 2)) ar_nil)))) da_nil))) (dg_tup rfl (dgs_cons (dg_name (pg_name (i := 8) sc_toggled.nd rfl (by first | exact Or.inl rfl | exact Or.inr rfl))) (dgs_cons (dg_name (pg_name (i := 9) sc_toggled.nd rfl (by first | exact Or.inl rfl | exact Or.inr rfl))) dgs_nil))))
      (dss_one (ds_ret (df_e (df_lc (own := [("index", 10), ("own", 11)]) rfl sc_toggled.nd (di_e (di_enum rfl T.m_enumerate (de_var (pv 8)))) (blkOk_by rfl) (fun _ _ _ _ _ => (dg_tup rfl (dgs_cons (dg_name (pg_name (i := 10) sc_toggled.nd rfl (by first | exact Or.inl rfl | exact Or.inr rfl))) (dgs_cons (dg_name (pg_name (i := 11) sc_toggled.nd rfl (by first | exact Or.inl rfl | exact Or.inr rfl))) dgs_nil)))) (fun _ _ _ _ _ => (dts_one (dt_cmp (op_neP hr.units) drDD (de_b (de_var (pv 11))) (de_b (de_ix (de_b (de_var (pv 9))) (de_b (de_var (pv 10))) (fun _ _ => rfl))) (nomark _)))) (fun _ _ _ _ _ => (de_var (pv 10))))))))))) rfl) body_toggled
theorem ok__law_draw (T : Tx K mg) : FnOk P w K mg base CX0 1 T.a__law_draw T.d__law_draw ["tape", "many"] (spD K 2 false C_draw) := by
  exact ok_draw_of (ws := tDraw K) T.F__law_draw sc__law_draw rfl (fun cdv A outer s H E hr => via (pss_cons (ps_set (i := 2) sc__law_draw.nd rfl (.inl rfl) pe_int)
      (pss_cons (ps_if (pt_cmpR op_lt (pe_ix ix_list (pv 0) pe_int (fun _ _ => rfl)) (pv 1) (nomark _))
        (pss_cons (ps_set (i := 3) sc__law_draw.nd rfl (.inl rfl) pe_int)
        (pss_cons (ps_if (pt_cmpR op_gt (pe_callB call_len_seq (by rfl) T.m_len PySem.boot_len (pa_cons (pe_ix ix_list (pv 0) pe_int (fun _ _ => rfl)) pa_nil)) pe_int (nomark _))
          (pss_one (ps_set (i := 3) sc__law_draw.nd rfl (.inl rfl) (pe_ix ix_list (pe_ix ix_list (pv 0) pe_int (fun _ _ => rfl)) (pe_op op_mod (pe_ix ix_list (pv 0) pe_int (fun _ _ => rfl)) (pe_callB call_len_seq (by rfl) T.m_len PySem.boot_len (pa_cons (pe_ix ix_list (pv 0) pe_int (fun _ _ => rfl)) pa_nil))) (fun _ _ => rfl)))) pss_nil)
        (pss_cons (ps_if (PW.pt (pw_or (pt_cmpR op_ge (pe_ix ix_list (pv 0) pe_int (fun _ _ => rfl)) (pe_callB call_len_seq (by rfl) T.m_len PySem.boot_len (pa_cons (pe_ix ix_list (pv 0) pe_int (fun _ _ => rfl)) pa_nil)) (nomark _)) (pw_or1 (pt_cmpR op_lt (pv 3) (pe_op op_pow pe_int pe_int) (nomark _)))))
          (pss_cons (ps_set (i := 3) sc__law_draw.nd rfl (.inl rfl) (pe_op op_mod (pe_op op_add (pv 3) (pe_op op_mul pe_int (pe_ix ix_list (pv 0) pe_int (fun _ _ => rfl)))) (pv 2)))
          (pss_cons (ps_set (i := 3) sc__law_draw.nd rfl (.inl rfl) (pe_op op_mod (pe_op op_add (pe_op op_add (pe_op op_mul (pv 3) (pv 3)) (pe_op op_mul pe_int (pv 3))) pe_int) (pv 2)))
          (pss_one (ps_set (i := 3) sc__law_draw.nd rfl (.inl rfl) (pe_op op_mod (pe_op op_add (pe_op op_mul (pv 3) (pv 3)) pe_int) (pv 2)))))) pss_nil)
        (pss_cons (ps_asg (pe_op op_add (pe_ix ix_list (pv 0) pe_int (fun _ _ => rfl)) pe_int) (pg_sub (pv 0) pe_int set_list))
        (pss_one (ps_asg (pv 3) (pg_sub (pv 0) pe_int set_list))))))) pss_nil)
      (pss_cons (ps_set (i := 4) sc__law_draw.nd rfl (.inl rfl) (pe_op op_mod (pe_ix ix_list (pv 0) pe_int (fun _ _ => rfl)) (pv 1)))
      (pss_cons (ps_asg (pe_op op_fdivW (pe_ix ix_list (pv 0) pe_int (fun _ _ => rfl)) (pv 1)) (pg_sub (pv 0) pe_int set_list))
      (pss_one (ps_ret (pv 4))))))) rfl) body_draw
theorem ok__law_like (T : Tx K mg) : (n : Nat) → FnOk P w K mg base CX0 (0 + n) T.a__law_like T.d__law_like ["one", "two"] (spD K 2 false (C__law_like n))
  | 0 => fn_never never__law_like
  | n + 1 => by
    have G__law_like := ok__law_like T n
    exact fn_body (ws := W__law_like n) T.F__law_like sc__law_like rfl (by decide) (fun cdv A outer s H E hr => via ((dss_cons (ds_if (dt_val (de_isi2 (T := "list") (U := "tuple") (.inr (.inr (.inr (.inl rfl)))) (.inr (.inr (.inr (.inr rfl)))) rfl T.m_isinstance rfl T.m_list (by decide +kernel) rfl T.m_tuple (by decide +kernel) (de_b (de_var (pv 0)))))
      (dss_cons (ds_if (dw_t (dw_or (dt_cmp (op_neP hr.units) drDD (de_b (de_isi (T := "list") (.inr (.inr (.inr (.inl rfl)))) rfl T.m_isinstance rfl T.m_list (by decide +kernel) (de_b (de_var (pv 0))))) (de_b (de_isi (T := "list") (.inr (.inr (.inr (.inl rfl)))) rfl T.m_isinstance rfl T.m_list (by decide +kernel) (de_b (de_var (pv 1))))) (nomark _)) (dw_or1 (dt_cmp (op_neP hr.units) drDD (de_b (de_isi (T := "tuple") (.inr (.inr (.inr (.inr rfl)))) rfl T.m_isinstance rfl T.m_tuple (by decide +kernel) (de_b (de_var (pv 0))))) (de_b (de_isi (T := "tuple") (.inr (.inr (.inr (.inr rfl)))) rfl T.m_isinstance rfl T.m_tuple (by decide +kernel) (de_b (de_var (pv 1))))) (nomark _)))))
      (dss_one (ds_ret de_bl))
      dss_nil)
      (dss_cons (ds_if (dt_cmp (op_neP hr.units) drDD (de_b (de_b1 call_len dr_len rfl T.m_len (by decide +kernel) (de_b (de_var (pv 0))))) (de_b (de_b1 call_len dr_len rfl T.m_len (by decide +kernel) (de_b (de_var (pv 1))))) (nomark _))
      (dss_one (ds_ret de_bl))
      dss_nil)
      (dss_one (ds_ret (de_cmp (op_eqP hr.units) drDD (de_b (df_e (df_lc (own := [("k", 2)]) rfl sc__law_like.nd (di_e (di_range rfl T.m_range (de_b1 call_len dr_len rfl T.m_len (by decide +kernel) (de_b (de_var (pv 0)))))) (blkOk_by rfl) (fun _ _ _ _ _ => (dg_name (pg_name (i := 2) sc__law_like.nd rfl (by first | exact Or.inl rfl | exact Or.inr rfl)))) (fun _ _ _ _ _ => (dts_one (dt_not (dt_val (de_call G__law_like hr rfl T.g__law_like T.F__law_like.kp T.b__law_like (ar_d (de_ix (de_b (de_var (pv 0))) (de_b (de_var (pv 2))) (fun _ _ => rfl)) (ar_d (de_ix (de_b (de_var (pv 1))) (de_b (de_var (pv 2))) (fun _ _ => rfl)) ar_nil))))))) (fun _ _ _ _ _ => (de_var (pv 2)))))) (de_b (df_e (df_lst da_nil))) (nomark _))))))
      dss_nil)
      (dss_cons (ds_if (dt_val (de_isi2 (T := "list") (U := "tuple") (.inr (.inr (.inr (.inl rfl)))) (.inr (.inr (.inr (.inr rfl)))) rfl T.m_isinstance rfl T.m_list (by decide +kernel) rfl T.m_tuple (by decide +kernel) (de_b (de_var (pv 1)))))
      (dss_one (ds_ret de_bl))
      dss_nil)
      (dss_one (ds_ret (de_and (de_cmp (op_eqP hr.units) drDD (de_b (de_isi (T := "bool") (.inr (.inl rfl)) rfl T.m_isinstance rfl T.m_bool (by decide +kernel) (de_b (de_var (pv 0))))) (de_b (de_isi (T := "bool") (.inr (.inl rfl)) rfl T.m_isinstance rfl T.m_bool (by decide +kernel) (de_b (de_var (pv 1))))) (nomark _)) (de_one (de_cmp (op_eqP hr.units) drDD (de_b (de_var (pv 0))) (de_b (de_var (pv 1))) (nomark _))))))))) rfl) (body__law_like n)
theorem ok__law_tags (T : Tx K mg) : FnOk P w K mg base CX0 2 T.a__law_tags T.d__law_tags ["tape", "pool", "most"] (spD K 3 false C__law_tags) := by
  have G__law_draw : FnOk P w K mg base CX0 1 T.a__law_draw T.d__law_draw ["tape", "many"] (spD K 2 false C_draw) := ok__law_draw T
  exact fn_body (ws := W__law_tags) T.F__law_tags sc__law_tags rfl (by decide) (fun cdv A outer s H E hr => via ((dss_cons (ds_set (i := 3) sc__law_tags.nd rfl (by first | exact Or.inl rfl | exact Or.inr rfl) (de_tup da_nil))
      (dss_cons (ds_for PassesOwn.never rfl (di_seq (de_var (pv 1))) (dg_name (pg_name (i := 4) sc__law_tags.nd rfl (by first | exact Or.inl rfl | exact Or.inr rfl)))
      (dss_one (ds_if (dw_t (dw_and (dt_cmp (op_ltP hr.units) drDD (de_b (de_b1 call_len dr_len rfl T.m_len (by decide +kernel) (de_b (de_var (pv 3))))) (de_b (de_var (pv 2))) (nomark _)) (dw_and1 (dt_cmp (op_eqP hr.units) drDD (de_b (de_call G__law_draw hr rfl T.g__law_draw T.F__law_draw.kp T.b__law_draw (ar_o (i := 0) (pv 0) (ar_d de_int ar_nil)))) (de_b de_int) (nomark _)))))
      (dss_one (ds_set (i := 3) sc__law_tags.nd rfl (by first | exact Or.inl rfl | exact Or.inr rfl) (de_op op_addD dr_add (de_b (de_var (pv 3))) (de_b (de_tup (da_cons (de_var (pv 4)) da_nil))))))
      dss_nil)))
      (dss_one (ds_ret (de_var (pv 3))))))) rfl) body__law_tags
theorem ok__law_rule (T : Tx K mg) : FnOk P w K mg base CX0 3 T.a__law_rule T.d__law_rule ["tape", "pool"] (spD K 2 false C__law_rule) := by
  have G__law_draw : FnOk P w K mg base CX0 1 T.a__law_draw T.d__law_draw ["tape", "many"] (spD K 2 false C_draw) := ok__law_draw T
  have G__law_tags : FnOk P w K mg base CX0 2 T.a__law_tags T.d__law_tags ["tape", "pool", "most"] (spD K 3 false C__law_tags) := ok__law_tags T
  exact fn_body (ws := W__law_rule) T.F__law_rule sc__law_rule rfl (by decide) (fun cdv A outer s H E hr => via ((dss_cons (ds_set (i := 2) sc__law_rule.nd rfl (by first | exact Or.inl rfl | exact Or.inr rfl) (de_ix (de_b (df_e (df_lst (da_cons de_int (da_cons de_int (da_cons de_int (da_cons de_int (da_cons de_int da_nil)))))))) (de_b (de_call G__law_draw (hr.mono (by decide)) rfl T.g__law_draw T.F__law_draw.kp T.b__law_draw (ar_o (i := 0) (pv 0) (ar_d de_int ar_nil)))) (fun _ _ => rfl)))
      (dss_cons (ds_set (i := 3) sc__law_rule.nd rfl (by first | exact Or.inl rfl | exact Or.inr rfl) (de_ix (de_b (df_e (df_lst (da_cons de_str (da_cons de_str (da_cons de_str da_nil)))))) (de_b (de_call G__law_draw (hr.mono (by decide)) rfl T.g__law_draw T.F__law_draw.kp T.b__law_draw (ar_o (i := 0) (pv 0) (ar_d de_int ar_nil)))) (fun _ _ => rfl)))
      (dss_one (ds_ret (de_tup (da_cons (de_call G__law_tags hr rfl T.g__law_tags T.F__law_tags.kp T.b__law_tags (ar_o (i := 0) (pv 0) (ar_d (de_var (pv 1)) (ar_d (de_op op_addD dr_add (de_b de_int) (de_b (de_call G__law_draw (hr.mono (by decide)) rfl T.g__law_draw T.F__law_draw.kp T.b__law_draw (ar_o (i := 0) (pv 0) (ar_d de_int ar_nil))))) ar_nil)))) (da_cons (de_var (pv 2)) (da_cons (de_var (pv 3)) (da_cons (de_ix (de_b (df_e (df_lst (da_cons de_str (da_cons de_str (da_cons de_str da_nil)))))) (de_b (de_call G__law_draw (hr.mono (by decide)) rfl T.g__law_draw T.F__law_draw.kp T.b__law_draw (ar_o (i := 0) (pv 0) (ar_d de_int ar_nil)))) (fun _ _ => rfl)) da_nil)))))))))) rfl) body__law_rule
theorem ok__law_sheet (T : Tx K mg) : FnOk P w K mg base CX0 4 T.a__law_sheet T.d__law_sheet ["tape", "most", "pool"] (spD K 3 false C__law_sheet) := by
  have G__law_draw : FnOk P w K mg base CX0 1 T.a__law_draw T.d__law_draw ["tape", "many"] (spD K 2 false C_draw) := ok__law_draw T
  have G__law_rule : FnOk P w K mg base CX0 3 T.a__law_rule T.d__law_rule ["tape", "pool"] (spD K 2 false C__law_rule) := ok__law_rule T
  exact fn_body (ws := W__law_sheet) T.F__law_sheet sc__law_sheet rfl (by decide) (fun cdv A outer s H E hr => via ((dss_cons (ds_set (i := 3) sc__law_sheet.nd rfl (by first | exact Or.inl rfl | exact Or.inr rfl) (de_tup da_nil))
      (dss_cons (ds_for PassesOwn.never rfl (di_range rfl T.m_range (de_call G__law_draw (hr.mono (by decide)) rfl T.g__law_draw T.F__law_draw.kp T.b__law_draw (ar_o (i := 0) (pv 0) (ar_d (de_op op_addD dr_add (de_b (de_var (pv 1))) (de_b de_int)) ar_nil)))) (dg_name (pg_name (i := 4) sc__law_sheet.nd rfl (by first | exact Or.inl rfl | exact Or.inr rfl)))
      (dss_cons (ds_set (i := 5) sc__law_sheet.nd rfl (by first | exact Or.inl rfl | exact Or.inr rfl) (de_call G__law_rule hr rfl T.g__law_rule T.F__law_rule.kp T.b__law_rule (ar_o (i := 0) (pv 0) (ar_d (de_var (pv 2)) ar_nil))))
      (dss_one (ds_if (dt_cmp (op_niP hr.units) drDD (de_b (de_var (pv 5))) (de_b (de_var (pv 3))) rfl)
      (dss_one (ds_set (i := 3) sc__law_sheet.nd rfl (by first | exact Or.inl rfl | exact Or.inr rfl) (de_op op_addD dr_add (de_b (de_var (pv 3))) (de_b (de_tup (da_cons (de_var (pv 5)) da_nil))))))
      dss_nil))))
      (dss_one (ds_ret (de_var (pv 3))))))) rfl) body__law_sheet
theorem ok__law_level (T : Tx K mg) : FnOk P w K mg base CX0 1 T.a__law_level T.d__law_level ["rule"] (spD K 1 false C__law_level) := by
  exact fn_body (ws := W__law_level) T.F__law_level sc__law_level rfl (by decide) (fun cdv A outer s H E hr => via ((dss_one (ds_ret (de_tup (da_cons (de_ix (de_b (de_var (pv 0))) (de_b de_int) (fun _ _ => rfl)) (da_cons (de_b1 call_len dr_len rfl T.m_len (by decide +kernel) (de_b (de_ix (de_b (de_var (pv 0))) (de_b de_int) (fun _ _ => rfl)))) da_nil)))))) rfl) body__law_level
theorem ok__law_best (T : Tx K mg) : FnOk P w K mg base CX0 2 T.a__law_best T.d__law_best ["sheet", "element", "name"] (spD K 3 false C__law_best) := by
  have G__law_level : FnOk P w K mg base CX0 1 T.a__law_level T.d__law_level ["rule"] (spD K 1 false C__law_level) := ok__law_level T
  exact fn_body (ws := W__law_best) T.F__law_best sc__law_best rfl (by decide) (fun cdv A outer s H E hr => via ((dss_cons (ds_set (i := 3) sc__law_best.nd rfl (by first | exact Or.inl rfl | exact Or.inr rfl) de_non)
      (dss_cons (ds_for PassesOwn.never rfl (di_enum rfl T.m_enumerate (de_var (pv 0))) (dg_tup rfl (dgs_cons (dg_name (pg_name (i := 4) sc__law_best.nd rfl (by first | exact Or.inl rfl | exact Or.inr rfl))) (dgs_cons (dg_name (pg_name (i := 5) sc__law_best.nd rfl (by first | exact Or.inl rfl | exact Or.inr rfl))) dgs_nil)))
      (dss_one (ds_if (dw_t (dw_and (dt_cmp (op_eqP hr.units) drDD (de_b (de_ix (de_b (de_var (pv 5))) (de_b de_int) (fun _ _ => rfl))) (de_b (de_var (pv 2))) (nomark _)) (dw_and1 (dt_cmp (op_eqP hr.units) drDD (de_b (df_e (df_lc (own := [("tag", 6)]) rfl sc__law_best.nd (di_e (di_seq (de_ix (de_b (de_var (pv 5))) (de_b de_int) (fun _ _ => rfl)))) (blkOk_by rfl) (fun _ _ _ _ _ => (dg_name (pg_name (i := 6) sc__law_best.nd rfl (by first | exact Or.inl rfl | exact Or.inr rfl)))) (fun _ _ _ _ _ => (dts_one (dt_cmp (op_niP hr.units) drDD (de_b (de_var (pv 6))) (de_b (de_var (pv 1))) rfl))) (fun _ _ _ _ _ => (de_var (pv 6)))))) (de_b (df_e (df_lst da_nil))) (nomark _)))))
      (dss_one (ds_if (dw_t (dw_or (dt_isN (de_b (de_var (pv 3)))) (dw_or1 (dt_cmp (op_geP hr.units) drDD (de_b (de_call G__law_level hr rfl T.g__law_level T.F__law_level.kp T.b__law_level (ar_d (de_var (pv 5)) ar_nil))) (de_b (de_call G__law_level hr rfl T.g__law_level T.F__law_level.kp T.b__law_level (ar_d (de_ix (de_b (de_var (pv 0))) (de_b (de_var (pv 3))) (fun _ _ => rfl)) ar_nil))) (nomark _)))))
      (dss_one (ds_set (i := 3) sc__law_best.nd rfl (by first | exact Or.inl rfl | exact Or.inr rfl) (de_var (pv 4))))
      dss_nil))
      dss_nil)))
      (dss_one (ds_ret (de_var (pv 3))))))) rfl) body__law_best
theorem ok__law_value (T : Tx K mg) : FnOk P w K mg base CX0 3 T.a__law_value T.d__law_value ["sheet", "element", "name"] (spD K 3 false C__law_value) := by
  have G__law_best : FnOk P w K mg base CX0 2 T.a__law_best T.d__law_best ["sheet", "element", "name"] (spD K 3 false C__law_best) := ok__law_best T
  exact fn_body (ws := W__law_value) T.F__law_value sc__law_value rfl (by decide) (fun cdv A outer s H E hr => via ((dss_cons (ds_set (i := 3) sc__law_value.nd rfl (by first | exact Or.inl rfl | exact Or.inr rfl) (de_call G__law_best hr rfl T.g__law_best T.F__law_best.kp T.b__law_best (ar_d (de_var (pv 0)) (ar_d (de_var (pv 1)) (ar_d (de_var (pv 2)) ar_nil)))))
      (dss_one (ds_ret (de_if (dt_isN (de_b (de_var (pv 3)))) de_non (de_ix (de_b (de_ix (de_b (de_var (pv 0))) (de_b (de_var (pv 3))) (fun _ _ => rfl))) (de_b de_int) (fun _ _ => rfl))))))) rfl) body__law_value
theorem ok__law_joined (T : Tx K mg) : FnOk P w K mg base CX0 1 T.a__law_joined T.d__law_joined ["one", "other"] (spD K 2 false C__law_joined) := by
  exact fn_body (ws := W__law_joined) T.F__law_joined sc__law_joined rfl (by decide) (fun cdv A outer s H E hr => via ((dss_one (ds_ret (de_t1 call_tuple_of dr_tuple rfl T.m_tuple (by decide +kernel) (de_b (df_e (df_sortedSet rfl hr.units rfl T.m_sorted rfl T.m_set (de_b (de_op op_addD dr_add (de_b (de_var (pv 0))) (de_b (de_var (pv 1)))))))))))) rfl) body__law_joined
theorem ok__law_document (T : Tx K mg) : FnOk P w K mg base CX0 3 T.a__law_document T.d__law_document ["tape", "pool"] (spD K 2 false C__law_document) := by
  have G__law_draw : FnOk P w K mg base CX0 1 T.a__law_draw T.d__law_draw ["tape", "many"] (spD K 2 false C_draw) := ok__law_draw T
  have G__law_tags : FnOk P w K mg base CX0 2 T.a__law_tags T.d__law_tags ["tape", "pool", "most"] (spD K 3 false C__law_tags) := ok__law_tags T
  exact fn_body (ws := W__law_document) T.F__law_document sc__law_document rfl (by decide) (fun cdv A outer s H E hr => via ((dss_cons (ds_set (i := 2) sc__law_document.nd rfl (by first | exact Or.inl rfl | exact Or.inr rfl) (de_tup da_nil))
      (dss_cons (ds_for PassesOwn.never rfl (di_range rfl T.m_range (de_op op_addD dr_add (de_b de_int) (de_b (de_call G__law_draw (hr.mono (by decide)) rfl T.g__law_draw T.F__law_draw.kp T.b__law_draw (ar_o (i := 0) (pv 0) (ar_d de_int ar_nil)))))) (dg_name (pg_name (i := 3) sc__law_document.nd rfl (by first | exact Or.inl rfl | exact Or.inr rfl)))
      (dss_cons (ds_set (i := 4) sc__law_document.nd rfl (by first | exact Or.inl rfl | exact Or.inr rfl) (de_if (dt_cmp (op_eqP hr.units) drDD (de_b (de_var (pv 3))) (de_b de_int) (nomark _)) de_non (de_call G__law_draw (hr.mono (by decide)) rfl T.g__law_draw T.F__law_draw.kp T.b__law_draw (ar_o (i := 0) (pv 0) (ar_d (de_var (pv 3)) ar_nil)))))
      (dss_one (ds_set (i := 2) sc__law_document.nd rfl (by first | exact Or.inl rfl | exact Or.inr rfl) (de_op op_addD dr_add (de_b (de_var (pv 2))) (de_b (de_tup (da_cons (de_tup (da_cons (de_var (pv 4)) (da_cons (de_call G__law_tags hr rfl T.g__law_tags T.F__law_tags.kp T.b__law_tags (ar_o (i := 0) (pv 0) (ar_d (de_var (pv 1)) (ar_d (de_b1 call_len dr_len rfl T.m_len (by decide +kernel) (de_b (de_var (pv 1)))) ar_nil)))) da_nil))) da_nil))))))))
      (dss_one (ds_ret (de_var (pv 2))))))) rfl) body__law_document
theorem ok__law_found (T : Tx K mg) : FnOk P w K mg base CX0 4 T.a__law_found T.d__law_found ["sheet", "document", "inherited", "node", "name"] (spD K 5 false C__law_found) := by
  have G__law_value : FnOk P w K mg base CX0 3 T.a__law_value T.d__law_value ["sheet", "element", "name"] (spD K 3 false C__law_value) := ok__law_value T
  exact fn_body (ws := W__law_found) T.F__law_found sc__law_found rfl (by decide) (fun cdv A outer s H E hr => via ((dss_cons (ds_while PassesOwn.never (dt_notN (de_b (de_var (pv 3))))
      (dss_cons (ds_set (i := 5) sc__law_found.nd rfl (by first | exact Or.inl rfl | exact Or.inr rfl) (de_call G__law_value hr rfl T.g__law_value T.F__law_value.kp T.b__law_value (ar_d (de_var (pv 0)) (ar_d (de_ix (de_b (de_ix (de_b (de_var (pv 1))) (de_b (de_var (pv 3))) (fun _ _ => rfl))) (de_b de_int) (fun _ _ => rfl)) (ar_d (de_var (pv 4)) ar_nil)))))
      (dss_cons (ds_if (dw_t (dw_or (dt_notN (de_b (de_var (pv 5)))) (dw_or1 (dt_cmp (op_niP hr.units) drDD (de_b (de_var (pv 4))) (de_b (de_var (pv 2))) rfl))))
      (dss_one (ds_ret (de_var (pv 5))))
      dss_nil)
      (dss_one (ds_set (i := 3) sc__law_found.nd rfl (by first | exact Or.inl rfl | exact Or.inr rfl) (de_ix (de_b (de_ix (de_b (de_var (pv 1))) (de_b (de_var (pv 3))) (fun _ _ => rfl))) (de_b de_int) (fun _ _ => rfl)))))))
      (dss_one (ds_ret de_non)))) rfl) body__law_found
theorem ok__law_computed (T : Tx K mg) : FnOk P w K mg base CX0 5 T.a__law_computed T.d__law_computed ["sheet", "document", "inherited"] (spD K 3 false C__law_computed) := by
  have G__law_found : FnOk P w K mg base CX0 4 T.a__law_found T.d__law_found ["sheet", "document", "inherited", "node", "name"] (spD K 5 false C__law_found) := ok__law_found T
  exact fn_body (ws := W__law_computed) T.F__law_computed sc__law_computed rfl (by decide) (fun cdv A outer s H E hr => via ((dss_cons (ds_setF (i := 3) sc__law_computed.nd rfl (by first | exact Or.inl rfl | exact Or.inr rfl) (df_lst da_nil))
      (dss_cons (ds_for PassesOwn.never rfl (di_range rfl T.m_range (de_b1 call_len dr_len rfl T.m_len (by decide +kernel) (de_b (de_var (pv 1))))) (dg_name (pg_name (i := 4) sc__law_computed.nd rfl (by first | exact Or.inl rfl | exact Or.inr rfl)))
      (dss_cons (ds_lc (i := 5) (own := [("name", 6)]) rfl sc__law_computed.nd rfl rfl (sw_true rfl rfl rfl (by decide +kernel)) (di_e (di_seq (de_tup (da_cons de_str (da_cons de_str da_nil))))) (blkOk_by rfl) (fun _ _ _ _ _ => (dg_name (pg_name (i := 6) sc__law_computed.nd rfl (by first | exact Or.inl rfl | exact Or.inr rfl)))) (fun _ _ _ _ _ => dts_nil) (fun _ _ _ _ _ => (de_tup (da_cons (de_var (pv 6)) (da_cons (de_call G__law_found hr rfl T.g__law_found T.F__law_found.kp T.b__law_found (ar_d (de_var (pv 0)) (ar_d (de_var (pv 1)) (ar_d (de_var (pv 2)) (ar_d (de_var (pv 4)) (ar_d (de_var (pv 6)) ar_nil)))))) da_nil)))))
      (dss_one (ds_app (i := 3) (pe_bm PySem.F.plainAttrs_list PySem.F.slot_list_append PySem.F.type_list_append mt_append (pv 3) (pa_cons (df_e (df_lc (own := [("row", 7)]) rfl sc__law_computed.nd (di_e (di_seq (de_var (pv 5)))) (blkOk_by rfl) (fun _ _ _ _ _ => (dg_name (pg_name (i := 7) sc__law_computed.nd rfl (by first | exact Or.inl rfl | exact Or.inr rfl)))) (fun _ _ _ _ _ => (dts_one (dt_notN (de_b (de_ix (de_b (de_var (pv 7))) (de_b de_int) (fun _ _ => rfl)))))) (fun _ _ _ _ _ => (de_var (pv 7))))) pa_nil))))))
      (dss_one (ds_retO (pv 3)))))) rfl) body__law_computed
theorem ok_law (T : Tx K mg) {fa : Addr} {fda : FuncData} (F : Fun K "law" "law" s_law fa fda) : FnOk P w K mg base CX0 9 fa fda ["script"] (spLaw K) := by
  have G_computed : FnOk P w K mg base CX0 7 T.a_computed T.d_computed ["sheet", "document", "inherited"] (spD K 3 true C_computed) := ok_computed T
  have G_toggled : FnOk P w K mg base CX0 8 T.a_toggled T.d_toggled ["sheet", "document", "inherited", "node", "tag"] (spD K 5 false C_toggled) := ok_toggled T
  have G__law_draw : FnOk P w K mg base CX0 1 T.a__law_draw T.d__law_draw ["tape", "many"] (spD K 2 false C_draw) := ok__law_draw T
  have G__law_like : FnOk P w K mg base CX0 6 T.a__law_like T.d__law_like ["one", "two"] (spD K 2 false (C__law_like 6)) := ok__law_like T 6
  have G__law_sheet : FnOk P w K mg base CX0 4 T.a__law_sheet T.d__law_sheet ["tape", "most", "pool"] (spD K 3 false C__law_sheet) := ok__law_sheet T
  have G__law_joined : FnOk P w K mg base CX0 1 T.a__law_joined T.d__law_joined ["one", "other"] (spD K 2 false C__law_joined) := ok__law_joined T
  have G__law_document : FnOk P w K mg base CX0 3 T.a__law_document T.d__law_document ["tape", "pool"] (spD K 2 false C__law_document) := ok__law_document T
  have G__law_computed : FnOk P w K mg base CX0 5 T.a__law_computed T.d__law_computed ["sheet", "document", "inherited"] (spD K 3 false C__law_computed) := ok__law_computed T
  exact law_of (ws := W_law) F sc_law (fun cdv A outer s H E hr => via (pss_cons (ps_set (i := 1) sc_law.nd rfl (by first | exact Or.inl rfl | exact Or.inr rfl) (pe_lst (pa_cons (pe_callTy call_list_of rfl T.m_list (by decide +kernel) (pa_cons (pv 0) pa_nil)) (pa_cons pe_int (pa_cons pe_int pa_nil))))) (dss_cons (ds_set (i := 2) sc_law.nd rfl (by first | exact Or.inl rfl | exact Or.inr rfl) (de_tup (da_cons de_str (da_cons de_str (da_cons de_str (da_cons de_str da_nil))))))
      (dss_cons (ds_for PassesOwn.never rfl (di_range rfl T.m_range de_int) (dg_name (pg_name (i := 3) sc_law.nd rfl (by first | exact Or.inl rfl | exact Or.inr rfl)))
      (dss_cons (ds_many2 (i := 4) (j := 5) rfl sc_law.nd rfl rfl (by decide) rfl rfl (ao_d (de_call G__law_sheet (hr.mono (by decide)) rfl T.g__law_sheet T.F__law_sheet.kp T.b__law_sheet (ar_o (i := 1) (pv 1) (ar_d de_int (ar_d (de_var (pv 2)) ar_nil)))) (ao_d (de_call G__law_document (hr.mono (by decide)) rfl T.g__law_document T.F__law_document.kp T.b__law_document (ar_o (i := 1) (pv 1) (ar_d (de_var (pv 2)) ar_nil))) ao_nil)) rfl)
      (dss_cons (ds_set (i := 6) sc_law.nd rfl (by first | exact Or.inl rfl | exact Or.inr rfl) (de_ix (de_b (df_e (df_lst (da_cons (de_tup da_nil) (da_cons (de_tup (da_cons de_str da_nil)) (da_cons (de_tup (da_cons de_str (da_cons de_str da_nil))) (da_cons (de_tup (da_cons de_str (da_cons de_str da_nil))) da_nil))))))) (de_b (de_call G__law_draw (hr.mono (by decide)) rfl T.g__law_draw T.F__law_draw.kp T.b__law_draw (ar_o (i := 1) (pv 1) (ar_d de_int ar_nil)))) (fun _ _ => rfl)))
      (dss_cons (ds_set (i := 7) sc_law.nd rfl (by first | exact Or.inl rfl | exact Or.inr rfl) (de_call G_computed (hr.mono (by decide)) rfl T.g_computed T.F_computed.kp T.b_computed (ar_d (de_var (pv 4)) (ar_d (de_var (pv 5)) (ar_d (de_var (pv 6)) ar_nil)))))
      (dss_cons (ds_if (dt_not (dt_val (de_call G__law_like (hr.mono (by decide)) rfl T.g__law_like T.F__law_like.kp T.b__law_like (ar_d (de_var (pv 7)) (ar_d (de_call G__law_computed (hr.mono (by decide)) rfl T.g__law_computed T.F__law_computed.kp T.b__law_computed (ar_d (de_var (pv 4)) (ar_d (de_var (pv 5)) (ar_d (de_var (pv 6)) ar_nil)))) ar_nil)))))
      (dss_one (ds_ret de_bl))
      dss_nil)
      (dss_one (ds_for PassesOwn.never rfl (di_range rfl T.m_range de_int) (dg_name (pg_name (i := 8) sc_law.nd rfl (by first | exact Or.inl rfl | exact Or.inr rfl)))
      (dss_cons (ds_asg (de_tup (da_cons (de_call G__law_draw (hr.mono (by decide)) rfl T.g__law_draw T.F__law_draw.kp T.b__law_draw (ar_o (i := 1) (pv 1) (ar_d (de_b1 call_len dr_len rfl T.m_len (by decide +kernel) (de_b (de_var (pv 5)))) ar_nil))) (da_cons (de_ix (de_b (df_e (df_lst (da_cons de_str (da_cons de_str (da_cons de_str (da_cons de_str da_nil))))))) (de_b (de_call G__law_draw (hr.mono (by decide)) rfl T.g__law_draw T.F__law_draw.kp T.b__law_draw (ar_o (i := 1) (pv 1) (ar_d de_int ar_nil)))) (fun _ _ => rfl)) da_nil))) (dg_tup rfl (dgs_cons (dg_name (pg_name (i := 9) sc_law.nd rfl (by first | exact Or.inl rfl | exact Or.inr rfl))) (dgs_cons (dg_name (pg_name (i := 10) sc_law.nd rfl (by first | exact Or.inl rfl | exact Or.inr rfl))) dgs_nil))))
      (dss_cons (ds_asg (de_ix (de_b (de_var (pv 5))) (de_b (de_var (pv 9))) (fun _ _ => rfl)) (dg_tup rfl (dgs_cons (dg_name (pg_name (i := 11) sc_law.nd rfl (by first | exact Or.inl rfl | exact Or.inr rfl))) (dgs_cons (dg_name (pg_name (i := 12) sc_law.nd rfl (by first | exact Or.inl rfl | exact Or.inr rfl))) dgs_nil))))
      (dss_cons (ds_set (i := 13) sc_law.nd rfl (by first | exact Or.inl rfl | exact Or.inr rfl) (de_if (dt_cmp (op_inP hr.units) drDD (de_b (de_var (pv 10))) (de_b (de_var (pv 12))) rfl) (de_t1 call_tuple_of dr_tuple rfl T.m_tuple (by decide +kernel) (de_b (df_e (df_lc (own := [("own", 14)]) rfl sc_law.nd (di_e (di_seq (de_var (pv 12)))) (blkOk_by rfl) (fun _ _ _ _ _ => (dg_name (pg_name (i := 14) sc_law.nd rfl (by first | exact Or.inl rfl | exact Or.inr rfl)))) (fun _ _ _ _ _ => (dts_one (dt_cmp (op_neP hr.units) drDD (de_b (de_var (pv 14))) (de_b (de_var (pv 10))) (nomark _)))) (fun _ _ _ _ _ => (de_var (pv 14))))))) (de_call G__law_joined (hr.mono (by decide)) rfl T.g__law_joined T.F__law_joined.kp T.b__law_joined (ar_d (de_var (pv 12)) (ar_d (de_tup (da_cons (de_var (pv 10)) da_nil)) ar_nil)))))
      (dss_cons (ds_set (i := 15) sc_law.nd rfl (by first | exact Or.inl rfl | exact Or.inr rfl) (de_op op_addD dr_add (de_b (de_op op_addD dr_add (de_b (de_slice (de_b (de_var (pv 5))) do_none (do_some (de_b (de_var (pv 9)))))) (de_b (de_tup (da_cons (de_tup (da_cons (de_var (pv 11)) (da_cons (de_var (pv 13)) da_nil))) da_nil))))) (de_b (de_slice (de_b (de_var (pv 5))) (do_some (de_b (de_op op_addD dr_add (de_b (de_var (pv 9))) (de_b de_int)))) do_none))))
      (dss_cons (ds_set (i := 16) sc_law.nd rfl (by first | exact Or.inl rfl | exact Or.inr rfl) (de_call G__law_computed (hr.mono (by decide)) rfl T.g__law_computed T.F__law_computed.kp T.b__law_computed (ar_d (de_var (pv 4)) (ar_d (de_var (pv 15)) (ar_d (de_var (pv 6)) ar_nil)))))
      (dss_cons (ds_lc (i := 17) (own := [("at", 18), ("some", 19)]) rfl sc_law.nd rfl rfl (sw_true rfl rfl rfl (by decide +kernel)) (di_e (di_enum rfl T.m_enumerate (de_var (pv 16)))) (blkOk_by rfl) (fun _ _ _ _ _ => (dg_tup rfl (dgs_cons (dg_name (pg_name (i := 18) sc_law.nd rfl (by first | exact Or.inl rfl | exact Or.inr rfl))) (dgs_cons (dg_name (pg_name (i := 19) sc_law.nd rfl (by first | exact Or.inl rfl | exact Or.inr rfl))) dgs_nil)))) (fun _ _ _ _ _ => (dts_one (dt_cmp (op_neP hr.units) drDD (de_b (de_var (pv 19))) (de_b (de_ix (de_b (de_var (pv 7))) (de_b (de_var (pv 18))) (fun _ _ => rfl))) (nomark _)))) (fun _ _ _ _ _ => (de_var (pv 18))))
      (dss_cons (ds_if (dt_not (dt_val (de_call G__law_like (hr.mono (by decide)) rfl T.g__law_like T.F__law_like.kp T.b__law_like (ar_d (de_call G_toggled hr rfl T.g_toggled T.F_toggled.kp T.b_toggled (ar_d (de_var (pv 4)) (ar_d (de_var (pv 5)) (ar_d (de_var (pv 6)) (ar_d (de_var (pv 9)) (ar_d (de_var (pv 10)) ar_nil)))))) (ar_d (de_var (pv 17)) ar_nil)))))
      (dss_one (ds_ret de_bl))
      dss_nil)
      (dss_one (ds_if (dw_t (dw_or (dw_t (dw_and (dt_cmp (op_eqP hr.units) drDD (de_b (de_var (pv 6))) (de_b (de_tup da_nil)) (nomark _)) (dw_and1 (dt_cmp (op_neP hr.units) drDD (de_b (df_e (df_lc (own := [("at", 18)]) rfl sc_law.nd (di_e (di_seq (de_var (pv 17)))) (blkOk_by rfl) (fun _ _ _ _ _ => (dg_name (pg_name (i := 18) sc_law.nd rfl (by first | exact Or.inl rfl | exact Or.inr rfl)))) (fun _ _ _ _ _ => (dts_one (dt_cmp (op_neP hr.units) drDD (de_b (de_var (pv 18))) (de_b (de_var (pv 9))) (nomark _)))) (fun _ _ _ _ _ => (de_var (pv 18)))))) (de_b (df_e (df_lst da_nil))) (nomark _))))) (dw_or1 (dt_cmp (op_neP hr.units) drDD (de_b (df_e (df_lc (own := [("at", 18)]) rfl sc_law.nd (di_e (di_seq (de_var (pv 17)))) (blkOk_by rfl) (fun _ _ _ _ _ => (dg_name (pg_name (i := 18) sc_law.nd rfl (by first | exact Or.inl rfl | exact Or.inr rfl)))) (fun _ _ _ _ _ => (dts_one (dt_cmp (op_ltP hr.units) drDD (de_b (de_var (pv 18))) (de_b (de_var (pv 9))) (nomark _)))) (fun _ _ _ _ _ => (de_var (pv 18)))))) (de_b (df_e (df_lst da_nil))) (nomark _)))))
      (dss_one (ds_ret de_bl))
      dss_nil))))))))))))))))
      (dss_one (ds_ret de_bl))))) rfl) body_law
end
set_option maxHeartbeats 0 in
theorem all_mk {l : PySem.W.OpenLaw} {w : World} {K : PySem.W.Frag} {h : Heap} {mg : Str → Option Value} {fa : Addr} (X : K.In h) (G : h.Ns mainGlobals mg) (hfa : mg "law" = some (.ref fa)) {a_matches a_level a_matching a_ranking a_winner a_value_of a_styles a_computed a_with_tag a_toggled a__law_draw a__law_like a__law_tags a__law_rule a__law_sheet a__law_level a__law_best a__law_value a__law_joined a__law_document a__law_found a__law_computed a_law : Addr}
    {od_matches an_matches : Option Addr} {sl_matches : Array (Option Value)} {oc_matches kV_matches dc_matches pm_matches cd_matches ct_matches : Value}
    {od_level an_level : Option Addr} {sl_level : Array (Option Value)} {oc_level kV_level dc_level pm_level cd_level ct_level : Value}
    {od_matching an_matching : Option Addr} {sl_matching : Array (Option Value)} {oc_matching kV_matching dc_matching pm_matching cd_matching ct_matching : Value}
    {od_ranking an_ranking : Option Addr} {sl_ranking : Array (Option Value)} {oc_ranking kV_ranking dc_ranking pm_ranking cd_ranking ct_ranking : Value}
    {od_winner an_winner : Option Addr} {sl_winner : Array (Option Value)} {oc_winner kV_winner dc_winner pm_winner cd_winner ct_winner : Value}
    {od_value_of an_value_of : Option Addr} {sl_value_of : Array (Option Value)} {oc_value_of kV_value_of dc_value_of pm_value_of cd_value_of ct_value_of : Value}
    {od_styles an_styles : Option Addr} {sl_styles : Array (Option Value)} {oc_styles kV_styles dc_styles pm_styles cd_styles ct_styles : Value}
    {od_computed an_computed : Option Addr} {sl_computed : Array (Option Value)} {oc_computed kV_computed dc_computed pm_computed cd_computed ct_computed : Value}
    {od_with_tag an_with_tag : Option Addr} {sl_with_tag : Array (Option Value)} {oc_with_tag kV_with_tag dc_with_tag pm_with_tag cd_with_tag ct_with_tag : Value}
    {od_toggled an_toggled : Option Addr} {sl_toggled : Array (Option Value)} {oc_toggled kV_toggled dc_toggled pm_toggled cd_toggled ct_toggled : Value}
    {od__law_draw an__law_draw : Option Addr} {sl__law_draw : Array (Option Value)} {oc__law_draw kV__law_draw dc__law_draw pm__law_draw cd__law_draw ct__law_draw : Value}
    {od__law_like an__law_like : Option Addr} {sl__law_like : Array (Option Value)} {oc__law_like kV__law_like dc__law_like pm__law_like cd__law_like ct__law_like : Value}
    {od__law_tags an__law_tags : Option Addr} {sl__law_tags : Array (Option Value)} {oc__law_tags kV__law_tags dc__law_tags pm__law_tags cd__law_tags ct__law_tags : Value}
    {od__law_rule an__law_rule : Option Addr} {sl__law_rule : Array (Option Value)} {oc__law_rule kV__law_rule dc__law_rule pm__law_rule cd__law_rule ct__law_rule : Value}
    {od__law_sheet an__law_sheet : Option Addr} {sl__law_sheet : Array (Option Value)} {oc__law_sheet kV__law_sheet dc__law_sheet pm__law_sheet cd__law_sheet ct__law_sheet : Value}
    {od__law_level an__law_level : Option Addr} {sl__law_level : Array (Option Value)} {oc__law_level kV__law_level dc__law_level pm__law_level cd__law_level ct__law_level : Value}
    {od__law_best an__law_best : Option Addr} {sl__law_best : Array (Option Value)} {oc__law_best kV__law_best dc__law_best pm__law_best cd__law_best ct__law_best : Value}
    {od__law_value an__law_value : Option Addr} {sl__law_value : Array (Option Value)} {oc__law_value kV__law_value dc__law_value pm__law_value cd__law_value ct__law_value : Value}
    {od__law_joined an__law_joined : Option Addr} {sl__law_joined : Array (Option Value)} {oc__law_joined kV__law_joined dc__law_joined pm__law_joined cd__law_joined ct__law_joined : Value}
    {od__law_document an__law_document : Option Addr} {sl__law_document : Array (Option Value)} {oc__law_document kV__law_document dc__law_document pm__law_document cd__law_document ct__law_document : Value}
    {od__law_found an__law_found : Option Addr} {sl__law_found : Array (Option Value)} {oc__law_found kV__law_found dc__law_found pm__law_found cd__law_found ct__law_found : Value}
    {od__law_computed an__law_computed : Option Addr} {sl__law_computed : Array (Option Value)} {oc__law_computed kV__law_computed dc__law_computed pm__law_computed cd__law_computed ct__law_computed : Value}
    {od_law an_law : Option Addr} {sl_law : Array (Option Value)} {oc_law kV_law dc_law pm_law cd_law ct_law : Value}
    (amatches : PySem.W.nsIn K mainGlobals "matches" = some (some (.ref a_matches))) (lmatches : K.lookup a_matches = some ⟨oc_matches, od_matches, .func (PySem.W.fnOf "matches" "matches" (defArgs s_matches) (defBody s_matches) (defScope s_matches) .none kV_matches dc_matches pm_matches an_matches cd_matches ct_matches), sl_matches⟩) (cmatches : PySem.W.codeIn K cd_matches "matches" = true) (kmatches : PySem.W.keepIn K (.ref a_matches) = true)
    (alevel : PySem.W.nsIn K mainGlobals "level" = some (some (.ref a_level))) (llevel : K.lookup a_level = some ⟨oc_level, od_level, .func (PySem.W.fnOf "level" "level" (defArgs s_level) (defBody s_level) (defScope s_level) .none kV_level dc_level pm_level an_level cd_level ct_level), sl_level⟩) (clevel : PySem.W.codeIn K cd_level "level" = true) (klevel : PySem.W.keepIn K (.ref a_level) = true)
    (amatching : PySem.W.nsIn K mainGlobals "matching" = some (some (.ref a_matching))) (lmatching : K.lookup a_matching = some ⟨oc_matching, od_matching, .func (PySem.W.fnOf "matching" "matching" (defArgs s_matching) (defBody s_matching) (defScope s_matching) .none kV_matching dc_matching pm_matching an_matching cd_matching ct_matching), sl_matching⟩) (cmatching : PySem.W.codeIn K cd_matching "matching" = true) (kmatching : PySem.W.keepIn K (.ref a_matching) = true)
    (aranking : PySem.W.nsIn K mainGlobals "ranking" = some (some (.ref a_ranking))) (lranking : K.lookup a_ranking = some ⟨oc_ranking, od_ranking, .func (PySem.W.fnOf "ranking" "ranking" (defArgs s_ranking) (defBody s_ranking) (defScope s_ranking) .none kV_ranking dc_ranking pm_ranking an_ranking cd_ranking ct_ranking), sl_ranking⟩) (cranking : PySem.W.codeIn K cd_ranking "ranking" = true) (kranking : PySem.W.keepIn K (.ref a_ranking) = true)
    (awinner : PySem.W.nsIn K mainGlobals "winner" = some (some (.ref a_winner))) (lwinner : K.lookup a_winner = some ⟨oc_winner, od_winner, .func (PySem.W.fnOf "winner" "winner" (defArgs s_winner) (defBody s_winner) (defScope s_winner) .none kV_winner dc_winner pm_winner an_winner cd_winner ct_winner), sl_winner⟩) (cwinner : PySem.W.codeIn K cd_winner "winner" = true) (kwinner : PySem.W.keepIn K (.ref a_winner) = true)
    (avalue_of : PySem.W.nsIn K mainGlobals "value_of" = some (some (.ref a_value_of))) (lvalue_of : K.lookup a_value_of = some ⟨oc_value_of, od_value_of, .func (PySem.W.fnOf "value_of" "value_of" (defArgs s_value_of) (defBody s_value_of) (defScope s_value_of) .none kV_value_of dc_value_of pm_value_of an_value_of cd_value_of ct_value_of), sl_value_of⟩) (cvalue_of : PySem.W.codeIn K cd_value_of "value_of" = true) (kvalue_of : PySem.W.keepIn K (.ref a_value_of) = true)
    (astyles : PySem.W.nsIn K mainGlobals "styles" = some (some (.ref a_styles))) (lstyles : K.lookup a_styles = some ⟨oc_styles, od_styles, .func (PySem.W.fnOf "styles" "styles" (defArgs s_styles) (defBody s_styles) (defScope s_styles) .none kV_styles dc_styles pm_styles an_styles cd_styles ct_styles), sl_styles⟩) (cstyles : PySem.W.codeIn K cd_styles "styles" = true) (kstyles : PySem.W.keepIn K (.ref a_styles) = true)
    (acomputed : PySem.W.nsIn K mainGlobals "computed" = some (some (.ref a_computed))) (lcomputed : K.lookup a_computed = some ⟨oc_computed, od_computed, .func (PySem.W.fnOf "computed" "computed" (defArgs s_computed) (defBody s_computed) (defScope s_computed) .none kV_computed dc_computed pm_computed an_computed cd_computed ct_computed), sl_computed⟩) (ccomputed : PySem.W.codeIn K cd_computed "computed" = true) (kcomputed : PySem.W.keepIn K (.ref a_computed) = true)
    (awith_tag : PySem.W.nsIn K mainGlobals "with_tag" = some (some (.ref a_with_tag))) (lwith_tag : K.lookup a_with_tag = some ⟨oc_with_tag, od_with_tag, .func (PySem.W.fnOf "with_tag" "with_tag" (defArgs s_with_tag) (defBody s_with_tag) (defScope s_with_tag) .none kV_with_tag dc_with_tag pm_with_tag an_with_tag cd_with_tag ct_with_tag), sl_with_tag⟩) (cwith_tag : PySem.W.codeIn K cd_with_tag "with_tag" = true) (kwith_tag : PySem.W.keepIn K (.ref a_with_tag) = true)
    (atoggled : PySem.W.nsIn K mainGlobals "toggled" = some (some (.ref a_toggled))) (ltoggled : K.lookup a_toggled = some ⟨oc_toggled, od_toggled, .func (PySem.W.fnOf "toggled" "toggled" (defArgs s_toggled) (defBody s_toggled) (defScope s_toggled) .none kV_toggled dc_toggled pm_toggled an_toggled cd_toggled ct_toggled), sl_toggled⟩) (ctoggled : PySem.W.codeIn K cd_toggled "toggled" = true) (ktoggled : PySem.W.keepIn K (.ref a_toggled) = true)
    (a_law_draw : PySem.W.nsIn K mainGlobals "_law_draw" = some (some (.ref a__law_draw))) (l_law_draw : K.lookup a__law_draw = some ⟨oc__law_draw, od__law_draw, .func (PySem.W.fnOf "_law_draw" "_law_draw" (defArgs s__law_draw) (defBody s__law_draw) (defScope s__law_draw) .none kV__law_draw dc__law_draw pm__law_draw an__law_draw cd__law_draw ct__law_draw), sl__law_draw⟩) (c_law_draw : PySem.W.codeIn K cd__law_draw "_law_draw" = true) (k_law_draw : PySem.W.keepIn K (.ref a__law_draw) = true)
    (a_law_like : PySem.W.nsIn K mainGlobals "_law_like" = some (some (.ref a__law_like))) (l_law_like : K.lookup a__law_like = some ⟨oc__law_like, od__law_like, .func (PySem.W.fnOf "_law_like" "_law_like" (defArgs s__law_like) (defBody s__law_like) (defScope s__law_like) .none kV__law_like dc__law_like pm__law_like an__law_like cd__law_like ct__law_like), sl__law_like⟩) (c_law_like : PySem.W.codeIn K cd__law_like "_law_like" = true) (k_law_like : PySem.W.keepIn K (.ref a__law_like) = true)
    (a_law_tags : PySem.W.nsIn K mainGlobals "_law_tags" = some (some (.ref a__law_tags))) (l_law_tags : K.lookup a__law_tags = some ⟨oc__law_tags, od__law_tags, .func (PySem.W.fnOf "_law_tags" "_law_tags" (defArgs s__law_tags) (defBody s__law_tags) (defScope s__law_tags) .none kV__law_tags dc__law_tags pm__law_tags an__law_tags cd__law_tags ct__law_tags), sl__law_tags⟩) (c_law_tags : PySem.W.codeIn K cd__law_tags "_law_tags" = true) (k_law_tags : PySem.W.keepIn K (.ref a__law_tags) = true)
    (a_law_rule : PySem.W.nsIn K mainGlobals "_law_rule" = some (some (.ref a__law_rule))) (l_law_rule : K.lookup a__law_rule = some ⟨oc__law_rule, od__law_rule, .func (PySem.W.fnOf "_law_rule" "_law_rule" (defArgs s__law_rule) (defBody s__law_rule) (defScope s__law_rule) .none kV__law_rule dc__law_rule pm__law_rule an__law_rule cd__law_rule ct__law_rule), sl__law_rule⟩) (c_law_rule : PySem.W.codeIn K cd__law_rule "_law_rule" = true) (k_law_rule : PySem.W.keepIn K (.ref a__law_rule) = true)
    (a_law_sheet : PySem.W.nsIn K mainGlobals "_law_sheet" = some (some (.ref a__law_sheet))) (l_law_sheet : K.lookup a__law_sheet = some ⟨oc__law_sheet, od__law_sheet, .func (PySem.W.fnOf "_law_sheet" "_law_sheet" (defArgs s__law_sheet) (defBody s__law_sheet) (defScope s__law_sheet) .none kV__law_sheet dc__law_sheet pm__law_sheet an__law_sheet cd__law_sheet ct__law_sheet), sl__law_sheet⟩) (c_law_sheet : PySem.W.codeIn K cd__law_sheet "_law_sheet" = true) (k_law_sheet : PySem.W.keepIn K (.ref a__law_sheet) = true)
    (a_law_level : PySem.W.nsIn K mainGlobals "_law_level" = some (some (.ref a__law_level))) (l_law_level : K.lookup a__law_level = some ⟨oc__law_level, od__law_level, .func (PySem.W.fnOf "_law_level" "_law_level" (defArgs s__law_level) (defBody s__law_level) (defScope s__law_level) .none kV__law_level dc__law_level pm__law_level an__law_level cd__law_level ct__law_level), sl__law_level⟩) (c_law_level : PySem.W.codeIn K cd__law_level "_law_level" = true) (k_law_level : PySem.W.keepIn K (.ref a__law_level) = true)
    (a_law_best : PySem.W.nsIn K mainGlobals "_law_best" = some (some (.ref a__law_best))) (l_law_best : K.lookup a__law_best = some ⟨oc__law_best, od__law_best, .func (PySem.W.fnOf "_law_best" "_law_best" (defArgs s__law_best) (defBody s__law_best) (defScope s__law_best) .none kV__law_best dc__law_best pm__law_best an__law_best cd__law_best ct__law_best), sl__law_best⟩) (c_law_best : PySem.W.codeIn K cd__law_best "_law_best" = true) (k_law_best : PySem.W.keepIn K (.ref a__law_best) = true)
    (a_law_value : PySem.W.nsIn K mainGlobals "_law_value" = some (some (.ref a__law_value))) (l_law_value : K.lookup a__law_value = some ⟨oc__law_value, od__law_value, .func (PySem.W.fnOf "_law_value" "_law_value" (defArgs s__law_value) (defBody s__law_value) (defScope s__law_value) .none kV__law_value dc__law_value pm__law_value an__law_value cd__law_value ct__law_value), sl__law_value⟩) (c_law_value : PySem.W.codeIn K cd__law_value "_law_value" = true) (k_law_value : PySem.W.keepIn K (.ref a__law_value) = true)
    (a_law_joined : PySem.W.nsIn K mainGlobals "_law_joined" = some (some (.ref a__law_joined))) (l_law_joined : K.lookup a__law_joined = some ⟨oc__law_joined, od__law_joined, .func (PySem.W.fnOf "_law_joined" "_law_joined" (defArgs s__law_joined) (defBody s__law_joined) (defScope s__law_joined) .none kV__law_joined dc__law_joined pm__law_joined an__law_joined cd__law_joined ct__law_joined), sl__law_joined⟩) (c_law_joined : PySem.W.codeIn K cd__law_joined "_law_joined" = true) (k_law_joined : PySem.W.keepIn K (.ref a__law_joined) = true)
    (a_law_document : PySem.W.nsIn K mainGlobals "_law_document" = some (some (.ref a__law_document))) (l_law_document : K.lookup a__law_document = some ⟨oc__law_document, od__law_document, .func (PySem.W.fnOf "_law_document" "_law_document" (defArgs s__law_document) (defBody s__law_document) (defScope s__law_document) .none kV__law_document dc__law_document pm__law_document an__law_document cd__law_document ct__law_document), sl__law_document⟩) (c_law_document : PySem.W.codeIn K cd__law_document "_law_document" = true) (k_law_document : PySem.W.keepIn K (.ref a__law_document) = true)
    (a_law_found : PySem.W.nsIn K mainGlobals "_law_found" = some (some (.ref a__law_found))) (l_law_found : K.lookup a__law_found = some ⟨oc__law_found, od__law_found, .func (PySem.W.fnOf "_law_found" "_law_found" (defArgs s__law_found) (defBody s__law_found) (defScope s__law_found) .none kV__law_found dc__law_found pm__law_found an__law_found cd__law_found ct__law_found), sl__law_found⟩) (c_law_found : PySem.W.codeIn K cd__law_found "_law_found" = true) (k_law_found : PySem.W.keepIn K (.ref a__law_found) = true)
    (a_law_computed : PySem.W.nsIn K mainGlobals "_law_computed" = some (some (.ref a__law_computed))) (l_law_computed : K.lookup a__law_computed = some ⟨oc__law_computed, od__law_computed, .func (PySem.W.fnOf "_law_computed" "_law_computed" (defArgs s__law_computed) (defBody s__law_computed) (defScope s__law_computed) .none kV__law_computed dc__law_computed pm__law_computed an__law_computed cd__law_computed ct__law_computed), sl__law_computed⟩) (c_law_computed : PySem.W.codeIn K cd__law_computed "_law_computed" = true) (k_law_computed : PySem.W.keepIn K (.ref a__law_computed) = true)
    (alaw : PySem.W.nsIn K mainGlobals "law" = some (some (.ref a_law))) (llaw : K.lookup a_law = some ⟨oc_law, od_law, .func (PySem.W.fnOf "law" "law" (defArgs s_law) (defBody s_law) (defScope s_law) .none kV_law dc_law pm_law an_law cd_law ct_law), sl_law⟩) (claw : PySem.W.codeIn K cd_law "law" = true) (klaw : PySem.W.keepIn K (.ref a_law) = true)
    (zall : PySem.W.nsIn K mainGlobals "all" = some none)
    (zbool : PySem.W.nsIn K mainGlobals "bool" = some none)
    (zdict : PySem.W.nsIn K mainGlobals "dict" = some none)
    (zenumerate : PySem.W.nsIn K mainGlobals "enumerate" = some none)
    (zisinstance : PySem.W.nsIn K mainGlobals "isinstance" = some none)
    (zlen : PySem.W.nsIn K mainGlobals "len" = some none)
    (zlist : PySem.W.nsIn K mainGlobals "list" = some none)
    (zrange : PySem.W.nsIn K mainGlobals "range" = some none)
    (zset : PySem.W.nsIn K mainGlobals "set" = some none)
    (zsorted : PySem.W.nsIn K mainGlobals "sorted" = some none)
    (ztuple : PySem.W.nsIn K mainGlobals "tuple" = some none)
    : ∃ fd : FuncData, (∀ (s : Shared) (v : Value), BindsTo s fd ⟨[v], []⟩ [("script", v)]) ∧ ∀ base : Heap, K.In base → base.Ns mainGlobals mg → FnOk l.prog w K mg base CX0 9 fa fd ["script"] (spLaw K) := by
  have e := hfa.symm.trans (PySem.W.mg_of X G alaw)
  cases e
  have Fmatches := fun_mk (st := s_matches) lmatches cmatches kmatches
  have Flevel := fun_mk (st := s_level) llevel clevel klevel
  have Fmatching := fun_mk (st := s_matching) lmatching cmatching kmatching
  have Franking := fun_mk (st := s_ranking) lranking cranking kranking
  have Fwinner := fun_mk (st := s_winner) lwinner cwinner kwinner
  have Fvalue_of := fun_mk (st := s_value_of) lvalue_of cvalue_of kvalue_of
  have Fstyles := fun_mk (st := s_styles) lstyles cstyles kstyles
  have Fcomputed := fun_mk (st := s_computed) lcomputed ccomputed kcomputed
  have Fwith_tag := fun_mk (st := s_with_tag) lwith_tag cwith_tag kwith_tag
  have Ftoggled := fun_mk (st := s_toggled) ltoggled ctoggled ktoggled
  have F_law_draw := fun_mk (st := s__law_draw) l_law_draw c_law_draw k_law_draw
  have F_law_like := fun_mk (st := s__law_like) l_law_like c_law_like k_law_like
  have F_law_tags := fun_mk (st := s__law_tags) l_law_tags c_law_tags k_law_tags
  have F_law_rule := fun_mk (st := s__law_rule) l_law_rule c_law_rule k_law_rule
  have F_law_sheet := fun_mk (st := s__law_sheet) l_law_sheet c_law_sheet k_law_sheet
  have F_law_level := fun_mk (st := s__law_level) l_law_level c_law_level k_law_level
  have F_law_best := fun_mk (st := s__law_best) l_law_best c_law_best k_law_best
  have F_law_value := fun_mk (st := s__law_value) l_law_value c_law_value k_law_value
  have F_law_joined := fun_mk (st := s__law_joined) l_law_joined c_law_joined k_law_joined
  have F_law_document := fun_mk (st := s__law_document) l_law_document c_law_document k_law_document
  have F_law_found := fun_mk (st := s__law_found) l_law_found c_law_found k_law_found
  have F_law_computed := fun_mk (st := s__law_computed) l_law_computed c_law_computed k_law_computed
  have Flaw := fun_mk (st := s_law) llaw claw klaw
  have bmatches := Fmatches.binds (ps := ["rule", "element"]) fun _ _ _ _ _ _ us hl => match us, hl with | [_, _], _ => rfl
  have blevel := Flevel.binds (ps := ["rule"]) fun _ _ _ _ _ _ us hl => match us, hl with | [_], _ => rfl
  have bmatching := Fmatching.binds (ps := ["sheet", "element"]) fun _ _ _ _ _ _ us hl => match us, hl with | [_, _], _ => rfl
  have branking := Franking.binds (ps := ["sheet", "element", "name"]) fun _ _ _ _ _ _ us hl => match us, hl with | [_, _, _], _ => rfl
  have bwinner := Fwinner.binds (ps := ["sheet", "element", "name"]) fun _ _ _ _ _ _ us hl => match us, hl with | [_, _, _], _ => rfl
  have bvalue_of := Fvalue_of.binds (ps := ["sheet", "element", "name"]) fun _ _ _ _ _ _ us hl => match us, hl with | [_, _, _], _ => rfl
  have bstyles := Fstyles.binds (ps := ["sheet", "element"]) fun _ _ _ _ _ _ us hl => match us, hl with | [_, _], _ => rfl
  have bcomputed := Fcomputed.binds (ps := ["sheet", "document", "inherited"]) fun _ _ _ _ _ _ us hl => match us, hl with | [_, _, _], _ => rfl
  have bwith_tag := Fwith_tag.binds (ps := ["element", "tag"]) fun _ _ _ _ _ _ us hl => match us, hl with | [_, _], _ => rfl
  have btoggled := Ftoggled.binds (ps := ["sheet", "document", "inherited", "node", "tag"]) fun _ _ _ _ _ _ us hl => match us, hl with | [_, _, _, _, _], _ => rfl
  have b_law_draw := F_law_draw.binds (ps := ["tape", "many"]) fun _ _ _ _ _ _ us hl => match us, hl with | [_, _], _ => rfl
  have b_law_like := F_law_like.binds (ps := ["one", "two"]) fun _ _ _ _ _ _ us hl => match us, hl with | [_, _], _ => rfl
  have b_law_tags := F_law_tags.binds (ps := ["tape", "pool", "most"]) fun _ _ _ _ _ _ us hl => match us, hl with | [_, _, _], _ => rfl
  have b_law_rule := F_law_rule.binds (ps := ["tape", "pool"]) fun _ _ _ _ _ _ us hl => match us, hl with | [_, _], _ => rfl
  have b_law_sheet := F_law_sheet.binds (ps := ["tape", "most", "pool"]) fun _ _ _ _ _ _ us hl => match us, hl with | [_, _, _], _ => rfl
  have b_law_level := F_law_level.binds (ps := ["rule"]) fun _ _ _ _ _ _ us hl => match us, hl with | [_], _ => rfl
  have b_law_best := F_law_best.binds (ps := ["sheet", "element", "name"]) fun _ _ _ _ _ _ us hl => match us, hl with | [_, _, _], _ => rfl
  have b_law_value := F_law_value.binds (ps := ["sheet", "element", "name"]) fun _ _ _ _ _ _ us hl => match us, hl with | [_, _, _], _ => rfl
  have b_law_joined := F_law_joined.binds (ps := ["one", "other"]) fun _ _ _ _ _ _ us hl => match us, hl with | [_, _], _ => rfl
  have b_law_document := F_law_document.binds (ps := ["tape", "pool"]) fun _ _ _ _ _ _ us hl => match us, hl with | [_, _], _ => rfl
  have b_law_found := F_law_found.binds (ps := ["sheet", "document", "inherited", "node", "name"]) fun _ _ _ _ _ _ us hl => match us, hl with | [_, _, _, _, _], _ => rfl
  have b_law_computed := F_law_computed.binds (ps := ["sheet", "document", "inherited"]) fun _ _ _ _ _ _ us hl => match us, hl with | [_, _, _], _ => rfl
  have T : Tx K mg := ⟨PySem.W.mg_none_of X G zall, PySem.W.mg_none_of X G zbool, PySem.W.mg_none_of X G zdict, PySem.W.mg_none_of X G zenumerate, PySem.W.mg_none_of X G zisinstance, PySem.W.mg_none_of X G zlen, PySem.W.mg_none_of X G zlist, PySem.W.mg_none_of X G zrange, PySem.W.mg_none_of X G zset, PySem.W.mg_none_of X G zsorted, PySem.W.mg_none_of X G ztuple, _, _, PySem.W.mg_of X G amatches, Fmatches, bmatches, _, _, PySem.W.mg_of X G alevel, Flevel, blevel, _, _, PySem.W.mg_of X G amatching, Fmatching, bmatching, _, _, PySem.W.mg_of X G aranking, Franking, branking, _, _, PySem.W.mg_of X G awinner, Fwinner, bwinner, _, _, PySem.W.mg_of X G avalue_of, Fvalue_of, bvalue_of, _, _, PySem.W.mg_of X G astyles, Fstyles, bstyles, _, _, PySem.W.mg_of X G acomputed, Fcomputed, bcomputed, _, _, PySem.W.mg_of X G awith_tag, Fwith_tag, bwith_tag, _, _, PySem.W.mg_of X G atoggled, Ftoggled, btoggled, _, _, PySem.W.mg_of X G a_law_draw, F_law_draw, b_law_draw, _, _, PySem.W.mg_of X G a_law_like, F_law_like, b_law_like, _, _, PySem.W.mg_of X G a_law_tags, F_law_tags, b_law_tags, _, _, PySem.W.mg_of X G a_law_rule, F_law_rule, b_law_rule, _, _, PySem.W.mg_of X G a_law_sheet, F_law_sheet, b_law_sheet, _, _, PySem.W.mg_of X G a_law_level, F_law_level, b_law_level, _, _, PySem.W.mg_of X G a_law_best, F_law_best, b_law_best, _, _, PySem.W.mg_of X G a_law_value, F_law_value, b_law_value, _, _, PySem.W.mg_of X G a_law_joined, F_law_joined, b_law_joined, _, _, PySem.W.mg_of X G a_law_document, F_law_document, b_law_document, _, _, PySem.W.mg_of X G a_law_found, F_law_found, b_law_found, _, _, PySem.W.mg_of X G a_law_computed, F_law_computed, b_law_computed⟩
  exact ⟨PySem.W.fnOf "law" "law" (defArgs s_law) (defBody s_law) (defScope s_law) .none kV_law dc_law pm_law an_law cd_law ct_law, fun s v => .of_eq rfl, fun base _ _ => ok_law T Flaw⟩
end Dat
open PySem PySem.W PyProof.Rows
set_option maxHeartbeats 0 in
theorem PySem.Challenge.cw_stylepairs_k18_documents_with_inheritanc_holds : PySem.Challenge.rw_stylepairs_k18_documents_with_inheritanc.Holds := by
  w_on; o_law; k_head; (case hw => w_witness2)
  k_fill
  refine L2.walk_of (l := PySem.Challenge.rw_stylepairs_k18_documents_with_inheritanc) (n := 63) (k := 9) (x := "script") (CX := fun _ => L2.CX0) (sp := fun w => Dat.spLaw _) rfl (by decide) rfl ⟨rfl, by decide, by decide⟩ (fun w h Y => PySem.W.kIn_of Y) ?F (fun _ _ a ns hl _ hS => ⟨a, ns, rfl, hS, hl, fun _ => rfl⟩) (fun _ _ _ _ _ h => h)
  case F =>
    intro w mg fa h KX G hmg
    refine' Dat.all_mk KX G hmg ?amatches ?lmatches ?cmatches ?kmatches ?alevel ?llevel ?clevel ?klevel ?amatching ?lmatching ?cmatching ?kmatching ?aranking ?lranking ?cranking ?kranking ?awinner ?lwinner ?cwinner ?kwinner ?avalue_of ?lvalue_of ?cvalue_of ?kvalue_of ?astyles ?lstyles ?cstyles ?kstyles ?acomputed ?lcomputed ?ccomputed ?kcomputed ?awith_tag ?lwith_tag ?cwith_tag ?kwith_tag ?atoggled ?ltoggled ?ctoggled ?ktoggled ?a_law_draw ?l_law_draw ?c_law_draw ?k_law_draw ?a_law_like ?l_law_like ?c_law_like ?k_law_like ?a_law_tags ?l_law_tags ?c_law_tags ?k_law_tags ?a_law_rule ?l_law_rule ?c_law_rule ?k_law_rule ?a_law_sheet ?l_law_sheet ?c_law_sheet ?k_law_sheet ?a_law_level ?l_law_level ?c_law_level ?k_law_level ?a_law_best ?l_law_best ?c_law_best ?k_law_best ?a_law_value ?l_law_value ?c_law_value ?k_law_value ?a_law_joined ?l_law_joined ?c_law_joined ?k_law_joined ?a_law_document ?l_law_document ?c_law_document ?k_law_document ?a_law_found ?l_law_found ?c_law_found ?k_law_found ?a_law_computed ?l_law_computed ?c_law_computed ?k_law_computed ?alaw ?llaw ?claw ?klaw ?zall ?zbool ?zdict ?zenumerate ?zisinstance ?zlen ?zlist ?zrange ?zset ?zsorted ?ztuple
    (case amatches => k_is); (case lmatches => k_is); (case cmatches => k_is); (case kmatches => k_is); (case alevel => k_is); (case llevel => k_is); (case clevel => k_is); (case klevel => k_is); (case amatching => k_is); (case lmatching => k_is); (case cmatching => k_is); (case kmatching => k_is); (case aranking => k_is); (case lranking => k_is); (case cranking => k_is); (case kranking => k_is); (case awinner => k_is); (case lwinner => k_is); (case cwinner => k_is); (case kwinner => k_is); (case avalue_of => k_is); (case lvalue_of => k_is); (case cvalue_of => k_is); (case kvalue_of => k_is); (case astyles => k_is); (case lstyles => k_is); (case cstyles => k_is); (case kstyles => k_is); (case acomputed => k_is); (case lcomputed => k_is); (case ccomputed => k_is); (case kcomputed => k_is); (case awith_tag => k_is); (case lwith_tag => k_is); (case cwith_tag => k_is); (case kwith_tag => k_is); (case atoggled => k_is); (case ltoggled => k_is); (case ctoggled => k_is); (case ktoggled => k_is); (case a_law_draw => k_is); (case l_law_draw => k_is); (case c_law_draw => k_is); (case k_law_draw => k_is); (case a_law_like => k_is); (case l_law_like => k_is); (case c_law_like => k_is); (case k_law_like => k_is); (case a_law_tags => k_is); (case l_law_tags => k_is); (case c_law_tags => k_is); (case k_law_tags => k_is); (case a_law_rule => k_is); (case l_law_rule => k_is); (case c_law_rule => k_is); (case k_law_rule => k_is); (case a_law_sheet => k_is); (case l_law_sheet => k_is); (case c_law_sheet => k_is); (case k_law_sheet => k_is); (case a_law_level => k_is); (case l_law_level => k_is); (case c_law_level => k_is); (case k_law_level => k_is); (case a_law_best => k_is); (case l_law_best => k_is); (case c_law_best => k_is); (case k_law_best => k_is); (case a_law_value => k_is); (case l_law_value => k_is); (case c_law_value => k_is); (case k_law_value => k_is); (case a_law_joined => k_is); (case l_law_joined => k_is); (case c_law_joined => k_is); (case k_law_joined => k_is); (case a_law_document => k_is); (case l_law_document => k_is); (case c_law_document => k_is); (case k_law_document => k_is); (case a_law_found => k_is); (case l_law_found => k_is); (case c_law_found => k_is); (case k_law_found => k_is); (case a_law_computed => k_is); (case l_law_computed => k_is); (case c_law_computed => k_is); (case k_law_computed => k_is); (case alaw => k_is); (case llaw => k_is); (case claw => k_is); (case klaw => k_is); (case zall => k_is); (case zbool => k_is); (case zdict => k_is); (case zenumerate => k_is); (case zisinstance => k_is); (case zlen => k_is); (case zlist => k_is); (case zrange => k_is); (case zset => k_is); (case zsorted => k_is); (case ztuple => k_is)

