import PyProof.Rows.All
import KE.SortData
import HandS.Conv
import HandS.More
import HandS.ForMost
import HandS.Flow
import HandS.Zip
import HandS.IsInst
import HandS.TupMul
import HandS.TupAny
import HandS.Deep
import HandS.TupLe
import HandS.Dict
import KE.KDictPairs
import KE.KDictDisplayH
import PyProof.DictMoreH
import HandS.DictTup
import HandS.Codes
import HandS.Walk
import HandS.Style
import HandS.CallLocal
import HandS.Defaults
import HandS.Words
import HandS.WordsExc
import HandS.Head0
import HandS.Head1
import HandS.Head2
import HandS.HeadEnd
import HandS.HeadHook1
import HandS.HeadHook2
import HandS.HeadHook3
import PySem.Challenge.RW_farleases_k36_whole_heard_once_by_the_cl
set_option Elab.async false
set_option linter.all false
set_option maxRecDepth 100000
set_option maxHeartbeats 0
/-! sorted(x), x a list, a tuple or a dict of alike data -/
namespace Pv
open PySem PySem.Spec PyProof.Rows L2
open PySem.W (EachIs)
def isT : PyData → Bool
  | .tuple _ => true
  | _ => false
def notTN : PyData → Bool
  | .tuple _ => false
  | .none => false
  | _ => true
/-- may be sorted -/
def srtOk (ds : List PyData) : Bool := decide (ds.length ≤ sizeLine) && (ds.all fun d => decide (d.depth ≤ 64) && ds.all fun e => PySem.W.alike d e) && (ds.all isT || ds.all notTN)
def dle (a b : PyData) : Bool := PySem.W.dataLe false id a b
def insL (x : PyData) : List PyData → List PyData
  | [] => [x]
  | y :: ys => if dle x y = true then x :: y :: ys else y :: insL x ys
/-- sorted, as the kernel can reckon it -/
def srtL : List PyData → List PyData
  | [] => []
  | x :: xs => insL x (srtL xs)
theorem insL_perm (x : PyData) : ∀ ys, (insL x ys).Perm (x :: ys)
  | [] => .refl _
  | y :: ys => by
    unfold insL
    split
    · exact .refl _
    · exact ((insL_perm x ys).cons y).trans (.swap x y ys)
theorem srtL_perm : ∀ xs, (srtL xs).Perm xs
  | [] => .refl _
  | x :: xs => (insL_perm x _).trans ((srtL_perm xs).cons x)
theorem dle_iff {a b : PyData} : dle a b = true ↔ PySem.W.dataLt b a = false := by
  show (!PySem.W.dataLt b a) = true ↔ _
  simp
theorem dlt_irrefl (a : PyData) : PySem.W.dataLt a a = false := (listOrd itemOrd).irrefl (PySem.W.keyToks a)
theorem dlt_trans {a b c : PyData} (h : PySem.W.dataLt a b = true) (h' : PySem.W.dataLt b c = true) : PySem.W.dataLt a c = true := (listOrd itemOrd).trans _ _ _ h h'
theorem dle_trans (a b c : PyData) (h : dle a b = true) (h' : dle b c = true) : dle a c = true := by
  rw [dle_iff] at *
  rw [← Bool.not_eq_true]
  intro q
  rcases (listOrd itemOrd).negTrans (PySem.W.keyToks c) (PySem.W.keyToks b) (PySem.W.keyToks a) q with q | q
  · rw [show (listOrd itemOrd).blt (PySem.W.keyToks c) (PySem.W.keyToks b) = false from h'] at q; cases q
  · rw [show (listOrd itemOrd).blt (PySem.W.keyToks b) (PySem.W.keyToks a) = false from h] at q; cases q
theorem dle_total (a b : PyData) : (dle a b || dle b a) = true := by
  cases h : dle a b with
  | true => rfl
  | false =>
    rw [Bool.false_or, dle_iff, ← Bool.not_eq_true]
    intro q
    have h' : PySem.W.dataLt b a = true := by
      cases q' : PySem.W.dataLt b a with
      | true => rfl
      | false => rw [dle_iff.mpr q'] at h; cases h
    have := dlt_trans q h'
    rw [dlt_irrefl] at this
    cases this
theorem insL_sorted (x : PyData) : ∀ {ys : List PyData}, ys.Pairwise (fun a b => dle a b = true) → (insL x ys).Pairwise fun a b => dle a b = true
  | [], _ => List.pairwise_singleton _ _
  | y :: ys, h => by
    unfold insL
    have hc := List.pairwise_cons.mp h
    split
    · rename_i hx
      refine List.pairwise_cons.mpr ⟨fun z hz => ?_, h⟩
      rcases List.mem_cons.mp hz with rfl | hz
      · exact hx
      · exact dle_trans _ _ _ hx (hc.1 z hz)
    · rename_i hx
      refine List.pairwise_cons.mpr ⟨fun z hz => ?_, insL_sorted x hc.2⟩
      rcases List.mem_cons.mp ((insL_perm x ys).mem_iff.mp hz) with rfl | hz
      · have := dle_total z y
        rw [Bool.or_eq_true] at this
        exact this.resolve_left hx
      · exact hc.1 z hz
theorem srtL_sorted : ∀ xs, (srtL xs).Pairwise fun a b => dle a b = true
  | [] => .nil
  | x :: xs => insL_sorted x (srtL_sorted xs)
mutual
theorem alike_eqv : ∀ {a b : PyData}, PySem.W.alike a b = true → PyData.eqv a b = true → a = b
  | .none, b, h, _ => by cases b <;> simp_all [PySem.W.alike]
  | .bool x, b, h, e => by cases b <;> simp_all [PySem.W.alike, PyData.eqv]
  | .int x, b, h, e => by cases b <;> simp_all [PySem.W.alike, PyData.eqv]
  | .str x, b, h, e => by cases b <;> simp_all [PySem.W.alike, PyData.eqv]
  | .list xs, b, h, e => by
    cases b with
    | list ys =>
      simp only [PySem.W.alike] at h
      simp only [PyData.eqv] at e
      rw [alikeA_eqv h e]
    | _ => simp [PySem.W.alike] at h
  | .tuple xs, b, h, e => by
    cases b with
    | tuple ys =>
      simp only [PySem.W.alike] at h
      simp only [PyData.eqv] at e
      rw [alikeA_eqv h e]
    | _ => simp [PySem.W.alike] at h
  | .dict _, b, h, _ => by cases b <;> simp [PySem.W.alike] at h
theorem alikeA_eqv : ∀ {xs ys : List PyData}, PySem.W.alikeAll xs ys = true → PyData.eqvAll xs ys = true → xs = ys
  | [], [], _, _ => rfl
  | [], _ :: _, _, e => by simp [PyData.eqvAll] at e
  | _ :: _, [], _, e => by simp [PyData.eqvAll] at e
  | x :: xs, y :: ys, h, e => by
    simp only [PySem.W.alikeAll, Bool.and_eq_true] at h
    simp only [PyData.eqvAll, Bool.and_eq_true] at e
    rw [alike_eqv h.1 e.1, alikeA_eqv h.2 e.2]
end
theorem toks_inj' {a b : PyData} (h : PySem.W.alike a b = true) (e : PySem.W.keyToks a = PySem.W.keyToks b) : a = b := by
  cases q : PyData.eqv a b with
  | true => exact alike_eqv h q
  | false =>
    exfalso
    have t := (PySem.W.toks_eqv a b h).2 q [] [Sum.inl 0]
    rw [e, PySem.W.lex_pre, lex_irrefl] at t
    exact absurd t (by decide +kernel)
theorem dle_antisymm' {a b : PyData} (h : PySem.W.alike a b = true) (h1 : dle a b = true) (h2 : dle b a = true) : a = b :=
  toks_inj' h ((listOrd itemOrd).total _ _ (dle_iff.mp h2) (dle_iff.mp h1))
theorem ms_srtL {A : List PyData} (h : ∀ a ∈ A, ∀ b ∈ A, PySem.W.alike a b = true) : A.mergeSort (PySem.W.dataLe false id) = srtL A := by
  have p1 : (A.mergeSort (PySem.W.dataLe false id)).Perm A := List.mergeSort_perm _ _
  have p2 := srtL_perm A
  refine List.Perm.eq_of_pairwise (le := fun a b => dle a b = true) (fun a b h1 h2 q1 q2 => dle_antisymm' (h a (p1.mem_iff.mp h1) b (p2.mem_iff.mp h2)) q1 q2) ?_ (srtL_sorted A) (p1.trans p2.symm)
  exact List.pairwise_mergeSort (le := dle) dle_trans dle_total A
section
variable {prog : Program} {w : World} {A : Around} {E : Value → Shared → Prop} {s : Shared}
theorem call_tuple_lt {Q : Value → Shared → Prop} {l b : Addr} {items items2 : Array Value} {e r : Nat → Bool} (hl : s.heap.IsTuple l items) (hb : s.heap.IsTuple b items2)
    (he : ∀ j (h1 : j < items.size) (h2 : j < items2.size), SeqAt.EqAt A.in1 s items[j] items2[j] (e j)) (hr : ∀ j (h1 : j < items.size) (h2 : j < items2.size), e j = false → SeqAt.RcLt A.in1 s items[j] items2[j] (r j))
    (h : Q (.bool (SeqAt.firstLt e r (decide (items.size < items2.size)) (List.range (min items.size items2.size)))) s) : wpAny (model prog w) A (call (.builtin "tuple.__lt__") [.ref l, .ref b]) Q E s := by
  obtain ⟨⟨cls, dd, data, sl⟩, ho, hc, n, hd⟩ := id hl
  obtain ⟨⟨cls2, dd2, data2, sl2⟩, ho2, hc2, n2, hd2⟩ := id hb
  simp only at hc hd hc2 hd2
  subst hc hd hc2 hd2
  exact call_meets F.slot_tuple_lt ⟨_, ho, rfl⟩ F.entry_tuple_lt (F.args_tuple_lt_2 _ _) (SeqAt.tuple_ltAt l b items items2 n n2 dd dd2 sl sl2 e r) ⟨ho, ho2, he, hr, h⟩
theorem oneLt_any {f : Bool} {da db : PyData} {a b : Value} {as bs : List Addr} {Q : Bool → Shared → Prop} (ra : Reads s.heap a da as) (rb : Reads s.heap b db bs) (h : PySem.W.alike da db = true) (hn : da ≠ .none)
    (hu : A.units + min da.depth db.depth < cLine) (hq : Q (PySem.W.dataLt da db) s) : wpAny (model prog w) A (oneLt' f a b) Q E s := by
  by_cases ht : f = true ∧ ∃ xs, da = .tuple xs
  · obtain ⟨rfl, xs, rfl⟩ := ht
    cases db with
    | tuple ys =>
      have hal : PySem.W.alikeAll xs ys = true := by simpa [PySem.W.alike] using h
      cases ra with
      | @tuple l o vs n _ as₁ h1 h2 h3 h4 =>
        cases rb with
        | @tuple l' o' vs' n' _ bs₁ k1 k2 k3 k4 =>
          have n1 : vs.size = xs.length := by simpa using SeqAt.ReadsAll.length _ _ _ h4
          have n2 : vs'.size = ys.length := by simpa using SeqAt.ReadsAll.length _ _ _ k4
          rw [PySem.W.dataLt_tuple, ← PySem.W.firstLt_toks xs ys hal, ← n1, ← n2] at hq
          rw [oneLt'_eq]
          simp only [if_true]
          refine wpAny_bind (wpAny_cRoomFor (SeqAt.room_here hu) ?_)
          refine wpAny_bind (wpAny_callSpecialIfBound?_slot (T := "tuple") ⟨_, h1, h2⟩ F.slot_tuple_lt (call_tuple_lt (e := SeqAt.pairEq xs ys) (r := fun j => PySem.W.dataLt (xs.getD j .none) (ys.getD j .none)) ⟨_, h1, h2, _, h3⟩ ⟨_, k1, k2, _, k3⟩ (fun j j1 j2 => ?_) (fun j j1 j2 hj => ?_) ?_))
          · have := PySem.W.eqAt_alikeAll xs ys A.in1 s vs.toList vs'.toList _ _ h4 k4 hal (SeqAt.room_in hu) j (by simpa using j1) (by simpa using j2)
            simpa using this
          · have := PySem.W.rcLt_alikeAll xs ys A.in1 s vs.toList vs'.toList _ _ h4 k4 hal (SeqAt.room_in hu) j (by simpa using j1) (by simpa using j2) hj
            simpa using this
          · exact wpAny_truthy_bool hq
    | _ => exact absurd h (by simp [PySem.W.alike])
  · exact PySem.W.oneLt_alike (fun hf xs e => ht ⟨hf, xs, e⟩) ra rb h hn hu hq
def ne0 : PyData → Bool
  | .tuple (_ :: _) => true
  | _ => false
theorem firsts_any {M : Model} : ∀ {vs : List Value} {ds : List PyData}, EachIs (fun v d => ∃ as, Reads s.heap v d as) vs ds → (∀ d ∈ ds, isT d = true) →
    ∃ fs : List (Option Value), fs.map Option.isSome = ds.map ne0 ∧ ∀ {Q : List (Option Value) → Shared → Prop}, Q fs s → wpAny M A (vs.mapM firstOfTuple') Q E s
  | _, _, .nil, _ => ⟨[], rfl, fun h => by rw [List.mapM_nil]; exact wpAny_pure h⟩
  | _, _, .cons (a := v) (as := vs) (b := d) ⟨as, r⟩ t, ht => by
    obtain ⟨fs, h1, h2⟩ := firsts_any (M := M) t fun d hd => ht d (List.mem_cons_of_mem _ hd)
    have hd := ht d List.mem_cons_self
    cases d with
    | tuple xs =>
      cases r with
      | @tuple a o its n _ _ ho hc hdt hr =>
        refine ⟨its[0]? :: fs, ?_, fun {Q} h => ?_⟩
        · rw [List.map_cons, List.map_cons, h1]
          congr 1
          have hl : its.toList.length = xs.length := SeqAt.ReadsAll.length _ _ _ hr
          rw [← Array.getElem?_toList]
          cases q : its.toList with
          | nil => rw [q] at hl; cases xs with
            | nil => rfl
            | cons _ _ => simp at hl
          | cons _ _ => rw [q] at hl; cases xs with
            | nil => simp at hl
            | cons _ _ => rfl
        · rw [List.mapM_cons]
          refine wpAny_bind ?_
          rw [PySem.W.kas_first_eq]
          refine wpAny_bind (PySem.W.Looks.here (show PySem.W.Looks M s.heap (typeOf (.ref a)) o.cls from (PySem.W.Looks.ld ho).andThen .now) ?_)
          rw [hc, if_neg (by first | decide | simp)]
          refine wpAny_bind (listItems_at ho hdt (wpAny_pure ?_))
          exact wpAny_bind (h2 (Q := fun bs s' => wpAny M A (pure (its[0]? :: bs)) Q E s') (wpAny_pure h))
    | _ => cases hd
theorem sortsAt_tup {vs : List Value} {ds : List PyData} (e : EachIs (fun v d => ∃ as, Reads s.heap v d as) vs ds) (hal : PySem.W.AllAlike ds) (ht : ∀ d ∈ ds, isT d = true) (hu : ∀ d, d ∈ ds → A.units + d.depth < cLine) : PySem.W.SortsAt prog w A s (PySem.W.dataKind s.heap ds) vs := by
  by_cases hall : ∀ d ∈ ds, ne0 d = true
  · refine PySem.W.SortsAt.data e hal (.inl fun d hd => ?_) hu
    have := hall d hd
    cases d with
    | tuple xs => cases xs with
      | nil => cases this
      | cons x xs => exact ⟨x, xs, rfl⟩
    | _ => cases this
  have room : ∀ {d d' : PyData}, d ∈ ds → A.units + min d.depth d'.depth < cLine := fun {d d'} hd => Nat.lt_of_le_of_lt (Nat.add_le_add_left (Nat.min_le_left _ _) _) (hu d hd)
  have nn : ∀ d ∈ ds, d ≠ .none := fun d hd e => by have := ht d hd; rw [e] at this; cases this
  refine ⟨fun v hv => ?_, ?_⟩
  · obtain ⟨d, hd, as, r⟩ := e.left v hv
    exact ⟨_, PySem.W.dataKind_some hal hd r⟩
  cases ds with
  | nil => exact absurd (fun d hd => (nomatch hd)) hall
  | cons d₀ ds₀ =>
    refine ⟨if ne0 d₀ = true then general' else oneType', ?_, fun h2 E Q hq => ?_⟩
    · intro E x y a b Q ha hb hq
      obtain ⟨d, as, hd, ra, rfl⟩ := PySem.W.dataKind_inv ha
      obtain ⟨d', as', hd', rb, rfl⟩ := PySem.W.dataKind_inv hb
      split
      · show wpAny _ _ (oneLt' false x y) _ _ _
        exact oneLt_any ra rb (hal d hd d' hd') (nn d hd) (room hd) hq
      · rw [keyLt'_oneType]
        exact oneLt_any ra rb (hal d hd d' hd') (nn d hd) (room hd) hq
    · obtain ⟨fs, f1, f2⟩ := firsts_any (M := model prog w) (A := A) (E := E) e ht
      rw [keyKind'_eq, List.mapM_toArray, map_eq_pure_bind]
      refine wpAny_bind (wpAny_bind (f2 (wpAny_pure ?_)))
      have na : (fs.toArray.all (·.isSome)) = false := by
        rw [List.all_toArray]
        rw [Bool.eq_false_iff]
        intro q
        apply hall
        intro d hd
        rw [List.all_eq_true] at q
        have hm : ne0 d ∈ fs.map Option.isSome := by rw [f1]; exact List.mem_map.mpr ⟨d, hd, rfl⟩
        obtain ⟨x, hx, e2⟩ := List.mem_map.mp hm
        rw [← e2]; exact q x hx
      rw [na, if_neg (by decide)]
      have h0 : (fs.toArray[0]?.bind id).isSome = ne0 d₀ := by
        cases fs with
        | nil => simp at f1
        | cons f fs =>
          rw [List.map_cons, List.map_cons] at f1
          rw [← (List.cons.inj f1).1]
          simp
      rw [h0]
      cases hd : ne0 d₀ with
      | true =>
        rw [if_pos rfl]
        rw [hd, if_pos rfl] at hq
        exact wpAny_pure hq
      | false =>
        rw [hd, if_neg (by decide)] at hq
        rw [if_neg (by decide)]
        obtain ⟨v₁, v₂, rest, rfl⟩ : ∃ v₁ v₂ rest, vs = v₁ :: v₂ :: rest := by
          match vs, h2 with
          | [], h2 => simp at h2
          | [_], h2 => simp at h2
          | v₁ :: v₂ :: rest, _ => exact ⟨v₁, v₂, rest, rfl⟩
        have hT : ∀ v ∈ v₁ :: v₂ :: rest, PySem.W.Looks (model prog w) s.heap (typeOf v) (Value.type "tuple") := by
          intro v hv
          obtain ⟨d, hd, as, r⟩ := e.left v hv
          have := ht d hd
          cases d with
          | tuple xs => exact PySem.W.looks_reads r
          | _ => cases this
        rw [oneTypeOnly'_eq, List.mapM_toArray, map_eq_pure_bind]
        refine wpAny_bind (wpAny_bind (wpAny_bind (PySem.W.kas_mapM (r := Value.type "tuple") _ (fun v hv Q' hq => (hT v hv).here hq) (wpAny_pure ?_))))
        have hall : ((List.map (fun _ => Value.type "tuple") (v₁ :: v₂ :: rest)).toArray.all fun x => x == Value.type "tuple") = true := by
          simp only [List.all_toArray, List.all_map, List.all_eq_true]
          intro _ _
          rfl
        have h0 : (List.map (fun _ => Value.type "tuple") (v₁ :: v₂ :: rest)).toArray[0]? = some (Value.type "tuple") := by simp
        rw [h0]
        simp only [hall, if_true]
        exact wpAny_pure (wpAny_pure hq)
theorem collect_tup {l : Addr} {vs : List Value} {Q : List Value → Shared → Prop} (hl : s.heap.IsTuple l vs.toArray)
    (h : Q vs { s with heap := (s.heap.push (seqObj "list" #[] 0)).update s.heap.objs.size (Obj.mapSeq (· ++ vs.toArray)) }) (hsz : vs.length ≤ sizeLine) :
    wpAny (model prog w) A (collect (.ref l)) Q E s := by
  obtain ⟨o, ho, hc, n, hd⟩ := id hl
  unfold collect
  refine wpAny_bind (wpAny_runValue (codeAny_builtin entry_proto_collect' ?_))
  show wpAny _ _ (do again (.builtin "list.__iadd__" ⟨[← newList [], .ref l], []⟩)) _ _ s
  refine wpAny_bind (wpAny_newList (wpAny_pure ⟨Code.quiet_builtin _ (by decide +kernel), codeAny_builtin entry_list_iadd' ?_⟩))
  show wpAny _ _ (Builtin.List.listExtendWith (.ref s.heap.objs.size) (.ref l) (.ref s.heap.objs.size)) _ _ { s with heap := s.heap.push (seqObj "list" #[] 0) }
  unfold Builtin.List.listExtendWith
  have ho' : (s.heap.push (seqObj "list" #[] 0)).get? l = some o := Heap.get?_push_of_some _ ho
  refine wpAny_bind (wpAny_typeOf (T := "tuple") ⟨o, ho', hc⟩ ?_)
  have ht : (Value.type "tuple" == Value.type "list" || Value.type "tuple" == Value.type "tuple") = true := by rfl
  rw [if_pos (by first | exact ht | simpa using ht | simp)]
  refine wpAny_bind (listItems_at ho' hd ?_)
  refine wpAny_bind (listItems_at (xs := #[]) (n := 0) (Heap.get?_push_size _ rfl) rfl ?_)
  rw [if_neg (by simp)]
  refine wpAny_bind (listUpdate_at (xs := #[]) (n := 0) (Heap.get?_push_size _ rfl) rfl ?_ (Nat.zero_le _) (by show (#[] ++ vs.toArray).size ≤ sizeLine + 1; simp only [Array.size_append, List.size_toArray, List.length_nil]; omega))
  refine wpAny_pure ?_
  show wpAny (model prog w) A (do
      let o ← load s.heap.objs.size
      match o.data with
      | .seq xs _ => pure xs.toList
      | _ => unsupported "internal:collect") Q E { s with heap := (s.heap.push (seqObj "list" #[] 0)).update s.heap.objs.size (Obj.mapSeq (· ++ vs.toArray)) }
  refine wpAny_bind (wpAny_load (get?_update_seq (Heap.get?_push_size _ rfl) _) ?_)
  show wpAny _ _ (pure ((#[] : Array Value) ++ vs.toArray).toList) Q E _
  rw [show ((#[] : Array Value) ++ vs.toArray).toList = vs by simp]
  exact wpAny_pure h
end
theorem in1_lt {A : Around} {n m : Nat} (h : A.units + (n + 1) < m) : A.in1.units + n < m := by
  have : A.in1.units = A.units + 1 := by first | rfl | simp [Around.in1]
  omega
theorem srt_parts {ds : List PyData} (h : srtOk ds = true) : ds.length ≤ sizeLine ∧ (∀ d ∈ ds, d.depth ≤ 64) ∧ PySem.W.AllAlike ds ∧ ((∀ d ∈ ds, isT d = true) ∨ ∀ d ∈ ds, notTN d = true) := by
  unfold srtOk at h
  simp only [Bool.and_eq_true, Bool.or_eq_true, decide_eq_true_eq, List.all_eq_true] at h
  exact ⟨h.1.1, fun d hd => (h.1.2 d hd).1, fun d hd e he => (h.1.2 d hd).2 e he, h.2⟩
theorem sortsAt {prog : Program} {w : World} {A : Around} {s : Shared} {vs : List Value} {ds : List PyData} (e : EachIs (fun v d => ∃ as, Reads s.heap v d as) vs ds) (ok : srtOk ds = true) (hu : A.units + 64 < cLine) : PySem.W.SortsAt prog w A s (PySem.W.dataKind s.heap ds) vs := by
  obtain ⟨_, h2, h3, h4⟩ := srt_parts ok
  have hu' : ∀ d, d ∈ ds → A.units + d.depth < cLine := fun d hd => by have := h2 d hd; omega
  rcases h4 with h4 | h4
  · exact sortsAt_tup e h3 h4 hu'
  · refine PySem.W.SortsAt.data e h3 (.inr fun d hd => ?_) hu'
    have := h4 d hd
    cases d with
    | none => cases this
    | tuple _ => cases this
    | _ => exact ⟨fun e => (nomatch e), fun xs e => (nomatch e)⟩
section
variable {X : Cx} {pins : List (Addr × Obj)} {σ : L2.St} {H : Hp} {s : Shared}
theorem each_zip {R : V → PyData → Prop} : ∀ {ys : List V} {its : List Value} {ds : List PyData}, Vals ys its → Paired R ys ds → EachIs (fun v (b : V × PyData) => RelV b.1 v ∧ R b.1 b.2) its (ys.zip ds)
  | _, _, _, .nil, .nil => .nil
  | _, _, _, .cons h t, .cons h' t' => .cons ⟨h, h'⟩ (each_zip t t')
theorem zip_snd {R : V → PyData → Prop} : ∀ {ys : List V} {ds : List PyData}, Paired R ys ds → (ys.zip ds).map Prod.snd = ds
  | _, _, .nil => rfl
  | _, _, .cons _ t => by simp [zip_snd t]
theorem each_vals {R : V → PyData → Prop} : ∀ {out : List Value} {ms : List (V × PyData)}, EachIs (fun v (b : V × PyData) => RelV b.1 v ∧ R b.1 b.2) out ms → Vals (ms.map Prod.fst) out ∧ Paired R (ms.map Prod.fst) (ms.map Prod.snd)
  | _, _, .nil => ⟨.nil, .nil⟩
  | _, _, .cons h t => ⟨.cons h.1 (each_vals t).1, .cons h.2 (each_vals t).2⟩
/-- list.sort on a list just made -/
theorem sort_call {A : Around} {its : List Value} {ys : List V} {ds : List PyData} {R : V → PyData → Prop} {E : Value → Shared → Prop} {Q : Value → Shared → Prop} (I : Inv X pins σ H s) (hv : Vals ys its) (hr : Paired R ys ds) (hR : ∀ x d, R x d → Dp X.K H x d) (ok : srtOk ds = true) (hu : A.units + 66 < cLine)
    (q : ∀ zs s', Paired R zs (srtL ds) → Inv X pins σ (upd H s.heap.objs.size (.lst zs)) s' → Q .none s') :
    wpAny (model X.prog X.w) A (call (.builtin "list.sort") [.ref s.heap.objs.size]) Q E { s with heap := s.heap.push (seqObj "list" its.toArray 0) } := by
  have hl : its.length = ds.length := by rw [← hv.length]; exact Paired.length hr
  have hL : its.length ≤ sizeLine := by rw [hl]; exact (srt_parts ok).1
  have ho : (s.heap.push (seqObj "list" its.toArray 0)).get? s.heap.objs.size = some (seqObj "list" its.toArray 0) := Heap.get?_push_size _ rfl
  have kp : ∀ b o, s.heap.get? b = some o → (PySem.W.sortingHeap (s.heap.push (seqObj "list" its.toArray 0)) s.heap.objs.size its).get? b = some o := fun b o e =>
    PySem.W.sortingHeap_old (Nat.ne_of_lt (Heap.lt_size e)) (Heap.get?_push_of_some _ e)
  have ez := each_zip hv hr
  have eds := zip_snd hr
  have er : EachIs (fun v (b : V × PyData) => ∃ as, Reads (PySem.W.sortingHeap (s.heap.push (seqObj "list" its.toArray 0)) s.heap.objs.size its) v b.2 as) its (ys.zip ds) := ez.mono fun v b h => by
    obtain ⟨as, r⟩ := Dp.reads I b.2 b.1 v (hR _ _ h.2) h.1
    exact ⟨as, PyProof.Rows.Reads.keeps kp r⟩
  have ed := PySem.W.each_map (R := fun v d => ∃ as, Reads (PySem.W.sortingHeap (s.heap.push (seqObj "list" its.toArray 0)) s.heap.objs.size its) v d as) Prod.snd er
  rw [eds] at ed
  refine wpAny_call_entry slot_list_sort ⟨_, ho, rfl⟩ entry_list_sort (PySem.W.list_sort_vals (κ := PySem.W.dataKind (PySem.W.sortingHeap (s.heap.push (seqObj "list" its.toArray 0)) s.heap.objs.size its) ds) ho
    (sortsAt (s := { s with heap := PySem.W.sortingHeap (s.heap.push (seqObj "list" its.toArray 0)) s.heap.objs.size its }) ed ok (in1_lt (by omega))) hL ⟨_, rfl, ?_⟩) (args_list_sort _)
  have out := PySem.W.sortVals_data (h' := PySem.W.sortingHeap (s.heap.push (seqObj "list" its.toArray 0)) s.heap.objs.size its) (enc := Prod.snd) false ez er (by rw [eds]; exact (srt_parts ok).2.2.1)
  rw [eds] at out
  obtain ⟨z1, z2⟩ := each_vals out
  have em : ((ys.zip ds).mergeSort (PySem.W.dataLe false Prod.snd)).map Prod.snd = srtL ds := by
    have h := List.map_mergeSort (r := PySem.W.dataLe false Prod.snd) (s := PySem.W.dataLe false id) (f := Prod.snd) (l := ys.zip ds) (fun _ _ _ _ => rfl)
    rw [eds, ms_srtL (srt_parts ok).2.2.1] at h
    exact h
  rw [em] at z2
  obtain ⟨e', he'⟩ := sortedHeap_at (vs := its) (out := (PySem.W.sortVals (PySem.W.dataKind (PySem.W.sortingHeap (s.heap.push (seqObj "list" its.toArray 0)) s.heap.objs.size its) ds) false its its).toArray) ho
  have hlen : (((ys.zip ds).mergeSort (PySem.W.dataLe false Prod.snd)).map Prod.fst).length ≤ sizeLine := by
    rw [z1.length, PySem.W.sortVals_length false rfl]; exact hL
  refine q _ _ z2 (I.laid (t' := s.toks) (fun b u e => ?_) (Nat.le_refl _) (show ObjOk X.prog X.w _ _ _ (.lst _) from ⟨hlen, _, e', z1, he'⟩))
  have hb : b < s.heap.objs.size := Heap.lt_size e
  rw [sortedHeap_old (Nat.ne_of_lt hb) (by rw [size_push']; exact Nat.lt_succ_of_lt hb)]
  exact Heap.get?_push_of_some _ e
/-- what sorted(x) walks -/
def SrtIn (K : PySem.W.Frag) (H : Hp) (R : V → PyData → Prop) (p : Addr) (ds : List PyData) : Prop :=
  (∃ ys, (SqL K H p ys ∨ SqT K H p ys) ∧ Paired R ys ds) ∨ (∃ kvs : List (Key × V), Rd H p (.dK kvs) ∧ Paired R (kvs.map fun kv => kV kv.1) ds) ∨
    ∃ kvs : List (List Key × V), Rd H p (.dT kvs) ∧ ∀ bs, IsKeys H kvs bs → Paired R (bs.map V.ref) ds
def rSrt (K : PySem.W.Frag) : List V → Hp → VK → Prop := fun xs H Q => ∃ (p : Addr) (ds : List PyData) (R : V → PyData → Prop), xs = [.ref p] ∧ SrtIn K H R p ds ∧ (∀ x d, R x d → Dp K H x d) ∧ srtOk ds = true ∧
  ∀ l zs, Paired R zs (srtL ds) → H l = none → Q (.ref l) (upd H l (.lst zs))
theorem call_srt (hc : X.calm = true) (hu : X.A.units + 70 < cLine) : CallR X (.builtin "sorted") (rSrt X.K) := by
  intro pins s σ H xs us Q I r ⟨p, ds, R, ex, hin, hR, ok, q⟩
  subst ex
  obtain ⟨u, rfl, rx⟩ := vals1 r
  cases rx
  refine Calls.call_function_entry kind_sorted plain_sorted entry_sorted (args_sorted1 _) ?_
  unfold Builtin.«sorted»
  refine wpAny_bind (m := checkCount "sorted" 1 1 _) (wpAny_pure ?_)
  have fin : ∀ (its : List Value) (ys : List V) (h' : Heap) (tk : Nat) (E : Value → Shared → Prop), (∀ b o, s.heap.get? b = some o → h'.get? b = some o) → Vals ys its → Paired R ys ds → ∀ (P : PySem.Fin → Shared → Prop),
      (∀ v s', EP X pins σ Q v s' → P (.done (.ret v)) s') → wpAny (model X.prog X.w) X.A.in1 (do
        let l ← newList its
        let _ ← holding [l] (call (.builtin "list.sort") [l])
        ret l) P E { s with heap := h', toks := tk } := by
    intro its ys h' tk E kp hv hr P hP
    have I1 : Inv X pins σ H { s with heap := h', toks := tk } := I.kept kp
    have hl : its.length ≤ sizeLine := by rw [← hv.length, Paired.length hr]; exact (srt_parts ok).1
    refine wpAny_bind (wpAny_newList ?_ hl)
    refine wpAny_bind (wpAny_holding (sort_call (s := { s with heap := h', toks := tk }) I1 hv hr hR ok (in1_lt (by omega)) fun zs s' hz I2 => wpAny_pure (hP _ _ ⟨.ref h'.objs.size, _, I2, rfl, q _ zs hz (I1.hok.fresh (Nat.le_refl _))⟩)))
  have got : ∀ (its : List Value) (ys : List V) (h' : Heap) (tk : Nat), (∀ b o, s.heap.get? b = some o → h'.get? b = some o) → Vals ys its → Paired R ys ds → wpAny (model X.prog X.w) X.A.in1 (do
        let l ← newList its
        let _ ← holding [l] (call (.builtin "list.sort") [l])
        ret l) (fun f s' => ∃ v, f = .done (.ret v) ∧ EP X pins σ Q v s') X.xe { s with heap := h', toks := tk } := fun its ys h' tk kp hv hr => fin its ys h' tk _ kp hv hr _ fun v s' h => ⟨v, rfl, h⟩
  have hL := (srt_parts ok).1
  rcases hin with ⟨ys, hq, hr⟩ | ⟨kvs, hd, hr⟩ | ⟨kvs, hd, hr⟩
  · have hyl : ys.length = ds.length := Paired.length hr
    rcases hq with hq | hq
    · obtain ⟨its, r', pl, hz⟩ := I.list hq
      have hlen := r'.length
      exact wpAny_bind (collect_list pl.isList (got its ys _ s.toks (fun b o e => by
        rw [Heap.get?_update_other _ _ (Nat.ne_of_gt (Heap.lt_size e))]
        exact Heap.get?_push_of_some _ e) r' hr) (by omega))
    · obtain ⟨its, r', pl, hz⟩ := I.tuple hq
      have hlen := r'.length
      exact wpAny_bind (collect_tup pl (got its ys _ s.toks (fun b o e => by
        rw [Heap.get?_update_other _ _ (Nat.ne_of_gt (Heap.lt_size e))]
        exact Heap.get?_push_of_some _ e) r' hr) (by omega))
  · obtain ⟨z, lo, vs, rel, dd⟩ := dk_rd I.hok hd
    obtain ⟨ep, hat⟩ := dd.dictAt
    have ek : (kvs.map fun kv => kV kv.1) = vs.map fun p => kV p.1 := by
      have e := congrArg (List.map kV) rel.keys
      rw [List.map_map, List.map_map] at e
      exact e
    refine wpAny_bind (PySem.W.kdu_collect (PySem.W.kdl_dict (knd := mixKind X.prog X.w) (kvs := vs) (ep := ep) lo) (I.ok.hd hc) hat (by rw [← rel.length]; exact z) fun h' tk acc hk hacc => ?_)
    have hv : Vals (vs.map fun p => kV p.1) acc.toList := keys_at (by rw [Array.length_toList]; exact hacc.1) fun j v e => hacc.2 j v (by rw [← Array.getElem?_toList]; exact e)
    exact got acc.toList _ h' tk hk hv (by rw [← ek]; exact hr)
  · obtain ⟨z, hs, ks, pr, o, es, ep, ho, hx, hdt, he, hn⟩ := (show ObjOk X.prog X.w H s.heap p (.dT kvs) from hd.ok I.hok)
    have l1 : es.size = ks.length := size_of_entries he
    have l2 : kvs.length = ks.length := Paired.length pr
    refine wpAny_bind (PySem.W.kdu_collect (kdl_raw hs hx hdt) (I.ok.hd hc) ho (by omega) fun h' tk acc' kp it => ?_)
    have ea : acc'.toList = ks.map fun x => Value.ref x.2.1 := by
      have hl : acc'.toList.length = ks.length := by rw [Array.length_toList, it.1]; exact l1
      apply List.ext_getElem?
      intro j
      rw [List.getElem?_map]
      cases hj : acc'.toList[j]? with
      | none =>
        have h1 := List.getElem?_eq_none_iff.mp hj
        rw [List.getElem?_eq_none (by omega)]
        all_goals rfl
      | some v =>
        obtain ⟨en, hen, hv⟩ := it.2 j v (by rw [← Array.getElem?_toList]; exact hj)
        have qe := entry_at he j
        rw [hen] at qe
        cases hb : ks[j]? with
        | none =>
          rw [hb] at qe
          exact nomatch (show some en = none from qe)
        | some b =>
          rw [hb] at qe
          have e2 : en = entryOfKey (tupleKind (mixKind X.prog X.w)) b := Option.some.inj qe
          rw [hv, e2]
          all_goals rfl
    have eb : acc'.toList = (ks.map fun x => x.2.1).map Value.ref := by rw [ea, List.map_map]; all_goals rfl
    exact got acc'.toList _ h' tk kp (by rw [eb]; exact vals_refs _) (hr _ (isKeys_of pr))
end
end Pv
namespace Pv
open PySem PySem.Spec PyProof.Rows L2

/-! ### plain data at a value -/
/-- a list that is never changed: a frozen one, or one of the module's own -/
def FzL (K : PySem.W.Frag) (H : Hp) (a : Addr) (xs : List V) : Prop := (∃ o, H a = some (.frz o (.lst xs))) ∨
  ∃ (o : Obj) (its : Array Value) (n : Nat), K.lookup a = some o ∧ o.cls = .type "list" ∧ o.dict = none ∧ o.data = .seq its n ∧ its.size ≤ sizeLine ∧ Vals xs its.toList
theorem FzL.sq {K : PySem.W.Frag} {H : Hp} {a : Addr} {xs : List V} (h : FzL K H a xs) : SqL K H a xs := by
  rcases h with ⟨o, h⟩ | h
  · exact .inl (.inr ⟨o, h⟩)
  · exact .inr h
mutual
inductive Rp (K : PySem.W.Frag) (H : Hp) : V → PyData → Prop
  | non : Rp K H .non .none
  | bl (b : Bool) : Rp K H (.bl b) (.bool b)
  | int (i : Int) : Rp K H (.int i) (.int i)
  | str (x : Str) : Rp K H (.str x) (.str x)
  | lst {a : Addr} {xs : List V} {ds : List PyData} : FzL K H a xs → RpA K H xs ds → Rp K H (.ref a) (.list ds)
  | tup {a : Addr} {xs : List V} {ds : List PyData} : H a = some (.tup xs) → RpA K H xs ds → Rp K H (.ref a) (.tuple ds)
inductive RpA (K : PySem.W.Frag) (H : Hp) : List V → List PyData → Prop
  | nil : RpA K H [] []
  | cons {v : V} {vs : List V} {d : PyData} {ds : List PyData} : Rp K H v d → RpA K H vs ds → RpA K H (v :: vs) (d :: ds)
end

/-- a module's own constant: a tuple is not a tracked one -/
def RpC (K : PySem.W.Frag) (H : Hp) (v : V) (d : PyData) : Prop := match d with
  | .tuple ds => Dp K H v (.tuple ds)
  | d => Rp K H v d
/-- what never changes stays -/
def Sta : HO → Prop
  | .tup _ => True
  | .frz _ (.dK _) => False
  | .frz _ (.dT _) => False
  | .frz _ _ => True
  | _ => False
/-- .. and what is only read for now -/
def Staf : HO → Prop
  | .tup _ => True
  | .frz _ _ => True
  | _ => False
theorem Sta.f : ∀ {o : HO}, Sta o → Staf o
  | .tup _, _ => True.intro
  | .frz _ _, _ => True.intro
  | .lst _, h => h
  | .dK _, h => h
  | .dT _, h => h
  | .set _ _, h => h
  | .ins _ _ _, h => h
  | .ext _, h => h
  | .own _, h => h
def Kp (H H' : Hp) : Prop := ∀ a o, H a = some o → Sta o → H' a = some o
def Kf (H H' : Hp) : Prop := ∀ a o, H a = some o → Staf o → H' a = some o
theorem Kf.kp {H H' : Hp} (h : Kf H H') : Kp H H' := fun a o e s => h a o e s.f
theorem Kf.trans {H H' H2 : Hp} (h : Kf H H') (h2 : Kf H' H2) : Kf H H2 := fun a o e s => h2 a o (h a o e s) s
section
variable {K : PySem.W.Frag} {H H' H2 : Hp}
theorem Kp.refl : Kp H H := fun _ _ h _ => h
theorem Kp.trans (h : Kp H H') (h2 : Kp H' H2) : Kp H H2 := fun a o e s => h2 a o (h a o e s) s
theorem Kp.fz {a : Addr} {xs : List V} (h : Kp H H') (q : FzL K H a xs) : FzL K H' a xs := by
  rcases q with ⟨o, q⟩ | q
  · exact .inl ⟨o, h a _ q trivial⟩
  · exact .inr q
theorem Kp.sqT {a : Addr} {xs : List V} (h : Kp H H') (q : SqT K H a xs) : SqT K H' a xs := by
  rcases q with (q | ⟨o, q⟩) | q
  · exact .inl (.inl (h a _ q trivial))
  · exact .inl (.inr ⟨o, h a _ q trivial⟩)
  · exact .inr q
mutual
theorem Rp.kp (h : Kp H H') : ∀ (d : PyData) (v : V), Rp K H v d → Rp K H' v d
  | .none, _, q => by cases q; exact .non
  | .bool b, _, q => by cases q; exact .bl b
  | .int i, _, q => by cases q; exact .int i
  | .str x, _, q => by cases q; exact .str x
  | .list ds, _, q => by
    cases q with
    | lst e r => exact .lst (h.fz e) (RpA.kp h ds _ r)
  | .tuple ds, _, q => by
    cases q with
    | tup e r => exact .tup (h _ _ e trivial) (RpA.kp h ds _ r)
  | .dict _, _, q => by cases q
theorem RpA.kp (h : Kp H H') : ∀ (ds : List PyData) (vs : List V), RpA K H vs ds → RpA K H' vs ds
  | [], _, q => by cases q; exact .nil
  | d :: ds, _, q => by
    cases q with
    | cons r rs => exact .cons (Rp.kp h d _ r) (RpA.kp h ds _ rs)
end
mutual
theorem Rp.dp : ∀ (d : PyData) (v : V), Rp K H v d → Dp K H v d
  | .none, _, q => by cases q; exact .non
  | .bool b, _, q => by cases q; exact .bl b
  | .int i, _, q => by cases q; exact .int i
  | .str x, _, q => by cases q; exact .str x
  | .list ds, _, q => by
    cases q with
    | lst e r => exact .lst e.sq (RpA.dp ds _ r)
  | .tuple ds, _, q => by
    cases q with
    | tup e r => exact .tup (.inl (.inl e)) (RpA.dp ds _ r)
  | .dict _, _, q => by cases q
theorem RpA.dp : ∀ (ds : List PyData) (vs : List V), RpA K H vs ds → DpAll K H vs ds
  | [], _, q => by cases q; exact .nil
  | d :: ds, _, q => by
    cases q with
    | cons r rs => exact .cons (Rp.dp d _ r) (RpA.dp ds _ rs)
end
theorem RpA.length : ∀ {ds : List PyData} {vs : List V}, RpA K H vs ds → vs.length = ds.length
  | [], _, q => by cases q; rfl
  | d :: ds, _, q => by
    cases q with
    | cons r rs => simp [RpA.length rs]
theorem RpA.get : ∀ {ds : List PyData} {vs : List V} {i : Nat} {d : PyData}, RpA K H vs ds → ds[i]? = some d → ∃ v, vs[i]? = some v ∧ Rp K H v d
  | [], _, i, _, q, e => by simp at e
  | d :: ds, _, 0, _, q, e => by
    cases q with
    | cons r rs => simp at e; subst e; exact ⟨_, rfl, r⟩
  | d :: ds, _, i + 1, _, q, e => by
    cases q with
    | cons r rs =>
      obtain ⟨v, h1, h2⟩ := RpA.get rs (by simpa using e)
      exact ⟨v, by simpa using h1, h2⟩
theorem RpA.get' : ∀ {ds : List PyData} {vs : List V} {i : Nat} {v : V}, RpA K H vs ds → vs[i]? = some v → ∃ d, ds[i]? = some d ∧ Rp K H v d
  | [], _, i, _, q, e => by cases q; simp at e
  | d :: ds, _, 0, _, q, e => by
    cases q with
    | cons r rs => simp at e; subst e; exact ⟨_, rfl, r⟩
  | d :: ds, _, i + 1, _, q, e => by
    cases q with
    | cons r rs =>
      obtain ⟨v, h1, h2⟩ := RpA.get' rs (by simpa using e)
      exact ⟨v, by simpa using h1, h2⟩
theorem RpA.append : ∀ {ds es : List PyData} {vs ws : List V}, RpA K H vs ds → RpA K H ws es → RpA K H (vs ++ ws) (ds ++ es)
  | [], _, _, _, q, h => by cases q; exact h
  | d :: ds, _, _, _, q, h => by
    cases q with
    | cons r rs => exact .cons r (RpA.append rs h)
theorem RpA.drop : ∀ {ds : List PyData} {vs : List V} (n : Nat), RpA K H vs ds → RpA K H (vs.drop n) (ds.drop n)
  | _, _, 0, q => q
  | [], _, n + 1, q => by cases q; exact .nil
  | d :: ds, _, n + 1, q => by
    cases q with
    | cons r rs => exact RpA.drop n rs
theorem RpA.take : ∀ {ds : List PyData} {vs : List V} (n : Nat), RpA K H vs ds → RpA K H (vs.take n) (ds.take n)
  | _, _, 0, q => by simp; exact .nil
  | [], _, n + 1, q => by cases q; exact .nil
  | d :: ds, _, n + 1, q => by
    cases q with
    | cons r rs => exact .cons r (RpA.take n rs)
theorem RpA.set : ∀ {ds : List PyData} {vs : List V} {v : V} {d : PyData} (n : Nat), RpA K H vs ds → Rp K H v d → RpA K H (vs.set n v) (ds.set n d)
  | [], _, _, _, n, q, _ => by cases q; exact .nil
  | d :: ds, _, _, _, 0, q, h => by
    cases q with
    | cons r rs => exact .cons h rs
  | d :: ds, _, _, _, n + 1, q, h => by
    cases q with
    | cons r rs => exact .cons r (RpA.set n rs h)
theorem RpA.ints : ∀ {ns : List Int} {vs : List V}, RpA K H vs (ns.map PyData.int) → vs = ns.map V.int
  | [], _, q => by cases q; rfl
  | n :: ns, _, q => by
    cases q with
    | cons r rs => cases r; rw [RpA.ints rs]; rfl
theorem RpA.ofInts : ∀ (ns : List Int), RpA K H (ns.map V.int) (ns.map PyData.int)
  | [] => .nil
  | n :: ns => .cons (.int n) (RpA.ofInts ns)
theorem RpA.bools : ∀ {ns : List Bool} {vs : List V}, RpA K H vs (ns.map PyData.bool) → vs = ns.map V.bl
  | [], _, q => by cases q; rfl
  | n :: ns, _, q => by
    cases q with
    | cons r rs => cases r; rw [RpA.bools rs]; rfl
theorem RpA.strs : ∀ {ns : List Str} {vs : List V}, RpA K H vs (ns.map PyData.str) → vs = ns.map V.str
  | [], _, q => by cases q; rfl
  | n :: ns, _, q => by
    cases q with
    | cons r rs => cases r; rw [RpA.strs rs]; rfl
theorem RpA.ofStrs : ∀ (ns : List Str), RpA K H (ns.map V.str) (ns.map PyData.str)
  | [] => .nil
  | n :: ns => .cons (.str n) (RpA.ofStrs ns)
end

/-! ### values and the store of what is changed -/
/-- a value: plain data, or a place of the store -/
inductive VL where
  | d (x : PyData)
  | r (l : Nat)
/-- what lies in the store: a list of plain data, a list that holds places, a dict of plain data -/
inductive MO where
  | lst (ds : List PyData)
  | nst (vs : List VL)
  | dct (t : Bool) (kvs : List (PyData × VL))
  /-- a dict while it is walked -/
  | dcl (t : Bool) (kvs : List (PyData × VL))
abbrev Sto := List MO
abbrev Lo := List (Option VL)

def VR (K : PySem.W.Frag) (H : Hp) (θ : Nat → Addr) (n : Nat) (x : V) : VL → Prop
  | .d d => Rp K H x d
  | .r l => l < n ∧ x = .ref (θ l)
/-- a key of a dict: an int, a text; or a tuple of such -/
def kD : Key → PyData
  | .inl i => .int i
  | .inr x => .str x
def MR (K : PySem.W.Frag) (H : Hp) (θ : Nat → Addr) (n : Nat) (a : Addr) : MO → Prop
  | .lst ds => ∃ xs, H a = some (.lst xs) ∧ RpA K H xs ds
  | .nst vs => ∃ xs, H a = some (.lst xs) ∧ Paired (VR K H θ n) xs vs
  | .dct false kvs => ∃ ls : List (Key × V), H a = some (.dK ls) ∧ Paired (fun (p : Key × V) (q : PyData × VL) => kD p.1 = q.1 ∧ VR K H θ n p.2 q.2) ls kvs
  | .dct true kvs => ∃ ls : List (List Key × V), H a = some (.dT ls) ∧ Paired (fun (p : List Key × V) (q : PyData × VL) => PyData.tuple (p.1.map kD) = q.1 ∧ VR K H θ n p.2 q.2) ls kvs
  | .dcl false kvs => ∃ (o : Obj) (ls : List (Key × V)), H a = some (.frz o (.dK ls)) ∧ Paired (fun (p : Key × V) (q : PyData × VL) => kD p.1 = q.1 ∧ VR K H θ n p.2 q.2) ls kvs
  | .dcl true kvs => ∃ (o : Obj) (ls : List (List Key × V)), H a = some (.frz o (.dT ls)) ∧ Paired (fun (p : List Key × V) (q : PyData × VL) => PyData.tuple (p.1.map kD) = q.1 ∧ VR K H θ n p.2 q.2) ls kvs
def MO.lk : MO → Bool
  | .dcl _ _ => true
  | _ => false
structure SR (K : PySem.W.Frag) (H : Hp) (θ : Nat → Addr) (M : Sto) : Prop where
  inj : ∀ i j, i < M.length → j < M.length → θ i = θ j → i = j
  ob : ∀ i o, M[i]? = some o → MR K H θ M.length (θ i) o
structure Go (K : PySem.W.Frag) (θ : Nat → Addr) (M : Sto) (H : Hp) (θ' : Nat → Addr) (M' : Sto) (H' : Hp) : Prop where
  sr : SR K H' θ' M'
  len : M.length ≤ M'.length
  th : ∀ i, i < M.length → θ' i = θ i
  fr : ∀ a o, H a = some o → (∀ i, i < M.length → θ i ≠ a) → H' a = some o
  nw : ∀ i, M.length ≤ i → i < M'.length → H (θ' i) = none
  lk : ∀ i o, M[i]? = some o → o.lk = true → M'[i]? = some o ∧ H' (θ i) = H (θ i)
structure ER (K : PySem.W.Frag) (H : Hp) (θ : Nat → Addr) (n : Nat) (ρ : Lo) (σ : L2.St) : Prop where
  len : σ.length = ρ.length
  at' : ∀ (i : Nat) (v : VL), ρ[i]? = some (some v) → ∃ x, σ[i]? = some (some x) ∧ VR K H θ n x v

section
variable {K : PySem.W.Frag} {H H' H2 : Hp} {θ θ' θ2 : Nat → Addr} {M M' M2 : Sto} {ρ : Lo} {σ : L2.St}
theorem MR.some {a : Addr} {n : Nat} {o : MO} (h : MR K H θ n a o) : ∃ u, H a = some u ∧ ¬ Sta u ∧ (o.lk = false → ¬ Staf u) := by
  cases o with
  | lst ds => obtain ⟨xs, e, _⟩ := h; exact ⟨_, e, fun z => z, fun _ z => z⟩
  | nst vs => obtain ⟨xs, e, _⟩ := h; exact ⟨_, e, fun z => z, fun _ z => z⟩
  | dct t kvs =>
    cases t
    · obtain ⟨ls, e, _⟩ := h
      exact ⟨_, e, fun z => z, fun _ z => z⟩
    · obtain ⟨ls, e, _⟩ := h
      exact ⟨_, e, fun z => z, fun _ z => z⟩
  | dcl t kvs =>
    cases t
    · obtain ⟨o, ls, e, _⟩ := h
      exact ⟨_, e, fun z => z, fun z => nomatch z⟩
    · obtain ⟨o, ls, e, _⟩ := h
      exact ⟨_, e, fun z => z, fun z => nomatch z⟩
theorem SR.some (h : SR K H θ M) {i : Nat} (hi : i < M.length) : ∃ u, H (θ i) = some u ∧ ¬ Sta u ∧ (M[i].lk = false → ¬ Staf u) := (h.ob i _ (List.getElem?_eq_getElem hi)).some
theorem Go.kf (g : Go K θ M H θ' M' H') (s : SR K H θ M) : Kf H H' := fun a o e st => by
  by_cases h : ∃ i, i < M.length ∧ θ i = a
  · obtain ⟨i, hi, q⟩ := h
    obtain ⟨u, hu, _, hn⟩ := s.some hi
    rw [q, e] at hu; cases hu
    cases hk : M[i].lk with
    | false => exact absurd st (hn hk)
    | true =>
      have := (g.lk i _ (List.getElem?_eq_getElem hi) hk).2
      rw [q] at this; rw [this, e]
  · exact g.fr a o e fun i hi q => h ⟨i, hi, q⟩
theorem Go.kp (g : Go K θ M H θ' M' H') (s : SR K H θ M) : Kp H H' := (g.kf s).kp
theorem Go.refl (s : SR K H θ M) : Go K θ M H θ M H := ⟨s, Nat.le_refl _, fun _ _ => rfl, fun _ _ e _ => e, fun i h1 h2 => absurd h2 (Nat.not_lt.mpr h1), fun i o e _ => ⟨e, rfl⟩⟩
theorem Go.trans (s : SR K H θ M) (g : Go K θ M H θ' M' H') (g2 : Go K θ' M' H' θ2 M2 H2) : Go K θ M H θ2 M2 H2 where
  sr := g2.sr
  len := Nat.le_trans g.len g2.len
  th := fun i hi => (g2.th i (Nat.lt_of_lt_of_le hi g.len)).trans (g.th i hi)
  fr := fun a o e hn => g2.fr a o (g.fr a o e hn) fun i hi q => by
    by_cases hm : i < M.length
    · exact hn i hm ((g.th i hm).symm.trans q)
    · have := g.nw i (Nat.not_lt.mp hm) hi
      rw [q, e] at this; cases this
  nw := fun i h1 h2 => by
    by_cases hm : i < M'.length
    · rw [g2.th i hm]; exact g.nw i h1 hm
    · have z := g2.nw i (Nat.not_lt.mp hm) h2
      cases q : H (θ2 i) with
      | none => rfl
      | some o =>
        by_cases hk : ∃ j, j < M.length ∧ θ j = θ2 i
        · obtain ⟨j, hj, ej⟩ := hk
          obtain ⟨u, hu, _⟩ := g.sr.some (Nat.lt_of_lt_of_le hj g.len)
          rw [g.th j hj, ej, z] at hu; cases hu
        · have := g.fr _ o q fun j hj ej => hk ⟨j, hj, ej⟩
          rw [z] at this; cases this
  lk := fun i o e h => by
    obtain ⟨h1, h2⟩ := g.lk i o e h
    obtain ⟨h3, h4⟩ := g2.lk i o h1 h
    have hi : i < M.length := (List.getElem?_eq_some_iff.mp e).1
    rw [g.th i hi] at h4
    exact ⟨h3, h4.trans h2⟩
theorem VR.kp {n m : Nat} {x : V} {v : VL} (h : VR K H θ n x v) (k : Kp H H') (hn : n ≤ m) (ht : ∀ i, i < n → θ' i = θ i) : VR K H' θ' m x v := by
  cases v with
  | d d => exact Rp.kp k d x h
  | r l => exact ⟨Nat.lt_of_lt_of_le h.1 hn, by rw [ht l h.1]; exact h.2⟩
theorem MR.kp {a : Addr} {n m : Nat} {o : MO} (h : MR K H θ n a o) (k : Kp H H') (e : H' a = H a) (hn : n ≤ m) (ht : ∀ i, i < n → θ' i = θ i) : MR K H' θ' m a o := by
  cases o with
  | lst ds => obtain ⟨xs, q, r⟩ := h; exact ⟨xs, e.trans q, RpA.kp k _ _ r⟩
  | nst vs => obtain ⟨xs, q, r⟩ := h; exact ⟨xs, e.trans q, Paired.mapP r fun p q z => VR.kp z k hn ht⟩
  | dct t kvs =>
    cases t
    · obtain ⟨ls, q, r⟩ := h
      exact ⟨ls, e.trans q, Paired.mapP r fun p q z => ⟨z.1, VR.kp z.2 k hn ht⟩⟩
    · obtain ⟨ls, q, r⟩ := h
      exact ⟨ls, e.trans q, Paired.mapP r fun p q z => ⟨z.1, VR.kp z.2 k hn ht⟩⟩
  | dcl t kvs =>
    cases t
    · obtain ⟨o, ls, q, r⟩ := h
      exact ⟨o, ls, e.trans q, Paired.mapP r fun p q z => ⟨z.1, VR.kp z.2 k hn ht⟩⟩
    · obtain ⟨o, ls, q, r⟩ := h
      exact ⟨o, ls, e.trans q, Paired.mapP r fun p q z => ⟨z.1, VR.kp z.2 k hn ht⟩⟩
theorem VR.go {x : V} {v : VL} (h : VR K H θ M.length x v) (s : SR K H θ M) (g : Go K θ M H θ' M' H') : VR K H' θ' M'.length x v :=
  VR.kp h (g.kp s) g.len g.th
theorem ER.go (h : ER K H θ M.length ρ σ) (s : SR K H θ M) (g : Go K θ M H θ' M' H') : ER K H' θ' M'.length ρ σ := ⟨h.len, fun i v e => by
  obtain ⟨x, h1, h2⟩ := h.at' i v e
  exact ⟨x, h1, h2.go s g⟩⟩
theorem ER.set {n i : Nat} {x : V} {v : VL} (h : ER K H θ n ρ σ) (hv : VR K H θ n x v) : ER K H θ n (ρ.set i (some v)) (σ.set i (some x)) := ⟨by simp [h.len], fun j w e => by
  have hl := h.len
  by_cases hj : i = j
  · subst hj
    by_cases hi : i < ρ.length
    · rw [List.getElem?_set_self hi] at e
      cases e
      exact ⟨x, List.getElem?_set_self (by omega), hv⟩
    · rw [List.getElem?_eq_none (by simpa using hi)] at e; cases e
  · rw [List.getElem?_set_ne hj] at e
    rw [List.getElem?_set_ne hj]
    exact h.at' j w e⟩
theorem ER.unset {n i : Nat} (h : ER K H θ n ρ σ) : ER K H θ n (ρ.set i none) (σ.set i none) := ⟨by simp [h.len], fun j w e => by
  by_cases hj : i = j
  · subst hj
    by_cases hi : i < ρ.length
    · rw [List.getElem?_set_self hi] at e; cases e
    · rw [List.getElem?_eq_none (by simpa using hi)] at e; cases e
  · rw [List.getElem?_set_ne hj] at e
    rw [List.getElem?_set_ne hj]
    exact h.at' j w e⟩
/-- a new thing that never changes -/
theorem Go.lay {a : Addr} {o : HO} (s : SR K H θ M) (hn : H a = none) : Go K θ M H θ M (upd H a o) := by
  have k : ∀ b u, H b = some u → upd H a o b = some u := fun b u e => by rw [upd_ne (ne_of_none e hn)]; exact e
  refine ⟨⟨s.inj, fun i u e => ?_⟩, Nat.le_refl _, fun _ _ => rfl, fun b u e _ => k b u e, fun i h1 h2 => absurd h2 (Nat.not_lt.mpr h1), fun i u e _ => ⟨e, by
    have hi : i < M.length := (List.getElem?_eq_some_iff.mp e).1
    obtain ⟨w, hw, _⟩ := s.some hi
    rw [k _ _ hw, hw]⟩⟩
  have hi : i < M.length := (List.getElem?_eq_some_iff.mp e).1
  obtain ⟨w, hw, _⟩ := s.some hi
  exact (s.ob i u e).kp (fun b u e _ => k b u e) (by rw [k _ _ hw, hw]) (Nat.le_refl _) fun _ _ => rfl
/-- a new place of the store -/
theorem Go.push {a : Addr} {o : HO} {mo : MO} (s : SR K H θ M) (hn : H a = none) (hm : MR K (upd H a o) (fun i => if i = M.length then a else θ i) (M.length + 1) a mo) : Go K θ M H (fun i => if i = M.length then a else θ i) (M ++ [mo]) (upd H a o) := by
  have k : ∀ b u, H b = some u → upd H a o b = some u := fun b u e => by rw [upd_ne (ne_of_none e hn)]; exact e
  have hne : ∀ i, i < M.length → θ i ≠ a := fun i hi q => by
    obtain ⟨w, hw, _⟩ := s.some hi
    rw [q, hn] at hw; cases hw
  refine ⟨⟨fun i j hi hj e => ?_, fun i u e => ?_⟩, by simp, fun i hi => if_neg (Nat.ne_of_lt hi), fun b u e _ => k b u e, fun i h1 h2 => ?_, fun i u e _ => ⟨by
    have hi : i < M.length := (List.getElem?_eq_some_iff.mp e).1
    rw [List.getElem?_append_left hi]; exact e, by
    have hi : i < M.length := (List.getElem?_eq_some_iff.mp e).1
    obtain ⟨w, hw, _⟩ := s.some hi
    rw [k _ _ hw, hw]⟩⟩
  · simp only [List.length_append, List.length_singleton] at hi hj
    by_cases h1 : i = M.length
    · by_cases h2 : j = M.length
      · omega
      · rw [if_pos h1, if_neg h2] at e; exact absurd e.symm (hne j (by omega))
    · by_cases h2 : j = M.length
      · rw [if_neg h1, if_pos h2] at e; exact absurd e (hne i (by omega))
      · rw [if_neg h1, if_neg h2] at e; exact s.inj i j (by omega) (by omega) e
  · by_cases h1 : i < M.length
    · rw [List.getElem?_append_left h1] at e
      obtain ⟨w, hw, _⟩ := s.some h1
      show MR K (upd H a o) _ (M ++ [mo]).length (if i = M.length then a else θ i) u
      rw [if_neg (Nat.ne_of_lt h1)]
      exact (s.ob i u e).kp (fun b u e _ => k b u e) (by rw [k _ _ hw, hw]) (by simp) fun j hj => if_neg (Nat.ne_of_lt hj)
    · have h2 : i = M.length := by
        have := (List.getElem?_eq_some_iff.mp e).1
        simp at this; omega
      subst h2
      simp at e
      subst e
      show MR K (upd H a o) _ (M ++ [mo]).length (if M.length = M.length then a else θ M.length) mo
      rw [if_pos rfl, List.length_append]; exact hm
  · simp at h2
    have : i = M.length := by omega
    subst this
    show H (if M.length = M.length then a else θ M.length) = none
    rw [if_pos rfl]; exact hn
/-- a place of the store is changed -/
theorem Go.put {l : Nat} {o : HO} {mo : MO} (s : SR K H θ M) (hl : l < M.length) (hk : ∀ o, M[l]? = some o → o.lk = false) (hm : MR K (upd H (θ l) o) θ M.length (θ l) mo) : Go K θ M H θ (M.set l mo) (upd H (θ l) o) := by
  obtain ⟨w, hw, hs, _⟩ := s.some hl
  have kp : Kp H (upd H (θ l) o) := fun b u e st => by
    rw [upd_ne]; exact e
    intro q; rw [q, hw] at e; cases e; exact hs st
  refine ⟨⟨fun i j hi hj e => s.inj i j (by simpa using hi) (by simpa using hj) e, fun i u e => ?_⟩, by simp, fun _ _ => rfl, fun b u e hn => by rw [upd_ne (fun q => hn l hl q.symm)]; exact e, fun i h1 h2 => absurd h2 (by simp; exact h1), fun i u e h => by
    have hne : l ≠ i := fun z => by
      subst z
      rw [hk u e] at h; cases h
    have hi2 : i < M.length := (List.getElem?_eq_some_iff.mp e).1
    exact ⟨by rw [List.getElem?_set_ne hne]; exact e, upd_ne fun q => hne (s.inj l i hl hi2 q.symm)⟩⟩
  by_cases hi : l = i
  · subst hi
    rw [List.getElem?_set_self hl] at e; cases e; rw [List.length_set]; exact hm
  · rw [List.getElem?_set_ne hi] at e
    have hi2 : i < M.length := (List.getElem?_eq_some_iff.mp e).1
    exact (s.ob i u e).kp kp (upd_ne fun q => hi (s.inj l i hl hi2 q.symm)) (by simp) fun _ _ => rfl
/-- nothing in it points to n or behind -/
def VL.lo (n : Nat) : VL → Bool
  | .d _ => true
  | .r l => decide (l < n)
def MO.lo (n : Nat) : MO → Bool
  | .nst vs => vs.all (·.lo n)
  | .dct _ kvs => kvs.all (·.2.lo n)
  | .dcl _ kvs => kvs.all (·.2.lo n)
  | _ => true
theorem VR.lo {n m : Nat} {x : V} {v : VL} (h : VR K H θ n x v) (l : v.lo m = true) : VR K H θ m x v := by
  cases v with
  | d d => exact h
  | r l' => exact ⟨of_decide_eq_true l, h.2⟩
theorem MR.lo {a : Addr} {n m : Nat} {o : MO} (h : MR K H θ n a o) (l : o.lo m = true) : MR K H θ m a o := by
  cases o with
  | lst ds => exact h
  | nst vs =>
    obtain ⟨xs, q, r⟩ := h
    refine ⟨xs, q, ?_⟩
    have l' : vs.all (·.lo m) = true := l
    clear q l
    induction r with
    | nil => exact .nil
    | cons h t ih =>
      simp only [List.all_cons, Bool.and_eq_true] at l'
      exact .cons (h.lo l'.1) (ih l'.2)
  | dct t kvs =>
    have l' : kvs.all (·.2.lo m) = true := l
    have go : ∀ {α : Type} {R : α → PyData → Prop} {ls : List (α × V)}, Paired (fun (p : α × V) (q : PyData × VL) => R p.1 q.1 ∧ VR K H θ n p.2 q.2) ls kvs → Paired (fun (p : α × V) (q : PyData × VL) => R p.1 q.1 ∧ VR K H θ m p.2 q.2) ls kvs := by
      intro α R ls r
      clear h l
      induction r with
      | nil => exact .nil
      | cons h t ih =>
        simp only [List.all_cons, Bool.and_eq_true] at l'
        exact .cons ⟨h.1, h.2.lo l'.1⟩ (ih l'.2)
    cases t
    · obtain ⟨ls, q, r⟩ := h
      exact ⟨ls, q, go (R := fun p q => kD p = q) r⟩
    · obtain ⟨ls, q, r⟩ := h
      exact ⟨ls, q, go (R := fun (p : List Key) q => PyData.tuple (p.map kD) = q) r⟩
  | dcl t kvs =>
    have l' : kvs.all (·.2.lo m) = true := l
    have go : ∀ {α : Type} {R : α → PyData → Prop} {ls : List (α × V)}, Paired (fun (p : α × V) (q : PyData × VL) => R p.1 q.1 ∧ VR K H θ n p.2 q.2) ls kvs → Paired (fun (p : α × V) (q : PyData × VL) => R p.1 q.1 ∧ VR K H θ m p.2 q.2) ls kvs := by
      intro α R ls r
      clear h l
      induction r with
      | nil => exact .nil
      | cons h t ih =>
        simp only [List.all_cons, Bool.and_eq_true] at l'
        exact .cons ⟨h.1, h.2.lo l'.1⟩ (ih l'.2)
    cases t
    · obtain ⟨o, ls, q, r⟩ := h
      exact ⟨o, ls, q, go (R := fun p q => kD p = q) r⟩
    · obtain ⟨o, ls, q, r⟩ := h
      exact ⟨o, ls, q, go (R := fun (p : List Key) q => PyData.tuple (p.map kD) = q) r⟩
/-- the store cut back to what was there -/
theorem Go.cut (g : Go K θ M H θ' M' H') (hl : (M'.take M.length).all (·.lo M.length) = true) : Go K θ M H θ' (M'.take M.length) H' := by
  refine ⟨⟨fun i j hi hj e => g.sr.inj i j (by simp at hi; omega) (by simp at hj; omega) e, fun i u e => ?_⟩, by simp [g.len], g.th, g.fr, fun i h1 h2 => absurd h2 (by simp; omega), fun i u e h => by
    obtain ⟨h1, h2⟩ := g.lk i u e h
    have hi : i < M.length := (List.getElem?_eq_some_iff.mp e).1
    exact ⟨by rw [List.getElem?_take_of_lt hi]; exact h1, h2⟩⟩
  rw [List.getElem?_take] at e
  split at e
  · have hz : (M'.take M.length).length = M.length := by rw [List.length_take]; exact Nat.min_eq_left g.len
    rw [hz]
    refine (g.sr.ob i u e).lo ?_
    refine List.all_eq_true.mp hl u ?_
    refine List.mem_iff_getElem?.mpr ⟨i, ?_⟩
    rw [List.getElem?_take_of_lt (by assumption)]; exact e
  · cases e
end
end Pv
namespace Pv
open PySem PySem.Spec PyProof.Rows L2

/-! ### the same data -/
mutual
def same : PyData → PyData → Bool
  | .none, .none => true
  | .bool a, .bool b => a == b
  | .int a, .int b => a == b
  | .str a, .str b => a == b
  | .list a, .list b => sameA a b
  | .tuple a, .tuple b => sameA a b
  | _, _ => false
def sameA : List PyData → List PyData → Bool
  | [], [] => true
  | a :: as, b :: bs => same a b && sameA as bs
  | _, _ => false
end
/-! ### the language -/
inductive O1 where
  | neg
  deriving DecidableEq
inductive O2 where
  | add | sub | mul | fdiv | mod | pow
  | eq | ne | lt | le | gt | ge | is | isn | inn | nin | ix
  deriving DecidableEq
inductive Bt where
  | abs | max | min | int | bool | str | ord | len | list | tuple | sum | any | all | sorted | repr | dict | dictT | set
  deriving DecidableEq
inductive Mt where
  | append | get | pop | index | join | extend | split
  deriving DecidableEq
inductive Ty where
  | int | bool | str | tuple | list | dict
  deriving DecidableEq
inductive Tg where
  | nm (i : Nat)
  | tp (is : List Nat)
mutual
inductive CE where
  | c (d : PyData)
  | g (x : Str) (d : PyData)
  | v (i : Nat)
  | o1 (o : O1) (a : CE)
  | o2 (o : O2) (a b : CE)
  | ch (o o' : O2) (a b c : CE)
  | sl (a lo hi : CE)
  | tup (es : CEs)
  | lst (es : CEs)
  | dnew (t : Bool)
  | rev (a : CE)
  | ddis (es : CEs)
  | ddisT (es : CEs)
  | inC (neg : Bool) (a : CE) (x : Str) (ds : List PyData)
  | frz (e : CE)
  | bt (b : Bt) (es : CEs)
  | isi (a : CE) (t : Ty)
  | mt (m : Mt) (a : CE) (es : CEs)
  | call (j : Nat) (es : CEs)
  | and (a b : CE)
  | or (a b : CE)
  | not (a : CE)
  | ite (c a b : CE)
  | lc (tg : Tg) (it : CI) (cond elt : CE)
  /-- e, while the dict that a tells is only read; a is not run -/
  | lck (a e : CE)
inductive CEs where
  | nil
  | cons (e : CE) (es : CEs)
inductive CI where
  | val (e : CE)
  | rng (e : CE)
  | rng2 (a b : CE)
  | enum (e : CE)
  | zip (a b : CE)
  /-- a dict's keys, the dict only read for now -/
  | keys (e : CE)
end
/-- targets of one assignment -/
inductive CTs where
  | nil
  | nm (i : Nat) (ts : CTs)
  | sub (o i : CE) (ts : CTs)
def CTs.len : CTs → Nat
  | .nil => 0
  | .nm _ ts => ts.len + 1
  | .sub _ _ ts => ts.len + 1
mutual
inductive CS where
  | asg (i : Nat) (e : CE)
  | par (is : List Nat) (es : CEs)
  | unp (is : List Nat) (e : CE)
  | gas (ts : CTs) (es : CEs)
  | gun (ts : CTs) (e : CE)
  | six (o i e : CE)
  | ex (e : CE)
  | ret (e : CE)
  | retN
  | ite (c : CE) (a b : CSs)
  | forr (tg : Tg) (it : CI) (body : CSs)
  | whl (c : CE) (body : CSs)
  | brk
  | cnt
  | pas
  | dead
  /-- s, while the dict that a tells is only read; a is not run -/
  | lck (a : CE) (s : CS)
inductive CSs where
  | nil
  | cons (s : CS) (ss : CSs)
  /-- x = TAB[e]; return x(es), or y = x(es) and more: x is slot i, the entries tell key and function -/
  | disp (i : Nat) (tab : Str) (ents : List (Str × Nat)) (e : CE) (es : CEs) (tg : Option Nat) (ss : CSs)
end

/-! ### what is asked of values -/
abbrev RS := Option (VL × Sto)
/-- a function: its arguments, the store; its answer, the store behind it -/
abbrev Fs := List VL → Sto → RS
def dataA : List VL → Option (List PyData)
  | [] => some []
  | .d x :: vs => (dataA vs).map (x :: ·)
  | .r _ :: _ => none
/-- a new list -/
def newL (vs : List VL) (M : Sto) : RS := match dataA vs with
  | some ds => some (.r M.length, M ++ [.lst ds])
  | none => some (.r M.length, M ++ [.nst vs])
/-- the items of a list -/
def lsOf : VL → Sto → Option (List PyData)
  | .d (.list ds), _ => some ds
  | .r l, M => match M[l]? with
    | some (.lst ds) => some ds
    | _ => none
  | _, _ => none
/-- the items of a list or tuple -/
def seqOf : VL → Sto → Option (List PyData)
  | .d (.tuple ds), _ => some ds
  | v, M => lsOf v M
/-- a value with all that it holds -/
def valF : Nat → VL → Sto → Option PyData
  | _, .d d, _ => some d
  | 0, .r _, _ => none
  | n + 1, .r l, M => match M[l]? with
    | some (.lst ds) => some (.list ds)
    | some (.nst vs) => (vs.mapM fun v => valF n v M).map .list
    | _ => none
def valD (v : VL) (M : Sto) : Option PyData := valF 4 v M
def tru : VL → Sto → Option Bool
  | .d .none, _ => some false
  | .d (.bool b), _ => some b
  | .d (.int i), _ => some (i != 0)
  | .d (.str s), _ => if s.length ≤ sizeLine then some (s.length != 0) else none
  | .d (.tuple ds), _ => some (!ds.isEmpty)
  | .d (.list ds), _ => some (!ds.isEmpty)
  | .d (.dict _), _ => none
  | .r l, M => match M[l]? with
    | some (.lst ds) => some (!ds.isEmpty)
    | some (.nst vs) => some (!vs.isEmpty)
    | _ => none

/-- small enough for a range's end -/
@[irreducible] def small62 (i : Int) : Bool := decide (-(2 ^ 62) ≤ i ∧ i < 2 ^ 62)
theorem small62_of {i : Int} (h : -1000000000 ≤ i) (h2 : i ≤ 1000000000) : small62 i = true := by unfold small62; exact decide_eq_true ⟨by omega, by omega⟩
theorem small62_nat {n : Nat} (h : n ≤ 1000000000) : small62 (n : Int) = true := small62_of (by omega) (by omega)
theorem small62_ok {i : Int} (h : small62 i = true) : -(2 ^ 62) ≤ i ∧ i < 2 ^ 62 := by unfold small62 at h; exact of_decide_eq_true h
@[irreducible] def mulOk (i j : Int) : Bool := decide (i.natAbs < 2 ^ 64) || decide (j.natAbs < 2 ^ 64)
theorem mulOk_of {i j : Int} (h : j.natAbs < 2 ^ 64) : mulOk i j = true := by simp only [mulOk, decide_eq_true h, Bool.or_true]
theorem mulOk_l {i j : Int} (h : i.natAbs < 2 ^ 64) : mulOk i j = true := by simp only [mulOk, decide_eq_true h, Bool.true_or]
theorem mulOk_ok {i j : Int} (h : mulOk i j = true) : i.natAbs < 2 ^ 64 ∨ j.natAbs < 2 ^ 64 := by
  unfold mulOk at h
  simpa using h
def int1 (f : Int → Int) : VL → Sto → RS
  | .d (.int i), M => some (.d (.int (f i)), M)
  | _, _ => none
def un1 : O1 → VL → Sto → RS
  | .neg => int1 fun i => -i
def addS : VL → VL → Sto → RS
  | .d (.int i), .d (.int j), M => some (.d (.int (i + j)), M)
  | .d (.str x), .d (.str y), M => if x.length + y.length ≤ sizeLine then some (.d (.str (x ++ y)), M) else none
  | .d (.tuple xs), .d (.tuple ys), M => if xs.length + ys.length ≤ sizeLine then some (.d (.tuple (xs ++ ys)), M) else none
  | a, b, M => match lsOf a M, lsOf b M with
    | some xs, some ys => if xs.length + ys.length ≤ sizeLine then some (.r M.length, M ++ [.lst (xs ++ ys)]) else none
    | _, _ => none
def subS : VL → VL → Sto → RS
  | .d (.int i), .d (.int j), M => some (.d (.int (i - j)), M)
  | _, _, _ => none
def mulS : VL → VL → Sto → RS
  | .d (.int i), .d (.int j), M => if mulOk i j = true then some (.d (.int (i * j)), M) else none
  | .d (.tuple xs), .d (.int k), M => if xs ≠ [] ∧ 2 ≤ k ∧ k ≤ 1000 ∧ xs.length ≤ 1000 then some (.d (.tuple (List.replicate k.toNat xs).flatten), M) else none
  | _, _, _ => none
def fdivS : VL → VL → Sto → RS
  | .d (.int i), .d (.int j), M => if 0 < j ∧ j < 1073741824 then some (.d (.int (i / j)), M) else none
  | _, _, _ => none
def modS : VL → VL → Sto → RS
  | .d (.int i), .d (.int j), M => if 0 < j then some (.d (.int (i % j)), M) else none
  | _, _, _ => none
def powS : VL → VL → Sto → RS
  | .d (.int i), .d (.int j), M => if 0 ≤ j ∧ j ≤ 1000000 ∧ i.natAbs < 2 ^ 64 then some (.d (.int (i ^ j.toNat)), M) else none
  | _, _, _ => none
def eqS (neg : Bool) (a b : VL) (M : Sto) : RS := match valD a M, valD b M with
  | some d, some e => if SeqAt.shaped d = true ∧ SeqAt.shaped e = true then some (.d (.bool (neg.xor (PyData.eqv d e))), M) else none
  | _, _ => none
def ltS (x y : Str) : Bool := decide (x.cps.toList < y.cps.toList)
def cmpI (f : Int → Int → Bool) (g : Str → Str → Bool) : VL → VL → Sto → RS
  | .d (.int i), .d (.int j), M => some (.d (.bool (f i j)), M)
  | .d (.str x), .d (.str y), M => some (.d (.bool (g x y)), M)
  | _, _, _ => none
def isS (neg : Bool) : VL → VL → Sto → RS
  | .d .none, .d .none, M => some (.d (.bool (neg.xor true)), M)
  | _, .d .none, M => some (.d (.bool (neg.xor false)), M)
  | .d (.bool a), .d (.bool b), M => some (.d (.bool (neg.xor (decide (a = b)))), M)
  | _, _, _ => none
/-- a sign of a text in it -/
def inL (neg : Bool) (d : PyData) (b : VL) (M : Sto) : RS := match b with
  | .d (.str y) => match d with
    | .str x => some (.d (.bool (neg.xor (!(Builtin.Str.occurrences y x 0 y.length 1).isEmpty))), M)
    | _ => none
  | b => match seqOf b M with
    | some ds => if SeqAt.shaped d = true ∧ SeqAt.shaped (.list ds) = true then some (.d (.bool (neg.xor (ds.any fun z => PyData.eqv z d))), M) else none
    | none => none
/-! dicts: keys are ints and texts (false) or tuples of such (true) -/
def kyD : PyData → Option Key
  | .int i => some (.inl i)
  | .str x => some (.inr x)
  | _ => none
def kyL : List PyData → Option (List Key)
  | [] => some []
  | d :: ds => (kyD d).bind fun k => (kyL ds).bind fun ks => some (k :: ks)
def keyOk (t : Bool) (d : PyData) : Bool := match t, d with
  | false, d => (kyD d).isSome
  | true, .tuple ds => (kyL ds).isSome
  | _, _ => false
def dGet : List (PyData × VL) → PyData → Option VL
  | [], _ => none
  | p :: kvs, d => if same p.1 d = true then some p.2 else dGet kvs d
def dHas (kvs : List (PyData × VL)) (d : PyData) : Bool := kvs.any fun p => same p.1 d
def dPut (kvs : List (PyData × VL)) (d : PyData) (v : VL) : List (PyData × VL) :=
  if dHas kvs d = true then kvs.map fun p => if same p.1 d = true then (p.1, v) else p else kvs ++ [(d, v)]
def dMerge (kvs ps : List (PyData × VL)) : List (PyData × VL) := ps.foldl (fun acc p => dPut acc p.1 p.2) kvs
/-- pairs told by a list of pairs -/
def prsD (t : Bool) : List PyData → Option (List (PyData × VL))
  | [] => some []
  | .tuple [k, v] :: ds => if keyOk t k = true then (prsD t ds).map ((k, .d v) :: ·) else none
  | _ => none
/-- pairs of a display -/
def prsV : List VL → Option (List (PyData × VL))
  | [] => some []
  | .d k :: v :: vs => if keyOk false k = true then (prsV vs).map ((k, v) :: ·) else none
  | _ => none
def prsT : List VL → Option (List (PyData × VL))
  | [] => some []
  | .d k :: v :: vs => if keyOk true k = true then (prsT vs).map ((k, v) :: ·) else none
  | _ => none
def dDrop (kvs : List (PyData × VL)) (d : PyData) : List (PyData × VL) := kvs.filter fun p => !same p.1 d
/-- the dict at a place -/
def dctOf : VL → Sto → Option (Bool × List (PyData × VL))
  | .r l, M => match M[l]? with
    | some (.dct t kvs) => some (t, kvs)
    | some (.dcl t kvs) => some (t, kvs)
    | _ => none
  | _, _ => none
def inS (neg : Bool) (a b : VL) (M : Sto) : RS := match dctOf b M with
  | some (t, kvs) => match a with
    | .d d => if keyOk t d = true then some (.d (.bool (neg.xor (dGet kvs d).isSome)), M) else none
    | _ => none
  | none => match valD a M with
    | some d => inL neg d b M
    | none => none
def ixS : VL → VL → Sto → RS
  | .d (.str z), .d (.int i), M => if z.length ≤ sizeLine then (atI z.cps.toList i).map fun c => (.d (.str ⟨#[c]⟩), M) else none
  | .d (.tuple ds), .d (.int i), M => (atI ds i).map fun d => (.d d, M)
  | .d (.list ds), .d (.int i), M => (atI ds i).map fun d => (.d d, M)
  | .r l, .d k, M => match M[l]? with
    | some (.lst ds) => match k with
      | .int i => (atI ds i).map fun d => (.d d, M)
      | _ => none
    | some (.nst vs) => match k with
      | .int i => (atI vs i).map fun v => (v, M)
      | _ => none
    | some (.dct t kvs) => if keyOk t k = true then (dGet kvs k).map fun v => (v, M) else none
    | some (.dcl t kvs) => if keyOk t k = true then (dGet kvs k).map fun v => (v, M) else none
    | none => none
  | _, _, _ => none
def bin2 : O2 → VL → VL → Sto → RS
  | .add => addS
  | .sub => subS
  | .mul => mulS
  | .fdiv => fdivS
  | .mod => modS
  | .pow => powS
  | .eq => eqS false
  | .ne => eqS true
  | .lt => cmpI (fun i j => decide (i < j)) ltS
  | .le => cmpI (fun i j => decide (i ≤ j)) fun x y => !ltS y x
  | .gt => cmpI (fun i j => decide (j < i)) fun x y => ltS y x
  | .ge => cmpI (fun i j => decide (j ≤ i)) fun x y => !ltS x y
  | .is => isS false
  | .isn => isS true
  | .inn => inS false
  | .nin => inS true
  | .ix => ixS
def cutL {α : Type} (xs : List α) (lo hi : Option Int) : List α := (xs.drop (HT.sIx xs.length 0 lo)).take (HT.sIx xs.length xs.length hi - HT.sIx xs.length 0 lo)
def partOf : VL → Option (Option Int)
  | .d .none => some none
  | .d (.int i) => some (some i)
  | _ => none
def slS (a : VL) (lo hi : Option Int) (M : Sto) : RS := match a with
  | .d (.tuple ds) => some (.d (.tuple (cutL ds lo hi)), M)
  | a => match lsOf a M with
    | some ds => some (.r M.length, M ++ [.lst (cutL ds lo hi)])
    | none => none
def intsOf : List PyData → Option (List Int)
  | [] => some []
  | .int i :: ds => (intsOf ds).map (i :: ·)
  | _ => none
def boolsOf : List PyData → Option (List Bool)
  | [] => some []
  | .bool i :: ds => (boolsOf ds).map (i :: ·)
  | _ => none
def maxL : List Int → Option Int
  | [] => none
  | x :: xs => some (xs.foldl max x)
def minL : List Int → Option Int
  | [] => none
  | x :: xs => some (xs.foldl min x)
/-- a list turned round -/
def revS (v : VL) (M : Sto) : RS := (lsOf v M).map fun ds => (.r M.length, M ++ [.lst ds.reverse])
/-- a display's end -/
def disS (n : Nat) (ps : List (PyData × VL)) (M : Sto) : RS := match M[n]? with
  | some (.dct false []) => if ps.length ≤ 15 then some (.r n, M.set n (.dct false (dMerge [] ps))) else none
  | _ => none
def disT (n : Nat) (ps : List (PyData × VL)) (M : Sto) : RS := match M[n]? with
  | some (.dct true []) => if ps.length ≤ 15 then some (.r n, M.set n (.dct true (dMerge [] ps))) else none
  | _ => none
/-- what is sorted: a list's, a tuple's items, a dict's keys -/
def itsOf (v : VL) (M : Sto) : Option (List PyData) := match dctOf v M with
  | some (_, kvs) => some (kvs.map Prod.fst)
  | none => seqOf v M
def btS : Bt → List VL → Sto → RS
  | .abs, [.d (.int i)], M => some (.d (.int (if i < 0 then -i else i)), M)
  | .max, [.d (.int i), .d (.int j)], M => some (.d (.int (if j > i then j else i)), M)
  | .min, [.d (.int i), .d (.int j)], M => some (.d (.int (if j < i then j else i)), M)
  | .max, [v], M => ((lsOf v M).bind intsOf).bind fun ns => (maxL ns).map fun m => (.d (.int m), M)
  | .min, [v], M => ((lsOf v M).bind intsOf).bind fun ns => (minL ns).map fun m => (.d (.int m), M)
  | .int, [.d (.int i)], M => some (.d (.int i), M)
  | .int, [.d (.bool b)], M => some (.d (.int (if b then 1 else 0)), M)
  | .len, [.d (.str z)], M => if z.length ≤ sizeLine then some (.d (.int z.length), M) else none
  | .len, [v], M => match seqOf v M with
    | some ds => some (.d (.int ds.length), M)
    | none => match v with
      | .r l => match M[l]? with
        | some (.nst vs) => some (.d (.int vs.length), M)
        | _ => none
      | _ => none
  | .list, [v], M => (seqOf v M).map fun ds => (.r M.length, M ++ [.lst ds])
  | .tuple, [v], M => (seqOf v M).map fun ds => (.d (.tuple ds), M)
  | .sum, [v], M => ((lsOf v M).bind intsOf).map fun ns => (.d (.int ns.sum), M)
  | .any, [v], M => ((lsOf v M).bind boolsOf).map fun ns => (.d (.bool (ns.any id)), M)
  | .all, [v], M => ((lsOf v M).bind boolsOf).map fun ns => (.d (.bool (ns.all id)), M)
  | .dict, [v], M => ((lsOf v M).bind (prsD false)).map fun ps => (.r M.length, M ++ [.dct false (dMerge [] ps)])
  | .dictT, [v], M => ((lsOf v M).bind (prsD true)).map fun ps => (.r M.length, M ++ [.dct true (dMerge [] ps)])
  | .sorted, [v], M => (itsOf v M).bind fun ds => if srtOk ds = true then some (.r M.length, M ++ [.lst (srtL ds)]) else none
  | _, _, _ => none
def isTy : PyData → Ty → Bool
  | .int _, .int => true
  | .bool _, .int => true
  | .bool _, .bool => true
  | .str _, .str => true
  | .tuple _, .tuple => true
  | .list _, .list => true
  | .dict _, .dict => true
  | _, _ => false
def isiS (v : VL) (t : Ty) (M : Sto) : RS := match v with
  | .d d => some (.d (.bool (isTy d t)), M)
  | .r l => match M[l]? with
    | some (.dct _ _) => some (.d (.bool (t == .dict)), M)
    | some (.dcl _ _) => none
    | some _ => some (.d (.bool (t == .list)), M)
    | none => none
def appS (v : VL) (x : VL) (M : Sto) : RS := match v with
  | .r l => match M[l]?, x with
    | some (.lst ds), .d d => if ds.length < sizeLine then some (.d .none, M.set l (.lst (ds ++ [d]))) else none
    | some (.lst ds), x => if ds.length < sizeLine then some (.d .none, M.set l (.nst (ds.map VL.d ++ [x]))) else none
    | some (.nst vs), x => if vs.length < sizeLine then some (.d .none, M.set l (.nst (vs ++ [x]))) else none
    | _, _ => none
  | _ => none
def getS (v : VL) (k : PyData) (x : VL) (M : Sto) : RS := match dctOf v M with
  | some (t, kvs) => if keyOk t k = true then some ((dGet kvs k).getD x, M) else none
  | none => none
def popS (v : VL) (k : PyData) (M : Sto) : RS := match v with
  | .r l => match M[l]? with
    | some (.dct t kvs) => match dGet kvs k with
      | some y => if keyOk t k = true then some (y, M.set l (.dct t (dDrop kvs k))) else none
      | none => none
    | _ => none
  | _ => none
def mtS : Mt → VL → List VL → Sto → RS
  | .append, v, [x], M => appS v x M
  | .get, v, [.d k], M => getS v k (.d .none) M
  | .get, v, [.d k, x], M => getS v k x M
  | .pop, v, [.d k], M => popS v k M
  | _, _, _, _ => none
/-- o[i] = x, o a list -/
def sixL (l : Nat) (k : Int) (x : VL) (M : Sto) : Option Sto := match M[l]?, x with
  | some (.lst ds), .d d => (ixN ds.length k).map fun j => M.set l (.lst (ds.set j d))
  | some (.lst ds), x => (ixN ds.length k).map fun j => M.set l (.nst ((ds.map VL.d).set j x))
  | some (.nst vs), x => (ixN vs.length k).map fun j => M.set l (.nst (vs.set j x))
  | _, _ => none
/-- o[i] = x -/
def sixS (o i x : VL) (M : Sto) : Option Sto := match o, i with
  | .r l, .d k => match M[l]? with
    | some (.dct t kvs) => if keyOk t k = true ∧ kvs.length < sizeLine then some (M.set l (.dct t (dPut kvs k x))) else none
    | _ => match k with
      | .int k => sixL l k x M
      | _ => none
  | _, _ => none
/-- what sort of thing a method is called of -/
def kindV : VL → Sto → String
  | .d (.str _), _ => "str"
  | .d (.tuple _), _ => "tuple"
  | .d (.list _), _ => "list"
  | .r l, M => match M[l]? with
    | some (.lst _) => "list"
    | some (.nst _) => "list"
    | some (.dct _ _) => "dict"
    | some (.dcl _ _) => ""
    | none => ""
  | _, _ => ""
def mtK : Mt → String → Bool
  | .append, "list" => true
  | .get, "dict" => true
  | .pop, "dict" => true
  | _, _ => false
def frzS (n : Nat) : VL × Sto → RS
  | (.r l, M) => if l = n ∧ M.length = n + 1 then match M[l]? with
    | some (.lst ds) => if (M.take n).all (·.lo n) = true then some (.d (.list ds), M.take n) else none
    | _ => none else none
  | r => some r

/-! ### what is walked -/
inductive PL where
  | fx (ds : List PyData)
  | lv (l : Nat) (ds : List PyData)
def PL.its : PL → List PyData
  | .fx ds => ds
  | .lv _ ds => ds
def PL.ok : PL → Sto → Bool
  | .fx _, _ => true
  | .lv l ds, M => match M[l]? with
    | some (.lst es) => sameA ds es
    | _ => false
def rngD (i j : Int) : List PyData := (List.range (j - i).toNat).map fun (k : Nat) => .int (i + (k : Int))
def plOf : VL → Sto → Option PL
  | .d (.tuple ds), _ => some (.fx ds)
  | .d (.list ds), _ => some (.fx ds)
  | .d (.str z), _ => some (.fx (z.cps.toList.map fun c => .str ⟨#[c]⟩))
  | .r l, M => match M[l]? with
    | some (.lst ds) => some (.lv l ds)
    | _ => none
  | _, _ => none
def setAll : List Nat → List PyData → Lo → Lo
  | i :: is, d :: ds, ρ => setAll is ds (ρ.set i (some (.d d)))
  | _, _, ρ => ρ
def setTg : Tg → PyData → Lo → Option Lo
  | .nm i, d, ρ => some (ρ.set i (some (.d d)))
  | .tp is, .tuple ds, ρ => if ds.length = is.length then some (setAll is ds ρ) else none
  | _, _, _ => none
def Tg.slots : Tg → List Nat
  | .nm i => [i]
  | .tp is => is
def wipeL (ρ : Lo) : List Nat → Lo
  | [] => ρ
  | v :: vs => (wipeL ρ vs).set v none
/-- the turns of a comprehension -/
def lcS (pl : PL) (f : PyData → Sto → Option (Option VL × Sto)) : List PyData → List VL → Sto → Option (List VL × Sto)
  | [], acc, M => if pl.ok M then some (acc, M) else none
  | d :: ds, acc, M => if pl.ok M then match f d M with
      | some (some y, M') => if acc.length < sizeLine then lcS pl f ds (acc ++ [y]) M' else none
      | some (none, M') => lcS pl f ds acc M'
      | none => none
    else none

/-- a chain's middle, its end -/
def chS (z : VL) (M : Sto) (k : RS) : RS := match z with
  | .d (.bool true) => k
  | .d (.bool false) => some (.d (.bool false), M)
  | _ => none
def chE : VL × Sto → RS
  | (.d (.bool k), M) => some (.d (.bool k), M)
  | _ => none
theorem chS_bool {b : Bool} {M : Sto} {k : RS} : chS (.d (.bool b)) M k = if b = true then k else some (.d (.bool false), M) := by cases b <;> rfl
theorem chE_bool {b : Bool} {M : Sto} : chE (.d (.bool b), M) = some (.d (.bool b), M) := id rfl
/-- a dict locked, and let go again -/
def lckS (x : VL) (M : Sto) (f : Sto → RS) : RS := match x with
  | .r l => match M[l]? with
    | some (.dct t kvs) => (f (M.set l (.dcl t kvs))).bind fun (y, M2) => some (y, M2.set l (.dct t kvs))
    | _ => none
  | _ => none
def keysOf (x : VL) (M : Sto) : Option PL := match x with
  | .r l => match M[l]? with
    | some (.dcl _ kvs) => some (.fx (kvs.map Prod.fst))
    | _ => none
  | _ => none
/-! ### the evaluator -/
mutual
def ev (Φ : Nat → Fs) : CE → Lo → Sto → RS
  | .c d, _, M => some (.d d, M)
  | .g _ d, _, M => some (.d d, M)
  | .v i, ρ, M => match ρ[i]? with
    | some (some v) => some (v, M)
    | _ => none
  | .o1 o a, ρ, M => (ev Φ a ρ M).bind fun (x, M1) => un1 o x M1
  | .o2 o a b, ρ, M => (ev Φ a ρ M).bind fun (x, M1) => (ev Φ b ρ M1).bind fun (y, M2) => bin2 o x y M2
  | .ch o o' a b c, ρ, M => (ev Φ a ρ M).bind fun (x, M1) => (ev Φ b ρ M1).bind fun (y, M2) => (bin2 o x y M2).bind fun (z, M3) => chS z M3 ((ev Φ c ρ M3).bind fun (w, M4) => (bin2 o' y w M4).bind chE)
  | .sl a lo hi, ρ, M => (ev Φ a ρ M).bind fun (x, M1) => (ev Φ lo ρ M1).bind fun (l, M2) => (ev Φ hi ρ M2).bind fun (h, M3) => (partOf l).bind fun l' => (partOf h).bind fun h' => slS x l' h' M3
  | .tup es, ρ, M => (evs Φ es ρ M).bind fun (vs, M1) => (dataA vs).bind fun ds => if ds.length ≤ sizeLine then some (.d (.tuple ds), M1) else none
  | .lst es, ρ, M => (evs Φ es ρ M).bind fun (vs, M1) => if vs.length ≤ sizeLine then newL vs M1 else none
  | .dnew t, _, M => some (.r M.length, M ++ [.dct t []])
  | .rev a, ρ, M => (ev Φ a ρ M).bind fun (x, M1) => revS x M1
  | .ddis es, ρ, M => (evs Φ es ρ (M ++ [.dct false []])).bind fun (vs, M1) => (prsV vs).bind fun ps => disS M.length ps M1
  | .ddisT es, ρ, M => (evs Φ es ρ (M ++ [.dct true []])).bind fun (vs, M1) => (prsT vs).bind fun ps => disT M.length ps M1
  | .inC neg a _ ds, ρ, M => (ev Φ a ρ M).bind fun (x, M1) => (valD x M1).bind fun d => inL neg d (.d (.tuple ds)) M1
  | .frz e, ρ, M => (ev Φ e ρ M).bind fun r => frzS M.length r
  | .bt b es, ρ, M => (evs Φ es ρ M).bind fun (vs, M1) => btS b vs M1
  | .isi a t, ρ, M => (ev Φ a ρ M).bind fun (x, M1) => isiS x t M1
  | .mt m a es, ρ, M => (ev Φ a ρ M).bind fun (x, M1) => if mtK m (kindV x M1) = true then (evs Φ es ρ M1).bind fun (vs, M2) => mtS m x vs M2 else none
  | .call j es, ρ, M => (evs Φ es ρ M).bind fun (vs, M1) => Φ j vs M1
  | .and a b, ρ, M => (ev Φ a ρ M).bind fun (x, M1) => (tru x M1).bind fun k => if k then ev Φ b ρ M1 else some (x, M1)
  | .or a b, ρ, M => (ev Φ a ρ M).bind fun (x, M1) => (tru x M1).bind fun k => if k then some (x, M1) else ev Φ b ρ M1
  | .not a, ρ, M => (ev Φ a ρ M).bind fun (x, M1) => (tru x M1).bind fun k => some (.d (.bool (!k)), M1)
  | .ite c a b, ρ, M => (ev Φ c ρ M).bind fun (x, M1) => (tru x M1).bind fun k => if k then ev Φ a ρ M1 else ev Φ b ρ M1
  | .lc tg it cond elt, ρ, M => (evI Φ it ρ M).bind fun (pl, M1) =>
      (lcS pl (fun d M => (setTg tg d (wipeL ρ tg.slots)).bind fun ρ1 => (ev Φ cond ρ1 M).bind fun (x, M2) => (tru x M2).bind fun k =>
        if k then (ev Φ elt ρ1 M2).bind fun (y, M3) => some (some y, M3) else some (none, M2)) pl.its [] M1).bind fun (vs, M2) => newL vs M2
  | .lck a e, ρ, M => (ev Φ a ρ M).bind fun (x, _) => lckS x M fun M1 => ev Φ e ρ M1
def evs (Φ : Nat → Fs) : CEs → Lo → Sto → Option (List VL × Sto)
  | .nil, _, M => some ([], M)
  | .cons e es, ρ, M => (ev Φ e ρ M).bind fun (x, M1) => (evs Φ es ρ M1).bind fun (xs, M2) => some (x :: xs, M2)
def evI (Φ : Nat → Fs) : CI → Lo → Sto → Option (PL × Sto)
  | .val e, ρ, M => (ev Φ e ρ M).bind fun (x, M1) => (plOf x M1).bind fun pl => some (pl, M1)
  | .rng e, ρ, M => (ev Φ e ρ M).bind fun (x, M1) => match x with
    | .d (.int j) => if small62 j = true then some (.fx (rngD 0 j), M1) else none
    | _ => none
  | .rng2 a b, ρ, M => (ev Φ a ρ M).bind fun (x, M1) => (ev Φ b ρ M1).bind fun (y, M2) => match x, y with
    | .d (.int i), .d (.int j) => if small62 i = true ∧ small62 j = true then some (.fx (rngD i j), M2) else none
    | _, _ => none
  | .enum _, _, _ => none
  | .zip _ _, _, _ => none
  | .keys e, ρ, M => (ev Φ e ρ M).bind fun (x, M1) => (keysOf x M1).bind fun pl => some (pl, M1)
end
/-- how a statement ends -/
inductive Fl where
  | nx | bk | ct
  | rt (v : VL)
abbrev RQ := Option (Fl × Lo × Sto)
/-- the turns of a for -/
def forS (pl : PL) (f : PyData → Lo → Sto → RQ) : List PyData → Lo → Sto → RQ
  | [], ρ, M => if pl.ok M then some (.nx, ρ, M) else none
  | d :: ds, ρ, M => if pl.ok M then match f d ρ M with
      | some (.nx, ρ', M') => forS pl f ds ρ' M'
      | some (.ct, ρ', M') => forS pl f ds ρ' M'
      | some (.bk, ρ', M') => some (.nx, ρ', M')
      | some (.rt v, ρ', M') => some (.rt v, ρ', M')
      | none => none
    else none
/-- the turns of a while, at most n -/
def whlS (c : Lo → Sto → Option (Bool × Sto)) (f : Lo → Sto → RQ) : Nat → Lo → Sto → RQ
  | 0, _, _ => none
  | n + 1, ρ, M => match c ρ M with
    | some (true, M1) => match f ρ M1 with
      | some (.nx, ρ', M') => whlS c f n ρ' M'
      | some (.ct, ρ', M') => whlS c f n ρ' M'
      | some (.bk, ρ', M') => some (.nx, ρ', M')
      | some (.rt v, ρ', M') => some (.rt v, ρ', M')
      | none => none
    | some (false, M1) => some (.nx, ρ, M1)
    | none => none
def lckQ (x : VL) (M : Sto) (f : Sto → RQ) : RQ := match x with
  | .r l => match M[l]? with
    | some (.dct t kvs) => (f (M.set l (.dcl t kvs))).bind fun (y, ρ2, M2) => some (y, ρ2, M2.set l (.dct t kvs))
    | _ => none
  | _ => none
def setVs : List Nat → List VL → Lo → Lo
  | i :: is, v :: vs, ρ => setVs is vs (ρ.set i (some v))
  | _, _, ρ => ρ
/-- targets filled from the left -/
def setT (Φ : Nat → Fs) : CTs → List VL → Lo → Sto → Option (Lo × Sto)
  | .nil, [], ρ, M => some (ρ, M)
  | .nm i ts, v :: vs, ρ, M => setT Φ ts vs (ρ.set i (some v)) M
  | .sub o i ts, v :: vs, ρ, M => (ev Φ o ρ M).bind fun (x, M1) => (ev Φ i ρ M1).bind fun (z, M2) => (sixS x z v M2).bind fun M3 => setT Φ ts vs ρ M3
  | _, _, _, _ => none
mutual
/-- fu: how many turns a while may take -/
def ex (Φ : Nat → Fs) (fu : Nat) : CS → Lo → Sto → RQ
  | .asg i e, ρ, M => (ev Φ e ρ M).bind fun (x, M1) => some (.nx, ρ.set i (some x), M1)
  | .par is es, ρ, M => (evs Φ es ρ M).bind fun (vs, M1) => if vs.length = is.length then some (.nx, setVs is vs ρ, M1) else none
  | .unp is e, ρ, M => (ev Φ e ρ M).bind fun (x, M1) => match x with
    | .d (.tuple ds) => if ds.length = is.length then some (.nx, setAll is ds ρ, M1) else none
    | _ => none
  | .gas ts es, ρ, M => (evs Φ es ρ M).bind fun (vs, M1) => (setT Φ ts vs ρ M1).bind fun (ρ2, M2) => some (.nx, ρ2, M2)
  | .gun ts e, ρ, M => (ev Φ e ρ M).bind fun (x, M1) => match x with
    | .d (.tuple ds) => (setT Φ ts (ds.map VL.d) ρ M1).bind fun (ρ2, M2) => some (.nx, ρ2, M2)
    | _ => none
  | .six o i e, ρ, M => (ev Φ e ρ M).bind fun (x, M1) => (ev Φ o ρ M1).bind fun (y, M2) => (ev Φ i ρ M2).bind fun (z, M3) => (sixS y z x M3).bind fun M4 => some (.nx, ρ, M4)
  | .ex e, ρ, M => (ev Φ e ρ M).bind fun (_, M1) => some (.nx, ρ, M1)
  | .ret e, ρ, M => (ev Φ e ρ M).bind fun (x, M1) => some (.rt x, ρ, M1)
  | .retN, ρ, M => some (.rt (.d .none), ρ, M)
  | .ite c a b, ρ, M => (ev Φ c ρ M).bind fun (x, M1) => (tru x M1).bind fun k => if k then exs Φ fu a ρ M1 else exs Φ fu b ρ M1
  | .forr tg it body, ρ, M => (evI Φ it ρ M).bind fun (pl, M1) => forS pl (fun d ρ M => (setTg tg d ρ).bind fun ρ1 => exs Φ fu body ρ1 M) pl.its ρ M1
  | .whl c body, ρ, M => whlS (fun ρ M => (ev Φ c ρ M).bind fun (x, M1) => (tru x M1).bind fun k => some (k, M1)) (fun ρ M => exs Φ fu body ρ M) fu ρ M
  | .brk, ρ, M => some (.bk, ρ, M)
  | .cnt, ρ, M => some (.ct, ρ, M)
  | .pas, ρ, M => some (.nx, ρ, M)
  | .dead, _, _ => none
  | .lck a s, ρ, M => (ev Φ a ρ M).bind fun (x, _) => lckQ x M fun M1 => ex Φ fu s ρ M1
def exs (Φ : Nat → Fs) (fu : Nat) : CSs → Lo → Sto → RQ
  | .nil, ρ, M => some (.nx, ρ, M)
  | .cons s ss, ρ, M => match ex Φ fu s ρ M with
    | some (.nx, ρ', M') => exs Φ fu ss ρ' M'
    | r => r
  | .disp i _ ents e es tg ss, ρ, M => if i < ρ.length then (ev Φ e ρ M).bind fun (x, M1) => match x with
    | .d (.str z) => match ents.lookup z with
      | some j => (evs Φ es (ρ.set i none) M1).bind fun (vs, M2) => (Φ j vs M2).bind fun (v, M3) => match tg with
        | none => some (.rt v, ρ.set i none, M3)
        | some k => exs Φ fu ss ((ρ.set i none).set k (some v)) M3
      | none => none
    | _ => none
    else none
end
/-- behind a call: the store cut back -/
def trunc (n : Nat) (v : VL) (M : Sto) : RS := if (M.take n).all (·.lo n) = true then match v with
  | .d d => some (.d d, M.take n)
  | .r l => if l < n then some (.r l, M.take n) else match M[l]? with
    | some o => if o.lo n = true then some (.r n, M.take n ++ [o]) else none
    | none => none
  else none
/-- a def -/
@[irreducible] def fnS (Φ : Nat → Fs) (fu : Nat) (n : Nat) (body : CSs) : Fs := fun vs M => match exs Φ fu body (vs.map some ++ List.replicate (n - vs.length) none) M with
  | some (.rt v, _, M') => trunc M.length v M'
  | some (.nx, _, M') => trunc M.length (.d .none) M'
  | _ => none
/-! ### dicts: the store's and the heap's -/
theorem same_kD (a b : Key) : same (kD a) (kD b) = decide (a = b) := by
  cases a <;> cases b <;> simp [kD, same, Bool.beq_eq_decide_eq]
theorem same_kL : ∀ (a b : List Key), sameA (a.map kD) (b.map kD) = decide (a = b)
  | [], [] => rfl
  | [], _ :: _ => rfl
  | _ :: _, [] => rfl
  | a :: as, b :: bs => by
    simp only [List.map_cons, sameA, same_kD, same_kL as bs, List.cons.injEq, Bool.decide_and]
theorem same_kT (a b : List Key) : same (.tuple (a.map kD)) (.tuple (b.map kD)) = decide (a = b) := by simp only [same, same_kL]
theorem kyD_ok : ∀ {d : PyData} {k : Key}, kyD d = some k → kD k = d
  | .int i, _, h => by cases h; rfl
  | .str x, _, h => by cases h; rfl
  | .none, _, h => by cases h
  | .bool _, _, h => by cases h
  | .list _, _, h => by cases h
  | .tuple _, _, h => by cases h
  | .dict _, _, h => by cases h
theorem kyL_ok : ∀ {ds : List PyData} {ks : List Key}, kyL ds = some ks → ks.map kD = ds
  | [], _, h => by cases h; rfl
  | d :: ds, ks, h => by
    simp only [kyL, Option.bind_eq_some_iff, Option.some.injEq] at h
    obtain ⟨k, h1, ks', h2, rfl⟩ := h
    rw [List.map_cons, kyD_ok h1, kyL_ok h2]
section
variable {K : PySem.W.Frag} {H : Hp} {θ : Nat → Addr} {n : Nat} {κ : Type} [DecidableEq κ] {f : κ → PyData}
abbrev DP (K : PySem.W.Frag) (H : Hp) (θ : Nat → Addr) (n : Nat) {κ : Type} (f : κ → PyData) : List (κ × V) → List (PyData × VL) → Prop :=
  Paired fun (p : κ × V) (q : PyData × VL) => f p.1 = q.1 ∧ VR K H θ n p.2 q.2
theorem dp_get (hf : ∀ a b, same (f a) (f b) = decide (a = b)) {ls : List (κ × V)} {kvs : List (PyData × VL)} (r : DP K H θ n f ls kvs) (k : κ) :
    (dGet kvs (f k) = none ∧ valV ls k = none) ∨ ∃ v x, dGet kvs (f k) = some v ∧ valV ls k = some x ∧ VR K H θ n x v := by
  induction r with
  | nil => exact .inl ⟨rfl, rfl⟩
  | @cons p q ps qs h t ih =>
    simp only [dGet, ← h.1, hf, decide_eq_true_eq]
    by_cases e : p.1 = k
    · rw [if_pos e, valV_pos e]
      exact .inr ⟨_, _, rfl, rfl, h.2⟩
    · rw [if_neg e, valV_neg e]
      exact ih
theorem dp_has (hf : ∀ a b, same (f a) (f b) = decide (a = b)) {ls : List (κ × V)} {kvs : List (PyData × VL)} (r : DP K H θ n f ls kvs) (k : κ) :
    dHas kvs (f k) = ls.any fun kv => decide (kv.1 = k) := by
  unfold dHas
  induction r with
  | nil => rfl
  | @cons p q ps qs h t ih => rw [List.any_cons, List.any_cons, ih, ← h.1, hf]
theorem dp_put (hf : ∀ a b, same (f a) (f b) = decide (a = b)) {ls : List (κ × V)} {kvs : List (PyData × VL)} (r : DP K H θ n f ls kvs) (k : κ) {x : V} {v : VL} (hv : VR K H θ n x v) :
    DP K H θ n f (putK ls k x) (dPut kvs (f k) v) := by
  unfold putK dPut
  rw [dp_has hf r k]
  split
  · rename_i hh; clear hh
    induction r with
    | nil => exact .nil
    | @cons p q ps qs h t ih =>
      rw [List.map_cons, List.map_cons]
      refine .cons ?_ ih
      simp only [← h.1, hf, decide_eq_true_eq]
      by_cases e : p.1 = k
      · rw [if_pos e, if_pos e]; exact ⟨rfl, hv⟩
      · rw [if_neg e, if_neg e]; exact h
  · rename_i hh; clear hh
    induction r with
    | nil => exact .cons ⟨rfl, hv⟩ .nil
    | cons h t ih => exact .cons h ih
theorem dp_drop (hf : ∀ a b, same (f a) (f b) = decide (a = b)) {ls : List (κ × V)} {kvs : List (PyData × VL)} (r : DP K H θ n f ls kvs) (k : κ) : DP K H θ n f (dropK ls k) (dDrop kvs (f k)) := by
  unfold dropK dDrop
  induction r with
  | nil => exact .nil
  | @cons p q ps qs h t ih =>
    rw [List.filter_cons, List.filter_cons]
    by_cases e : p.1 = k
    · have e2 : same q.1 (f k) = true := by rw [← h.1, hf]; exact decide_eq_true e
      rw [if_neg (by simp [e]), if_neg (by simp [e2])]; exact ih
    · have e2 : same q.1 (f k) = false := by rw [← h.1, hf]; exact decide_eq_false e
      rw [if_pos (by simp [e]), if_pos (by simp [e2])]; exact .cons h ih
theorem dp_merge (hf : ∀ a b, same (f a) (f b) = decide (a = b)) : ∀ {more : List (κ × V)} {ps : List (PyData × VL)}, DP K H θ n f more ps → ∀ {ls : List (κ × V)} {kvs : List (PyData × VL)}, DP K H θ n f ls kvs →
    DP K H θ n f (more.foldl (fun acc kv => putK acc kv.1 kv.2) ls) (dMerge kvs ps) := by
  intro more ps r
  induction r with
  | nil => intro ls kvs q; exact q
  | @cons p q ps qs h t ih =>
    intro ls kvs r0
    have e := dp_put hf r0 p.1 h.2
    rw [h.1] at e
    exact ih e
theorem DP.kp {H' : Hp} {θ' : Nat → Addr} {m : Nat} {ls : List (κ × V)} {kvs : List (PyData × VL)} (r : DP K H θ n f ls kvs) (k : Kp H H') (hn : n ≤ m) (ht : ∀ i, i < n → θ' i = θ i) : DP K H' θ' m f ls kvs :=
  Paired.mapP r fun p q z => ⟨z.1, VR.kp z.2 k hn ht⟩
end
section
variable {X : Cx}
def rIxDi : R2 := fun x y H Q => ∃ a v, x = .ref a ∧ DGet H a y (some v) ∧ Q v H
theorem ix_di (hu : X.A.units + 1 < cLine) : IxR X rIxDi := by
  intro ve se pins s σ H x y v u Q I rx ry ⟨a, z, ex, g, q⟩ sub
  subst ex
  cases rx
  have hT := dict_typeIs I g
  unfold subscriptTail
  refine wpAny_bind ?_
  rw [getitemInPython_of_ne hT.not_modules]
  refine wpAny_bind (wpAny_specialOf hT PySem.F.slot_dict_getitem.lookup ?_)
  have last : wpAny (model X.prog X.w) X.A (subscripted se false (.ref a) u) (fun r s3 => wpAny (model X.prog X.w) X.A (letTemporaryGo ve (.ref a) r >>= fun _ => pure r) (EP X pins σ Q) X.xe s3) X.xe s := by
    rw [sub]
    refine wpAny_operating (d_getItem hu I g ry fun r s3 I3 rr => ?_)
    exact wpAny_bind (wpAny_letTemporaryGo (wpAny_pure ⟨z, H, I3, rr, q⟩))
  first
    | exact wpAny_pure (wpAny_bind last)
    | exact wpAny_bind (wpAny_pure (wpAny_bind last))
    | exact wpAny_bind last
theorem rpA_keys {K : PySem.W.Frag} {H : Hp} : ∀ {ks : List Key} {xs : List V}, RpA K H xs (ks.map kD) → xs = ks.map kV
  | [], _, r => by cases r; rfl
  | k :: ks, _, r => by
    cases r with
    | cons r1 r2 =>
      rw [List.map_cons, ← rpA_keys r2]
      cases k <;> cases r1 <;> rfl
theorem rd_at {K : PySem.W.Frag} {H : Hp} {θ : Nat → Addr} {M : Sto} {l : Nat} {t : Bool} {kvs : List (PyData × VL)} (s : SR K H θ M) (eo : M[l]? = some (.dct t kvs) ∨ M[l]? = some (.dcl t kvs)) :
    match t with
    | false => ∃ ls : List (Key × V), Rd H (θ l) (.dK ls) ∧ DP K H θ M.length kD ls kvs
    | true => ∃ ls : List (List Key × V), Rd H (θ l) (.dT ls) ∧ DP K H θ M.length (fun k : List Key => PyData.tuple (k.map kD)) ls kvs := by
  rcases eo with eo | eo
  · have ho := s.ob l _ eo
    cases t
    · obtain ⟨ls, q, r⟩ := ho
      exact ⟨ls, .inl q, r⟩
    · obtain ⟨ls, q, r⟩ := ho
      exact ⟨ls, .inl q, r⟩
  · have ho := s.ob l _ eo
    cases t
    · obtain ⟨o, ls, q, r⟩ := ho
      exact ⟨ls, .inr ⟨o, q⟩, r⟩
    · obtain ⟨o, ls, q, r⟩ := ho
      exact ⟨ls, .inr ⟨o, q⟩, r⟩
/-- what the store's dict holds, the heap's does -/
theorem dget_at {K : PySem.W.Frag} {H : Hp} {θ : Nat → Addr} {M : Sto} {l : Nat} {t : Bool} {kvs : List (PyData × VL)} {d : PyData} {y : V} (s : SR K H θ M) (eo : M[l]? = some (.dct t kvs) ∨ M[l]? = some (.dcl t kvs)) (hk : keyOk t d = true) (hy : VR K H θ M.length y (.d d)) :
    (dGet kvs d = none ∧ DGet H (θ l) y none) ∨ ∃ v x, dGet kvs d = some v ∧ DGet H (θ l) y (some x) ∧ VR K H θ M.length x v := by
  have ho := rd_at s eo
  cases t with
  | false =>
    obtain ⟨ls, q, r⟩ := ho
    obtain ⟨k, ek⟩ := Option.isSome_iff_exists.mp hk
    have e := kyD_ok ek
    have ey : y = kV k := by
      subst e
      cases k <;> cases hy <;> rfl
    subst e ey
    rcases dp_get same_kD r k with ⟨h1, h2⟩ | ⟨v, x, h1, h2, h3⟩
    · exact .inl ⟨h1, by rw [← h2]; exact .inl ⟨_, _, q, rfl, rfl⟩⟩
    · exact .inr ⟨v, x, h1, by rw [← h2]; exact .inl ⟨_, _, q, rfl, rfl⟩, h3⟩
  | true =>
    obtain ⟨ls, q, r⟩ := ho
    cases d with
    | tuple ds =>
      obtain ⟨ks, ek⟩ := Option.isSome_iff_exists.mp hk
      have e := kyL_ok ek
      subst e
      cases hy with
      | @tup b xs _ qb rb =>
        have ex : xs = ks.map kV := by
          clear qb ek hk
          induction ks generalizing xs with
          | nil => cases rb; rfl
          | cons k ks ih =>
            cases rb with
            | cons r1 r2 =>
              rw [List.map_cons, ← ih r2]
              cases k <;> cases r1 <;> rfl
        subst ex
        rcases dp_get same_kT r ks with ⟨h1, h2⟩ | ⟨v, x, h1, h2, h3⟩
        · exact .inl ⟨h1, by rw [← h2]; exact .inr ⟨_, _, _, q, rfl, qb, rfl⟩⟩
        · exact .inr ⟨v, x, h1, by rw [← h2]; exact .inr ⟨_, _, _, q, rfl, qb, rfl⟩, h3⟩
    | _ => cases hk
theorem dctOf_at {b : VL} {M : Sto} {t : Bool} {kvs : List (PyData × VL)} (h : dctOf b M = some (t, kvs)) : ∃ l, b = .r l ∧ (M[l]? = some (.dct t kvs) ∨ M[l]? = some (.dcl t kvs)) := by
  unfold dctOf at h
  split at h
  · split at h
    · cases h; exact ⟨_, rfl, .inl (by assumption)⟩
    · cases h; exact ⟨_, rfl, .inr (by assumption)⟩
    · cases h
  · cases h
end
theorem rp_kV {K : PySem.W.Frag} {H : Hp} : ∀ k : Key, Rp K H (kV k) (kD k)
  | .inl i => .int i
  | .inr x => .str x
theorem keys_k {K : PySem.W.Frag} {H : Hp} {θ : Nat → Addr} {n : Nat} : ∀ {ls : List (Key × V)} {kvs : List (PyData × VL)}, DP K H θ n kD ls kvs → Paired (Rp K H) (ls.map fun kv => kV kv.1) (kvs.map Prod.fst)
  | _, _, .nil => .nil
  | p :: _, _, .cons h t => .cons (by rw [← h.1]; exact rp_kV p.1) (keys_k t)
theorem rpA_kV {K : PySem.W.Frag} {H : Hp} : ∀ ks : List Key, RpA K H (ks.map kV) (ks.map kD)
  | [] => .nil
  | .inl i :: ks => .cons (.int i) (rpA_kV ks)
  | .inr x :: ks => .cons (.str x) (rpA_kV ks)
theorem keys_t {K : PySem.W.Frag} {H : Hp} {θ : Nat → Addr} {n : Nat} : ∀ {ls : List (List Key × V)} {kvs : List (PyData × VL)} {bs : List Addr}, DP K H θ n (fun k : List Key => PyData.tuple (k.map kD)) ls kvs → IsKeys H ls bs → Paired (Rp K H) (bs.map V.ref) (kvs.map Prod.fst)
  | _, _, _, .nil, .nil => .nil
  | p :: _, _, _, .cons h t, .cons h' t' => .cons (by rw [← h.1]; exact .tup h' (rpA_kV _)) (keys_t t t')
theorem rpA_paired {K : PySem.W.Frag} {H : Hp} : ∀ {xs : List V} {ds : List PyData}, RpA K H xs ds → Paired (Rp K H) xs ds
  | [], [], _ => .nil
  | _, _ :: _, h => by
    cases h with
    | cons r rs => exact .cons r (rpA_paired rs)
  | _ :: _, [], h => by cases h
theorem paired_rpA {K : PySem.W.Frag} {H : Hp} : ∀ {xs : List V} {ds : List PyData}, Paired (Rp K H) xs ds → RpA K H xs ds
  | _, _, .nil => .nil
  | _, _, .cons r t => .cons r (paired_rpA t)
end Pv
namespace Pv
open PySem PySem.Spec PyProof.Rows L2

/-! ### readings by the evaluator -/
/-- what is wanted behind an evaluation -/
abbrev Kon (K : PySem.W.Frag) (θ : Nat → Addr) (M : Sto) (H : Hp) (v : VL) (M' : Sto) (Q : VK) : Prop :=
  ∀ (θ' : Nat → Addr) (H' : Hp) (z : V), Go K θ M H θ' M' H' → VR K H' θ' M'.length z v → Q z H'
def rv1 (K : PySem.W.Frag) (f : VL → Sto → RS) : V → Hp → VK → Prop := fun x H Q => ∃ θ M a v M', SR K H θ M ∧ VR K H θ M.length x a ∧ f a M = some (v, M') ∧ Kon K θ M H v M' Q
def rv2 (K : PySem.W.Frag) (f : VL → VL → Sto → RS) : R2 := fun x y H Q => ∃ θ M a b v M', SR K H θ M ∧ VR K H θ M.length x a ∧ VR K H θ M.length y b ∧ f a b M = some (v, M') ∧ Kon K θ M H v M' Q
abbrev VRs (K : PySem.W.Frag) (H : Hp) (θ : Nat → Addr) (n : Nat) : List V → List VL → Prop := Paired (VR K H θ n)
def rvN (K : PySem.W.Frag) (f : List VL → Sto → RS) : List V → Hp → VK → Prop := fun xs H Q => ∃ θ M as v M', SR K H θ M ∧ VRs K H θ M.length xs as ∧ f as M = some (v, M') ∧ Kon K θ M H v M' Q
def rvM (K : PySem.W.Frag) (f : VL → List VL → Sto → RS) : V → List V → Hp → VK → Prop := fun x xs H Q => ∃ θ M a as v M', SR K H θ M ∧ VR K H θ M.length x a ∧ VRs K H θ M.length xs as ∧ f a as M = some (v, M') ∧ Kon K θ M H v M' Q

section
variable {X : Cx} {pins : List (Addr × Obj)} {σ : L2.St} {H : Hp} {s : Shared}
theorem Kon.at {K : PySem.W.Frag} {θ : Nat → Addr} {M : Sto} {H : Hp} {v : VL} {Q : VK} {z : V} (k : Kon K θ M H v M Q) (s : SR K H θ M) (h : VR K H θ M.length z v) : Q z H := k θ H z (Go.refl s) h
/-- a new tuple -/
theorem Kon.tup {K : PySem.W.Frag} {θ : Nat → Addr} {M : Sto} {H : Hp} {ds : List PyData} {Q : VK} {xs : List V} (k : Kon K θ M H (.d (.tuple ds)) M Q) (s : SR K H θ M) (h : RpA K H xs ds) :
    ∀ p, H p = none → Q (.ref p) (upd H p (.tup xs)) := fun p hp => by
  have g := Go.lay (o := .tup xs) s hp
  exact k θ _ _ g (Rp.tup upd_same (RpA.kp (g.kp s) _ _ h))
/-- a new dict -/
theorem Kon.dct {K : PySem.W.Frag} {θ : Nat → Addr} {M : Sto} {H : Hp} {t : Bool} {kvs : List (PyData × VL)} {o : HO} {Q : VK} (k : Kon K θ M H (.r M.length) (M ++ [.dct t kvs]) Q) (s : SR K H θ M)
    (h : ∀ {p : Addr} {θ' : Nat → Addr}, MR K (upd H p o) θ' (M.length + 1) p (.dct t kvs)) : ∀ p, H p = none → Q (.ref p) (upd H p o) := fun p hp => by
  have g := Go.push (o := o) (mo := .dct t kvs) s hp h
  refine k _ _ _ g ⟨by simp, ?_⟩
  show V.ref p = V.ref (if M.length = M.length then p else θ M.length)
  rw [if_pos rfl]
/-- a new list -/
theorem Kon.lst {K : PySem.W.Frag} {θ : Nat → Addr} {M : Sto} {H : Hp} {ds : List PyData} {Q : VK} {xs : List V} (k : Kon K θ M H (.r M.length) (M ++ [.lst ds]) Q) (s : SR K H θ M) (h : RpA K H xs ds) :
    ∀ p, H p = none → Q (.ref p) (upd H p (.lst xs)) := fun p hp => by
  have kp : Kp H (upd H p (.lst xs)) := (Go.lay (o := .lst xs) s hp).kp s
  have g := Go.push (o := .lst xs) (mo := .lst ds) s hp ⟨xs, upd_same, RpA.kp kp _ _ h⟩
  refine k _ _ _ g ⟨by simp, ?_⟩
  show V.ref p = V.ref (if M.length = M.length then p else θ M.length)
  rw [if_pos rfl]
/-- a list of plain data, changed or not -/
def LsA (K : PySem.W.Frag) (H : Hp) (a : Addr) (xs : List V) : Prop := H a = some (.lst xs) ∨ FzL K H a xs
theorem LsA.sq {K : PySem.W.Frag} {a : Addr} {xs : List V} (h : LsA K H a xs) : SqL K H a xs := by
  rcases h with h | h
  · exact .inl (.inl h)
  · exact h.sq
theorem listOf_at {K : PySem.W.Frag} {θ : Nat → Addr} {M : Sto} {x : V} {a : VL} {ds : List PyData} (s : SR K H θ M) (h : VR K H θ M.length x a) (e : lsOf a M = some ds) : ∃ p xs, x = .ref p ∧ LsA K H p xs ∧ RpA K H xs ds := by
  cases a with
  | d d =>
    cases d <;> simp only [lsOf, reduceCtorEq, Option.some.injEq] at e
    subst e
    cases h with
    | lst e r => exact ⟨_, _, rfl, .inr e, r⟩
  | r l =>
    obtain ⟨hl, rfl⟩ := h
    simp only [lsOf] at e
    split at e
    · rename_i ds' eo
      cases e
      obtain ⟨xs, q, r⟩ := s.ob l _ eo
      exact ⟨_, xs, rfl, .inl q, r⟩
    · cases e
theorem seqOf_at {K : PySem.W.Frag} {θ : Nat → Addr} {M : Sto} {x : V} {a : VL} {ds : List PyData} (s : SR K H θ M) (h : VR K H θ M.length x a) (e : seqOf a M = some ds) :
    ∃ p xs, x = .ref p ∧ (LsA K H p xs ∨ (H p = some (.tup xs) ∧ a = .d (.tuple ds))) ∧ RpA K H xs ds := by
  unfold seqOf at e
  split at e
  · cases e
    cases h with
    | tup e r => exact ⟨_, _, rfl, .inr ⟨e, rfl⟩, r⟩
  · obtain ⟨p, xs, h1, h2, h3⟩ := listOf_at s h e
    exact ⟨p, xs, h1, .inl h2, h3⟩
def rCatL (K : PySem.W.Frag) : R2 := fun x y H Q => ∃ l b xs zs, x = .ref l ∧ y = .ref b ∧ LsA K H l xs ∧ LsA K H b zs ∧ xs.length + zs.length ≤ sizeLine ∧ ∀ p, H p = none → Q (.ref p) (upd H p (.lst (xs ++ zs)))
theorem op_catL : OpR X (binaryOp .Add) (rCatL X.K) := by
  intro pins s σ H x y v u Q I rx ry h
  obtain ⟨l, b, xs, zs, rfl, rfl, hH, hB, hz, q⟩ := h
  cases rx
  cases ry
  obtain ⟨its, r, pl, hz1⟩ := I.list hH.sq
  obtain ⟨its2, r2, pl2, hz2⟩ := I.list hB.sq
  obtain ⟨⟨c1, d1, t1, w1⟩, o1, e1, n1, f1⟩ := pl.isList
  obtain ⟨⟨c2, d2, t2, w2⟩, o2, e2, n2, f2⟩ := pl2.isList
  simp only at e1 f1 e2 f2
  subst e1 f1 e2 f2
  have l1 := r.length
  have l2 := r2.length
  refine concat_meets (T := "list") ⟨_, o1, rfl⟩ ⟨_, o2, rfl⟩ noFill_list_add seq_list_add PySem.F.slot_list_add PySem.F.entry_list_add (PySem.F.args_list_add_2 _ _)
    (list_addW l b its.toArray its2.toArray n1 n2 d1 d2 w1 w2 (by rw [List.size_toArray, List.size_toArray]; omega)) ⟨o1, o2, ?_⟩
  have ea : its.toArray ++ its2.toArray = (its ++ its2).toArray := by simp
  rw [ea]
  exact ⟨.ref _, _, I.lnew (t' := s.toks) (r.append r2) (by rw [List.length_append]; omega), rfl, q _ I.fresh⟩

theorem v_neg : UnR X (unaryOp .USub) (rv1 X.K (un1 .neg)) := by
  intro pins s σ H x v Q I rx ⟨θ, M, a, w, M', hs, ha, e, k⟩
  simp only [un1, int1] at e
  split at e
  · cases e
    cases ha
    exact un_neg pins s σ H _ v Q I rx ⟨_, rfl, k.at hs (.int _)⟩
  · cases e
theorem v_add : OpR X (binaryOp .Add) (rv2 X.K addS) := by
  intro pins s σ H x y v u Q I rx ry ⟨θ, M, a, b, w, M', hs, ha, hb, e, k⟩
  unfold addS at e
  split at e
  · cases e; cases ha; cases hb
    exact op_add pins s σ H _ _ v u Q I rx ry ⟨_, _, rfl, rfl, k.at hs (.int _)⟩
  · split at e
    · cases e; cases ha; cases hb
      exact op_add_str pins s σ H _ _ v u Q I rx ry ⟨_, _, rfl, rfl, by assumption, k.at hs (.str _)⟩
    · cases e
  · split at e
    · rename_i xs ys hz
      cases e
      cases ha with
      | tup qa ra =>
        cases hb with
        | tup qb rb =>
          refine op_catA pins s σ H _ _ v u Q I rx ry ⟨_, _, _, _, rfl, rfl, (.inl (.inl qa)), (.inl (.inl qb)), by rw [ra.length, rb.length]; exact hz, fun hx => ?_, fun _ hy => ?_, fun _ _ => k.tup hs (ra.append rb)⟩
          · subst hx; cases ra; exact k.at hs (.tup qb rb)
          · subst hy; cases rb; exact k.at hs (.tup qa (by rw [List.append_nil]; exact ra))
    · cases e
  · split at e
    · rename_i xs ys e1 e2
      split at e
      · rename_i hz
        cases e
        obtain ⟨p, vs, rfl, l1, r1⟩ := listOf_at hs ha e1
        obtain ⟨q, ws, rfl, l2, r2⟩ := listOf_at hs hb e2
        exact op_catL pins s σ H _ _ v u Q I rx ry ⟨_, _, _, _, rfl, rfl, l1, l2, by rw [r1.length, r2.length]; exact hz, k.lst hs (r1.append r2)⟩
      · cases e
    · cases e
theorem v_sub : OpR X (binaryOp .Sub) (rv2 X.K subS) := by
  intro pins s σ H x y v u Q I rx ry ⟨θ, M, a, b, w, M', hs, ha, hb, e, k⟩
  unfold subS at e
  split at e
  · cases e; cases ha; cases hb
    exact op_sub pins s σ H _ _ v u Q I rx ry ⟨_, _, rfl, rfl, k.at hs (.int _)⟩
  · cases e
theorem rep_flat {K : PySem.W.Frag} {xs : List V} {ds : List PyData} (r : RpA K H xs ds) : ∀ k : Nat, RpA K H (List.replicate k xs).flatten (List.replicate k ds).flatten
  | 0 => .nil
  | k + 1 => by
    simp only [List.replicate_succ, List.flatten_cons]
    exact r.append (rep_flat r k)
theorem v_mul : OpR X (binaryOp .Mult) (rv2 X.K mulS) := by
  intro pins s σ H x y v u Q I rx ry ⟨θ, M, a, b, w, M', hs, ha, hb, e, k⟩
  unfold mulS at e
  split at e
  · split at e
    · rename_i i j hz
      cases e; cases ha; cases hb
      refine op_mul pins s σ H _ _ v u Q I rx ry ⟨_, _, rfl, rfl, ?_, k.at hs (.int _)⟩
      rcases mulOk_ok hz with hz | hz
      · exact .inl ⟨by omega, by omega⟩
      · exact .inr ⟨by omega, by omega⟩
    · cases e
  · split at e
    · rename_i xs n hz
      cases e; cases hb
      cases ha with
      | tup qa ra =>
        exact op_repT pins s σ H _ _ v u Q I rx ry ⟨_, _, _, rfl, rfl, (.inl (.inl qa)), fun q => hz.1 (by subst q; cases ra; rfl), hz.2.1, hz.2.2.1, by rw [ra.length]; exact hz.2.2.2, k.tup hs (rep_flat ra _)⟩
    · cases e
  · cases e
theorem v_fdiv : OpR X (binaryOp .FloorDiv) (rv2 X.K fdivS) := by
  intro pins s σ H x y v u Q I rx ry ⟨θ, M, a, b, w, M', hs, ha, hb, e, k⟩
  unfold fdivS at e
  split at e
  · split at e
    · cases e; cases ha; cases hb
      exact op_fdiv pins s σ H _ _ v u Q I rx ry ⟨_, _, rfl, rfl, by assumption, k.at hs (.int _)⟩
    · cases e
  · cases e
theorem v_mod : OpR X (binaryOp .Mod) (rv2 X.K modS) := by
  intro pins s σ H x y v u Q I rx ry ⟨θ, M, a, b, w, M', hs, ha, hb, e, k⟩
  unfold modS at e
  split at e
  · split at e
    · cases e; cases ha; cases hb
      exact op_mod pins s σ H _ _ v u Q I rx ry ⟨_, _, rfl, rfl, by assumption, k.at hs (.int _)⟩
    · cases e
  · cases e
theorem v_pow : OpR X (binaryOp .Pow) (rv2 X.K powS) := by
  intro pins s σ H x y v u Q I rx ry ⟨θ, M, a, b, w, M', hs, ha, hb, e, k⟩
  unfold powS at e
  split at e
  · split at e
    · cases e; cases ha; cases hb
      exact op_pow pins s σ H _ _ v u Q I rx ry ⟨_, _, rfl, rfl, by assumption, k.at hs (.int _)⟩
    · cases e
  · cases e
/-- what valD reads -/
theorem mapM_some {α β : Type} {f : α → Option β} : ∀ {l : List α} {r : List β}, l.mapM f = some r → Paired (fun a b => f a = some b) l r
  | [], r, e => by simp at e; subst e; exact .nil
  | a :: l, r, e => by
    rw [List.mapM_cons] at e
    cases h1 : f a with
    | none => rw [h1] at e; cases e
    | some b =>
      rw [h1] at e
      cases h2 : l.mapM f with
      | none => simp [h2] at e
      | some bs =>
        simp [h2] at e
        subst e
        exact .cons h1 (mapM_some h2)
theorem dpAll_of {K : PySem.W.Frag} {xs : List V} {vs : List VL} {P : VL → PyData → Prop} {R : V → VL → Prop} (h : ∀ x v d, R x v → P v d → Dp K H x d) (r : Paired R xs vs) : ∀ {ds : List PyData}, Paired P vs ds → DpAll K H xs ds := by
  induction r with
  | nil => intro ds q; cases q; exact .nil
  | cons r1 _ ih =>
    intro ds q
    cases q with
    | cons q1 q2 => exact .cons (h _ _ _ r1 q1) (ih q2)
theorem valF_at {K : PySem.W.Frag} {θ : Nat → Addr} {M : Sto} (s : SR K H θ M) : ∀ (n : Nat) (x : V) (a : VL) (d : PyData), VR K H θ M.length x a → valF n a M = some d → Dp K H x d
  | _, x, .d d', d, h, e => by
    have e' : some d' = some d := by
      revert e; cases ‹Nat› <;> exact id
    cases e'
    exact Rp.dp _ _ h
  | 0, x, .r l, d, h, e => by cases e
  | n + 1, x, .r l, d, h, e => by
    obtain ⟨hl, rfl⟩ := h
    simp only [valF] at e
    split at e
    · rename_i ds' eo
      cases e
      obtain ⟨xs, q, r⟩ := s.ob l _ eo
      exact .lst (.inl (.inl q)) (RpA.dp _ _ r)
    · rename_i vs eo
      obtain ⟨xs, q, r⟩ := s.ob l _ eo
      cases e2 : vs.mapM (fun v => valF n v M) with
      | none => rw [e2] at e; cases e
      | some ds =>
        rw [e2] at e
        cases e
        exact .lst (.inl (.inl q)) (dpAll_of (fun x v d hr hp => valF_at s n x v d hr hp) r (mapM_some e2))
    · cases e
theorem v_eq (hu : X.A.units + 64 < cLine) : OpR X (compareOp .Eq) (rv2 X.K (eqS false)) := by
  intro pins s σ H x y v u Q I rx ry ⟨θ, M, a, b, w, M', hs, ha, hb, e, k⟩
  unfold eqS at e
  split at e
  · rename_i d e' h1 h2
    split at e
    · rename_i hz
      cases e
      refine op_eqD hu pins s σ H _ _ v u Q I rx ry ⟨_, _, valF_at hs _ _ _ _ ha h1, valF_at hs _ _ _ _ hb h2, hz.1, hz.2, ?_⟩
      have := k.at hs (z := .bl (PyData.eqv d e')) (by rw [Bool.false_xor]; exact .bl _)
      exact this
    · cases e
  · cases e
theorem v_ne (hu : X.A.units + 64 < cLine) : OpR X (compareOp .NotEq) (rv2 X.K (eqS true)) := by
  intro pins s σ H x y v u Q I rx ry ⟨θ, M, a, b, w, M', hs, ha, hb, e, k⟩
  unfold eqS at e
  split at e
  · rename_i d e' h1 h2
    split at e
    · rename_i hz
      cases e
      refine op_neD hu pins s σ H _ _ v u Q I rx ry ⟨_, _, valF_at hs _ _ _ _ ha h1, valF_at hs _ _ _ _ hb h2, hz.1, hz.2, ?_⟩
      have := k.at hs (z := .bl (!PyData.eqv d e')) (by rw [Bool.true_xor]; exact .bl _)
      exact this
    · cases e
  · cases e
abbrev rStr (g : Str → Str → Bool) : R2 := fun x y H Q => ∃ i j, x = .str i ∧ y = .str j ∧ Q (.bl (g i j)) H
theorem opStr {op : CmpOp} {g : Str → Str → Bool} (h : ∀ {A : Around} {E : Value → Shared → Prop} {s : Shared} {x y : Str} {t t' : Tok} {Q : Value → Shared → Prop}, Q (.bool (g x y)) s → wpAny (model X.prog X.w) A (compareOp op (.str x t) (.str y t')) Q E s) : OpR X (compareOp op) (rStr g) := by
  intro pins s σ H x y v u Q I rx ry h1
  obtain ⟨i, j, rfl, rfl, q⟩ := h1
  obtain ⟨t, rfl⟩ := rx
  obtain ⟨t', rfl⟩ := ry
  exact h (fin_bl I q rfl)
theorem op_ltS : OpR X (compareOp .Lt) (rStr ltS) := opStr fun h => PyProof.Rows.lt_str h
theorem op_leS : OpR X (compareOp .LtE) (rStr fun x y => !ltS y x) := opStr fun h => PySem.P.le_str h
theorem op_gtS : OpR X (compareOp .Gt) (rStr fun x y => ltS y x) := opStr fun h => PySem.P.gt_str h
theorem op_geS : OpR X (compareOp .GtE) (rStr fun x y => !ltS x y) := opStr fun h => PySem.P.ge_str h
theorem v_cmp {op : CmpOp} {f : Int → Int → Bool} {g : Str → Str → Bool} (h : OpR X (compareOp op) (rI0 fun i j => .bl (f i j))) (h2 : OpR X (compareOp op) (rStr g)) : OpR X (compareOp op) (rv2 X.K (cmpI f g)) := by
  intro pins s σ H x y v u Q I rx ry ⟨θ, M, a, b, w, M', hs, ha, hb, e, k⟩
  unfold cmpI at e
  split at e
  · cases e; cases ha; cases hb
    exact h pins s σ H _ _ v u Q I rx ry ⟨_, _, rfl, rfl, k.at hs (.bl _)⟩
  · cases e; cases ha; cases hb
    exact h2 pins s σ H _ _ v u Q I rx ry ⟨_, _, rfl, rfl, k.at hs (.bl _)⟩
  · cases e
theorem vr_non {K : PySem.W.Frag} {θ : Nat → Addr} {n : Nat} {x : V} {a : VL} (h : VR K H θ n x a) : decide (x = .non) = (match a with | .d .none => true | _ => false) := by
  cases a with
  | r l => obtain ⟨_, rfl⟩ := h; rfl
  | d d => cases d <;> cases h <;> rfl
theorem v_is : OpR X (compareOp .Is) (rv2 X.K (isS false)) := by
  intro pins s σ H x y v u Q I rx ry ⟨θ, M, a, b, w, M', hs, ha, hb, e, k⟩
  have hn := vr_non ha
  unfold isS at e
  split at e
  · cases e; cases hb
    refine op_isN pins s σ H _ _ v u Q I rx ry ⟨rfl, ?_⟩
    rw [hn]; exact k.at hs (.bl _)
  · cases e; cases hb
    refine op_isN pins s σ H _ _ v u Q I rx ry ⟨rfl, ?_⟩
    rw [hn]
    cases a with
    | r l => exact k.at hs (.bl _)
    | d d =>
      cases d
      case none => rename_i h; exact (h rfl).elim
      all_goals exact k.at hs (.bl _)
  · cases e; cases ha; cases hb
    exact op_is_bl pins s σ H _ _ v u Q I rx ry ⟨_, _, rfl, rfl, by have := k.at hs (z := .bl (decide (_ = _))) (by rw [Bool.false_xor]; exact .bl _); exact this⟩
  · cases e
theorem v_isn : OpR X (compareOp .IsNot) (rv2 X.K (isS true)) := by
  intro pins s σ H x y v u Q I rx ry ⟨θ, M, a, b, w, M', hs, ha, hb, e, k⟩
  have hn := vr_non ha
  unfold isS at e
  split at e
  · cases e; cases hb
    refine op_notN pins s σ H _ _ v u Q I rx ry ⟨rfl, ?_⟩
    rw [hn]; exact k.at hs (.bl _)
  · cases e; cases hb
    refine op_notN pins s σ H _ _ v u Q I rx ry ⟨rfl, ?_⟩
    rw [hn]
    cases a with
    | r l => exact k.at hs (.bl _)
    | d d =>
      cases d
      case none => rename_i h; exact (h rfl).elim
      all_goals exact k.at hs (.bl _)
  · cases e; cases ha; cases hb
    exact op_isnot_bl pins s σ H _ _ v u Q I rx ry ⟨_, _, rfl, rfl, by have := k.at hs (z := .bl (!decide (_ = _))) (by rw [Bool.true_xor]; exact .bl _); exact this⟩
  · cases e
theorem v_in (hu : X.A.units + 65 < cLine) : OpR X (compareOp .In) (rv2 X.K (inS false)) := by
  intro pins s σ H x y v u Q I rx ry ⟨θ, M, a, b, w, M', hs, ha, hb, e, k⟩
  unfold inS at e
  split at e
  · rename_i t kvs h0
    obtain ⟨l, rfl, eo⟩ := dctOf_at h0
    split at e
    · rename_i d
      split at e
      · rename_i hk
        cases e
        have hl := hb.2
        subst hl
        cases ry
        rcases dget_at hs eo hk ha with ⟨h1, g⟩ | ⟨v', z, h1, g, _⟩
        · refine d_in (by omega) I g rx fun s' I' => ⟨.bl _, H, I', rfl, k.at hs (z := .bl _) ?_⟩
          rw [h1]; exact .bl _
        · refine d_in (by omega) I g rx fun s' I' => ⟨.bl _, H, I', rfl, k.at hs (z := .bl _) ?_⟩
          rw [h1]; exact .bl _
      · cases e
    · cases e
  · split at e
    rotate_left
    · cases e
    rename_i d h1
    unfold inL at e
    have dx := valF_at hs _ _ _ _ ha h1
    split at e
    · split at e
      · cases e; cases hb; cases dx
        refine op_in_str pins s σ H _ _ v u Q I rx ry ⟨_, _, rfl, rfl, ?_⟩
        exact k.at hs (z := .bl _) (by rw [Bool.false_xor]; exact .bl _)
      · cases e
    · split at e
      · rename_i ds h2
        split at e
        · rename_i hz
          cases e
          obtain ⟨p, xs, rfl, hq, r⟩ := seqOf_at hs hb h2
          have fin : Q (.bl (ds.any fun z => PyData.eqv z d)) H := k.at hs (z := .bl _) (by rw [Bool.false_xor]; exact .bl _)
          rcases hq with hq | ⟨hq, _⟩
          · exact op_inD hu pins s σ H _ _ v u Q I rx ry ⟨d, ds, dx, .lst hq.sq (RpA.dp _ _ r), hz.1, hz.2, fin⟩
          · obtain ⟨as, r1⟩ := Dp.reads I d x v dx rx
            obtain ⟨bs, r2⟩ := Dp.reads I (.tuple ds) _ u (.tup (.inl (.inl hq)) (RpA.dp _ _ r)) ry
            exact SeqAt.in_tuple_reads r2 r1 (SeqAt.canLay_of_shaped (d := .list ds) hz.2) (SeqAt.canLay_of_shaped hz.1) (room_in_shaped hz.1 hu) ⟨.bl _, H, I, rfl, fin⟩
        · cases e
      · cases e
theorem v_nin (hu : X.A.units + 65 < cLine) : OpR X (compareOp .NotIn) (rv2 X.K (inS true)) := by
  intro pins s σ H x y v u Q I rx ry ⟨θ, M, a, b, w, M', hs, ha, hb, e, k⟩
  unfold inS at e
  split at e
  · rename_i t kvs h0
    obtain ⟨l, rfl, eo⟩ := dctOf_at h0
    split at e
    · rename_i d
      split at e
      · rename_i hk
        cases e
        have hl := hb.2
        subst hl
        cases ry
        rcases dget_at hs eo hk ha with ⟨h1, g⟩ | ⟨v', z, h1, g, _⟩
        · refine d_notIn (by omega) I g rx fun s' I' => ⟨.bl _, H, I', rfl, k.at hs (z := .bl _) ?_⟩
          rw [h1]; exact .bl _
        · refine d_notIn (by omega) I g rx fun s' I' => ⟨.bl _, H, I', rfl, k.at hs (z := .bl _) ?_⟩
          rw [h1]; exact .bl _
      · cases e
    · cases e
  · split at e
    rotate_left
    · cases e
    rename_i d h1
    unfold inL at e
    have dx := valF_at hs _ _ _ _ ha h1
    split at e
    · split at e
      · cases e; cases hb; cases dx
        refine op_notin_str pins s σ H _ _ v u Q I rx ry ⟨_, _, rfl, rfl, ?_⟩
        exact k.at hs (z := .bl _) (by rw [Bool.true_xor]; exact .bl _)
      · cases e
    · split at e
      · rename_i ds h2
        split at e
        · rename_i hz
          cases e
          obtain ⟨p, xs, rfl, hq, r⟩ := seqOf_at hs hb h2
          have fin : Q (.bl (!ds.any fun z => PyData.eqv z d)) H := k.at hs (z := .bl _) (by rw [Bool.true_xor]; exact .bl _)
          rcases hq with hq | ⟨hq, _⟩
          · exact op_notInD hu pins s σ H _ _ v u Q I rx ry ⟨d, ds, dx, .lst hq.sq (RpA.dp _ _ r), hz.1, hz.2, fin⟩
          · obtain ⟨as, r1⟩ := Dp.reads I d x v dx rx
            obtain ⟨bs, r2⟩ := Dp.reads I (.tuple ds) _ u (.tup (.inl (.inl hq)) (RpA.dp _ _ r)) ry
            exact SeqAt.notIn_tuple_reads r2 r1 (SeqAt.canLay_of_shaped (d := .list ds) hz.2) (SeqAt.canLay_of_shaped hz.1) (room_in_shaped hz.1 hu) ⟨.bl _, H, I, rfl, fin⟩
        · cases e
      · cases e
/-- x in a constant -/
def rvC (K : PySem.W.Frag) (neg : Bool) (ds : List PyData) : R2 := fun x y H Q => ∃ θ M a d v M', SR K H θ M ∧ VR K H θ M.length x a ∧ Dp K H y (.tuple ds) ∧ valD a M = some d ∧ inL neg d (.d (.tuple ds)) M = some (v, M') ∧ Kon K θ M H v M' Q
theorem v_inC (hu : X.A.units + 65 < cLine) {ds : List PyData} : OpR X (compareOp .In) (rvC X.K false ds) := by
  intro pins s σ H x y v u Q I rx ry ⟨θ, M, a, d, w, M', hs, ha, hy, h1, e, k⟩
  have dx := valF_at hs _ _ _ _ ha h1
  simp only [inL, seqOf] at e
  split at e
  · rename_i hz
    cases e
    have fin : Q (.bl (ds.any fun z => PyData.eqv z d)) H := k.at hs (z := .bl _) (by rw [Bool.false_xor]; exact .bl _)
    obtain ⟨as, r1⟩ := Dp.reads I d x v dx rx
    obtain ⟨bs, r2⟩ := Dp.reads I (.tuple ds) _ u hy ry
    exact SeqAt.in_tuple_reads r2 r1 (SeqAt.canLay_of_shaped (d := .list ds) hz.2) (SeqAt.canLay_of_shaped hz.1) (room_in_shaped hz.1 hu) ⟨.bl _, H, I, rfl, fin⟩
  · cases e
theorem v_ninC (hu : X.A.units + 65 < cLine) {ds : List PyData} : OpR X (compareOp .NotIn) (rvC X.K true ds) := by
  intro pins s σ H x y v u Q I rx ry ⟨θ, M, a, d, w, M', hs, ha, hy, h1, e, k⟩
  have dx := valF_at hs _ _ _ _ ha h1
  simp only [inL, seqOf] at e
  split at e
  · rename_i hz
    cases e
    have fin : Q (.bl (!ds.any fun z => PyData.eqv z d)) H := k.at hs (z := .bl _) (by rw [Bool.true_xor]; exact .bl _)
    obtain ⟨as, r1⟩ := Dp.reads I d x v dx rx
    obtain ⟨bs, r2⟩ := Dp.reads I (.tuple ds) _ u hy ry
    exact SeqAt.notIn_tuple_reads r2 r1 (SeqAt.canLay_of_shaped (d := .list ds) hz.2) (SeqAt.canLay_of_shaped hz.1) (room_in_shaped hz.1 hu) ⟨.bl _, H, I, rfl, fin⟩
  · cases e
theorem atI_rp {K : PySem.W.Frag} {xs : List V} {ds : List PyData} {i : Int} {d : PyData} (r : RpA K H xs ds) (e : atI ds i = some d) : ∃ v, atI xs i = some v ∧ Rp K H v d := by
  unfold atI at e ⊢
  rw [r.length]
  cases q : ixN ds.length i with
  | none => rw [q] at e; cases e
  | some j =>
    rw [q] at e
    obtain ⟨v, h1, h2⟩ := r.get (i := j) e
    exact ⟨v, h1, h2⟩
theorem paired_get {α β : Type} {R : α → β → Prop} {xs : List α} {ys : List β} (r : Paired R xs ys) : ∀ {i : Nat} {y : β}, ys[i]? = some y → ∃ x, xs[i]? = some x ∧ R x y := by
  induction r with
  | nil => intro i y e; simp at e
  | cons h _ ih =>
    intro i y e
    cases i with
    | zero => simp at e; subst e; exact ⟨_, rfl, h⟩
    | succ i =>
      obtain ⟨x, h1, h2⟩ := ih (by simpa using e)
      exact ⟨x, by simpa using h1, h2⟩
theorem v_ix (hu : X.A.units + 65 < cLine) : IxR X (rv2 X.K ixS) := by
  intro ve se pins s σ H x y v u Q I rx ry ⟨θ, M, a, b, w, M', hs, ha, hb, e, k⟩ sub
  unfold ixS at e
  split at e
  · split at e
    · rename_i z i hz
      cases q : atI z.cps.toList i with
      | none => rw [q] at e; cases e
      | some c =>
        rw [q] at e; cases e; cases ha; cases hb
        exact ix_str ve se pins s σ H _ _ v u Q I rx ry ⟨z, i, c, rfl, rfl, hz, q, k.at hs (.str _)⟩ sub
    · cases e
  · rename_i ds i
    cases q : atI ds i with
    | none => rw [q] at e; cases e
    | some d =>
      rw [q] at e; cases e; cases hb
      cases ha with
      | tup qa ra =>
        obtain ⟨w, h1, h2⟩ := atI_rp ra q
        exact ix_tup ve se pins s σ H _ _ v u Q I rx ry ⟨_, _, i, w, rfl, rfl, (.inl (.inl qa)), h1, k.at hs h2⟩ sub
  · rename_i ds i
    cases q : atI ds i with
    | none => rw [q] at e; cases e
    | some d =>
      rw [q] at e; cases e; cases hb
      cases ha with
      | lst qa ra =>
        obtain ⟨w, h1, h2⟩ := atI_rp ra q
        exact ix_list ve se pins s σ H _ _ v u Q I rx ry ⟨_, _, i, w, rfl, rfl, qa.sq, h1, k.at hs h2⟩ sub
  · rename_i l i'
    obtain ⟨hl, rfl⟩ := ha
    split at e
    · rename_i ds eo
      split at e
      rotate_left
      · cases e
      rename_i i
      obtain ⟨xs, qa, ra⟩ := hs.ob l _ eo
      cases q : atI ds i with
      | none => rw [q] at e; cases e
      | some d =>
        rw [q] at e; cases e; cases hb
        obtain ⟨w, h1, h2⟩ := atI_rp ra q
        exact ix_list ve se pins s σ H _ _ v u Q I rx ry ⟨_, _, i, w, rfl, rfl, .inl (.inl qa), h1, k.at hs h2⟩ sub
    · rename_i vs eo
      split at e
      rotate_left
      · cases e
      rename_i i
      obtain ⟨xs, qa, ra⟩ := hs.ob l _ eo
      cases q : atI vs i with
      | none => rw [q] at e; cases e
      | some d =>
        rw [q] at e; cases e; cases hb
        have hlen : xs.length = vs.length := Paired.length ra
        unfold atI at q
        cases q2 : ixN vs.length i with
        | none => rw [q2] at q; cases q
        | some j =>
          rw [q2] at q
          obtain ⟨w, h1, h2⟩ := paired_get ra (i := j) q
          exact ix_list ve se pins s σ H _ _ v u Q I rx ry ⟨_, _, i, w, rfl, rfl, .inl (.inl qa), by unfold atI; rw [hlen, q2]; exact h1, k.at hs h2⟩ sub
    · rename_i t kvs eo
      split at e
      · rename_i hk
        rcases dget_at hs (.inl eo) hk hb with ⟨h1, g⟩ | ⟨v', z, h1, g, hz⟩
        · rw [h1] at e; cases e
        · rw [h1] at e; cases e
          exact ix_di (by omega) ve se pins s σ H _ _ v u Q I rx ry ⟨_, z, rfl, g, k.at hs hz⟩ sub
      · cases e
    · rename_i t kvs eo
      split at e
      · rename_i hk
        rcases dget_at hs (.inr eo) hk hb with ⟨h1, g⟩ | ⟨v', z, h1, g, hz⟩
        · rw [h1] at e; cases e
        · rw [h1] at e; cases e
          exact ix_di (by omega) ve se pins s σ H _ _ v u Q I rx ry ⟨_, z, rfl, g, k.at hs hz⟩ sub
      · cases e
    · cases e
  · cases e
end
theorem paired_snoc {α β : Type} {R : α → β → Prop} : ∀ {xs : List α} {ys : List β} {x : α} {y : β}, Paired R xs ys → R x y → Paired R (xs ++ [x]) (ys ++ [y])
  | _, _, _, _, .nil, h => .cons h .nil
  | _, _, _, _, .cons a t, h => .cons a (paired_snoc t h)
theorem paired_reverse {α β : Type} {R : α → β → Prop} : ∀ {xs : List α} {ys : List β}, Paired R xs ys → Paired R xs.reverse ys.reverse
  | _, _, .nil => .nil
  | _, _, .cons a t => by rw [List.reverse_cons, List.reverse_cons]; exact paired_snoc (paired_reverse t) a
/-! ### dict(pairs), d.pop -/
theorem rp_key {K : PySem.W.Frag} {H : Hp} {y : V} {k : Key} (h : Rp K H y (kD k)) : y = kV k := by cases k <;> cases h <;> rfl
theorem prs_k {K : PySem.W.Frag} {H : Hp} {θ : Nat → Addr} {n : Nat} : ∀ {ds : List PyData} {xs : List V} {ps : List (PyData × VL)}, RpA K H xs ds → prsD false ds = some ps →
    ∃ (bs : List Addr) (kvs : List (Key × V)), xs = bs.map V.ref ∧ Paired (fun p kv => SqT K H p [kV kv.1, kv.2]) bs kvs ∧ DP K H θ n kD kvs ps := by
  intro ds
  induction ds with
  | nil => intro xs ps r e; cases r; cases e; exact ⟨[], [], rfl, .nil, .nil⟩
  | cons d ds ih =>
    intro xs ps r e
    cases r with
    | cons r1 rs =>
      unfold prsD at e
      split at e
      · rename_i h0; cases h0
      · rename_i k v ds' h0
        cases h0
        split at e
        · rename_i hk
          cases e2 : prsD false ds with
          | none => rw [e2] at e; cases e
          | some ps' =>
            rw [e2] at e
            cases e
            obtain ⟨bs, kvs, rfl, pr, dp⟩ := ih rs e2
            cases r1 with
            | @tup b xs' _ qb rb =>
              cases rb with
              | cons k1 r2 =>
                cases r2 with
                | cons v1 r3 =>
                  cases r3
                  obtain ⟨kk, ek⟩ := Option.isSome_iff_exists.mp hk
                  have e := kyD_ok ek
                  subst e
                  have := rp_key k1
                  subst this
                  exact ⟨b :: bs, (kk, _) :: kvs, rfl, .cons (.inl (.inl qb)) pr, .cons ⟨rfl, v1⟩ dp⟩
        · cases e
      · cases e
theorem prs_t {K : PySem.W.Frag} {H : Hp} {θ : Nat → Addr} {n : Nat} : ∀ {ds : List PyData} {xs : List V} {ps : List (PyData × VL)}, RpA K H xs ds → prsD true ds = some ps →
    ∃ (bs : List Addr) (kvs : List (List Key × V)), xs = bs.map V.ref ∧ Paired (fun p (kv : List Key × V) => ∃ b, SqT K H p [.ref b, kv.2] ∧ H b = some (.tup (kv.1.map kV))) bs kvs ∧ DP K H θ n (fun k : List Key => PyData.tuple (k.map kD)) kvs ps := by
  intro ds
  induction ds with
  | nil => intro xs ps r e; cases r; cases e; exact ⟨[], [], rfl, .nil, .nil⟩
  | cons d ds ih =>
    intro xs ps r e
    cases r with
    | cons r1 rs =>
      unfold prsD at e
      split at e
      · rename_i h0; cases h0
      · rename_i k v ds' h0
        cases h0
        split at e
        · rename_i hk
          cases e2 : prsD true ds with
          | none => rw [e2] at e; cases e
          | some ps' =>
            rw [e2] at e
            cases e
            obtain ⟨bs, kvs, rfl, pr, dp⟩ := ih rs e2
            cases r1 with
            | @tup b xs' _ qb rb =>
              cases rb with
              | cons k1 r2 =>
                cases r2 with
                | cons v1 r3 =>
                  cases r3
                  cases k with
                  | tuple es =>
                    obtain ⟨ks, ek⟩ := Option.isSome_iff_exists.mp hk
                    have e := kyL_ok ek
                    subst e
                    cases k1 with
                    | @tup b2 xs2 _ qb2 rb2 =>
                      have := rpA_keys rb2
                      subst this
                      exact ⟨b :: bs, (ks, _) :: kvs, rfl, .cons ⟨b2, .inl (.inl qb), qb2⟩ pr, .cons ⟨rfl, v1⟩ dp⟩
                  | _ => cases hk
        · cases e
      · cases e
section
variable {X : Cx} {pins : List (Addr × Obj)} {σ : L2.St} {H : Hp} {s : Shared}
theorem tps_of (I : Inv X pins σ H s) : ∀ {bs : List Addr} {kvs : List (List Key × V)}, Paired (fun p (kv : List Key × V) => ∃ b, SqT X.K H p [.ref b, kv.2] ∧ H b = some (.tup (kv.1.map kV))) bs kvs →
    ∃ ps : List (List Key × Addr × Value), KT H kvs ps ∧ Paired (fun p (q : List Key × Addr × Value) => IsTup s.heap p #[.ref q.2.1, q.2.2] ∧ H q.2.1 = some (.tup (q.1.map kV))) bs ps
  | _, _, .nil => ⟨[], .nil, .nil⟩
  | _, _, .cons (a := p) (b := kv) h t => by
    obtain ⟨ps, r, hp⟩ := tps_of I t
    obtain ⟨b, h, hb⟩ := h
    obtain ⟨its, rv, ht, _⟩ := I.tuple h
    obtain ⟨u, y, ei, ru, ry⟩ := vals2 rv
    subst ei
    cases ru
    exact ⟨(kv.1, b, y) :: ps, .cons ⟨rfl, hb, ry⟩ r, .cons ⟨ht, hb⟩ hp⟩
theorem kt_merge {H : Hp} : ∀ {more : List (List Key × V)} {ps : List (List Key × Addr × Value)}, KT H more ps → ∀ {ls : List (List Key × V)} {xs : List (List Key × Addr × Value)}, KT H ls xs →
    KT H (more.foldl (fun acc kv => putK acc kv.1 kv.2) ls) (storedAllH xs ps) := by
  intro more ps r
  induction r with
  | nil => intro ls xs q; exact q
  | @cons p q ps qs h t ih =>
    intro ls xs r0
    have e := r0.put p.1 h.2.1 h.2.2
    exact ih (xs := storedH xs q.1 q.2.1 q.2.2) (by rw [← h.1]; exact e)
theorem length_putAll {κ : Type} [DecidableEq κ] : ∀ (more ls : List (κ × V)), (more.foldl (fun acc kv => putK acc kv.1 kv.2) ls).length ≤ ls.length + more.length
  | [], ls => by show ls.length ≤ ls.length + 0; omega
  | p :: r, ls => by
    have h1 := length_putAll r (putK ls p.1 p.2)
    have h2 := length_putK ls p.1 p.2
    show (r.foldl (fun acc kv => putK acc kv.1 kv.2) (putK ls p.1 p.2)).length ≤ _
    rw [List.length_cons]; omega
theorem call_dictT (hcalm : X.calm = true) (hu : X.A.units + 70 < cLine) : CallR X (.type "dict") (fun xs H Q => ∃ (a : Addr) (bs : List Addr) (kvs : List (List Key × V)), xs = [.ref a] ∧ SqL X.K H a (bs.map V.ref) ∧
    Paired (fun p (kv : List Key × V) => ∃ b, SqT X.K H p [.ref b, kv.2] ∧ H b = some (.tup (kv.1.map kV))) bs kvs ∧ ∀ p, H p = none → Q (.ref p) (upd H p (.dT (kvs.foldl (fun acc kv => putK acc kv.1 kv.2) [])))) := by
  intro pins s σ H xs us Q I r q
  obtain ⟨a, bs, kvs, ex, hq, hp, q⟩ := q
  subst ex
  obtain ⟨u, eu, rx⟩ := vals1 r
  subst eu
  cases rx
  obtain ⟨its, rv, pl, hz⟩ := I.list hq
  have ei := refs_at rv
  subst ei
  rw [List.length_map] at hz
  obtain ⟨ps, rel, hps⟩ := tps_of I hp
  have hl : bs.length = ps.length := Paired.length hps
  have hl2 : kvs.length = ps.length := Paired.length rel
  have hg : ∀ {j : Nat} {q : List Key × Addr × Value}, ps[j]? = some q → ∃ b, bs[j]? = some b ∧ IsTup s.heap b #[.ref q.2.1, q.2.2] ∧ H q.2.1 = some (.tup (q.1.map kV)) := fun {j q} e => by
    obtain ⟨b, h1, h2⟩ := paired_get hps e
    exact ⟨b, h1, h2⟩
  have hsize : s.heap.objs.size ≠ sysModules := Nat.ne_of_gt I.big
  have arg := PairArg.list (prog := X.prog) (w := X.w) a (bs.map Value.ref).toArray (fun j => bs.getD j 0) (ps.map fun q => (.ref q.2.1, q.2.2))
  refine call_dict_pairsH (knd := tupleKind (mixKind X.prog X.w)) (ps := ps) arg (I.ok.hd hcalm) (show X.A.units + 1 + 1 < cLine by omega) ⟨pl, by simp [hl], fun j k v e => ?_⟩ ⟨by simp, fun i key v e => ?_⟩ (fun h' hk x hx => ?_) (by rw [List.length_map, ← hl]; exact hz) fun h' tk dd k => ?_
  · rw [List.getElem?_map] at e
    cases e2 : ps[j]? with
    | none => rw [e2] at e; cases e
    | some q =>
      rw [e2] at e
      cases e
      obtain ⟨b, h1, h2, _⟩ := hg e2
      have h3 : bs.getD j 0 = b := by rw [List.getD_eq_getElem?_getD, h1]; rfl
      exact ⟨by simp [h1], .inl (by show s.heap.IsTuple (bs.getD j 0) _; rw [h3]; exact h2)⟩
  · have e : (ps.map fun q => ((.ref q.2.1, q.2.2) : Value × Value))[i]? = some (key, v) := e
    rw [List.getElem?_map] at e
    cases e2 : ps[i]? with
    | none => rw [e2] at e; cases e
    | some q =>
      rw [e2] at e
      cases e
      exact ⟨q.1, q.2.1, rfl, rfl⟩
  · obtain ⟨j, hj⟩ := List.mem_iff_getElem?.mp hx
    obtain ⟨b, _, _, h3⟩ := hg hj
    obtain ⟨o, it, n, h1, h2, h4, h5⟩ := key_of I.hok h3
    exact ⟨o, it, n, hk _ _ (Nat.ne_of_lt (Heap.lt_size h1)) (fun z => nomatch z) h1, h2, h4, h5⟩
  · have k' : ∀ b o, s.heap.get? b = some o → h'.get? b = some o := fun b o e => k b o (fun z => nomatch z) e
    have hlen : (kvs.foldl (fun acc kv => putK acc kv.1 kv.2) []).length ≤ sizeLine := by
      refine Nat.le_trans (length_putAll kvs []) ?_
      rw [List.length_nil, Nat.zero_add, hl2, ← hl]
      exact hz
    have hfr : H s.heap.objs.size = none := I.hok.fresh (Nat.le_refl _)
    have hkt : KT (upd H s.heap.objs.size (.dT (kvs.foldl (fun acc kv => putK acc kv.1 kv.2) []))) (kvs.foldl (fun acc kv => putK acc kv.1 kv.2) []) (storedAllH [] ps) :=
      (kt_merge rel .nil).keeps fun c ys ec => by rw [upd_ne (ne_of_none ec hfr)]; exact ec
    obtain ⟨o, es, ep, hq', h2, h3, h4, _, h5⟩ := dd
    exact ⟨.ref s.heap.objs.size, upd H s.heap.objs.size (.dT (kvs.foldl (fun acc kv => putK acc kv.1 kv.2) [])), I.laid (t' := tk) k' (Nat.le_refl _) ⟨hlen, beq_eq_false_iff_ne.mpr hsize, _, hkt, o, es, ep, hq', h2, h3, h4, h5⟩, rfl, q _ hfr⟩
/-- {k: v, ..} with tuple keys -/
def tDispT (trs : List (TE × TE)) : TE := fun σ H Q => ∀ p, H p = none → tPairs trs σ (upd H p (.dT [])) fun ps H2 => H2 p = some (.dT []) ∧
  ∃ kvs : List (List Key × V), Paired (fun (q : V × V) (kv : List Key × V) => q.2 = kv.2 ∧ ∃ b, q.1 = .ref b ∧ H2 b = some (.tup (kv.1.map kV))) ps kvs ∧ kvs.length ≤ 15 ∧ Q (.ref p) (upd H2 p (.dT (kvs.foldl (fun acc kv => putK acc kv.1 kv.2) [])))
theorem carriesH_of {P : Program} {w : World} {H : Hp} {h : Heap} (ok : HOk P w H h) : ∀ {ps : List (V × V)} {kvs : List (List Key × V)} {ws : List (Value × Value)}, Paired (fun (q : V × V) (kv : List Key × V) => q.2 = kv.2 ∧ ∃ b, q.1 = .ref b ∧ H b = some (.tup (kv.1.map kV))) ps kvs → VV ps ws →
    ∃ rs, CarriesH (tupleKind (mixKind P w)) h ws rs ∧ KT H kvs rs
  | [], [], _, .nil, r => by cases r; exact ⟨[], True.intro, .nil⟩
  | (x, y) :: ps, kv :: kvs, _, .cons h1 t, r => by
    cases r with
    | @cons a b as bs h2 t2 =>
      obtain ⟨rs, c, q⟩ := carriesH_of ok t t2
      obtain ⟨e1, b1, e2, e3⟩ := h1
      obtain ⟨r1, r2⟩ := h2
      simp only at e1 e2 r1 r2
      subst e1 e2
      obtain ⟨bk, bv⟩ := b
      obtain rfl : bk = Value.ref b1 := r1
      exact ⟨(kv.1, b1, bv) :: rs, ⟨rfl, rfl, key_of ok e3, c⟩, .cons ⟨rfl, e3, r2⟩ q⟩
theorem pe_dispT {X : Cx} {pos : Pos} {keys : List (Option Expr)} {values : List Expr} {trs : List (TE × TE)} (h : PPs X pos keys values trs) (hu : X.A.units + 70 < cLine) (hall : keys.all (·.isSome) = true) (hl : keys.length = values.length) (h0 : keys ≠ [])
    (h15 : keys.length ≤ 15) : PE X (.Dict keys values pos) (tDispT trs) := by
  refine ⟨fun pins s σ H Q I q => ?_⟩
  have hn := I.hok.fresh (Nat.le_refl s.heap.objs.size)
  have I1 := I.laid (a := s.heap.objs.size) (o := .dT []) (h' := s.heap.push { cls := .type "dict", data := .dict #[] }) (t' := s.toks) (fun _ _ q => Heap.get?_push_of_some _ q) (Nat.le_refl _) (dt_empty s.heap I.big)
  have hpl := pairTrees_length keys values X.env pos hall hl
  have hp0 : pairTrees keys values X.env pos ≠ [] := by
    intro he
    rw [he] at hpl
    exact h0 (List.length_eq_zero_iff.mp hpl.symm)
  rw [arm_eval_Dict, zip_pairTrees keys values X.env pos hall hl, dictDisplay_pairs _ hp0 (by rw [hpl]; omega)]
  refine wpAny_bind (wpAny_standAt (wpAny_bind (wpAny_subDictH (knd := tupleKind (mixKind X.prog X.w)) (show X.A.units < cLine by omega) (by rw [hpl]; exact h15)
    (thn (h.run pins _ σ _ _ I1 (q _ hn)) fun ws s2 ⟨ps, H2, I2, rel, e, kvs, pr, lk, q2⟩ => ?_))))
  obtain ⟨rs, c, rk⟩ := carriesH_of I2.hok pr rel
  obtain ⟨z, hd, xs, r0, dd⟩ := dt_of I2.hok e
  cases r0
  refine ⟨rs, c, dd, fun h' tk dd' hs => wpAny_pure ⟨.ref s.heap.objs.size, _, ?_, rfl, q2⟩⟩
  have hz : (kvs.foldl (fun acc kv => putK acc kv.1 kv.2) []).length ≤ sizeLine := by
    have h1 := length_putAll kvs []
    rw [List.length_nil] at h1
    rw [sizeLine_eq]; omega
  obtain ⟨o, es, ep, hq', h2, h3, h4, _, h5⟩ := dd'
  have hkt : KT (upd H2 s.heap.objs.size (.dT (kvs.foldl (fun acc kv => putK acc kv.1 kv.2) []))) (kvs.foldl (fun acc kv => putK acc kv.1 kv.2) []) (storedAllH [] rs) :=
    (kt_merge rk .nil).keeps fun c ys ec => by
      rw [upd_ne (fun z => by rw [z, e] at ec; cases ec)]; exact ec
  exact d_write I2 (by rw [e]; exact True.intro) hs ⟨o, hq'⟩ ⟨hz, hd, _, hkt, o, es, ep, hq', h2, h3, h4, h5⟩
/-- a new dict that holds something -/
theorem Kon.dctM {K : PySem.W.Frag} {θ : Nat → Addr} {M : Sto} {H : Hp} {t : Bool} {kvs : List (PyData × VL)} {o : HO} {Q : VK} (k : Kon K θ M H (.r M.length) (M ++ [.dct t kvs]) Q) (s : SR K H θ M)
    (h : ∀ {p : Addr} {θ' : Nat → Addr}, Kp H (upd H p o) → (∀ i, i < M.length → θ' i = θ i) → MR K (upd H p o) θ' (M.length + 1) p (.dct t kvs)) : ∀ p, H p = none → Q (.ref p) (upd H p o) := fun p hp => by
  have kp : Kp H (upd H p o) := (Go.lay (o := o) s hp).kp s
  have g := Go.push (o := o) (mo := .dct t kvs) s hp (h kp fun i hi => if_neg (Nat.ne_of_lt hi))
  refine k _ _ _ g ⟨by simp, ?_⟩
  show V.ref p = V.ref (if M.length = M.length then p else θ M.length)
  rw [if_pos rfl]
end
end Pv
namespace Pv
open PySem PySem.Spec PyProof.Rows L2
section
variable {X : Cx} {pins : List (Addr × Obj)} {σ : L2.St} {H : Hp} {s : Shared}
/-! ### slices -/
theorem cut_rp {K : PySem.W.Frag} {xs : List V} {ds : List PyData} (r : RpA K H xs ds) (lo hi : Option Int) : RpA K H (cutV xs lo hi) (cutL ds lo hi) := by
  unfold cutV cutL
  rw [r.length]
  exact (r.drop _).take _
theorem cut_whole {α : Type} {xs : List α} {lo hi : Option Int} (h : HT.sIx xs.length 0 lo = 0 ∧ HT.sIx xs.length xs.length hi = xs.length) : cutL xs lo hi = xs := by
  unfold cutL
  rw [h.1, h.2]
  simp
def rvSl (K : PySem.W.Frag) : V → Option Int → Option Int → Hp → VK → Prop := fun x lo hi H Q => ∃ θ M a v M', SR K H θ M ∧ VR K H θ M.length x a ∧ slS a lo hi M = some (v, M') ∧ Kon K θ M H v M' Q
theorem v_sl : SlR X (rvSl X.K) := by
  intro pins s σ H x v vl vu lo hi sl Q I rx hsl pl pu ⟨θ, M, a, w, M', hs, ha, e, k⟩
  unfold slS at e
  split at e
  · cases e
    cases ha with
    | tup qa ra =>
      rename_i ds p xs
      refine sl_tupA pins s σ H _ v vl vu lo hi sl Q I rx hsl pl pu ⟨p, xs, rfl, .inl (.inl qa), fun hw => ?_, fun _ => k.tup hs (cut_rp ra lo hi)⟩
      refine k.at hs (Rp.tup qa ?_)
      have : cutV xs lo hi = xs := cut_whole hw
      have q := cut_rp ra lo hi
      rw [this] at q; exact q
  · split at e
    · rename_i ds e1
      cases e
      obtain ⟨p, xs, rfl, l1, r1⟩ := listOf_at hs ha e1
      exact sl_list pins s σ H _ v vl vu lo hi sl Q I rx hsl pl pu ⟨p, xs, rfl, l1.sq, k.lst hs (cut_rp r1 lo hi)⟩
    · cases e
/-! ### truth -/
theorem isEmpty_rp {K : PySem.W.Frag} {xs : List V} {ds : List PyData} (r : RpA K H xs ds) : (!xs.isEmpty) = !ds.isEmpty := by
  cases ds <;> cases r <;> rfl
theorem tru_at {K : PySem.W.Frag} {θ : Nat → Addr} {M : Sto} {x : V} {a : VL} {k : Bool} (s : SR K H θ M) (h : VR K H θ M.length x a) (e : tru a M = some k) : TruV K x H k := by
  cases a with
  | r l =>
    obtain ⟨hl, rfl⟩ := h
    simp only [tru] at e
    split at e
    · rename_i ds eo
      cases e
      obtain ⟨xs, q, r⟩ := s.ob l _ eo
      exact .inl ⟨xs, .inl (.inl q), (isEmpty_rp r).symm⟩
    · rename_i vs eo
      cases e
      obtain ⟨xs, q, r⟩ := s.ob l _ eo
      exact .inl ⟨xs, .inl (.inl q), by cases r <;> rfl⟩
    · cases e
  | d d =>
    cases d <;> simp only [tru, Option.some.injEq, reduceCtorEq] at e
    case none => cases h; exact e.symm
    case bool b => cases h; exact e.symm
    case int i => cases h; exact e.symm
    case str z =>
      cases h
      split at e
      · rename_i hz
        cases e
        refine ⟨hz, ?_⟩
        show (z.length != 0) = ((z.length : Int) != 0)
        generalize z.length = n
        cases n with
        | zero => rfl
        | succ n =>
          have h1 : ((n + 1 : Nat) != 0) = true := by simp
          have h2 : (((n + 1 : Nat) : Int) != 0) = true := by rw [bne_iff_ne]; omega
          rw [h1, h2]
      · cases e
    case list ds =>
      cases h with
      | lst q r => exact .inl ⟨_, q.sq, by rw [← e]; exact (isEmpty_rp r).symm⟩
    case tuple ds =>
      cases h with
      | tup q r => exact .inr (.inl ⟨_, .inl (.inl q), by rw [← e]; exact (isEmpty_rp r).symm⟩)
/-! ### built-ins -/
def btV : Bt → Value
  | .abs => .builtin "abs"
  | .max => .builtin "max"
  | .min => .builtin "min"
  | .int => .type "int"
  | .bool => .type "bool"
  | .str => .type "str"
  | .ord => .builtin "ord"
  | .len => .builtin "len"
  | .list => .type "list"
  | .tuple => .type "tuple"
  | .sum => .builtin "sum"
  | .any => .builtin "any"
  | .all => .builtin "all"
  | .sorted => .builtin "sorted"
  | .repr => .builtin "repr"
  | .dict => .type "dict"
  | .dictT => .type "dict"
  | .set => .type "set"
theorem vrs1 {K : PySem.W.Frag} {θ : Nat → Addr} {n : Nat} {xs : List V} {a : VL} (r : VRs K H θ n xs [a]) : ∃ x, xs = [x] ∧ VR K H θ n x a := by
  cases r with
  | cons h t => cases t; exact ⟨_, rfl, h⟩
theorem vrs2 {K : PySem.W.Frag} {θ : Nat → Addr} {n : Nat} {xs : List V} {a b : VL} (r : VRs K H θ n xs [a, b]) : ∃ x y, xs = [x, y] ∧ VR K H θ n x a ∧ VR K H θ n y b := by
  cases r with
  | cons h t =>
    cases t with
    | cons h2 t2 => cases t2; exact ⟨_, _, rfl, h, h2⟩
theorem intsOf_eq : ∀ {ds : List PyData} {ns : List Int}, intsOf ds = some ns → ds = ns.map PyData.int
  | [], ns, e => by cases e; rfl
  | .int i :: ds, ns, e => by
    simp only [intsOf] at e
    cases q : intsOf ds with
    | none => rw [q] at e; cases e
    | some ms => rw [q] at e; cases e; rw [intsOf_eq q]; rfl
  | .none :: _, _, e | .bool _ :: _, _, e | .str _ :: _, _, e | .list _ :: _, _, e | .tuple _ :: _, _, e | .dict _ :: _, _, e => by simp [intsOf] at e
theorem boolsOf_eq : ∀ {ds : List PyData} {ns : List Bool}, boolsOf ds = some ns → ds = ns.map PyData.bool
  | [], ns, e => by cases e; rfl
  | .bool i :: ds, ns, e => by
    simp only [boolsOf] at e
    cases q : boolsOf ds with
    | none => rw [q] at e; cases e
    | some ms => rw [q] at e; cases e; rw [boolsOf_eq q]; rfl
  | .none :: _, _, e | .int _ :: _, _, e | .str _ :: _, _, e | .list _ :: _, _, e | .tuple _ :: _, _, e | .dict _ :: _, _, e => by simp [boolsOf] at e
theorem ints_at {K : PySem.W.Frag} {θ : Nat → Addr} {M : Sto} {x : V} {a : VL} {ns : List Int} (s : SR K H θ M) (h : VR K H θ M.length x a) (e : (lsOf a M).bind intsOf = some ns) : ∃ p, x = .ref p ∧ SqL K H p (ns.map V.int) := by
  cases q : lsOf a M with
  | none => rw [q] at e; cases e
  | some ds =>
    rw [q] at e
    obtain ⟨p, xs, rfl, l, r⟩ := listOf_at s h q
    have := intsOf_eq e
    subst this
    have := r.ints
    subst this
    exact ⟨p, rfl, l.sq⟩
theorem bools_at {K : PySem.W.Frag} {θ : Nat → Addr} {M : Sto} {x : V} {a : VL} {ns : List Bool} (s : SR K H θ M) (h : VR K H θ M.length x a) (e : (lsOf a M).bind boolsOf = some ns) : ∃ p, x = .ref p ∧ SqL K H p (ns.map V.bl) := by
  cases q : lsOf a M with
  | none => rw [q] at e; cases e
  | some ds =>
    rw [q] at e
    obtain ⟨p, xs, rfl, l, r⟩ := listOf_at s h q
    have := boolsOf_eq e
    subst this
    have := r.bools
    subst this
    exact ⟨p, rfl, l.sq⟩
theorem foldl_max_ge : ∀ (xs : List Int) (x : Int), x ≤ xs.foldl max x ∧ ∀ y ∈ xs, y ≤ xs.foldl max x
  | [], x => ⟨Int.le_refl _, fun _ h => by cases h⟩
  | z :: xs, x => by
    obtain ⟨h1, h2⟩ := foldl_max_ge xs (max x z)
    refine ⟨Int.le_trans (Int.le_max_left _ _) h1, fun y hy => ?_⟩
    rcases List.mem_cons.mp hy with rfl | hy
    · exact Int.le_trans (Int.le_max_right _ _) h1
    · exact h2 y hy
theorem foldl_max_mem : ∀ (xs : List Int) (x : Int), xs.foldl max x ∈ x :: xs
  | [], x => by simp
  | z :: xs, x => by
    have h := foldl_max_mem xs (max x z)
    rw [List.foldl_cons]
    rcases List.mem_cons.mp h with h | h
    · rw [h]
      by_cases hz : x ≤ z
      · rw [Int.max_eq_right hz]; simp
      · rw [Int.max_eq_left (by omega)]; simp
    · exact List.mem_cons_of_mem _ (List.mem_cons_of_mem _ h)
theorem foldl_min_le : ∀ (xs : List Int) (x : Int), xs.foldl min x ≤ x ∧ ∀ y ∈ xs, xs.foldl min x ≤ y
  | [], x => ⟨Int.le_refl _, fun _ h => by cases h⟩
  | z :: xs, x => by
    obtain ⟨h1, h2⟩ := foldl_min_le xs (min x z)
    refine ⟨Int.le_trans h1 (Int.min_le_left _ _), fun y hy => ?_⟩
    rcases List.mem_cons.mp hy with rfl | hy
    · exact Int.le_trans h1 (Int.min_le_right _ _)
    · exact h2 y hy
theorem foldl_min_mem : ∀ (xs : List Int) (x : Int), xs.foldl min x ∈ x :: xs
  | [], x => by simp
  | z :: xs, x => by
    have h := foldl_min_mem xs (min x z)
    rw [List.foldl_cons]
    rcases List.mem_cons.mp h with h | h
    · rw [h]
      by_cases hz : x ≤ z
      · rw [Int.min_eq_left hz]; simp
      · rw [Int.min_eq_right (by omega)]; simp
    · exact List.mem_cons_of_mem _ (List.mem_cons_of_mem _ h)
theorem len_at {K : PySem.W.Frag} {θ : Nat → Addr} {M : Sto} {x : V} {a : VL} {ds : List PyData} (s : SR K H θ M) (h : VR K H θ M.length x a) (e : seqOf a M = some ds) : ∃ p ys, [x] = [.ref p] ∧ (SqL K H p ys ∨ SqT K H p ys) ∧ ys.length = ds.length ∧ RpA K H ys ds ∧ (¬ SqL K H p ys → a = .d (.tuple ds)) := by
  obtain ⟨p, xs, rfl, hq, r⟩ := seqOf_at s h e
  rcases hq with hq | ⟨hq, e2⟩
  · exact ⟨p, xs, rfl, .inl hq.sq, r.length, r, fun z => absurd hq.sq z⟩
  · exact ⟨p, xs, rfl, .inr (.inl (.inl hq)), r.length, r, fun _ => e2⟩
theorem its_at {K : PySem.W.Frag} {θ : Nat → Addr} {M : Sto} {x : V} {a : VL} {ds : List PyData} (s : SR K H θ M) (h : VR K H θ M.length x a) (e : itsOf a M = some ds) : ∃ p, x = .ref p ∧ SrtIn K H (Rp K H) p ds := by
  unfold itsOf at e
  split at e
  · rename_i t kvs h0
    cases e
    obtain ⟨l, rfl, eo⟩ := dctOf_at h0
    obtain ⟨hl, rfl⟩ := h
    have ho := rd_at s eo
    cases t
    · obtain ⟨ls, q, r⟩ := ho
      exact ⟨_, rfl, .inr (.inl ⟨ls, q, keys_k r⟩)⟩
    · obtain ⟨ls, q, r⟩ := ho
      exact ⟨_, rfl, .inr (.inr ⟨ls, q, fun bs hb => keys_t r hb⟩)⟩
  · obtain ⟨p, xs, rfl, hq, r⟩ := seqOf_at s h e
    rcases hq with hq | ⟨hq, _⟩
    · exact ⟨p, rfl, .inl ⟨xs, .inl hq.sq, rpA_paired r⟩⟩
    · exact ⟨p, rfl, .inl ⟨xs, .inr (.inl (.inl hq)), rpA_paired r⟩⟩
theorem v_bt (hc : X.calm = true) (hu : X.A.units + 70 < cLine) (b : Bt) : CallR X (btV b) (rvN X.K (btS b)) := by
  intro pins s σ H xs us Q I rv ⟨θ, M, as, w, M', hs, ha, e, k⟩
  unfold btS at e
  split at e
  · obtain ⟨x, rfl, h⟩ := vrs1 ha
    cases e; cases h
    exact call_abs pins s σ H _ us Q I rv ⟨_, rfl, k.at hs (.int _)⟩
  · obtain ⟨x, y, rfl, h, h2⟩ := vrs2 ha
    cases e; cases h; cases h2
    exact call_max2 hc pins s σ H _ us Q I rv ⟨_, _, rfl, k.at hs (.int _)⟩
  · obtain ⟨x, y, rfl, h, h2⟩ := vrs2 ha
    cases e; cases h; cases h2
    exact call_min2 hc pins s σ H _ us Q I rv ⟨_, _, rfl, k.at hs (.int _)⟩
  · obtain ⟨x, rfl, h⟩ := vrs1 ha
    cases q : (lsOf _ M).bind intsOf with
    | none => rw [q] at e; cases e
    | some ns =>
      rw [q] at e
      obtain ⟨p, rfl, l⟩ := ints_at hs h q
      cases ns with
      | nil => cases e
      | cons n ns =>
        cases e
        refine cr_max hc pins s σ H _ us Q I rv ⟨p, n :: ns, rfl, l, by simp, fun m hm hy => ?_⟩
        have e2 : ns.foldl max n = m := by
          refine Int.le_antisymm (hy _ (foldl_max_mem ns n)) ?_
          rcases List.mem_cons.mp hm with rfl | hm
          · exact (foldl_max_ge ns m).1
          · exact (foldl_max_ge ns n).2 m hm
        rw [← e2]
        exact k.at hs (.int _)
  · obtain ⟨x, rfl, h⟩ := vrs1 ha
    cases q : (lsOf _ M).bind intsOf with
    | none => rw [q] at e; cases e
    | some ns =>
      rw [q] at e
      obtain ⟨p, rfl, l⟩ := ints_at hs h q
      cases ns with
      | nil => cases e
      | cons n ns =>
        cases e
        refine cr_min hc pins s σ H _ us Q I rv ⟨p, n :: ns, rfl, l, by simp, fun m hm hy => ?_⟩
        have e2 : ns.foldl min n = m := by
          refine Int.le_antisymm ?_ (hy _ (foldl_min_mem ns n))
          rcases List.mem_cons.mp hm with rfl | hm
          · exact (foldl_min_le ns m).1
          · exact (foldl_min_le ns n).2 m hm
        rw [← e2]
        exact k.at hs (.int _)
  · obtain ⟨x, rfl, h⟩ := vrs1 ha
    cases e; cases h
    exact call_int1 pins s σ H _ us Q I rv (.inl ⟨_, rfl, k.at hs (.int _)⟩)
  · obtain ⟨x, rfl, h⟩ := vrs1 ha
    cases e; cases h
    exact call_int1 pins s σ H _ us Q I rv (.inr ⟨_, rfl, k.at hs (.int _)⟩)
  · split at e
    · obtain ⟨x, rfl, h⟩ := vrs1 ha
      cases e; cases h
      exact call_len_str pins s σ H _ us Q I rv ⟨_, rfl, by assumption, k.at hs (.int _)⟩
    · cases e
  · obtain ⟨x, rfl, h⟩ := vrs1 ha
    split at e
    · rename_i ds e1
      cases e
      obtain ⟨p, ys, q1, q2, q3, _⟩ := len_at hs h e1
      cases q1
      refine call_len_seq pins s σ H _ us Q I rv ⟨p, ys, rfl, q2, ?_⟩
      rw [q3]; exact k.at hs (.int _)
    · split at e
      · split at e
        · rename_i vs eo
          cases e
          obtain ⟨hl, rfl⟩ := h
          obtain ⟨xs, q, r⟩ := hs.ob _ _ eo
          refine call_len_seq pins s σ H _ us Q I rv ⟨_, xs, rfl, .inl (.inl (.inl q)), ?_⟩
          rw [Paired.length r]; exact k.at hs (.int _)
        · cases e
      · cases e
  · obtain ⟨x, rfl, h⟩ := vrs1 ha
    cases q : seqOf _ M with
    | none => rw [q] at e; cases e
    | some ds =>
      rw [q] at e; cases e
      obtain ⟨p, ys, q1, q2, q3, r, _⟩ := len_at hs h q
      cases q1
      exact call_list_of pins s σ H _ us Q I rv ⟨p, ys, rfl, q2, k.lst hs r⟩
  · obtain ⟨x, rfl, h⟩ := vrs1 ha
    cases q : seqOf _ M with
    | none => rw [q] at e; cases e
    | some ds =>
      rw [q] at e; cases e
      obtain ⟨p, ys, rfl, hq, r⟩ := seqOf_at hs h q
      rcases hq with hq | ⟨hq, e2⟩
      · exact call_tuple_of pins s σ H _ us Q I rv ⟨p, ys, rfl, .inl ⟨hq.sq, k.tup hs r⟩⟩
      · exact call_tuple_of pins s σ H _ us Q I rv ⟨p, ys, rfl, .inr ⟨.inl (.inl hq), k.at hs (Rp.tup hq r)⟩⟩
  · obtain ⟨x, rfl, h⟩ := vrs1 ha
    cases q : (lsOf _ M).bind intsOf with
    | none => rw [q] at e; cases e
    | some ns =>
      rw [q] at e; cases e
      obtain ⟨p, rfl, l⟩ := ints_at hs h q
      exact cr_sum hc pins s σ H _ us Q I rv ⟨p, ns, rfl, l, k.at hs (.int _)⟩
  · obtain ⟨x, rfl, h⟩ := vrs1 ha
    cases q : (lsOf _ M).bind boolsOf with
    | none => rw [q] at e; cases e
    | some ns =>
      rw [q] at e; cases e
      obtain ⟨p, rfl, l⟩ := bools_at hs h q
      exact cr_any hc pins s σ H _ us Q I rv ⟨p, ns, rfl, l, k.at hs (.bl _)⟩
  · obtain ⟨x, rfl, h⟩ := vrs1 ha
    cases q : (lsOf _ M).bind boolsOf with
    | none => rw [q] at e; cases e
    | some ns =>
      rw [q] at e; cases e
      obtain ⟨p, rfl, l⟩ := bools_at hs h q
      exact cr_all hc pins s σ H _ us Q I rv ⟨p, ns, rfl, l, k.at hs (.bl _)⟩
  · obtain ⟨x, rfl, h⟩ := vrs1 ha
    cases q : (lsOf _ M).bind (prsD false) with
    | none => rw [q] at e; cases e
    | some ps =>
      rw [q] at e; cases e
      obtain ⟨ds, q1, q2⟩ := Option.bind_eq_some_iff.mp q
      obtain ⟨p, ys, rfl, hq, r⟩ := listOf_at hs h q1
      obtain ⟨bs, kvs, rfl, pr, dp⟩ := prs_k (θ := θ) (n := 0) r q2
      exact call_dictP hc pins s σ H _ us Q I rv ⟨p, bs, kvs, rfl, hq.sq, pr, Kon.dctM k hs fun {p θ'} kp ht => ⟨_, upd_same, dp_merge same_kD (DP.kp dp kp (Nat.zero_le _) fun i z => absurd z (Nat.not_lt_zero i)) .nil⟩⟩
  · obtain ⟨x, rfl, h⟩ := vrs1 ha
    cases q : (lsOf _ M).bind (prsD true) with
    | none => rw [q] at e; cases e
    | some ps =>
      rw [q] at e; cases e
      obtain ⟨ds, q1, q2⟩ := Option.bind_eq_some_iff.mp q
      obtain ⟨p, ys, rfl, hq, r⟩ := listOf_at hs h q1
      obtain ⟨bs, kvs, rfl, pr, dp⟩ := prs_t (θ := θ) (n := 0) r q2
      exact call_dictT hc hu pins s σ H _ us Q I rv ⟨p, bs, kvs, rfl, hq.sq, pr, Kon.dctM k hs fun {p θ'} kp ht => ⟨_, upd_same, dp_merge same_kT (DP.kp dp kp (Nat.zero_le _) fun i z => absurd z (Nat.not_lt_zero i)) .nil⟩⟩
  · obtain ⟨x, rfl, h⟩ := vrs1 ha
    cases q : itsOf _ M with
    | none => rw [q] at e; cases e
    | some ds =>
      rw [q] at e
      simp only [Option.bind_some] at e
      split at e
      · rename_i ok
        cases e
        obtain ⟨p, rfl, hin⟩ := its_at hs h q
        exact call_srt hc hu pins s σ H _ us Q I rv ⟨p, ds, _, rfl, hin, fun x d r => r.dp, ok, fun l zs hz hn => k.lst hs (paired_rpA hz) l hn⟩
      · cases e
  · cases e
/-! ### isinstance -/
def tyN : Ty → String
  | .int => "int"
  | .bool => "bool"
  | .str => "str"
  | .tuple => "tuple"
  | .list => "list"
  | .dict => "dict"
def dTy : PyData → String
  | .none => "NoneType"
  | .bool _ => "bool"
  | .int _ => "int"
  | .str _ => "str"
  | .list _ => "list"
  | .tuple _ => "tuple"
  | .dict _ => "dict"
theorem kit_tab : ∀ (t : Ty), kitB "NoneType" (tyN t) = some false ∧ kitB "bool" (tyN t) = some (isTy (.bool true) t) ∧ kitB "int" (tyN t) = some (isTy (.int 0) t) ∧ kitB "str" (tyN t) = some (isTy (.str default) t) ∧
    kitB "list" (tyN t) = some (isTy (.list []) t) ∧ kitB "tuple" (tyN t) = some (isTy (.tuple []) t) ∧ kitB "dict" (tyN t) = some (isTy (.dict []) t) := by
  intro t
  cases t <;> decide +kernel
theorem kit_d (d : PyData) (t : Ty) : kitB (dTy d) (tyN t) = some (isTy d t) := by
  obtain ⟨h1, h2, h3, h4, h5, h6, h7⟩ := kit_tab t
  cases d with
  | none => rw [show dTy .none = "NoneType" from rfl, h1]; cases t <;> rfl
  | bool b => rw [show dTy (.bool b) = "bool" from rfl, h2]; cases t <;> rfl
  | int b => rw [show dTy (.int b) = "int" from rfl, h3]; cases t <;> rfl
  | str b => rw [show dTy (.str b) = "str" from rfl, h4]; cases t <;> rfl
  | list b => rw [show dTy (.list b) = "list" from rfl, h5]; cases t <;> rfl
  | tuple b => rw [show dTy (.tuple b) = "tuple" from rfl, h6]; cases t <;> rfl
  | dict b => rw [show dTy (.dict b) = "dict" from rfl, h7]; cases t <;> rfl
theorem sqT_ty {K : PySem.W.Frag} {a : Addr} {xs : List V} (h : SqT K H a xs) : TyX K H (.ref a) (.type "tuple") := by
  rcases h with (h | ⟨o, h⟩) | ⟨o, its, n, h1, h2, _⟩
  · exact .base (.tup h)
  · exact .fTuple h
  · exact .kTuple h1 h2
theorem fzL_ty {K : PySem.W.Frag} {a : Addr} {xs : List V} (h : FzL K H a xs) : TyX K H (.ref a) (.type "list") := by
  rcases h with ⟨o, h⟩ | ⟨o, its, n, h1, h2, _⟩
  · exact .base (.frz h)
  · exact .kList h1 h2
theorem rp_ty {K : PySem.W.Frag} {x : V} {d : PyData} (h : Rp K H x d) : TyX K H x (.type (dTy d)) := by
  cases h with
  | non => exact .base .non
  | bl b => exact .base (.bl b)
  | int i => exact .base (.int i)
  | str z => exact .base (.str z)
  | lst e r => exact fzL_ty e
  | tup e r => exact sqT_ty (.inl (.inl e))
def rvI (K : PySem.W.Frag) (t : Ty) : List V → Hp → VK → Prop := fun xs H Q => ∃ x θ M a v M', xs = [x, .ty (tyN t)] ∧ SR K H θ M ∧ VR K H θ M.length x a ∧ isiS a t M = some (v, M') ∧ Kon K θ M H v M' Q
theorem v_isi (t : Ty) : CallR X (.builtin "isinstance") (rvI X.K t) := by
  intro pins s σ H xs us Q I rv ⟨x, θ, M, a, w, M', exs, hs, ha, e, k⟩
  unfold isiS at e
  split at e
  · rename_i d
    cases e
    exact call_isi pins s σ H xs us Q I rv ⟨x, .ty (tyN t), .type (dTy d), .type (tyN t), isTy d t, exs, .ty _, rp_ty ha, kit_ty (kit_d d t), k.at hs (.bl _)⟩
  · rename_i l
    obtain ⟨hl, rfl⟩ := ha
    split at e
    · rename_i t' kvs eo
      cases e
      have hk : kitB "dict" (tyN t) = some (t == .dict) := by have := kit_d (.dict []) t; rw [show dTy (.dict []) = "dict" from rfl] at this; rw [this]; cases t <;> rfl
      have ho := hs.ob l _ eo
      cases t' <;> obtain ⟨ls, q, _⟩ := ho
      · exact call_isi pins s σ H xs us Q I rv ⟨_, .ty (tyN t), .type "dict", .type (tyN t), _, exs, .ty _, .base (.dK q), kit_ty hk, k.at hs (.bl _)⟩
      · exact call_isi pins s σ H xs us Q I rv ⟨_, .ty (tyN t), .type "dict", .type (tyN t), _, exs, .ty _, .base (.dT q), kit_ty hk, k.at hs (.bl _)⟩
    · cases e
    · rename_i o hno hno2 eo
      cases e
      have hk : kitB "list" (tyN t) = some (t == .list) := by have := kit_d (.list []) t; rw [show dTy (.list []) = "list" from rfl] at this; rw [this]; cases t <;> rfl
      have hq : ∃ xs, H (θ l) = some (.lst xs) := by
        cases o with
        | lst ds => obtain ⟨xs, q, _⟩ := hs.ob l _ eo; exact ⟨xs, q⟩
        | nst ds => obtain ⟨xs, q, _⟩ := hs.ob l _ eo; exact ⟨xs, q⟩
        | dct t' kvs => exact (hno t' kvs rfl).elim
        | dcl t' kvs => exact (hno2 t' kvs rfl).elim
      obtain ⟨xs', q⟩ := hq
      exact call_isi pins s σ H xs us Q I rv ⟨_, .ty (tyN t), .type "list", .type (tyN t), _, exs, .ty _, .base (.lst q), kit_ty hk, k.at hs (.bl _)⟩
    · cases e
/-! ### lists that change -/
theorem RpA.vrs {K : PySem.W.Frag} {θ : Nat → Addr} {n : Nat} : ∀ {ds : List PyData} {xs : List V}, RpA K H xs ds → VRs K H θ n xs (ds.map VL.d)
  | [], _, q => by cases q; exact .nil
  | d :: ds, _, q => by
    cases q with
    | cons r rs => exact .cons r (RpA.vrs rs)
theorem paired_append {α β : Type} {R : α → β → Prop} {xs xs' : List α} {ys ys' : List β} (r : Paired R xs ys) (r' : Paired R xs' ys') : Paired R (xs ++ xs') (ys ++ ys') := by
  induction r with
  | nil => exact r'
  | cons h _ ih => exact .cons h ih
theorem paired_set {α β : Type} {R : α → β → Prop} {xs : List α} {ys : List β} (r : Paired R xs ys) {x : α} {y : β} (h : R x y) : ∀ (i : Nat), Paired R (xs.set i x) (ys.set i y) := by
  induction r with
  | nil => intro i; exact .nil
  | cons h1 t ih =>
    intro i
    cases i with
    | zero => exact .cons h t
    | succ i => exact .cons h1 (ih i)
theorem Kon.put {K : PySem.W.Frag} {θ : Nat → Addr} {M : Sto} {H : Hp} {v : VL} {Q : VK} {z : V} {l : Nat} {mo : MO} {o : HO} (k : Kon K θ M H v (M.set l mo) Q) (s : SR K H θ M) (hl : l < M.length) (hk : ∀ o, M[l]? = some o → o.lk = false) (hm : Kp H (upd H (θ l) o) → MR K (upd H (θ l) o) θ M.length (θ l) mo)
    (hv : VR K H θ M.length z v) : Q z (upd H (θ l) o) := by
  obtain ⟨w, hw, hst, _⟩ := s.some hl
  have kp : Kp H (upd H (θ l) o) := fun b u e st => by
    rw [upd_ne]; exact e
    intro q; rw [q, hw] at e; cases e; exact hst st
  have g := Go.put (o := o) (mo := mo) s hl hk (hm kp)
  exact k θ _ z g (hv.go s g)
theorem v_app : MtM X "list.append" (rvM X.K (mtS .append)) := by
  intro pins s σ H x xs v us Q I rx rv ⟨θ, M, a, as, w, M', hs, ha, hv, e, k⟩
  have e1 : ∃ y, as = [y] ∧ appS a y M = some (w, M') := by
    match as, e with
    | [y], e => exact ⟨y, rfl, e⟩
    | [], e => cases e
    | _ :: _ :: _, e => cases e
  clear e
  obtain ⟨y, rfl, e⟩ := e1
  · obtain ⟨y', rfl, hy⟩ := vrs1 hv
    unfold appS at e
    split at e
    · rename_i l
      obtain ⟨hl, rfl⟩ := ha
      split at e
      · rename_i ds d eo
        split at e
        · cases e
          obtain ⟨xs, q, r⟩ := hs.ob l _ eo
          exact mt_append pins s σ H _ _ v us Q I rx rv ⟨_, xs, y', rfl, rfl, q, by rw [r.length]; assumption, k.put hs hl (by rw [eo]; intro o h; cases h; rfl) (fun kp => ⟨_, upd_same, (RpA.kp kp _ _ r).append (.cons (Rp.kp kp _ _ hy) .nil)⟩) .non⟩
        · cases e
      · rename_i ds eo hx
        split at e
        · cases e
          obtain ⟨xs, q, r⟩ := hs.ob l _ eo
          exact mt_append pins s σ H _ _ v us Q I rx rv ⟨_, xs, y', rfl, rfl, q, by rw [r.length]; assumption, k.put hs hl (by rw [eo]; intro o h; cases h; rfl) (fun kp => ⟨_, upd_same, paired_append (RpA.vrs (RpA.kp kp _ _ r)) (.cons (VR.kp hy kp (Nat.le_refl _) fun _ _ => rfl) .nil)⟩) .non⟩
        · cases e
      · rename_i vs eo
        split at e
        · cases e
          obtain ⟨xs, q, r⟩ := hs.ob l _ eo
          exact mt_append pins s σ H _ _ v us Q I rx rv ⟨_, xs, y', rfl, rfl, q, by rw [Paired.length r]; assumption, k.put hs hl (by rw [eo]; intro o h; cases h; rfl) (fun kp => ⟨_, upd_same, paired_append (Paired.mapP r fun a b z => VR.kp z kp (Nat.le_refl _) fun _ _ => rfl) (.cons (VR.kp hy kp (Nat.le_refl _) fun _ _ => rfl) .nil)⟩) .non⟩
        · cases e
      · cases e
    · cases e
theorem getS_at {K : PySem.W.Frag} {θ : Nat → Addr} {M M' : Sto} {a : VL} {k : PyData} {z w : VL} {x y zv : V} (hs : SR K H θ M) (ha : VR K H θ M.length x a) (hk : VR K H θ M.length y (.d k)) (hz : VR K H θ M.length zv z) (e : getS a k z M = some (w, M')) :
    M' = M ∧ ∃ p o, x = .ref p ∧ DGet H p y o ∧ VR K H θ M.length (o.getD zv) w := by
  unfold getS at e
  split at e
  · rename_i t kvs h0
    obtain ⟨l, rfl, eo⟩ := dctOf_at h0
    split at e
    · rename_i ok
      cases e
      refine ⟨rfl, θ l, ?_⟩
      rcases dget_at hs eo ok hk with ⟨h1, g⟩ | ⟨v', u, h1, g, hu⟩
      · exact ⟨none, ha.2, g, by rw [h1]; exact hz⟩
      · exact ⟨some u, ha.2, g, by rw [h1]; exact hu⟩
    · cases e
  · cases e
theorem v_get (hu : X.A.units + 65 < cLine) : MtM X "dict.get" (rvM X.K (mtS .get)) := by
  intro pins s σ H x xs v us Q I rx rv ⟨θ, M, a, as, w, M', hs, ha, hv, e, k⟩
  match as, e with
  | [.d kk], e =>
    obtain ⟨y, rfl, hy⟩ := vrs1 hv
    obtain ⟨rfl, p, o, rfl, g, hw⟩ := getS_at hs ha hy (z := .d .none) (zv := .non) Rp.non (show getS a kk (.d .none) M = some (w, M') from e)
    cases rx
    obtain ⟨u1, rfl, r1⟩ := vals1 rv
    exact d_get1 (by omega) I g r1 fun w' s' I' rw' => ⟨_, H, I', rw', k.at hs hw⟩
  | [.d kk, z], e =>
    obtain ⟨y, y2, rfl, hy, hy2⟩ := vrs2 hv
    obtain ⟨rfl, p, o, rfl, g, hw⟩ := getS_at hs ha hy hy2 (show getS a kk z M = some (w, M') from e)
    cases rx
    obtain ⟨u1, u2, rfl, r1, r2⟩ := vals2 rv
    exact d_get2 (by omega) I g r1 r2 fun w' s' I' rw' => ⟨_, H, I', rw', k.at hs hw⟩
  | [], e => cases e
  | [.r _], e => cases e
  | .r _ :: _ :: _, e => cases e
  | .d _ :: _ :: _ :: _, e => cases e
theorem v_pop (hu : X.A.units + 65 < cLine) : MtM X "dict.pop" (rvM X.K (mtS .pop)) := by
  intro pins s σ H x xs v us Q I rx rv ⟨θ, M, a, as, w, M', hs, ha, hv, e, k⟩
  have e1 : ∃ d, as = [.d d] ∧ popS a d M = some (w, M') := by
    match as, e with
    | [.d d], e => exact ⟨d, rfl, e⟩
    | [], e => cases e
    | [.r _], e => cases e
    | .r _ :: _ :: _, e => cases e
    | .d _ :: _ :: _, e => cases e
  clear e
  obtain ⟨kd, rfl, e⟩ := e1
  obtain ⟨y, rfl, hy⟩ := vrs1 hv
  unfold popS at e
  split at e
  rotate_left
  · cases e
  rename_i l
  obtain ⟨hl, rfl⟩ := ha
  split at e
  rotate_left
  · cases e
  rename_i t kvs eo
  split at e
  rotate_left
  · cases e
  rename_i y0 hg
  split at e
  rotate_left
  · cases e
  rename_i hk
  cases e
  cases rx
  obtain ⟨u1, rfl, r1⟩ := vals1 rv
  have ho := hs.ob l _ eo
  cases t with
  | false =>
    obtain ⟨ls, q, r⟩ := ho
    obtain ⟨kk, ek⟩ := Option.isSome_iff_exists.mp hk
    have e := kyD_ok ek
    subst e
    have ey := rp_key hy
    subst ey
    rcases dp_get same_kD r kk with ⟨h1, _⟩ | ⟨v', x', h1, h2, h3⟩
    · rw [hg] at h1; cases h1
    · rw [hg] at h1; cases h1
      refine d_pop I q r1 h2 (.inl rfl) fun w' s' I' rw' => ⟨_, _, I', rw', ?_⟩
      exact k.put hs hl (by rw [eo]; intro o h; cases h; rfl) (fun kp => ⟨_, upd_same, dp_drop same_kD (DP.kp r kp (Nat.le_refl _) fun _ _ => rfl) kk⟩) h3
  | true =>
    obtain ⟨ls, q, r⟩ := ho
    cases kd with
    | tuple ds =>
      obtain ⟨ks, ek⟩ := Option.isSome_iff_exists.mp hk
      have e := kyL_ok ek
      subst e
      cases hy with
      | @tup b xs _ qb rb =>
        obtain rfl := rpA_keys rb
        rcases dp_get same_kT r ks with ⟨h1, _⟩ | ⟨v', x', h1, h2, h3⟩
        · rw [hg] at h1; cases h1
        · rw [hg] at h1; cases h1
          cases r1
          obtain ⟨z, hd, xs', rel, dd⟩ := dt_of I.hok q
          have hz : xs'.length ≤ sizeLine := by rw [← Paired.length rel]; exact z
          have rr := rel.val ks
          cases hp : atKey xs' ks with
          | none => rw [hp, h2] at rr; exact (show False from rr).elim
          | some p =>
            rw [hp, h2] at rr
            have rr : RelV x' p.2 := rr
            refine call_pop_heap (knd := tupleKind (mixKind X.prog X.w)) (k := ks) (more := []) (.inl rfl) (PySem.F.args_dict_pop_2 _ _) (tupleKind_room_in1 (by omega)) (key_of I.hok qb) hd dd hp (fun h' dd' hs' => ?_) hz
            obtain ⟨o, es, ep, hq, h2', h3', h4, _, h5⟩ := dd'
            have I2 : L2.Inv X pins σ (upd H (θ l) (.dT (dropK ls ks))) { s with heap := h', toks := s.toks + (tupleKind (mixKind X.prog X.w)).draws ks } :=
              d_write I (by rw [q]; exact True.intro) hs' ⟨o, hq⟩ ⟨Nat.le_trans (dropK_le ls ks) z, hd, _, (L2.DX.KT_drop ks rel).keeps (fun c ys ec => (by rw [upd_ne (ne_of ec q (fun z => nomatch z))]; exact ec)), o, es, ep, hq, h2', h3', h4, h5⟩
            exact ⟨_, _, I2, rr, k.put hs hl (by rw [eo]; intro o h; cases h; rfl) (fun kp => ⟨_, upd_same, dp_drop same_kT (DP.kp r kp (Nat.le_refl _) fun _ _ => rfl) ks⟩) h3⟩
    | _ => cases hk
def rvSet (K : PySem.W.Frag) : V → V → V → Hp → (Hp → Prop) → Prop := fun o i v H Q => ∃ θ M a b c M', SR K H θ M ∧ VR K H θ M.length o a ∧ VR K H θ M.length i b ∧ VR K H θ M.length v c ∧ sixS a b c M = some M' ∧ ∀ θ' H', Go K θ M H θ' M' H' → Q H'
theorem v_six (hu : X.A.units + 65 < cLine) : PSet X (rvSet X.K) := by
  intro pins s σ H o i v ov iv u Q I ro ri rv ⟨θ, M, a, b, c, M', hs, ha, hb, hc, e, k⟩
  have put : ∀ {l : Nat} {mo : MO} {w : HO}, (∀ θ' H', Go X.K θ M H θ' (M.set l mo) H' → Q H') → l < M.length → (∀ o, M[l]? = some o → o.lk = false) → (Kp H (upd H (θ l) w) → MR X.K (upd H (θ l) w) θ M.length (θ l) mo) → Q (upd H (θ l) w) := by
    intro l mo w k hl hk hm
    exact Kon.put (Q := fun _ H => Q H) (z := .non) (v := .d .none) (fun θ' H' z g _ => k θ' H' g) hs hl hk hm .non
  unfold sixS at e
  split at e
  · rename_i l n
    obtain ⟨hl, rfl⟩ := ha
    split at e
    · rename_i t kvs eo
      split at e
      · rename_i hk
        cases e
        have ho := hs.ob l _ eo
        cases t with
        | false =>
          obtain ⟨ls, q, r⟩ := ho
          obtain ⟨kk, ek⟩ := Option.isSome_iff_exists.mp hk.1
          have e := kyD_ok ek
          have ey : i = kV kk := by
            subst e
            cases kk <;> cases hb <;> rfl
          subst e ey
          cases ro
          refine d_setItem (by omega) I (DPut.k q (by rw [Paired.length r]; exact hk.2)) ri rv fun s' I' => ⟨_, I', ?_⟩
          exact put k hl (by rw [eo]; intro o h; cases h; rfl) fun kp => ⟨_, upd_same, dp_put same_kD (DP.kp r kp (Nat.le_refl _) fun _ _ => rfl) kk (VR.kp hc kp (Nat.le_refl _) fun _ _ => rfl)⟩
        | true =>
          obtain ⟨ls, q, r⟩ := ho
          cases n with
          | tuple ds =>
            obtain ⟨ks, ek⟩ := Option.isSome_iff_exists.mp hk.1
            have e := kyL_ok ek
            subst e
            cases hb with
            | @tup b xs _ qb rb =>
              obtain rfl := rpA_keys rb
              cases ro
              refine d_setItem (by omega) I (DPut.t q qb (by rw [Paired.length r]; exact hk.2)) ri rv fun s' I' => ⟨_, I', ?_⟩
              exact put k hl (by rw [eo]; intro o h; cases h; rfl) fun kp => ⟨_, upd_same, dp_put same_kT (DP.kp r kp (Nat.le_refl _) fun _ _ => rfl) ks (VR.kp hc kp (Nat.le_refl _) fun _ _ => rfl)⟩
          | _ => cases hk.1
      · cases e
    · split at e
      rotate_left
      · cases e
      rename_i n0 n
      cases hb
      unfold sixL at e
      split at e
      · rename_i ds d eo
        obtain ⟨xs, q, r⟩ := hs.ob l _ eo
        cases q2 : ixN ds.length n with
        | none => rw [q2] at e; cases e
        | some j =>
          rw [q2] at e; cases e
          exact set_list pins s σ H _ _ v ov iv u Q I ro ri rv ⟨_, xs, n, j, rfl, rfl, q, by rw [r.length]; exact q2, put k hl (by rw [eo]; intro o h; cases h; rfl) (fun kp => ⟨_, upd_same, (RpA.kp kp _ _ r).set _ (Rp.kp kp _ _ hc)⟩)⟩
      · rename_i ds eo hx
        obtain ⟨xs, q, r⟩ := hs.ob l _ eo
        cases q2 : ixN ds.length n with
        | none => rw [q2] at e; cases e
        | some j =>
          rw [q2] at e; cases e
          exact set_list pins s σ H _ _ v ov iv u Q I ro ri rv ⟨_, xs, n, j, rfl, rfl, q, by rw [r.length]; exact q2, put k hl (by rw [eo]; intro o h; cases h; rfl) (fun kp => ⟨_, upd_same, paired_set (RpA.vrs (RpA.kp kp _ _ r)) (VR.kp hc kp (Nat.le_refl _) fun _ _ => rfl) _⟩)⟩
      · rename_i vs eo
        obtain ⟨xs, q, r⟩ := hs.ob l _ eo
        cases q2 : ixN vs.length n with
        | none => rw [q2] at e; cases e
        | some j =>
          rw [q2] at e; cases e
          exact set_list pins s σ H _ _ v ov iv u Q I ro ri rv ⟨_, xs, n, j, rfl, rfl, q, by rw [Paired.length r]; exact q2, put k hl (by rw [eo]; intro o h; cases h; rfl) (fun kp => ⟨_, upd_same, paired_set (Paired.mapP r fun a b z => VR.kp z kp (Nat.le_refl _) fun _ _ => rfl) (VR.kp hc kp (Nat.le_refl _) fun _ _ => rfl) _⟩)⟩
      · cases e
  · cases e
end
end Pv
namespace Pv
open PySem PySem.Spec PyProof.Rows L2

/-! ### does the code stand for the text? -/
structure GT where
  free : List Str
  cons : List (Str × PyData)
  fns : List (Str × Nat)
  tabs : List (Str × List (Str × Str)) := []
def CEs.len : CEs → Nat
  | .nil => 0
  | .cons _ es => es.len + 1
/-- its truth is its value's truth -/
def plainE : Expr → Bool
  | .ListComp _ _ _ _ => true
  | .List _ _ => true
  | .Call _ _ _ _ => true
  | .BinOp _ _ _ _ => true
  | .Subscript _ _ _ => true
  | _ => false
def btN : Bt → Str
  | .abs => "abs"
  | .max => "max"
  | .min => "min"
  | .int => "int"
  | .bool => "bool"
  | .str => "str"
  | .ord => "ord"
  | .len => "len"
  | .list => "list"
  | .tuple => "tuple"
  | .sum => "sum"
  | .any => "any"
  | .all => "all"
  | .sorted => "sorted"
  | .repr => "repr"
  | .dict => "dict"
  | .dictT => "dict"
  | .set => "set"
def tyS : Ty → Str
  | .int => "int"
  | .bool => "bool"
  | .str => "str"
  | .tuple => "tuple"
  | .list => "list"
  | .dict => "dict"
def mtN : Mt → Str
  | .append => "append"
  | .get => "get"
  | .pop => "pop"
  | .index => "index"
  | .join => "join"
  | .extend => "extend"
  | .split => "split"
def opB : O2 → Option Operator
  | .add => some .Add
  | .sub => some .Sub
  | .mul => some .Mult
  | .fdiv => some .FloorDiv
  | .mod => some .Mod
  | .pow => some .Pow
  | _ => none
def opC : O2 → Option CmpOp
  | .eq => some .Eq
  | .ne => some .NotEq
  | .lt => some .Lt
  | .le => some .LtE
  | .gt => some .Gt
  | .ge => some .GtE
  | .is => some .Is
  | .isn => some .IsNot
  | .inn => some .In
  | .nin => some .NotIn
  | _ => none
def visB (sc : Scope) (x : Str) : Bool := match sc.names.lookup x with
  | some .local => true
  | some .cell => true
  | some .free => true
  | _ => false
def locB (sc : Scope) (x : Str) : Bool := match sc.names.lookup x with
  | some .local => true
  | some .cell => true
  | _ => false
def glB (sc : Scope) (x : Str) : Bool := match sc.names.lookup x with
  | some .globalImplicit => true
  | _ => false
def plainName (x : Str) : Bool := !(x == ("__debug__" : Str)) && !(x == ("__classdict__" : Str)) && !(x == ("__name__" : Str))
def cstB : PyData → Const → Bool
  | .none, .none => true
  | .bool a, .bool b => a == b
  | .int a, .int b => a == b
  | .str a, .str b => decide (a = b)
  | _, _ => false
/-- no call without arguments -/
def notCall0 : Expr → Bool
  | .Call _ [] [] _ => false
  | _ => true
def notSlice : Expr → Bool
  | .Slice _ _ _ _ => false
  | _ => true
def chkTg (N : List Str) (sc : Scope) : Tg → Expr → Bool
  | .nm i, .Name x _ => decide (N[i]? = some x) && locB sc x
  | .tp is, .Tuple ts _ _ => go is ts
  | _, _ => false
where go : List Nat → List Expr → Bool
  | [], [] => true
  | i :: is, .Name x _ :: ts => decide (N[i]? = some x) && locB sc x && go is ts
  | _, _ => false
/-- the block's own names -/
def ownOf : Tg → Expr → List (Str × Nat)
  | .nm i, .Name x _ => [(x, i)]
  | .tp is, .Tuple ts _ _ => go is ts
  | _, _ => []
where go : List Nat → List Expr → List (Str × Nat)
  | i :: is, .Name x _ :: ts => (x, i) :: go is ts
  | _, _ => []
def isTrueC : CE → Bool
  | .c (.bool true) => true
  | _ => false
def isNoneC : CE → Bool
  | .c .none => true
  | _ => false
mutual
def chk (G : GT) (N : List Str) : CE → Scope → Expr → Bool
  | .c d, _, e => match e with
    | .Constant c _ _ => cstB d c
    | _ => false
  | .g x d, sc, e => match e with
    | .Name y _ => decide (y = x) && glB sc x && plainName x && !isT d && G.cons.any fun p => decide (p.1 = x) && same p.2 d
    | _ => false
  | .v i, sc, e => match e with
    | .Name x _ => decide (N[i]? = some x) && visB sc x && plainName x
    | _ => false
  | .o1 .neg a, sc, e => match e with
    | .UnaryOp .USub x _ => chk G N a sc x
    | _ => false
  | .o2 o a b, sc, e => match e with
    | .BinOp x p y _ => decide (opB o = some p) && chk G N a sc x && chk G N b sc y
    | .Compare x [p] [y] _ => decide (opC o = some p) && !behindInMarks p y && chk G N a sc x && chk G N b sc y
    | .Subscript x y _ => decide (o = .ix) && notSlice y && chk G N a sc x && chk G N b sc y
    | _ => false
  | .ch o o' a b c, sc, e => match e with
    | .Compare x [p, p'] [y, z] _ => decide (opC o = some p) && decide (opC o' = some p') && !behindInMarks p' z && chk G N a sc x && chk G N b sc y && chk G N c sc z
    | _ => false
  | .sl a lo hi, sc, e => match e with
    | .Subscript x (.Slice l h none _) _ => chk G N a sc x && (match l with | some y => chk G N lo sc y | none => isNoneC lo) && (match h with | some y => chk G N hi sc y | none => isNoneC hi)
    | _ => false
  | .tup es, sc, e => match e with
    | .Tuple xs _ _ => chkA G N es sc xs
    | _ => false
  | .lst es, sc, e => match e with
    | .List xs _ => chkA G N es sc xs
    | _ => false
  | .dnew _, _, e => match e with
    | .Dict [] [] _ => true
    | _ => false
  | .rev a, sc, e => match e with
    | .Subscript x (.Slice none none (some (.UnaryOp .USub (.Constant (.int 1) _ _) _)) _) _ => chk G N a sc x
    | _ => false
  | .ddis es, sc, e => match e with
    | .Dict ks vs _ => !ks.isEmpty && decide (ks.length ≤ 15) && decide (ks.length = vs.length) && chkP G N es sc ks vs
    | _ => false
  | .ddisT es, sc, e => match e with
    | .Dict ks vs _ => !ks.isEmpty && decide (ks.length ≤ 15) && decide (ks.length = vs.length) && chkP G N es sc ks vs
    | _ => false
  | .inC neg a x ds, sc, e => match e with
    | .Compare y [p] [.Name z q] _ => decide (p = if neg then .NotIn else .In) && !behindInMarks p (.Name z q) && decide (z = x) && glB sc x && plainName x && (G.cons.any fun p => decide (p.1 = x) && same p.2 (.tuple ds)) && chk G N a sc y
    | _ => false
  | .frz a, sc, e => plainE e && chk G N a sc e
  | .bt b es, sc, e => match e with
    | .Call (.Name x _) (y :: ys) [] _ => decide (x = btN b) && glB sc x && G.free.contains x && chkA G N es sc (y :: ys)
    | _ => false
  | .isi a t, sc, e => match e with
    | .Call (.Name x _) [y, .Name z _] [] _ => decide (x = "isinstance") && glB sc x && G.free.contains x && decide (z = tyS t) && glB sc z && G.free.contains z && chk G N a sc y
    | _ => false
  | .mt m a es, sc, e => match e with
    | .Call (.Attribute o f ap) (y :: ys) [] cp => decide (f = mtN m) && notCall0 o && (ap.endLine == cp.line) && decide (ys.length < 20) && chk G N a sc o && chkA G N es sc (y :: ys)
    | _ => false
  | .call j es, sc, e => match e with
    | .Call (.Name x _) ys [] _ => decide (G.fns[j]? = some (x, es.len)) && glB sc x && plainName x && chkA G N es sc ys
    | _ => false
  | .and a b, sc, e => match e with
    | .BoolOp .And (x :: y :: ys) p => chk G N a sc x && (match ys with | [] => chk G N b sc y | _ => chk G N b sc (.BoolOp .And (y :: ys) p))
    | _ => false
  | .or a b, sc, e => match e with
    | .BoolOp .Or (x :: y :: ys) p => chk G N a sc x && (match ys with | [] => chk G N b sc y | _ => chk G N b sc (.BoolOp .Or (y :: ys) p))
    | _ => false
  | .not a, sc, e => match e with
    | .UnaryOp .Not x _ => chk G N a sc x
    | _ => false
  | .ite c a b, sc, e => match e with
    | .IfExp x y z _ => chk G N c sc x && chk G N a sc y && chk G N b sc z
    | _ => false
  | .lc tg it cond elt, sc, e => match e with
    | .ListComp x [⟨t, i, ifs, 0⟩] scope _ => blkC N sc scope (ownOf tg t) && chkTg N scope tg t && chkI G N it sc i t &&
        (match ifs with | [] => isTrueC cond | [f] => chk G N cond (relS scope sc) f | _ => false) && chk G N elt (relS scope sc) x
    | _ => false
  | .lck _ a, sc, e => plainE e && chk G N a sc e
def chkA (G : GT) (N : List Str) : CEs → Scope → List Expr → Bool
  | .nil, _, es => match es with
    | [] => true
    | _ => false
  | .cons a as, sc, es => match es with
    | e :: es => chk G N a sc e && chkA G N as sc es
    | _ => false
/-- the pairs of a display -/
def chkP (G : GT) (N : List Str) : CEs → Scope → List (Option Expr) → List Expr → Bool
  | .nil, _, ks, vs => match ks, vs with
    | [], [] => true
    | _, _ => false
  | .cons a as, sc, ks, vs => match as with
    | .nil => false
    | .cons b bs => match ks, vs with
      | some k :: ks, v :: vs => chk G N a sc k && chk G N b sc v && chkP G N bs sc ks vs
      | _, _ => false
def chkI (G : GT) (N : List Str) : CI → Scope → Expr → Expr → Bool
  | .val a, sc, e, _ => chk G N a sc e
  | .rng a, sc, e, _ => match e with
    | .Call (.Name x _) [y] [] _ => decide (x = "range") && glB sc x && G.free.contains x && chk G N a sc y
    | _ => false
  | .rng2 a b, sc, e, _ => match e with
    | .Call (.Name x _) [y, z] [] _ => decide (x = "range") && glB sc x && G.free.contains x && chk G N a sc y && chk G N b sc z
    | _ => false
  | .enum _, _, _, _ => false
  | .zip _ _, _, _, _ => false
  | .keys a, sc, e, _ => chk G N a sc e
end

/-! ### what a def's frame is known to hold -/
/-- the promise: the evaluator's answer -/
def spM (K : PySem.W.Frag) (n : Nat) (f : Fs) : Sp := fun vs H Q _ => vs.length = n ∧ rvN K f vs H Q
/-- a module's own table of functions -/
abbrev TabsOk (K : PySem.W.Frag) (w : World) (mg : Str → Option Value) (tabs : List (Str × List (Str × Str))) : Prop :=
  ∀ x names, tabs.lookup x = some names → ∃ d, mg x = some (.ref d) ∧ ∀ z fx, names.lookup z = some fx → ∃ f, mg fx = some (.ref f) ∧ KDct K w d z (.ref f)
structure XF (G : GT) (Φ : Nat → Fs) (N : List Str) (k : Nat) (X : Cx) : Prop where
  calm : X.calm = true
  nm : X.N = N
  nd : X.N.Nodup
  room : Room k X.A
  nox : X.xe = fun _ _ => False
  free : ∀ x, x ∈ G.free → X.mg x = none
  cons : ∀ x d, (x, d) ∈ G.cons → ∃ u v, X.mg x = some u ∧ RelV v u ∧ ∀ H, RpC X.K H v d
  fns : ∀ j x n, G.fns[j]? = some (x, n) → ∃ f fd ps, FnOk X.prog X.w X.K X.mg X.base CX0 k f fd ps (spM X.K n (Φ j)) ∧ X.mg x = some (.ref f) ∧ PySem.W.keepIn X.K (.ref f) = true ∧ Binds X.K fd ps []
  tabs : TabsOk X.K X.w X.mg G.tabs
theorem XF.units {G : GT} {Φ : Nat → Fs} {N : List Str} {k : Nat} {X : Cx} (F : XF G Φ N k X) : X.A.units + 200 < cLine := by have := F.room.un; omega
/-- readings -/
def rd (K : PySem.W.Frag) (m : Lo → Sto → RS) : TE := fun σ H Q => ∃ θ ρ M v M', SR K H θ M ∧ ER K H θ M.length ρ σ ∧ m ρ M = some (v, M') ∧ Kon K θ M H v M' Q
def rdT (K : PySem.W.Frag) (m : Lo → Sto → RS) : TT := fun σ H Q => ∃ θ ρ M v M' b, SR K H θ M ∧ ER K H θ M.length ρ σ ∧ m ρ M = some (v, M') ∧ tru v M' = some b ∧ ∀ θ' H', Go K θ M H θ' M' H' → Q b H'
def rdA (K : PySem.W.Frag) (m : Lo → Sto → Option (List VL × Sto)) : TA := fun σ H Q => ∃ θ ρ M vs M', SR K H θ M ∧ ER K H θ M.length ρ σ ∧ m ρ M = some (vs, M') ∧ ∀ θ' H' zs, Go K θ M H θ' M' H' → VRs K H' θ' M'.length zs vs → Q zs H'
theorem PE.mono {X : Cx} {e : Expr} {t t' : TE} (h : PE X e t) (m : ∀ σ H Q, t' σ H Q → t σ H Q) : PE X e t' := ⟨fun pins s σ H Q I q => h.run pins s σ H Q I (m σ H Q q)⟩
theorem PT.mono {X : Cx} {e : Expr} {t t' : TT} (h : PT X e t) (m : ∀ σ H Q, t' σ H Q → t σ H Q) : PT X e t' := ⟨fun pins s σ H Q I q => h.run pins s σ H Q I (m σ H Q q)⟩
theorem PW.mono {X : Cx} {e : Expr} {t t' : TT} (h : PW X e t) (m : ∀ σ H Q, t' σ H Q → t σ H Q) : PW X e t' := ⟨fun w pins s σ H Q I q => h.run w pins s σ H Q I (m σ H Q q)⟩
theorem PA.mono {X : Cx} {e : List Expr} {t t' : TA} (h : PA X e t) (m : ∀ σ H Q, t' σ H Q → t σ H Q) : PA X e t' := ⟨fun p pins s σ H Q I q => h.run p pins s σ H Q I (m σ H Q q)⟩
theorem visB_ok {sc : Scope} {x : Str} (h : visB sc x = true) : Vis sc x := by
  unfold visB at h
  split at h
  · exact .inl (by assumption)
  · exact .inr (.inl (by assumption))
  · exact .inr (.inr (by assumption))
  · cases h
theorem locB_ok {sc : Scope} {x : Str} (h : locB sc x = true) : Loc sc x := by
  unfold locB at h
  split at h
  · exact .inl (by assumption)
  · exact .inr (by assumption)
  · cases h
theorem glB_ok {X : Cx} {x : Str} (h : glB X.env.scope x = true) : Gl X x := by
  unfold glB at h
  split at h
  · assumption
  · cases h
theorem plain_ok {x : Str} (h : plainName x = true) : (x == ("__debug__" : Str)) = false ∧ (x == ("__classdict__" : Str)) = false ∧ x ≠ "__name__" := by
  unfold plainName at h
  simp only [Bool.and_eq_true, Bool.not_eq_true'] at h
  exact ⟨h.1.1, h.1.2, fun z => by subst z; simp at h⟩
/-- no star -/
theorem chk_star {G : GT} {N : List Str} {sc : Scope} {x : Expr} {p : Pos} : ∀ c : CE, chk G N c sc (.Starred x p) = false
  | .c _ => by simp [chk]
  | .g _ _ => by simp [chk]
  | .v _ => by simp [chk]
  | .o1 o _ => by cases o; simp [chk]
  | .o2 _ _ _ => by simp [chk]
  | .ch _ _ _ _ _ => by simp [chk]
  | .sl _ _ _ => by simp [chk]
  | .tup _ => by simp [chk]
  | .lst _ => by simp [chk]
  | .dnew _ => by simp [chk]
  | .rev _ => by simp [chk]
  | .ddis _ => by simp [chk]
  | .ddisT _ => by simp [chk]
  | .inC _ _ _ _ => by simp [chk]
  | .frz a => by simp [chk, plainE]
  | .bt _ _ => by simp [chk]
  | .isi _ _ => by simp [chk]
  | .mt _ _ _ => by simp [chk]
  | .call _ _ => by simp [chk]
  | .and _ _ => by simp [chk]
  | .or _ _ => by simp [chk]
  | .not _ => by simp [chk]
  | .ite _ _ _ => by simp [chk]
  | .lc _ _ _ _ => by simp [chk]
  | .lck _ a => by simp [chk, plainE]
theorem chk_set {G : GT} {N : List Str} {sc : Scope} {x : List Expr} {n : Nat} {p : Pos} : ∀ c : CE, chk G N c sc (.Set x n p) = false
  | .c _ => by simp [chk]
  | .g _ _ => by simp [chk]
  | .v _ => by simp [chk]
  | .o1 o _ => by cases o; simp [chk]
  | .o2 _ _ _ => by simp [chk]
  | .ch _ _ _ _ _ => by simp [chk]
  | .sl _ _ _ => by simp [chk]
  | .tup _ => by simp [chk]
  | .lst _ => by simp [chk]
  | .dnew _ => by simp [chk]
  | .rev _ => by simp [chk]
  | .ddis _ => by simp [chk]
  | .ddisT _ => by simp [chk]
  | .inC _ _ _ _ => by simp [chk]
  | .frz a => by simp [chk, plainE]
  | .bt _ _ => by simp [chk]
  | .isi _ _ => by simp [chk]
  | .mt _ _ _ => by simp [chk]
  | .call _ _ => by simp [chk]
  | .and _ _ => by simp [chk]
  | .or _ _ => by simp [chk]
  | .not _ => by simp [chk]
  | .ite _ _ _ => by simp [chk]
  | .lc _ _ _ _ => by simp [chk]
  | .lck _ a => by simp [chk, plainE]
theorem star_cons {G : GT} {N : List Str} {c : CE} {sc : Scope} {e : Expr} {es : List Expr} {env : PySem.Env} (h : chk G N c sc e = true) : starEach (e :: es) env = (false, eval e env) :: starEach es env := by
  cases e
  case Starred => rw [chk_star] at h; cases h
  all_goals rfl
theorem star_none {G : GT} {N : List Str} {sc : Scope} {env : PySem.Env} {pos : Pos} : ∀ {cs : CEs} {es : List Expr}, chkA G N cs sc es = true → (backTo pos (starEach es env)).any (·.1) = false ∧ (backTo pos (starEach es env)).all (fun x => !x.1) = true
  | .nil, [], _ => ⟨rfl, rfl⟩
  | .nil, _ :: _, h => by simp [chkA] at h
  | .cons _ _, [], h => by simp [chkA] at h
  | .cons c cs, e :: es, h => by
    have h' : (chk G N c sc e && chkA G N cs sc es) = true := by rw [chkA] at h; exact h
    rw [Bool.and_eq_true] at h'
    obtain ⟨a, b⟩ := star_none (pos := pos) (env := env) h'.2
    rw [star_cons h'.1]
    refine ⟨?_, ?_⟩
    · show (false || (backTo pos (starEach es env)).any (·.1)) = false
      rw [a]; rfl
    · show (true && (backTo pos (starEach es env)).all (fun x => !x.1)) = true
      rw [b]; rfl
end Pv
namespace Pv
open PySem PySem.Spec PyProof.Rows L2

mutual
theorem same_eq : ∀ (a b : PyData), same a b = true → a = b
  | .none, b, h => by cases b <;> simp [same] at h ⊢
  | .bool x, b, h => by cases b <;> simp [same] at h ⊢; exact h
  | .int x, b, h => by cases b <;> simp [same] at h ⊢; exact h
  | .str x, b, h => by cases b <;> simp [same] at h ⊢; exact h
  | .list xs, b, h => by
    cases b <;> simp [same] at h ⊢
    exact sameA_eq _ _ h
  | .tuple xs, b, h => by
    cases b <;> simp [same] at h ⊢
    exact sameA_eq _ _ h
  | .dict xs, b, h => by cases b <;> simp [same] at h
theorem sameA_eq : ∀ (a b : List PyData), sameA a b = true → a = b
  | [], b, h => by cases b <;> simp [sameA] at h ⊢
  | x :: xs, b, h => by
    cases b with
    | nil => simp [sameA] at h
    | cons y ys =>
      simp only [sameA, Bool.and_eq_true] at h
      rw [same_eq x y h.1, sameA_eq xs ys h.2]
end
/-! ### walks -/
theorem paired_get' {α β : Type} {R : α → β → Prop} {xs : List α} {ys : List β} (r : Paired R xs ys) : ∀ {i : Nat} {x : α}, xs[i]? = some x → ∃ y, ys[i]? = some y ∧ R x y := by
  induction r with
  | nil => intro i y e; simp at e
  | cons h _ ih =>
    intro i y e
    cases i with
    | zero => simp at e; subst e; exact ⟨_, rfl, h⟩
    | succ i => simp at e; exact ih e
/-- J walks what pl says, as long as pl stands -/
structure ItOk (K : PySem.W.Frag) (θ₀ : Nat → Addr) (n₀ : Nat) (H₀ : Hp) (J : It) (pl : PL) : Prop where
  ok : ∀ θ M H, SR K H θ M → n₀ ≤ M.length → (∀ i, i < n₀ → θ i = θ₀ i) → Kf H₀ H → pl.ok M = true →
    (∀ i, i < pl.its.length → J.go i H) ∧ J.stop pl.its.length H ∧ ∀ i x H', i < pl.its.length → J.yld i H x H' → (∀ a o, H a = some o → H' a = some o) ∧ ∃ d, pl.its[i]? = some d ∧ Rp K H' x d
theorem ItOk.go {K : PySem.W.Frag} {θ θ' : Nat → Addr} {M M' : Sto} {H H' : Hp} {J : It} {pl : PL} (h : ItOk K θ M.length H J pl) (s : SR K H θ M) (g : Go K θ M H θ' M' H') : ItOk K θ' M'.length H' J pl :=
  ⟨fun θ2 M2 H2 s2 hn ht kp ok => h.ok θ2 M2 H2 s2 (Nat.le_trans g.len hn) (fun i hi => (ht i (Nat.lt_of_lt_of_le hi g.len)).trans (g.th i hi)) ((g.kf s).trans kp) ok⟩
theorem itok_walk {K : PySem.W.Frag} {θ : Nat → Addr} {n : Nat} {H₀ : Hp} {J : It} {ds : List PyData} {G : Hp → Prop} {Y : Nat → Hp → V → Hp → Prop} (w : Walk J ds.length G Y) (hg : ∀ H, Kf H₀ H → G H)
    (hy : ∀ i H x H', i < ds.length → Kf H₀ H → Y i H x H' → (∀ a o, H a = some o → H' a = some o) ∧ ∃ d, ds[i]? = some d ∧ Rp K H' x d) : ItOk K θ n H₀ J (.fx ds) :=
  ⟨fun θ M H s hn ht kp ok => ⟨fun i hi => w.goes i H hi (hg H kp), w.stops H (hg H kp), fun i x H' hi hyl => hy i H x H' hi kp (w.yields i H x H' hi (hg H kp) hyl)⟩⟩
theorem itok_tup {K : PySem.W.Frag} {θ : Nat → Addr} {n : Nat} {H₀ : Hp} {a : Addr} {xs : List V} {ds : List PyData} (q : SqT K H₀ a xs) (r : RpA K H₀ xs ds) : ItOk K θ n H₀ (Itt K a) (.fx ds) :=
  itok_walk (by have := walk_tup (K := K) (a := a) (xs := xs); rw [r.length] at this; exact this) (fun H kp => kp.kp.sqT q) fun i H x H' hi kp hy => by
    obtain ⟨rfl, hx⟩ := hy
    obtain ⟨d, h1, h2⟩ := r.get' hx
    exact ⟨fun _ _ e => e, d, h1, Rp.kp kp.kp _ _ h2⟩
theorem itok_frz {K : PySem.W.Frag} {θ : Nat → Addr} {n : Nat} {H₀ : Hp} {a : Addr} {xs : List V} {ds : List PyData} (q : FzL K H₀ a xs) (r : RpA K H₀ xs ds) : ItOk K θ n H₀ (Itl K a) (.fx ds) :=
  itok_walk (G := fun H => SqL K H a xs) (by have := walk_list (K := K) (a := a) (xs := xs); rw [r.length] at this; exact this) (fun H kp => (kp.kp.fz q).sq) fun i H x H' hi kp hy => by
    obtain ⟨rfl, hx⟩ := hy
    obtain ⟨d, h1, h2⟩ := r.get' hx
    exact ⟨fun _ _ e => e, d, h1, Rp.kp kp.kp _ _ h2⟩
theorem itok_lv {K : PySem.W.Frag} {θ : Nat → Addr} {M : Sto} {H₀ : Hp} {l : Nat} {ds : List PyData} (hl : l < M.length) : ItOk K θ M.length H₀ (Itl K (θ l)) (.lv l ds) :=
  ⟨fun θ2 M2 H s hn ht kp ok => by
    have ok' : (match M2[l]? with | some (.lst es) => sameA ds es | _ => false) = true := ok
    split at ok'
    · rename_i es eo
      have e := sameA_eq _ _ ok'
      subst e
      obtain ⟨xs, q, r⟩ := s.ob l _ eo
      rw [ht l hl] at q
      have hq : SqL K H (θ l) xs := .inl (.inl q)
      refine ⟨fun i hi => ?_, ⟨xs, hq, Nat.le_of_eq r.length⟩, fun i x H' hi hy => ?_⟩
      · have hi' : i < ds.length := hi
        have hx : i < xs.length := by rw [r.length]; exact hi'
        exact ⟨xs, xs[i], hq, by simp [hx]⟩
      · obtain ⟨rfl, hx⟩ := hy
        obtain ⟨d, h1, h2⟩ := r.get' (hx xs hq)
        exact ⟨fun _ _ e => e, d, h1, h2⟩
    · cases ok'⟩
theorem itok_rng {K : PySem.W.Frag} {θ : Nat → Addr} {n : Nat} {H₀ : Hp} {i j : Int} : ItOk K θ n H₀ (Itr i (j - i).toNat) (.fx (rngD i j)) :=
  itok_walk (G := fun _ => True) (by have := walk_range (lo := i) (n := (j - i).toNat); rw [show (rngD i j).length = (j - i).toNat from by simp [rngD]]; exact this) (fun _ _ => trivial) fun k H x H' hk kp hy => by
    obtain ⟨rfl, rfl⟩ := hy
    have hk' : k < (j - i).toNat := by simpa [rngD] using hk
    exact ⟨fun _ _ e => e, .int (i + k), by simp [rngD, hk'], .int _⟩
theorem itok_str {K : PySem.W.Frag} {θ : Nat → Addr} {n : Nat} {H₀ : Hp} {z : Str} : ItOk K θ n H₀ (Its z) (.fx (z.cps.toList.map fun c => .str ⟨#[c]⟩)) :=
  itok_walk (G := fun _ => True) (by have := walk_str (z := z); rw [show (z.cps.toList.map fun c => PyData.str ⟨#[c]⟩).length = z.cps.size from by simp]; exact this) (fun _ _ => trivial) fun k H x H' hk kp hy => by
    obtain ⟨rfl, c, hc, rfl⟩ := hy
    exact ⟨fun _ _ e => e, .str ⟨#[c]⟩, by simp [hc], .str _⟩
theorem itok_keys {K : PySem.W.Frag} {θ : Nat → Addr} {n m : Nat} {H₀ : Hp} {a : Addr} {o : Obj} {ls : List (Key × V)} {kvs : List (PyData × VL)} (q : H₀ a = some (.frz o (.dK ls))) (r : DP K H₀ θ m kD ls kvs) : ItOk K θ n H₀ (Itk a o ls) (.fx (kvs.map Prod.fst)) :=
  ⟨fun θ2 M2 H s hn ht kf ok => by
    have e : H a = some (.frz o (.dK ls)) := kf a _ q True.intro
    have hl : (kvs.map Prod.fst).length = ls.length := by rw [List.length_map, Paired.length r]
    refine ⟨fun i hi => ⟨e, ?_⟩, ⟨e, Nat.le_of_eq hl.symm⟩, fun i x H' hi hy => ?_⟩
    · have hi' : i < (kvs.map Prod.fst).length := hi
      omega
    · obtain ⟨rfl, k, v, hk, rfl⟩ := hy
      obtain ⟨y, h1, h2⟩ := paired_get' r hk
      refine ⟨fun _ _ e => e, kD k, ?_, rp_kV k⟩
      show (kvs.map Prod.fst)[i]? = some (kD k)
      rw [List.getElem?_map, h1]
      exact congrArg some h2.1.symm⟩
theorem itok_keyt {K : PySem.W.Frag} {θ : Nat → Addr} {n m : Nat} {H₀ : Hp} {a : Addr} {o : Obj} {ls : List (List Key × V)} {kvs : List (PyData × VL)} (q : H₀ a = some (.frz o (.dT ls))) (r : DP K H₀ θ m (fun k : List Key => PyData.tuple (k.map kD)) ls kvs) : ItOk K θ n H₀ (Itkt a o ls) (.fx (kvs.map Prod.fst)) :=
  ⟨fun θ2 M2 H s hn ht kf ok => by
    have e : H a = some (.frz o (.dT ls)) := kf a _ q True.intro
    have hl : (kvs.map Prod.fst).length = ls.length := by rw [List.length_map, Paired.length r]
    refine ⟨fun i hi => ⟨e, ?_⟩, ⟨e, Nat.le_of_eq hl.symm⟩, fun i x H' hi hy => ?_⟩
    · have hi' : i < (kvs.map Prod.fst).length := hi
      omega
    · obtain ⟨rfl, k, v, p, hk, rfl, hp⟩ := hy
      obtain ⟨y, h1, h2⟩ := paired_get' r hk
      refine ⟨fun _ _ e => e, .tuple (k.map kD), ?_, .tup hp (rpA_kV k)⟩
      show (kvs.map Prod.fst)[i]? = some (.tuple (k.map kD))
      rw [List.getElem?_map, h1]
      exact congrArg some h2.1.symm⟩
def rdI (K : PySem.W.Frag) (m : Lo → Sto → Option (PL × Sto)) : TI := fun σ H R => ∃ θ ρ M pl M', SR K H θ M ∧ ER K H θ M.length ρ σ ∧ m ρ M = some (pl, M') ∧ ∀ θ' H' J, Go K θ M H θ' M' H' → ItOk K θ' M'.length H' J pl → R J H'

/-! ### targets -/
def gsOf : List Nat → TGs
  | [] => gNil
  | i :: is => gCons (gName i) (gsOf is)
def gOf (K : PySem.W.Frag) : Tg → TG
  | .nm i => gName i
  | .tp is => gTup K is.length (gsOf is)
section
variable {X : Cx} {N : List Str}
theorem pgs_of (hN : X.N.Nodup) (hn : X.N = N) {sc : Scope} (hf : ∀ x, locB sc x = true → Loc X.env.scope x ∧ (X.fn x = true ∨ X.env.scope.names.lookup x = some .local)) :
    ∀ {is : List Nat} {ts : List Expr}, chkTg.go N sc is ts = true → PGs X ts (gsOf is) ∧ (assignEach ts X.env).length = is.length ∧ (assignEach ts X.env).findIdx? (·.1) = none
  | [], [], _ => ⟨pgs_nil, rfl, rfl⟩
  | [], _ :: _, h => by simp [chkTg.go] at h
  | _ :: _, [], h => by simp [chkTg.go] at h
  | i :: is, t :: ts, h => by
    cases t <;> simp only [chkTg.go, Bool.false_eq_true] at h
    rename_i x p
    simp only [Bool.and_eq_true, decide_eq_true_eq] at h
    obtain ⟨h1, h2⟩ := hf x h.1.2
    obtain ⟨a, b, c⟩ := pgs_of hN hn hf h.2
    refine ⟨pgs_cons (pg_name hN (by rw [hn]; exact h.1.1) h1 h2) a, ?_, ?_⟩
    · show (assignEach ts X.env).length + 1 = is.length + 1
      rw [b]
    · have e : assignEach (.Name x p :: ts) X.env = (false, assign (.Name x p) X.env) :: assignEach ts X.env := rfl
      rw [e, List.findIdx?_cons, c]; rfl
theorem pg_of (hc : X.calm = true) (hN : X.N.Nodup) (hn : X.N = N) {sc : Scope} (hf : ∀ x, locB sc x = true → Loc X.env.scope x ∧ (X.fn x = true ∨ X.env.scope.names.lookup x = some .local)) {tg : Tg} {t : Expr} (h : chkTg N sc tg t = true) : PG X t (gOf X.K tg) := by
  cases tg with
  | nm i =>
    cases t <;> simp only [chkTg, Bool.false_eq_true] at h
    rename_i x p
    simp only [Bool.and_eq_true, decide_eq_true_eq] at h
    obtain ⟨h1, h2⟩ := hf x h.2
    exact pg_name hN (by rw [hn]; exact h.1) h1 h2
  | tp is =>
    cases t <;> simp only [chkTg, Bool.false_eq_true] at h
    obtain ⟨a, b, c⟩ := pgs_of hN hn hf h
    exact pg_tup hc a b c
theorem wipe_set {vs : List Nat} : ∀ {σ : L2.St} {i : Nat} {a : Option V}, i ∈ vs → wipe (σ.set i a) vs = wipe σ vs := by
  induction vs with
  | nil => intro σ i a h; cases h
  | cons v vs ih =>
    intro σ i a h
    show (wipe (σ.set i a) vs).set v none = (wipe σ vs).set v none
    by_cases hv : i ∈ vs
    · rw [ih hv]
    · have e : i = v := by
        rcases List.mem_cons.mp h with h | h
        · exact h
        · exact absurd h hv
      subst e
      have : ∀ (vs : List Nat) (σ : L2.St), i ∉ vs → wipe (σ.set i a) vs = (wipe σ vs).set i a := by
        intro vs
        induction vs with
        | nil => intro σ _; rfl
        | cons w ws ih2 =>
          intro σ hw
          show (wipe (σ.set i a) ws).set w none = ((wipe σ ws).set w none).set i a
          rw [ih2 σ (fun z => hw (List.mem_cons_of_mem _ z)), List.set_comm _ _ (fun z => hw (by rw [z]; exact List.mem_cons_self))]
      rw [this vs σ hv, List.set_set]
theorem wipe_wipe {vs : List Nat} : ∀ {ws : List Nat} {σ : L2.St}, (∀ i ∈ ws, i ∈ vs) → wipe (wipe σ ws) vs = wipe σ vs
  | [], σ, _ => rfl
  | w :: ws, σ, h => by
    show wipe ((wipe σ ws).set w none) vs = wipe σ vs
    rw [wipe_set (h w List.mem_cons_self), wipe_wipe fun i hi => h i (List.mem_cons_of_mem _ hi)]
theorem ER.wipe {K : PySem.W.Frag} {H : Hp} {θ : Nat → Addr} {n : Nat} {ρ : Lo} {σ : L2.St} (h : ER K H θ n ρ σ) : ∀ vs : List Nat, ER K H θ n (wipeL ρ vs) (L2.wipe σ vs)
  | [] => h
  | v :: vs => (ER.wipe h vs).unset
theorem gs_ok {K : PySem.W.Frag} {H : Hp} {θ : Nat → Addr} {n : Nat} : ∀ {is : List Nat} {xs : List V} {ds : List PyData} {ρ : Lo} {σ : L2.St} {Q : L2.St → Hp → Prop}, RpA K H xs ds → ds.length = is.length → ER K H θ n ρ σ →
    (∀ σ1, ER K H θ n (setAll is ds ρ) σ1 → (∀ vs, (∀ i ∈ is, i ∈ vs) → L2.wipe σ1 vs = L2.wipe σ vs) → Q σ1 H) → gsOf is xs σ H Q
  | [], xs, ds, ρ, σ, Q, r, hl, he, k => by
    cases ds with
    | nil => cases r; exact ⟨rfl, k σ he fun _ _ => rfl⟩
    | cons => cases hl
  | i :: is, xs, ds, ρ, σ, Q, r, hl, he, k => by
    cases ds with
    | nil => cases hl
    | cons d ds =>
      cases r with
      | cons r rs =>
        refine ⟨_, _, rfl, ?_⟩
        refine gs_ok rs (by simpa using hl) (he.set (v := .d d) r) fun σ1 h1 h2 => k σ1 h1 fun vs hv => ?_
        rw [h2 vs fun j hj => hv j (List.mem_cons_of_mem _ hj), wipe_set (hv i List.mem_cons_self)]
theorem g_ok {K : PySem.W.Frag} {H : Hp} {θ : Nat → Addr} {n : Nat} {tg : Tg} {x : V} {d : PyData} {ρ ρ1 : Lo} {σ : L2.St} {Q : L2.St → Hp → Prop} (r : Rp K H x d) (he : ER K H θ n ρ σ) (e : setTg tg d ρ = some ρ1)
    (k : ∀ σ1, ER K H θ n ρ1 σ1 → L2.wipe σ1 tg.slots = L2.wipe σ tg.slots → Q σ1 H) : gOf K tg x σ H Q := by
  cases tg with
  | nm i =>
    simp only [setTg, Option.some.injEq] at e
    subst e
    exact k _ (he.set (v := .d d) r) (wipe_set List.mem_cons_self)
  | tp is =>
    cases d <;> simp only [setTg, reduceCtorEq] at e
    rename_i ds
    split at e
    · rename_i hl
      cases e
      cases r with
      | tup q r =>
        exact ⟨_, _, rfl, .inl (.inl q), by rw [r.length]; exact hl, gs_ok r hl he fun σ1 h1 h2 => k σ1 h1 (h2 _ fun _ h => h)⟩
    · cases e
theorem own_slots : ∀ {tg : Tg} {t : Expr} {sc : Scope}, chkTg N sc tg t = true → (ownOf tg t).map (·.2) = tg.slots := by
  intro tg t sc h
  cases tg with
  | nm i => cases t <;> simp only [chkTg, Bool.false_eq_true] at h; rfl
  | tp is =>
    cases t <;> simp only [chkTg, Bool.false_eq_true] at h
    rename_i ts k p
    show (ownOf.go is ts).map (·.2) = is
    clear k p
    induction is generalizing ts with
    | nil => cases ts <;> rfl
    | cons i is ih =>
      cases ts with
      | nil => simp [chkTg.go] at h
      | cons t ts =>
        cases t <;> simp only [chkTg.go, Bool.false_eq_true] at h
        simp only [Bool.and_eq_true] at h
        show i :: (ownOf.go is ts).map (·.2) = i :: is
        rw [ih _ h.2]
theorem relS_lookup {scope sc : Scope} {x : Str} : locB scope x = true → Loc (relS scope sc) x ∧ (scope.names.lookup x = some .local → (relS scope sc).names.lookup x = some .local) := by
  intro h
  have key : ∀ (l : List (Str × NameKind)) (k : NameKind), k ≠ .free → l.lookup x = some k → (l.map fun (n, k) => if (k == .free && sc.kind == .function && sc.names.lookup n == some .cell) then (n, NameKind.cell) else (n, k)).lookup x = some k := by
    intro l k hk
    induction l with
    | nil => intro e; cases e
    | cons p l ih =>
      intro e
      obtain ⟨n, k'⟩ := p
      rw [List.lookup_cons] at e
      rw [List.map_cons]
      by_cases hn : (x == n) = true
      · rw [hn] at e
        cases e
        have : (k == NameKind.free) = false := by cases k <;> first | rfl | exact absurd rfl hk
        simp only [this, Bool.false_and]
        rw [if_neg (by decide), List.lookup_cons, hn]
      · have hn' : (x == n) = false := by simpa using hn
        rw [hn'] at e
        have e2 := ih e
        by_cases hc : (k' == NameKind.free && sc.kind == ScopeKind.function && List.lookup n sc.names == some NameKind.cell) = true
        · simp only [hc, if_true]; rw [List.lookup_cons, hn']; exact e2
        · simp only [hc, if_false, Bool.false_eq_true]; rw [List.lookup_cons, hn']; exact e2
  unfold locB at h
  refine ⟨?_, fun e => key _ _ (by decide) e⟩
  split at h
  · exact .inl (key _ _ (by decide) (by assumption))
  · exact .inr (key _ _ (by decide) (by assumption))
  · cases h
end
end Pv
namespace Pv
open PySem PySem.Spec PyProof.Rows L2

section
variable {X : Cx} {pins : List (Addr × Obj)} {σ : L2.St} {H : Hp} {s : Shared}
/-! ### a list that is changed no more -/
theorem Inv.freeze {a : Addr} {xs : List V} (I : Inv X pins σ H s) (h : H a = some (.lst xs)) : ∃ o, Inv X pins σ (upd H a (.frz o (.lst xs))) s := by
  obtain ⟨z, its, n, r, e⟩ := I.hok a _ h
  have hne : ∀ b, H b = none → b ≠ a := fun b q z => by rw [z, h] at q; cases q
  have ht : ∀ b u, H b = some u → (∀ xs, u ≠ .lst xs) → b ≠ a := fun b u q d z => by rw [z, h] at q; cases q; exact d _ rfl
  refine ⟨{ cls := .type "list", data := .seq its.toArray n }, I.ok, I.os, I.bare, ⟨I.base.keep, I.base.slot, fun b o e n hx => ?_, I.base.there, fun b ys q => ?_, fun b o u q => ?_, fun b ps q => ?_⟩, I.loc, I.cell, ?_, fun x c q => ?_, fun p hp => ?_, fun b u q => ?_, I.len⟩
  · have q := I.base.free b o e n hx
    rw [upd_ne (hne b q)]; exact q
  · have q := I.base.tups b ys q
    rw [upd_ne (ht b _ q fun _ z => nomatch z)]; exact q
  · have q := I.base.frzs b o u q
    rw [upd_ne (ht b _ q fun _ z => nomatch z)]; exact q
  · obtain ⟨m, q⟩ := I.base.tbls b ps q
    exact ⟨m, by rw [upd_ne (ht b _ q fun _ z => nomatch z)]; exact q⟩
  · rw [upd_ne (hne _ I.free)]; exact I.free
  · rw [upd_ne (hne _ (I.freeC x c q))]; exact I.freeC x c q
  · obtain ⟨q1, q2, q3⟩ := I.pin p hp
    exact ⟨q1, by rw [upd_ne (hne _ q2)]; exact q2, q3⟩
  · by_cases hb : b = a
    · subst hb
      rw [upd_same] at q; cases q
      exact ⟨e, z, its, n, r, e⟩
    · rw [upd_ne hb] at q
      refine (I.hok b u q).stay (fun _ _ _ q => q) (fun c q => ?_) fun c ys q => ?_
      · rw [upd_ne (ht c _ q fun _ z => nomatch z)]; exact q
      · rw [upd_ne (ht c _ q fun _ z => nomatch z)]; exact q
theorem Go.frz {K : PySem.W.Frag} {θ θ' : Nat → Addr} {M M' : Sto} {H H' : Hp} {o : Obj} {xs : List V} (s : SR K H θ M) (g : Go K θ M H θ' M' H') (hl : M'.length = M.length + 1) (hlo : (M'.take M.length).all (·.lo M.length) = true)
    : Go K θ M H θ' (M'.take M.length) (upd H' (θ' M.length) (.frz o (.lst xs))) := by
  have g1 := g.cut hlo
  have hn : H (θ' M.length) = none := g.nw _ (Nat.le_refl _) (by omega)
  have hz : (M'.take M.length).length = M.length := by rw [List.length_take]; omega
  have hne : ∀ i, i < M.length → θ' i ≠ θ' M.length := fun i hi q => by
    have := g.sr.inj i M.length (by omega) (by omega) q
    omega
  have kp : Kp H' (upd H' (θ' M.length) (.frz o (.lst xs))) := fun b u e st => by
    rw [upd_ne]; exact e
    intro q
    obtain ⟨w, hw, hst, _⟩ := g.sr.some (i := M.length) (by omega)
    rw [q, hw] at e; cases e; exact hst st
  refine ⟨⟨g1.sr.inj, fun i u e => ?_⟩, g1.len, g1.th, fun b u e hb => ?_, fun i h1 h2 => absurd h2 (by omega), fun i u e h => by
    obtain ⟨h1, h2⟩ := g1.lk i u e h
    have hi : i < M.length := (List.getElem?_eq_some_iff.mp e).1
    refine ⟨h1, ?_⟩
    rw [upd_ne]; exact h2
    intro z
    exact hne i hi ((g.th i hi).trans z)⟩
  · have hi : i < M.length := by have := (List.getElem?_eq_some_iff.mp e).1; omega
    exact (g1.sr.ob i u e).kp kp (upd_ne (hne i hi)) (Nat.le_refl _) fun _ _ => rfl
  · have q := g1.fr b u e hb
    rw [upd_ne]; exact q
    intro z; rw [z, hn] at e; cases e
theorem frz_of {e : Expr} {m : Lo → Sto → RS} (h : PE X e (rd X.K m)) : PE X e (rd X.K fun ρ M => (m ρ M).bind fun r => frzS M.length r) := by
  refine ⟨fun pins s σ H Q I q => ?_⟩
  obtain ⟨θ, ρ, M, v, M2, hs, hρ, e1, k⟩ := q
  simp only [Option.bind_eq_some_iff] at e1
  obtain ⟨⟨w, M1⟩, e1, e2⟩ := e1
  cases w with
  | d d =>
    cases e2
    exact h.run pins s σ H Q I ⟨θ, ρ, M, _, _, hs, hρ, e1, k⟩
  | r l =>
    simp only [frzS] at e2
    split at e2
    · rename_i hl
      split at e2
      · rename_i ds eo
        split at e2
        · rename_i hlo
          cases e2
          obtain ⟨rfl, hl⟩ := hl
          refine thn (h.run pins s σ H (fun x H1 => ∃ θ1, Go X.K θ M H θ1 M1 H1 ∧ VR X.K H1 θ1 M1.length x (.r M.length)) I ⟨θ, ρ, M, _, M1, hs, hρ, e1, fun θ1 H1 x g r => ⟨θ1, g, r⟩⟩) fun u s1 ⟨x, H1, I1, ru, θ1, g, r⟩ => ?_
          obtain ⟨hl2, rfl⟩ := r
          obtain ⟨xs, qh, rr⟩ := g.sr.ob _ _ eo
          obtain ⟨o, I2⟩ := Inv.freeze I1 qh
          refine ⟨_, _, I2, ru, k θ1 _ _ (Go.frz hs g hl hlo) (Rp.lst (.inl ⟨_, upd_same⟩) (RpA.kp (fun b u e st => ?_) _ _ rr))⟩
          rw [upd_ne]; exact e
          intro z; rw [z, qh] at e; cases e; exact st
        · cases e2
      · cases e2
    · cases e2
end
/-! ### operators by name -/
section
variable {X : Cx}
theorem opB_ok {o : O2} {p : Operator} (h : opB o = some p) : OpR X (binaryOp p) (rv2 X.K (bin2 o)) := by
  cases o <;> simp only [opB, Option.some.injEq, reduceCtorEq] at h <;> subst h
  · exact v_add
  · exact v_sub
  · exact v_mul
  · exact v_fdiv
  · exact v_mod
  · exact v_pow
theorem opC_ok (hu : X.A.units + 200 < cLine) {o : O2} {p : CmpOp} (h : opC o = some p) : OpR X (compareOp p) (rv2 X.K (bin2 o)) := by
  cases o <;> simp only [opC, Option.some.injEq, reduceCtorEq] at h <;> subst h
  · exact v_eq (by omega)
  · exact v_ne (by omega)
  · exact v_cmp op_lt op_ltS
  · exact v_cmp op_le op_leS
  · exact v_cmp op_gt op_gtS
  · exact v_cmp op_ge op_geS
  · exact v_is
  · exact v_isn
  · exact v_in (by omega)
  · exact v_nin (by omega)
theorem eqS_bool {n : Bool} {a b : VL} {M M' : Sto} {v : VL} (e : eqS n a b M = some (v, M')) : ∃ k, v = .d (.bool k) := by
  unfold eqS at e
  split at e
  · split at e
    · cases e; exact ⟨_, rfl⟩
    · cases e
  · cases e
theorem cmpI_bool {f : Int → Int → Bool} {g : Str → Str → Bool} {a b : VL} {M M' : Sto} {v : VL} (e : cmpI f g a b M = some (v, M')) : ∃ k, v = .d (.bool k) := by
  unfold cmpI at e
  split at e
  · cases e; exact ⟨_, rfl⟩
  · cases e; exact ⟨_, rfl⟩
  · cases e
theorem isS_bool {n : Bool} {a b : VL} {M M' : Sto} {v : VL} (e : isS n a b M = some (v, M')) : ∃ k, v = .d (.bool k) := by
  unfold isS at e
  split at e <;> cases e <;> exact ⟨_, rfl⟩
theorem inS_bool {n : Bool} {a b : VL} {M M' : Sto} {v : VL} (e : inS n a b M = some (v, M')) : ∃ k, v = .d (.bool k) := by
  unfold inS at e
  split at e
  · split at e
    · split at e
      · cases e; exact ⟨_, rfl⟩
      · cases e
    · cases e
  · split at e
    · unfold inL at e
      split at e
      · split at e
        · cases e; exact ⟨_, rfl⟩
        · cases e
      · split at e
        · split at e
          · cases e; exact ⟨_, rfl⟩
          · cases e
        · cases e
    · cases e
theorem cmp_bool {o : O2} {p : CmpOp} (h : opC o = some p) {a b : VL} {M M' : Sto} {v : VL} (e : bin2 o a b M = some (v, M')) : ∃ k, v = .d (.bool k) := by
  cases o <;> simp only [opC, reduceCtorEq] at h <;> simp only [bin2] at e
  · exact eqS_bool e
  · exact eqS_bool e
  · exact cmpI_bool e
  · exact cmpI_bool e
  · exact cmpI_bool e
  · exact cmpI_bool e
  · exact isS_bool e
  · exact isS_bool e
  · exact inS_bool e
  · exact inS_bool e
/-! ### tests -/
theorem truth_of {e : Expr} {m : Lo → Sto → RS} (h : PE X e (rd X.K m)) (he : ∀ whole, isTrue e X.env whole = (do let v ← whole; standAt e.pos; holding [v] (truthy v))) : PT X e (rdT X.K m) := by
  refine PT.mono (pt_truth h he) fun σ H Q q => ?_
  obtain ⟨θ, ρ, M, v, M', b, hs, hρ, e1, e2, k⟩ := q
  exact ⟨θ, ρ, M, v, M', hs, hρ, e1, fun θ' H' z g r => ⟨b, tru_at g.sr r e2, k θ' H' g⟩⟩
/-- the three ways an expression is read -/
structure SE (X : Cx) (e : Expr) (m : Lo → Sto → RS) : Prop where
  pe : PE X e (rd X.K m)
  pt : PT X e (rdT X.K m)
  pw : ∀ op es p, e = .BoolOp op es p → PW X e (rdT X.K m)
def notBool : Expr → Bool
  | .BoolOp _ _ _ => false
  | _ => true
theorem SE.plain {e : Expr} {m : Lo → Sto → RS} (h : PE X e (rd X.K m)) (he : ∀ whole, isTrue e X.env whole = (do let v ← whole; standAt e.pos; holding [v] (truthy v))) (hb : notBool e = true) : SE X e m :=
  ⟨h, truth_of h he, fun op es p z => by subst z; cases hb⟩
/-- two values -/
theorem rd2 {K : PySem.W.Frag} {ma mb : Lo → Sto → RS} {f : VL → VL → Sto → RS} {r : R2} (hr : ∀ x y H Q, rv2 K f x y H Q → r x y H Q) {σ : L2.St} {H : Hp} {Q : VK}
    (q : rd K (fun ρ M => (ma ρ M).bind fun (x, M1) => (mb ρ M1).bind fun (y, M2) => f x y M2) σ H Q) : tOp r (rd K ma) (rd K mb) σ H Q := by
  obtain ⟨θ, ρ, M, v, M', hs, hρ, e, k⟩ := q
  simp only [Option.bind_eq_some_iff] at e
  obtain ⟨⟨x, M1⟩, e1, ⟨y, M2⟩, e2, e3⟩ := e
  exact ⟨θ, ρ, M, x, M1, hs, hρ, e1, fun θ1 H1 z1 g1 r1 => ⟨θ1, ρ, M1, y, M2, g1.sr, hρ.go hs g1, e2, fun θ2 H2 z2 g2 r2 => hr _ _ _ _ ⟨θ2, M2, x, y, v, M', g2.sr, r1.go g1.sr g2, r2, e3, fun θ3 H3 z g3 r3 => k θ3 H3 z ((g1.trans hs g2).trans hs g3) r3⟩⟩⟩
/-- two values, a test -/
theorem rd2T {K : PySem.W.Frag} {ma mb : Lo → Sto → RS} {f : VL → VL → Sto → RS} (hf : ∀ a b M v M', f a b M = some (v, M') → ∃ k, v = .d (.bool k)) {σ : L2.St} {H : Hp} {Q : Bool → Hp → Prop}
    (q : rdT K (fun ρ M => (ma ρ M).bind fun (x, M1) => (mb ρ M1).bind fun (y, M2) => f x y M2) σ H Q) : tTest (tOp (rv2 K f) (rd K ma) (rd K mb)) σ H Q := by
  obtain ⟨θ, ρ, M, v, M', b, hs, hρ, e, et, k⟩ := q
  refine rd2 (fun _ _ _ _ z => z) ⟨θ, ρ, M, v, M', hs, hρ, e, fun θ' H' z g r => ?_⟩
  simp only [Option.bind_eq_some_iff] at e
  obtain ⟨⟨x, M1⟩, e1, ⟨y, M2⟩, e2, e3⟩ := e
  obtain ⟨c, rfl⟩ := hf _ _ _ _ _ e3
  cases et
  cases r
  exact ⟨_, rfl, k θ' H' g⟩
end
end Pv
namespace Pv
open PySem PySem.Spec PyProof.Rows L2

section
variable {X : Cx}
theorem dataA_rp {K : PySem.W.Frag} {H : Hp} {θ : Nat → Addr} {n : Nat} : ∀ {vs : List VL} {xs : List V} {ds : List PyData}, VRs K H θ n xs vs → dataA vs = some ds → RpA K H xs ds
  | [], _, _, r, e => by cases r; cases e; exact .nil
  | .d x :: vs, _, _, r, e => by
    simp only [dataA] at e
    cases q : dataA vs with
    | none => rw [q] at e; cases e
    | some es =>
      rw [q] at e; cases e
      cases r with
      | cons h t => exact .cons h (dataA_rp t q)
  | .r _ :: vs, _, _, r, e => by cases e
theorem Kon.nst {K : PySem.W.Frag} {θ : Nat → Addr} {M : Sto} {H : Hp} {vs : List VL} {Q : VK} {xs : List V} (k : Kon K θ M H (.r M.length) (M ++ [.nst vs]) Q) (s : SR K H θ M) (h : VRs K H θ M.length xs vs) :
    ∀ p, H p = none → Q (.ref p) (upd H p (.lst xs)) := fun p hp => by
  have kp : Kp H (upd H p (.lst xs)) := (Go.lay (o := .lst xs) s hp).kp s
  have g := Go.push (o := .lst xs) (mo := .nst vs) s hp ⟨xs, upd_same, Paired.mapP h fun a b z => VR.kp z kp (Nat.le_succ _) fun i hi => if_neg (Nat.ne_of_lt hi)⟩
  refine k _ _ _ g ⟨by simp, ?_⟩
  show V.ref p = V.ref (if M.length = M.length then p else θ M.length)
  rw [if_pos rfl]
def rdO (K : PySem.W.Frag) (m : Lo → Sto → RS) : TO := fun σ H Q => ∃ θ ρ M v M' o, SR K H θ M ∧ ER K H θ M.length ρ σ ∧ m ρ M = some (v, M') ∧ partOf v = some o ∧ ∀ θ' H', Go K θ M H θ' M' H' → Q o H'
theorem po_of {e : Expr} {m : Lo → Sto → RS} (h : PE X e (rd X.K m)) : PO X (some e) (rdO X.K m) := by
  refine ⟨fun pins s σ H Q I q => ?_⟩
  obtain ⟨θ, ρ, M, v, M', o, hs, hρ, e1, e2, k⟩ := q
  rw [evalPart_some]
  refine thn (h.run pins s σ H (fun x H1 => (∃ d, v = .d d ∧ Rp X.K H1 x d) ∧ Q o H1) I ⟨θ, ρ, M, v, M', hs, hρ, e1, fun θ1 H1 z g r => ⟨?_, k θ1 H1 g⟩⟩) fun u s1 ⟨x, H1, I1, ru, ⟨d, hd, r⟩, q1⟩ => ?_
  · cases v with
    | d d => exact ⟨d, rfl, r⟩
    | r l => cases e2
  · subst hd
    refine ⟨o, H1, I1, ?_, q1⟩
    cases d <;> simp only [partOf, Option.some.injEq, reduceCtorEq] at e2 <;> subst e2
    · cases r; cases ru; exact .none
    · cases r; obtain ⟨t, rfl⟩ := ru; exact .int _ t
theorem po_no {m : Lo → Sto → RS} (h : ∀ ρ M, m ρ M = some (.d .none, M)) : PO X none (rdO X.K m) := by
  refine ⟨fun pins s σ H Q I q => ?_⟩
  obtain ⟨θ, ρ, M, v, M', o, hs, hρ, e1, e2, k⟩ := q
  rw [h] at e1; cases e1; cases e2
  exact po_none.run pins s σ H Q I (k θ H (Go.refl hs))
theorem pt_ifE {c a b : Expr} {pos : Pos} {tc ta tb : TT} (hc : PT X c tc) (ha : PT X a ta) (hb : PT X b tb) : PT X (.IfExp c a b pos) (fun σ H Q => tc σ H fun k H1 => if k = true then ta σ H1 Q else tb σ H1 Q) := by
  refine ⟨fun pins s σ H Q I h => ?_⟩
  rw [arm_isTrue_IfExp]
  refine wpAny_bind (thn (hc.run pins s σ H _ I h) fun k s1 ⟨H1, I1, q1⟩ => ?_)
  cases k with
  | true => exact ha.run pins s1 σ H1 Q I1 q1
  | false => exact hb.run pins s1 σ H1 Q I1 q1
theorem pe_no {e : Expr} {t : TE} (h : ∀ σ H Q, ¬ t σ H Q) : PE X e t := ⟨fun _ _ σ H Q _ q => (h σ H Q q).elim⟩
theorem plainE_ok {e : Expr} (h : plainE e = true) : (∀ whole, isTrue e X.env whole = (do let v ← whole; standAt e.pos; holding [v] (truthy v))) ∧ notBool e = true := by
  cases e <;> simp only [plainE, Bool.false_eq_true] at h <;> exact ⟨fun _ => rfl, rfl⟩
theorem btN_ok (b : Bt) : (btN b == ("__debug__" : Str)) = false ∧ btN b ≠ "__name__" := by cases b <;> decide +kernel
theorem btN_b : ∀ (b : Bt), bootBuiltins (btN b) = some (btV b) := by intro b; cases b <;> decide +kernel
theorem tyS_ok (t : Ty) : (tyS t == ("__debug__" : Str)) = false ∧ tyS t ≠ "__name__" ∧ bootBuiltins (tyS t) = some (.type (tyN t)) := by cases t <;> decide +kernel
/-- a call of a built-in -/
theorem pe_bt {b : Bt} {x : Str} {p pos : Pos} {e : Expr} {es : List Expr} {t : TA} {r : List V → Hp → VK → Prop} (hc : CallR X (btV b) r) (hx : x = btN b) (hg : Gl X x) (hm : X.mg x = none) (ha : PA X (e :: es) t)
    (he : starEach (e :: es) X.env = (false, eval e X.env) :: starEach es X.env) (hpl : (backTo pos (starEach es X.env)).any (·.1) = false) : PE X (.Call (.Name x p) (e :: es) [] pos) (tCB r t) := by
  have h1 := btN_ok b
  have h2 := btN_b b
  rw [← hx] at h1 h2
  cases b
  all_goals first
    | exact pe_callB hc hg hm h2 ha h1.2 h1.1 he hpl
    | exact pe_callTy hc hg hm h2 ha h1.2 h1.1 he hpl
theorem rdN {K : PySem.W.Frag} {ma : Lo → Sto → Option (List VL × Sto)} {f : List VL → Sto → RS} {σ : L2.St} {H : Hp} {Q : VK}
    (q : rd K (fun ρ M => (ma ρ M).bind fun (x, M1) => f x M1) σ H Q) : tCB (rvN K f) (rdA K ma) σ H Q := by
  obtain ⟨θ, ρ, M, v, M', hs, hρ, e, k⟩ := q
  simp only [Option.bind_eq_some_iff] at e
  obtain ⟨⟨x, M1⟩, e1, e2⟩ := e
  exact ⟨θ, ρ, M, x, M1, hs, hρ, e1, fun θ1 H1 zs g1 r1 => ⟨θ1, M1, x, v, M', g1.sr, r1, e2, fun θ3 H3 z g3 r3 => k θ3 H3 z (g1.trans hs g3) r3⟩⟩
theorem VRs.go {K : PySem.W.Frag} {H H' : Hp} {θ θ' : Nat → Addr} {M M' : Sto} {xs : List V} {vs : List VL} (h : VRs K H θ M.length xs vs) (s : SR K H θ M) (g : Go K θ M H θ' M' H') : VRs K H' θ' M'.length xs vs := Paired.mapP h fun a b z => VR.go z s g
theorem itL {K : PySem.W.Frag} {θ : Nat → Addr} {M : Sto} {H : Hp} {x : V} {v : VL} {pl : PL} (s : SR K H θ M) (r : VR K H θ M.length x v) (e : plOf v M = some pl) :
    (∃ a xs, x = .ref a ∧ SqL K H a xs ∧ ItOk K θ M.length H (Itl K a) pl) ∨ (∃ a xs, x = .ref a ∧ SqT K H a xs ∧ ItOk K θ M.length H (Itt K a) pl) ∨ (∃ z, x = .str z ∧ ItOk K θ M.length H (Its z) pl) := by
  cases v with
  | r l =>
    obtain ⟨hl, rfl⟩ := r
    simp only [plOf] at e
    split at e
    · rename_i ds eo
      cases e
      obtain ⟨xs, q, _⟩ := s.ob l _ eo
      exact .inl ⟨_, xs, rfl, .inl (.inl q), itok_lv hl⟩
    · cases e
  | d d =>
    cases d <;> simp only [plOf, Option.some.injEq, reduceCtorEq] at e <;> subst e
    · cases r; exact .inr (.inr ⟨_, rfl, itok_str⟩)
    · cases r with
      | lst q r => exact .inl ⟨_, _, rfl, q.sq, itok_frz q r⟩
    · cases r with
      | tup q r => exact .inr (.inl ⟨_, _, rfl, .inl (.inl q), itok_tup (.inl (.inl q)) r⟩)
/-- a locked dict's keys -/
theorem pi_keysL {t e : Expr} {m : Lo → Sto → RS} (h : PE X e (rd X.K m)) : PI X t e (rdI X.K fun ρ M => (m ρ M).bind fun (x, M1) => (keysOf x M1).bind fun pl => some (pl, M1)) := by
  refine ⟨fun pins s σ H R I q => ?_⟩
  obtain ⟨θ, ρ, M, pl, M', hs, hρ, e1, k⟩ := q
  simp only [Option.bind_eq_some_iff] at e1
  obtain ⟨⟨v, M1⟩, e1, pl', e2, e3⟩ := e1
  cases e3
  refine (pi_keys h).run pins s σ H R I ⟨θ, ρ, M, _, _, hs, hρ, e1, fun θ1 H1 z g r => ?_⟩
  cases v with
  | d d => cases e2
  | r l =>
    obtain ⟨hl, rfl⟩ := r
    simp only [keysOf] at e2
    split at e2
    · rename_i tt kvs eo
      cases e2
      have ho := g.sr.ob l _ eo
      cases tt
      · obtain ⟨o, ls, q, r⟩ := ho
        exact ⟨_, o, rfl, .inl ⟨ls, q, k θ1 H1 _ g (itok_keys q r)⟩⟩
      · obtain ⟨o, ls, q, r⟩ := ho
        exact ⟨_, o, rfl, .inr ⟨ls, q, k θ1 H1 _ g (itok_keyt q r)⟩⟩
    · cases e2
/-- a value walked -/
theorem pi_val {t e : Expr} {m : Lo → Sto → RS} (h : PE X e (rd X.K m)) : PI X t e (rdI X.K fun ρ M => (m ρ M).bind fun (x, M1) => (plOf x M1).bind fun pl => some (pl, M1)) := by
  refine ⟨fun pins s σ H R I q => ?_⟩
  obtain ⟨θ, ρ, M, pl, M', hs, hρ, e1, k⟩ := q
  simp only [Option.bind_eq_some_iff] at e1
  obtain ⟨⟨v, M1⟩, e1, pl', e2, e3⟩ := e1
  cases e3
  cases v with
  | r l =>
    refine (pi_list h).run pins s σ H R I ⟨θ, ρ, M, _, _, hs, hρ, e1, fun θ1 H1 z g r => ?_⟩
    rcases itL g.sr r e2 with ⟨a, xs, rfl, hq, ok⟩ | ⟨a, xs, rfl, hq, ok⟩ | ⟨z, rfl, ok⟩
    · exact ⟨a, rfl, ⟨xs, hq⟩, k θ1 H1 _ g ok⟩
    · obtain ⟨hl, e⟩ := r
      cases e
      simp only [plOf] at e2
      split at e2
      · rename_i ds eo
        cases e2
        obtain ⟨xs, q, _⟩ := g.sr.ob l _ eo
        exact ⟨_, rfl, ⟨xs, .inl (.inl q)⟩, k θ1 H1 _ g (itok_lv hl)⟩
      · cases e2
    · obtain ⟨hl, e⟩ := r; cases e
  | d d =>
    cases d <;> simp only [plOf, Option.some.injEq, reduceCtorEq] at e2 <;> subst e2
    · refine (pi_str h).run pins s σ H R I ⟨θ, ρ, M, _, _, hs, hρ, e1, fun θ1 H1 z g r => ?_⟩
      cases r
      exact ⟨_, rfl, k θ1 H1 _ g itok_str⟩
    · refine (pi_list h).run pins s σ H R I ⟨θ, ρ, M, _, _, hs, hρ, e1, fun θ1 H1 z g r => ?_⟩
      cases r with
      | lst q r => exact ⟨_, rfl, ⟨_, q.sq⟩, k θ1 H1 _ g (itok_frz q r)⟩
    · refine (pi_tup h).run pins s σ H R I ⟨θ, ρ, M, _, _, hs, hρ, e1, fun θ1 H1 z g r => ?_⟩
      cases r with
      | tup q r => exact ⟨_, rfl, ⟨_, .inl (.inl q)⟩, k θ1 H1 _ g (itok_tup (.inl (.inl q)) r)⟩
end
end Pv
namespace Pv
open PySem PySem.Spec PyProof.Rows L2

section
variable {K : PySem.W.Frag} {H H' H2 : Hp} {θ θ' : Nat → Addr} {M M' : Sto} {D : Addr}
theorem Go.ext (s : SR K H θ M) (e : ∀ a o, H a = some o → H' a = some o) : Go K θ M H θ M H' := by
  refine ⟨⟨s.inj, fun i u q => ?_⟩, Nat.le_refl _, fun _ _ => rfl, fun b u q _ => e b u q, fun i h1 h2 => absurd h2 (Nat.not_lt.mpr h1), fun i u q _ => ⟨q, by
    obtain ⟨w, hw, _⟩ := s.some (List.getElem?_eq_some_iff.mp q).1
    rw [e _ _ hw, hw]⟩⟩
  have hi : i < M.length := (List.getElem?_eq_some_iff.mp q).1
  obtain ⟨w, hw, _⟩ := s.some hi
  exact (s.ob i u q).kp (fun b u q _ => e b u q) ((e _ _ hw).trans hw.symm) (Nat.le_refl _) fun _ _ => rfl
/-- D is tracked and no place of the store -/
structure Pr (H : Hp) (θ : Nat → Addr) (n : Nat) (D : Addr) (xs : List V) : Prop where
  at' : H D = some (.lst xs)
  ne : ∀ j, j < n → θ j ≠ D
theorem Pr.go {xs : List V} (p : Pr H θ M.length D xs) (g : Go K θ M H θ' M' H') : Pr H' θ' M'.length D xs := by
  refine ⟨g.fr _ _ p.at' p.ne, fun j hj q => ?_⟩
  by_cases h : j < M.length
  · exact p.ne j h ((g.th j h).symm.trans q)
  · have := g.nw j (Nat.not_lt.mp h) hj
    rw [q, p.at'] at this; cases this
theorem Pr.kp {xs ys : List V} {n : Nat} (p : Pr H θ n D xs) : Kp H (upd H D (.lst ys)) := fun b u e st => by
  rw [upd_ne]; exact e
  intro q; rw [q, p.at'] at e; cases e; exact st
theorem Pr.put {xs ys : List V} {n : Nat} (p : Pr H θ n D xs) : Pr (upd H D (.lst ys)) θ n D ys := ⟨upd_same, p.ne⟩
theorem Go.priv {xs ys : List V} (g : Go K θ M H θ' M' H') (hn : H D = none) (p : Pr H' θ' M'.length D xs) : Go K θ M H θ' M' (upd H' D (.lst ys)) := by
  refine ⟨⟨g.sr.inj, fun i u q => ?_⟩, g.len, g.th, fun b u q hb => ?_, g.nw, fun i u q h => by
    obtain ⟨h1, h2⟩ := g.lk i u q h
    have hi : i < M.length := (List.getElem?_eq_some_iff.mp q).1
    refine ⟨h1, ?_⟩
    rw [upd_ne]; exact h2
    intro z
    exact p.ne i (Nat.lt_of_lt_of_le hi g.len) ((g.th i hi).trans z)⟩
  · have hi : i < M'.length := (List.getElem?_eq_some_iff.mp q).1
    exact (g.sr.ob i u q).kp p.kp (upd_ne (p.ne i hi)) (Nat.le_refl _) fun _ _ => rfl
  · rw [upd_ne (ne_of_none q hn)]; exact g.fr b u q hb
theorem Go.adopt {xs : List V} {mo : MO} (g : Go K θ M H θ' M' H') (hn : H D = none) (p : Pr H' θ' M'.length D xs) (hm : MR K H' (fun i => if i = M'.length then D else θ' i) (M'.length + 1) D mo) :
    Go K θ M H (fun i => if i = M'.length then D else θ' i) (M' ++ [mo]) H' := by
  refine ⟨⟨fun i j hi hj e => ?_, fun i u e => ?_⟩, by have := g.len; simp; omega, fun i hi => ?_, g.fr, fun i h1 h2 => ?_, fun i u q h => by
    obtain ⟨h1, h2⟩ := g.lk i u q h
    have hi : i < M'.length := (List.getElem?_eq_some_iff.mp h1).1
    exact ⟨by rw [List.getElem?_append_left hi]; exact h1, h2⟩⟩
  · simp only [List.length_append, List.length_singleton] at hi hj
    by_cases h1 : i = M'.length
    · by_cases h2 : j = M'.length
      · omega
      · rw [if_pos h1, if_neg h2] at e; exact absurd e.symm (p.ne j (by omega))
    · by_cases h2 : j = M'.length
      · rw [if_neg h1, if_pos h2] at e; exact absurd e (p.ne i (by omega))
      · rw [if_neg h1, if_neg h2] at e; exact g.sr.inj i j (by omega) (by omega) e
  · by_cases h1 : i < M'.length
    · rw [List.getElem?_append_left h1] at e
      show MR K H' _ (M' ++ [mo]).length (if i = M'.length then D else θ' i) u
      rw [if_neg (Nat.ne_of_lt h1)]
      exact (g.sr.ob i u e).kp Kp.refl rfl (by simp) fun j hj => if_neg (Nat.ne_of_lt hj)
    · have h2 : i = M'.length := by
        have := (List.getElem?_eq_some_iff.mp e).1
        simp at this; omega
      subst h2
      simp at e
      subst e
      show MR K H' _ (M' ++ [mo]).length (if M'.length = M'.length then D else θ' M'.length) mo
      rw [if_pos rfl, List.length_append]; exact hm
  · show (if i = M'.length then D else θ' i) = θ i
    rw [if_neg (by have := g.len; omega)]; exact g.th i hi
  · show H (if i = M'.length then D else θ' i) = none
    simp at h2
    by_cases h : i = M'.length
    · rw [if_pos h]; exact hn
    · rw [if_neg h]; exact g.nw i h1 (by omega)
end
/-- a comprehension -/
def lcM (mi : Lo → Sto → Option (PL × Sto)) (tg : Tg) (mc me : Lo → Sto → RS) : Lo → Sto → RS := fun ρ M => (mi ρ M).bind fun (pl, M1) =>
  (lcS pl (fun d M => (setTg tg d (wipeL ρ tg.slots)).bind fun ρ1 => (mc ρ1 M).bind fun (x, M2) => (tru x M2).bind fun k =>
    if k then (me ρ1 M2).bind fun (y, M3) => some (some y, M3) else some (none, M2)) pl.its [] M1).bind fun (vs, M2) => newL vs M2
structure LcI (K : PySem.W.Frag) (θ : Nat → Addr) (M : Sto) (H : Hp) (D : Addr) (pl : PL) (f : PyData → Sto → Option (Option VL × Sto)) (r : List VL × Sto) (i : Nat) (H2 : Hp) : Prop where
  ex : ∃ θ2 M2 xs vs, Go K θ M H θ2 M2 H2 ∧ Pr H2 θ2 M2.length D xs ∧ VRs K H2 θ2 M2.length xs vs ∧ lcS pl f (pl.its.drop i) vs M2 = some r
theorem lc_ok {K : PySem.W.Frag} {mi : Lo → Sto → Option (PL × Sto)} {tg : Tg} {mc me : Lo → Sto → RS} {tt : TT} (htt : ∀ σ H Q, rdT K mc σ H Q → tt σ H Q) {σ : L2.St} {H : Hp} {Q : VK} (q : rd K (lcM mi tg mc me) σ H Q) :
    tLc (rdI K mi) (gOf K tg) tt (rd K me) tg.slots σ H Q := by
  obtain ⟨θ0, ρ, M0, v, Mz, hs0, hρ0, e, k⟩ := q
  unfold lcM at e
  simp only [Option.bind_eq_some_iff] at e
  obtain ⟨⟨pl, M⟩, e1, ⟨vs, Me⟩, e2, e3⟩ := e
  refine ⟨θ0, ρ, M0, pl, M, hs0, hρ0, e1, fun θ H1 J g1 it D hD => ?_⟩
  have hs := g1.sr
  have hρ := hρ0.go hs0 g1
  generalize hf : (fun d M => (setTg tg d (wipeL ρ tg.slots)).bind fun ρ1 => (mc ρ1 M).bind fun (x : VL × Sto) => (tru x.1 x.2).bind fun k =>
    if k = true then (me ρ1 x.2).bind fun (y : VL × Sto) => some (some y.1, y.2) else some (none, x.2)) = f at e2
  refine ⟨fun i m H2 => m = pl.its.length - i ∧ i ≤ pl.its.length ∧ LcI K θ M H1 D pl f (vs, Me) i H2, ⟨pl.its.length, by simp, Nat.zero_le _, ⟨θ, M, [], [], Go.lay hs hD, ⟨upd_same, fun j hj q => ?_⟩, .nil, e2⟩⟩, ?_⟩
  · obtain ⟨w, hw, _⟩ := hs.some hj
    rw [q, hD] at hw; cases hw
  rintro i m H2 ⟨rfl, hi, ⟨θ2, M2, xs, ws, g, p, r, el⟩⟩
  have hok : pl.ok M2 = true := by
    cases hl : pl.its.drop i with
    | nil => rw [hl] at el; simp only [lcS] at el; split at el; assumption; cases el
    | cons d ds => rw [hl] at el; simp only [lcS] at el; split at el; assumption; cases el
  obtain ⟨go, stop, yld⟩ := it.ok θ2 M2 H2 g.sr g.len (fun j hj => g.th j hj) (g.kf hs) hok
  by_cases hlt : i < pl.its.length
  · refine .inr ⟨go i hlt, fun H5 => pl.its.length - (i + 1) = pl.its.length - (i + 1) ∧ i + 1 ≤ pl.its.length ∧ LcI K θ M H1 D pl f (vs, Me) (i + 1) H5, fun H5 h5 => ⟨_, by omega, h5⟩, fun x H3 hy => ?_⟩
    obtain ⟨ext, d, hd, rx⟩ := yld i x H3 hlt hy
    have hdrop : pl.its.drop i = d :: pl.its.drop (i + 1) := by
      obtain ⟨h1, h2⟩ := List.getElem?_eq_some_iff.mp hd
      rw [← h2]; exact List.drop_eq_getElem_cons h1
    rw [hdrop] at el
    simp only [lcS, hok, if_true] at el
    have gx : Go K θ2 M2 H2 θ2 M2 H3 := Go.ext g.sr ext
    have g3 : Go K θ M H1 θ2 M2 H3 := g.trans hs gx
    have p3 := p.go gx
    have hρ3 := (hρ.go hs g3).wipe tg.slots
    cases hst : setTg tg d (wipeL ρ tg.slots) with
    | none => rw [← hf] at el; simp only [hst, Option.bind_none] at el; cases el
    | some ρ1 =>
      refine g_ok rx hρ3 hst fun σ2 hσ2 hw => ⟨by rw [hw, wipe_wipe fun _ h => h], ?_⟩
      cases hc : mc ρ1 M2 with
      | none => rw [← hf] at el; simp only [hst, hc, Option.bind_some, Option.bind_none] at el; cases el
      | some cx =>
        obtain ⟨c, M4⟩ := cx
        cases ht : tru c M4 with
        | none => rw [← hf] at el; simp only [hst, hc, ht, Option.bind_some, Option.bind_none] at el; cases el
        | some b =>
          refine htt _ _ _ ⟨θ2, ρ1, M2, c, M4, b, gx.sr, hσ2, hc, ht, fun θ4 H4 g4 => ?_⟩
          cases b with
          | false =>
            rw [← hf] at el
            simp only [hst, hc, ht, Option.bind_some, Bool.false_eq_true, if_false] at el
            rw [if_neg (by decide)]
            refine ⟨rfl, hlt, ⟨θ4, M4, xs, ws, g3.trans hs g4, p3.go g4, (r.go g.sr gx).go gx.sr g4, by rw [hf] at el; exact el⟩⟩
          | true =>
            rw [if_pos rfl]
            cases he : me ρ1 M4 with
            | none => rw [← hf] at el; simp only [hst, hc, ht, he, Option.bind_some, Option.bind_none, if_true] at el; cases el
            | some yx =>
              obtain ⟨y, M5⟩ := yx
              rw [← hf] at el
              simp only [hst, hc, ht, he, Option.bind_some, if_true] at el
              split at el
              · rename_i hlen
                refine ⟨θ4, ρ1, M4, y, M5, g4.sr, hσ2.go gx.sr g4, he, fun θ5 H5 z g5 rz => ?_⟩
                have gg := (g3.trans hs g4).trans hs g5
                have p5 := (p3.go g4).go g5
                refine ⟨xs, p5.at', by rw [Paired.length r]; exact hlen, rfl, hlt, ⟨θ5, M5, xs ++ [z], ws ++ [y], gg.priv hD p5, p5.put, ?_, by rw [hf] at el; exact el⟩⟩
                refine Paired.mapP (paired_append (((r.go g.sr gx).go gx.sr g4).go g4.sr g5) (.cons rz .nil)) fun a b z => ?_
                exact VR.kp z p5.kp (Nat.le_refl _) fun _ _ => rfl
              · cases el
  · have hi' : i = pl.its.length := by omega
    subst hi'
    refine .inl ⟨stop, ?_⟩
    rw [List.drop_length] at el
    simp only [lcS, hok, if_true] at el
    cases el
    unfold newL at e3
    split at e3
    · rename_i ds hds
      cases e3
      have ga := g.adopt (mo := .lst ds) hD p ⟨xs, p.at', dataA_rp r hds⟩
      refine k _ _ _ (g1.trans hs0 ga) ⟨by simp, ?_⟩
      show V.ref D = V.ref (if Me.length = Me.length then D else θ2 Me.length)
      rw [if_pos rfl]
    · cases e3
      have ga := g.adopt (mo := .nst vs) hD p ⟨xs, p.at', Paired.mapP r fun a b z => VR.kp z Kp.refl (Nat.le_succ _) fun j hj => if_neg (Nat.ne_of_lt hj)⟩
      refine k _ _ _ (g1.trans hs0 ga) ⟨by simp, ?_⟩
      show V.ref D = V.ref (if Me.length = Me.length then D else θ2 Me.length)
      rw [if_pos rfl]
/-! ### a dict is only read for a while -/
theorem lock_in {K : PySem.W.Frag} {θ : Nat → Addr} {M : Sto} {H : Hp} {l : Nat} {t : Bool} {kvs : List (PyData × VL)} (s : SR K H θ M) (eo : M[l]? = some (.dct t kvs)) :
    ∃ u, H (θ l) = some u ∧ Mut (some u) ∧ ∀ od, Go K θ M H θ (M.set l (.dcl t kvs)) (upd H (θ l) (.frz od u)) ∧
      ∀ θ' M2 H2, Go K θ (M.set l (.dcl t kvs)) (upd H (θ l) (.frz od u)) θ' M2 H2 → H2 (θ l) = some (.frz od u) ∧ Kp H2 (upd H2 (θ l) u) ∧ Go K θ M H θ' (M2.set l (.dct t kvs)) (upd H2 (θ l) u) := by
  have hl : l < M.length := (List.getElem?_eq_some_iff.mp eo).1
  have ho := s.ob l _ eo
  obtain ⟨u, hu, hm, hd⟩ : ∃ u, H (θ l) = some u ∧ (match t with
      | false => ∃ ls : List (Key × V), u = .dK ls
      | true => ∃ ls : List (List Key × V), u = .dT ls) ∧ (∀ od H', (∀ a o, H a = some o → Sta o → H' a = some o) → H' (θ l) = some (.frz od u) → MR K H' θ M.length (θ l) (.dcl t kvs)) := by
    cases t
    · obtain ⟨ls, q, r⟩ := ho
      exact ⟨_, q, ⟨ls, rfl⟩, fun od H' kp e => ⟨od, ls, e, Paired.mapP r fun p q z => ⟨z.1, VR.kp z.2 kp (Nat.le_refl _) fun _ _ => rfl⟩⟩⟩
    · obtain ⟨ls, q, r⟩ := ho
      exact ⟨_, q, ⟨ls, rfl⟩, fun od H' kp e => ⟨od, ls, e, Paired.mapP r fun p q z => ⟨z.1, VR.kp z.2 kp (Nat.le_refl _) fun _ _ => rfl⟩⟩⟩
  have nst : ¬ Sta u := by cases t <;> obtain ⟨ls, rfl⟩ := hm <;> exact fun z => z
  have nsf : ∀ od, ¬ Sta (.frz od u) := by intro od; cases t <;> obtain ⟨ls, rfl⟩ := hm <;> exact fun z => z
  refine ⟨u, hu, ?_, fun od => ?_⟩
  · cases t <;> obtain ⟨ls, rfl⟩ := hm <;> exact True.intro
  have kp1 : Kp H (upd H (θ l) (.frz od u)) := fun b w e st => by
    rw [upd_ne]; exact e
    intro q; rw [q, hu] at e; cases e; exact nst st
  have g1 : Go K θ M H θ (M.set l (.dcl t kvs)) (upd H (θ l) (.frz od u)) := Go.put s hl (by rw [eo]; intro o h; cases h; rfl) (hd od _ kp1 upd_same)
  refine ⟨g1, fun θ' M2 H2 g2 => ?_⟩
  have e1 : (M.set l (.dcl t kvs))[l]? = some (.dcl t kvs) := List.getElem?_set_self hl
  obtain ⟨e2, h2⟩ := g2.lk l _ e1 rfl
  rw [upd_same] at h2
  have hlen : M.length ≤ M2.length := by have := g2.len; rw [List.length_set] at this; exact this
  have hl2 : l < M2.length := Nat.lt_of_lt_of_le hl hlen
  have tl : θ' l = θ l := g2.th l (by rw [List.length_set]; exact hl)
  have kp2 : Kp H2 (upd H2 (θ l) u) := fun b w e st => by
    rw [upd_ne]; exact e
    intro q; rw [q, h2] at e; cases e; exact nsf od st
  refine ⟨h2, kp2, ⟨⟨fun i j hi hj e => g2.sr.inj i j (by simpa using hi) (by simpa using hj) e, fun i o e => ?_⟩, by rw [List.length_set]; exact hlen, fun i hi => g2.th i (by rw [List.length_set]; exact hi), fun a o e hn => ?_, fun i h1 h3 => ?_, fun i o e h => ?_⟩⟩
  · rw [List.length_set]
    by_cases hi : l = i
    · subst hi
      rw [List.getElem?_set_self hl2] at e; cases e
      have ho2 := g2.sr.ob l _ e2
      cases t
      · obtain ⟨o, ls, q, r⟩ := ho2
        rw [tl, h2] at q; cases q
        exact ⟨ls, by rw [tl, upd_same], Paired.mapP r fun p q z => ⟨z.1, VR.kp z.2 kp2 (Nat.le_refl _) fun _ _ => rfl⟩⟩
      · obtain ⟨o, ls, q, r⟩ := ho2
        rw [tl, h2] at q; cases q
        exact ⟨ls, by rw [tl, upd_same], Paired.mapP r fun p q z => ⟨z.1, VR.kp z.2 kp2 (Nat.le_refl _) fun _ _ => rfl⟩⟩
    · rw [List.getElem?_set_ne hi] at e
      have hi2 : i < M2.length := (List.getElem?_eq_some_iff.mp e).1
      exact (g2.sr.ob i o e).kp kp2 (upd_ne fun q => hi (g2.sr.inj l i hl2 hi2 (tl.trans q.symm))) (Nat.le_refl _) fun _ _ => rfl
  · have hne : a ≠ θ l := fun q => hn l hl q.symm
    rw [upd_ne hne]
    exact g2.fr a o (by rw [upd_ne hne]; exact e) fun i hi => hn i (by rw [List.length_set] at hi; exact hi)
  · rw [List.length_set] at h3
    have := g2.nw i (by rw [List.length_set]; exact h1) h3
    have hne : θ' i ≠ θ l := fun q => by rw [q, upd_same] at this; cases this
    rw [upd_ne hne] at this; exact this
  · have hi : l ≠ i := fun z => by subst z; rw [eo] at e; cases e; cases h
    have hil : i < M.length := (List.getElem?_eq_some_iff.mp e).1
    obtain ⟨h3, h4⟩ := g2.lk i o (by rw [List.getElem?_set_ne hi]; exact e) h
    have hne : θ i ≠ θ l := fun q => hi (s.inj i l hil hl q).symm
    rw [upd_ne hne] at h4
    exact ⟨by rw [List.getElem?_set_ne hi]; exact h3, by rw [upd_ne hne]; exact h4⟩
theorem pe_lck {X : Cx} {e : Expr} {m ma : Lo → Sto → RS} (h : PE X e (rd X.K m)) : PE X e (rd X.K fun ρ M => (ma ρ M).bind fun (x, _) => lckS x M fun M1 => m ρ M1) := by
  refine PE.mono (pe_lock h) fun σ H Q q => ?_
  obtain ⟨θ, ρ, M, v, M', hs, hρ, e1, k⟩ := q
  simp only [Option.bind_eq_some_iff] at e1
  obtain ⟨⟨x, _⟩, _, e1⟩ := e1
  dsimp only at e1
  cases x with
  | d d => cases e1
  | r l =>
    simp only [lckS] at e1
    split at e1
    · rename_i t kvs eo
      simp only [Option.bind_eq_some_iff] at e1
      obtain ⟨⟨y, M2⟩, e1, e2⟩ := e1
      cases e2
      obtain ⟨u, hu, mu, hk⟩ := lock_in hs eo
      refine ⟨θ l, u, hu, mu, fun od => ?_⟩
      obtain ⟨g1, hk⟩ := hk od
      refine ⟨θ, ρ, _, y, M2, g1.sr, hρ.go hs g1, e1, fun θ2 H2 z g2 r => ?_⟩
      obtain ⟨h2, kp2, g3⟩ := hk θ2 M2 H2 g2
      exact ⟨h2, k θ2 _ z g3 (r.kp kp2 (by rw [List.length_set]; exact Nat.le_refl _) fun _ _ => rfl)⟩
    · cases e1
end Pv
namespace Pv
open PySem PySem.Spec PyProof.Rows L2

theorem XF.blk {G : GT} {Φ : Nat → Fs} {N : List Str} {k : Nat} {X : Cx} (F : XF G Φ N k X) (s : Shared) (H : Hp) (scope : Scope) (cenv : PySem.Env) (fp : List Addr) : XF G Φ N k (X.blk s H scope cenv fp) :=
  ⟨F.calm, F.nm, F.nd, F.room, rfl, F.free, F.cons, F.fns, F.tabs⟩
theorem and3 {a b : Bool} (h : (a && b) = true) : a = true ∧ b = true := Bool.and_eq_true_iff.mp h
theorem rd_const {K : PySem.W.Frag} {m : Lo → Sto → RS} {d : PyData} (hm : ∀ ρ M, m ρ M = some (.d d, M)) {v : V} (hv : ∀ H, Rp K H v d) {σ : L2.St} {H : Hp} {Q : VK} (q : rd K m σ H Q) : tC v σ H Q := by
  obtain ⟨θ, ρ, M, w, M', hs, hρ, e, k⟩ := q
  rw [hm] at e; cases e
  exact k θ H v (Go.refl hs) (hv H)
theorem evs_len {Φ : Nat → Fs} : ∀ (es : CEs) {ρ : Lo} {M M' : Sto} {vs : List VL}, evs Φ es ρ M = some (vs, M') → vs.length = es.len
  | .nil, ρ, M, M', vs, e => by simp only [evs] at e; cases e; rfl
  | .cons c cs, ρ, M, M', vs, e => by
    simp only [evs, Option.bind_eq_some_iff] at e
    obtain ⟨⟨x, M1⟩, e1, ⟨xs, M2⟩, e2, e3⟩ := e
    cases e3
    simp [CEs.len, evs_len cs e2]
theorem sNS {G : GT} {N : List Str} {env : PySem.Env} : ∀ (c : CI) {e t : Expr} {sc : Scope}, chkI G N c sc e t = true → ∀ y, foldedSetIterable e env y = pure y
  | .val a, e, t, sc, h => by
    unfold chkI at h
    intro y
    cases e
    case Set => rw [chk_set] at h; cases h
    all_goals rfl
  | .keys a, e, t, sc, h => by
    unfold chkI at h
    intro y
    cases e
    case Set => rw [chk_set] at h; cases h
    all_goals rfl
  | .rng a, e, t, sc, h => by
    unfold chkI at h
    split at h
    · intro y; rfl
    · cases h
  | .rng2 a b, e, t, sc, h => by
    unfold chkI at h
    split at h
    · intro y; rfl
    · cases h
  | .enum _, e, t, sc, h => by simp [chkI] at h
  | .zip _ _, e, t, sc, h => by simp [chkI] at h
/-- a method's receiver -/
theorem kind_list {K : PySem.W.Frag} {H : Hp} {θ : Nat → Addr} {M : Sto} {x : V} {v : VL} (s : SR K H θ M) (r : VR K H θ M.length x v) (h : kindV v M = "list") : tyV K "list" x H := by
  cases v with
  | d d =>
    cases d <;> simp [kindV] at h
    cases r with
    | lst q r => exact .inl ⟨rfl, _, q.sq⟩
  | r l =>
    obtain ⟨hl, rfl⟩ := r
    simp only [kindV] at h
    split at h
    · rename_i ds eo
      obtain ⟨xs, q, _⟩ := s.ob l _ eo
      exact .inl ⟨rfl, _, .inl (.inl q)⟩
    · rename_i ds eo
      obtain ⟨xs, q, _⟩ := s.ob l _ eo
      exact .inl ⟨rfl, _, .inl (.inl q)⟩
    · simp at h
    · simp at h
    · simp at h
theorem kind_dict {K : PySem.W.Frag} {H : Hp} {θ : Nat → Addr} {M : Sto} {x : V} {v : VL} (s : SR K H θ M) (r : VR K H θ M.length x v) (h : kindV v M = "dict") : tyV K "dict" x H := by
  cases v with
  | d d => cases d <;> simp [kindV] at h
  | r l =>
    obtain ⟨hl, rfl⟩ := r
    simp only [kindV] at h
    split at h
    · simp at h
    · simp at h
    · rename_i t kvs eo
      have ho := s.ob l _ eo
      cases t <;> obtain ⟨ls, q, _⟩ := ho
      · exact .inr (.inr (.inl ⟨rfl, .inl ⟨_, q⟩⟩))
      · exact .inr (.inr (.inl ⟨rfl, .inr ⟨_, q⟩⟩))
    · simp at h
    · simp at h
theorem mtK_append {s : String} (h : mtK .append s = true) : s = "list" := by
  unfold mtK at h
  split at h <;> first | rfl | contradiction
theorem mtK_get {s : String} (h : mtK .get s = true) : s = "dict" := by
  unfold mtK at h
  split at h <;> first | rfl | contradiction
theorem mtK_pop {s : String} (h : mtK .pop s = true) : s = "dict" := by
  unfold mtK at h
  split at h <;> first | rfl | contradiction
/-! ### displays -/
def trsOf (K : PySem.W.Frag) (Φ : Nat → Fs) : CEs → List (TE × TE)
  | .cons a (.cons b bs) => (rd K (ev Φ a), rd K (ev Φ b)) :: trsOf K Φ bs
  | _ => []
abbrev VPr (K : PySem.W.Frag) (H : Hp) (θ : Nat → Addr) (n : Nat) (q : V × V) (p : PyData × VL) : Prop := (∃ kk, q.1 = kV kk ∧ kD kk = p.1) ∧ VR K H θ n q.2 p.2
theorem trs_ok {K : PySem.W.Frag} {Φ : Nat → Fs} {σ : L2.St} : ∀ (es : CEs) {θ : Nat → Addr} {ρ : Lo} {M M' : Sto} {H : Hp} {vs : List VL} {ps : List (PyData × VL)} {Q : List (V × V) → Hp → Prop}, SR K H θ M → ER K H θ M.length ρ σ → evs Φ es ρ M = some (vs, M') → prsV vs = some ps →
    (∀ θ' H' qs, Go K θ M H θ' M' H' → Paired (VPr K H' θ' M'.length) qs ps → Q qs H') → tPairs (trsOf K Φ es) σ H Q
  | .nil, θ, ρ, M, M', H, vs, ps, Q, hs, hρ, e, e2, k => by
    simp only [evs] at e
    cases e
    cases e2
    exact k θ H [] (Go.refl hs) .nil
  | .cons a .nil, θ, ρ, M, M', H, vs, ps, Q, hs, hρ, e, e2, k => by
    simp only [evs, Option.bind_eq_some_iff] at e
    obtain ⟨⟨x, M1⟩, e1, ⟨xs, M2⟩, e3, e4⟩ := e
    cases e3
    cases e4
    cases x <;> simp [prsV] at e2
  | .cons a (.cons b bs), θ, ρ, M, M', H, vs, ps, Q, hs, hρ, e, e2, k => by
    simp only [evs, Option.bind_eq_some_iff] at e
    obtain ⟨⟨x, M1⟩, e1, ⟨xs, M2⟩, ⟨⟨y, M3⟩, e3, ⟨ys, M4⟩, e4, e5⟩, e6⟩ := e
    cases e5
    cases e6
    cases x with
    | r l => simp [prsV] at e2
    | d d =>
      simp only [prsV] at e2
      split at e2
      · rename_i hk
        cases q : prsV ys with
        | none => rw [q] at e2; cases e2
        | some ps' =>
          rw [q] at e2
          cases e2
          obtain ⟨kk, ek⟩ := Option.isSome_iff_exists.mp hk
          have ed := kyD_ok ek
          refine ⟨θ, ρ, M, _, M1, hs, hρ, e1, fun θ1 H1 z1 g1 r1 => ⟨θ1, ρ, M1, y, M3, g1.sr, hρ.go hs g1, e3, fun θ2 H2 z2 g2 r2 => ?_⟩⟩
          refine trs_ok bs g2.sr ((hρ.go hs g1).go g1.sr g2) e4 q fun θ3 H3 qs g3 rq => k θ3 H3 _ ((g1.trans hs g2).trans hs g3) (.cons ⟨⟨kk, ?_, ed⟩, r2.go g2.sr g3⟩ rq)
          subst ed
          exact rp_key r1
      · cases e2
theorem vpr_keys {K : PySem.W.Frag} {H : Hp} {θ : Nat → Addr} {n : Nat} : ∀ {qs : List (V × V)} {ps : List (PyData × VL)}, Paired (VPr K H θ n) qs ps → ∃ kvs : List (Key × V), qs = kvs.map (fun kv => (kV kv.1, kv.2)) ∧ DP K H θ n kD kvs ps
  | _, _, .nil => ⟨[], rfl, .nil⟩
  | (x, y) :: _, p :: _, .cons h t => by
    obtain ⟨kvs, rfl, r⟩ := vpr_keys t
    obtain ⟨⟨kk, e1, e2⟩, hv⟩ := h
    simp only at e1
    subst e1
    exact ⟨(kk, y) :: kvs, rfl, .cons ⟨e2, hv⟩ r⟩
abbrev VPrT (K : PySem.W.Frag) (H : Hp) (θ : Nat → Addr) (n : Nat) (q : V × V) (p : PyData × VL) : Prop := (∃ (b : Addr) (ks : List Key), q.1 = .ref b ∧ H b = some (.tup (ks.map kV)) ∧ .tuple (ks.map kD) = p.1) ∧ VR K H θ n q.2 p.2
theorem trs_okT {K : PySem.W.Frag} {Φ : Nat → Fs} {σ : L2.St} : ∀ (es : CEs) {θ : Nat → Addr} {ρ : Lo} {M M' : Sto} {H : Hp} {vs : List VL} {ps : List (PyData × VL)} {Q : List (V × V) → Hp → Prop}, SR K H θ M → ER K H θ M.length ρ σ → evs Φ es ρ M = some (vs, M') → prsT vs = some ps →
    (∀ θ' H' qs, Go K θ M H θ' M' H' → Paired (VPrT K H' θ' M'.length) qs ps → Q qs H') → tPairs (trsOf K Φ es) σ H Q
  | .nil, θ, ρ, M, M', H, vs, ps, Q, hs, hρ, e, e2, k => by
    simp only [evs] at e
    cases e
    cases e2
    exact k θ H [] (Go.refl hs) .nil
  | .cons a .nil, θ, ρ, M, M', H, vs, ps, Q, hs, hρ, e, e2, k => by
    simp only [evs, Option.bind_eq_some_iff] at e
    obtain ⟨⟨x, M1⟩, e1, ⟨xs, M2⟩, e3, e4⟩ := e
    cases e3
    cases e4
    cases x <;> simp [prsT] at e2
  | .cons a (.cons b bs), θ, ρ, M, M', H, vs, ps, Q, hs, hρ, e, e2, k => by
    simp only [evs, Option.bind_eq_some_iff] at e
    obtain ⟨⟨x, M1⟩, e1, ⟨xs, M2⟩, ⟨⟨y, M3⟩, e3, ⟨ys, M4⟩, e4, e5⟩, e6⟩ := e
    cases e5
    cases e6
    cases x with
    | r l => simp [prsT] at e2
    | d d =>
      simp only [prsT] at e2
      split at e2
      · rename_i hk
        cases q : prsT ys with
        | none => rw [q] at e2; cases e2
        | some ps' =>
          rw [q] at e2
          cases e2
          cases d with
          | tuple es =>
            obtain ⟨ks, ek⟩ := Option.isSome_iff_exists.mp hk
            have ed := kyL_ok ek
            subst ed
            refine ⟨θ, ρ, M, _, M1, hs, hρ, e1, fun θ1 H1 z1 g1 r1 => ⟨θ1, ρ, M1, y, M3, g1.sr, hρ.go hs g1, e3, fun θ2 H2 z2 g2 r2 => ?_⟩⟩
            cases r1 with
            | @tup b xs2 _ qb rb =>
              have := rpA_keys rb
              subst this
              refine trs_okT bs g2.sr ((hρ.go hs g1).go g1.sr g2) e4 q fun θ3 H3 qs g3 rq => k θ3 H3 _ ((g1.trans hs g2).trans hs g3) (.cons ⟨⟨b, ks, rfl, ?_, rfl⟩, r2.go g2.sr g3⟩ rq)
              exact ((g2.trans g1.sr g3).kp g1.sr) b _ qb trivial
          | _ => cases hk
      · cases e2
theorem vpr_keysT {K : PySem.W.Frag} {H : Hp} {θ : Nat → Addr} {n : Nat} : ∀ {qs : List (V × V)} {ps : List (PyData × VL)}, Paired (VPrT K H θ n) qs ps → ∃ kvs : List (List Key × V), Paired (fun (q : V × V) (kv : List Key × V) => q.2 = kv.2 ∧ ∃ b, q.1 = .ref b ∧ H b = some (.tup (kv.1.map kV))) qs kvs ∧ DP K H θ n (fun k : List Key => PyData.tuple (k.map kD)) kvs ps
  | _, _, .nil => ⟨[], .nil, .nil⟩
  | (x, y) :: _, p :: _, .cons h t => by
    obtain ⟨kvs, pr, r⟩ := vpr_keysT t
    obtain ⟨⟨b, ks, e1, e2, e3⟩, hv⟩ := h
    exact ⟨(ks, y) :: kvs, .cons ⟨rfl, b, e1, e2⟩ pr, .cons ⟨e3, hv⟩ r⟩
theorem chkP_some {G : GT} {N : List Str} {sc : Scope} : ∀ (es : CEs) {ks : List (Option Expr)} {vs : List Expr}, chkP G N es sc ks vs = true → ks.all (·.isSome) = true
  | .nil, [], [], _ => rfl
  | .nil, _ :: _, _, h => by simp [chkP] at h
  | .nil, [], _ :: _, h => by simp [chkP] at h
  | .cons _ .nil, ks, vs, h => by cases ks <;> cases vs <;> simp [chkP] at h
  | .cons a (.cons b bs), [], vs, h => by simp [chkP] at h
  | .cons a (.cons b bs), none :: ks, vs, h => by simp [chkP] at h
  | .cons a (.cons b bs), some x :: ks, [], h => by simp [chkP] at h
  | .cons a (.cons b bs), some x :: ks, v :: vs, h => by
    simp only [chkP, Bool.and_eq_true] at h
    rw [List.all_cons, chkP_some bs h.2]; rfl
theorem isTrueC_eq {c : CE} (h : isTrueC c = true) : c = .c (.bool true) := by
  unfold isTrueC at h
  split at h
  · rfl
  · cases h
theorem isNoneC_eq {c : CE} (h : isNoneC c = true) : c = .c .none := by
  unfold isNoneC at h
  split at h
  · rfl
  · cases h
section
variable {G : GT} {Φ : Nat → Fs} {N : List Str} {k : Nat}
mutual
theorem sE : ∀ (c : CE) {X : Cx} (F : XF G Φ N k X) {e : Expr}, chk G N c X.env.scope e = true → SE X e (ev Φ c)
  | .c d, X, F, e, h => by
    unfold chk at h
    split at h
    · rename_i cc j p
      have hp : PE X (.Constant cc j p) (rd X.K (ev Φ (.c d))) := by
        have hm : ∀ ρ M, ev Φ (.c d) ρ M = some (.d d, M) := fun ρ M => by simp only [ev]
        cases d <;> cases cc <;> simp only [cstB, Bool.false_eq_true, beq_iff_eq, decide_eq_true_eq] at h
        · exact PE.mono pe_non fun σ H Q q => rd_const hm (fun _ => .non) q
        · subst h; exact PE.mono pe_bl fun σ H Q q => rd_const hm (fun _ => .bl _) q
        · subst h; exact PE.mono pe_int fun σ H Q q => rd_const hm (fun _ => .int _) q
        · subst h; exact PE.mono pe_str fun σ H Q q => rd_const hm (fun _ => .str _) q
      exact .plain hp (fun _ => rfl) rfl
    · cases h
  | .g x d, X, F, e, h => by
    unfold chk at h
    split at h
    · rename_i y p
      have hh := and3 h
      clear h
      obtain ⟨h, h4⟩ := hh
      have hh := and3 h
      clear h
      obtain ⟨h, h5⟩ := hh
      have hh := and3 h
      clear h
      obtain ⟨h, h3⟩ := hh
      have hh := and3 h
      clear h
      obtain ⟨h1, h2⟩ := hh
      have e1 := of_decide_eq_true h1
      subst e1
      obtain ⟨q, hq, hq2⟩ := List.any_eq_true.mp h4
      obtain ⟨hq2, hq3⟩ := and3 hq2
      have e2 := of_decide_eq_true hq2
      have e3 := same_eq _ _ hq3
      obtain ⟨q1, q2⟩ := q
      simp only at e2 e3
      subst e2 e3
      obtain ⟨u, v, m1, m2, m3⟩ := F.cons _ _ hq
      have m4 : ∀ H, Rp X.K H v q2 := fun H => by
        have := m3 H
        cases q2 with
        | tuple _ => simp [isT] at h5
        | _ => exact this
      exact .plain (PE.mono (pe_glob (glB_ok h2) m1 m2 (plain_ok h3).1) fun σ H Q q => rd_const (fun ρ M => by simp only [ev]) m4 q) (fun _ => rfl) rfl
    · cases h
  | .inC neg a x ds, X, F, e, h => by
    unfold chk at h
    split at h
    · rename_i y p z q pos
      have hh := and3 h
      clear h
      obtain ⟨h, h7⟩ := hh
      have hh := and3 h
      clear h
      obtain ⟨h, h6⟩ := hh
      have hh := and3 h
      clear h
      obtain ⟨h, h5⟩ := hh
      have hh := and3 h
      clear h
      obtain ⟨h, h4⟩ := hh
      have hh := and3 h
      clear h
      obtain ⟨h, h3⟩ := hh
      have hh := and3 h
      clear h
      obtain ⟨h1, h2⟩ := hh
      have e0 := of_decide_eq_true h1
      have e1 := of_decide_eq_true h3
      subst e1
      obtain ⟨q, hq, hq2⟩ := List.any_eq_true.mp h6
      obtain ⟨hq2, hq3⟩ := and3 hq2
      have e2 := of_decide_eq_true hq2
      have e3 := same_eq _ _ hq3
      obtain ⟨q1, q2⟩ := q
      simp only at e2 e3
      subst e2 e3
      obtain ⟨u, v, m1, m2, m3⟩ := F.cons _ _ hq
      have hb : behindInMarks p (.Name q1 q) = false := by simpa using h2
      have go : ∀ {σ : L2.St} {H : Hp} {Q : VK}, rd X.K (fun ρ M => ev Φ (.inC neg a q1 ds) ρ M) σ H Q → tOp (rvC X.K neg ds) (rd X.K (ev Φ a)) (tC v) σ H Q := fun {σ H Q} ⟨θ, ρ, M, w, M', hs, hρ, e, k⟩ => by
        simp only [ev, Option.bind_eq_some_iff] at e
        obtain ⟨⟨x, M1⟩, e1, d, e2, e3⟩ := e
        exact ⟨θ, ρ, M, x, M1, hs, hρ, e1, fun θ1 H1 z g r => ⟨θ1, M1, x, d, w, M', g.sr, r, m3 H1, e2, e3, fun θ2 H2 z2 g2 r2 => k θ2 H2 z2 (g.trans hs g2) r2⟩⟩
      have goT : ∀ {σ : L2.St} {H : Hp} {Q : Bool → Hp → Prop}, rdT X.K (ev Φ (.inC neg a q1 ds)) σ H Q → tTest (tOp (rvC X.K neg ds) (rd X.K (ev Φ a)) (tC v)) σ H Q := fun {σ H Q} ⟨θ, ρ, M, w, M', b, hs, hρ, e, et, k⟩ => by
        refine go ⟨θ, ρ, M, w, M', hs, hρ, e, fun θ' H' z g r => ?_⟩
        simp only [ev, Option.bind_eq_some_iff] at e
        obtain ⟨⟨x, M1⟩, e1, d, e2, e3⟩ := e
        obtain ⟨c, rfl⟩ : ∃ c, w = .d (.bool c) := by
          simp only [inL, seqOf] at e3
          split at e3
          · cases e3; exact ⟨_, rfl⟩
          · cases e3
        cases et
        cases r
        exact ⟨_, rfl, k θ' H' g⟩
      cases neg with
      | true =>
        simp only [if_true] at e0
        subst e0
        exact ⟨PE.mono (pe_cmpR (v_ninC (by have := F.units; omega)) (sE a F h7).pe (pe_glob (glB_ok h4) m1 m2 (plain_ok h5).1) hb) fun σ H Q q => go q, PT.mono (pt_cmpR (v_ninC (by have := F.units; omega)) (sE a F h7).pe (pe_glob (glB_ok h4) m1 m2 (plain_ok h5).1) hb) fun σ H Q q => goT q, fun _ _ _ z => nomatch z⟩
      | false =>
        simp only [Bool.false_eq_true, if_false] at e0
        subst e0
        exact ⟨PE.mono (pe_cmpR (v_inC (by have := F.units; omega)) (sE a F h7).pe (pe_glob (glB_ok h4) m1 m2 (plain_ok h5).1) hb) fun σ H Q q => go q, PT.mono (pt_cmpR (v_inC (by have := F.units; omega)) (sE a F h7).pe (pe_glob (glB_ok h4) m1 m2 (plain_ok h5).1) hb) fun σ H Q q => goT q, fun _ _ _ z => nomatch z⟩
    · cases h
  | .v i, X, F, e, h => by
    unfold chk at h
    split at h
    · rename_i x p
      have hh := and3 h
      clear h
      obtain ⟨h, h3⟩ := hh
      have hh := and3 h
      clear h
      obtain ⟨h1, h2⟩ := hh
      have e1 := of_decide_eq_true h1
      refine .plain (PE.mono (pe_var (i := i) (by rw [F.nm]; exact e1) (visB_ok h2) (plain_ok h3).1 (plain_ok h3).2.1) fun σ H Q q => ?_) (fun _ => rfl) rfl
      obtain ⟨θ, ρ, M, w, M', hs, hρ, e, kk⟩ := q
      simp only [ev] at e
      split at e
      · rename_i v hv
        cases e
        obtain ⟨y, q1, q2⟩ := hρ.at' i _ hv
        exact ⟨y, q1, kk θ H y (Go.refl hs) q2⟩
      · cases e
    · cases h
  | .o1 .neg a, X, F, e, h => by
    unfold chk at h
    split at h
    · refine .plain (PE.mono (pe_un v_neg (sE a F h).pe) fun σ H Q q => ?_) (fun _ => rfl) rfl
      obtain ⟨θ, ρ, M, v, M', hs, hρ, e, kk⟩ := q
      simp only [ev, Option.bind_eq_some_iff] at e
      obtain ⟨⟨x, M1⟩, e1, e2⟩ := e
      exact ⟨θ, ρ, M, x, M1, hs, hρ, e1, fun θ1 H1 z g r => ⟨θ1, M1, x, v, M', g.sr, r, e2, fun θ2 H2 z2 g2 r2 => kk θ2 H2 z2 (g.trans hs g2) r2⟩⟩
    · cases h
  | .o2 o a b, X, F, e, h => by
    have hev : ev Φ (.o2 o a b) = fun ρ M => (ev Φ a ρ M).bind fun (x, M1) => (ev Φ b ρ M1).bind fun (y, M2) => bin2 o x y M2 := by funext ρ M; simp only [ev]
    rw [hev]
    unfold chk at h
    split at h
    · obtain ⟨h, h3⟩ := and3 h
      have hh := and3 h
      clear h
      obtain ⟨h1, h2⟩ := hh
      exact .plain (PE.mono (pe_op (opB_ok (of_decide_eq_true h1)) (sE a F h2).pe (sE b F h3).pe) fun σ H Q q => rd2 (fun _ _ _ _ z => z) q) (fun _ => rfl) rfl
    · obtain ⟨h, h4⟩ := and3 h
      have hh := and3 h
      clear h
      obtain ⟨h, h3⟩ := hh
      have hh := and3 h
      clear h
      obtain ⟨h1, h2⟩ := hh
      have ho := of_decide_eq_true h1
      refine ⟨PE.mono (pe_cmpR (opC_ok F.units ho) (sE a F h3).pe (sE b F h4).pe (by simpa using h2)) fun σ H Q q => rd2 (fun _ _ _ _ z => z) q, PT.mono (pt_cmpR (opC_ok F.units ho) (sE a F h3).pe (sE b F h4).pe (by simpa using h2)) fun σ H Q q => rd2T (fun _ _ _ _ _ z => cmp_bool ho z) q, fun _ _ _ z => nomatch z⟩
    · obtain ⟨h, h4⟩ := and3 h
      have hh := and3 h
      clear h
      obtain ⟨h, h3⟩ := hh
      have hh := and3 h
      clear h
      obtain ⟨h1, h2⟩ := hh
      have ho := of_decide_eq_true h1
      subst ho
      rename_i x y p
      refine .plain (PE.mono (pe_ix (v_ix (by have := F.units; omega)) (sE a F h3).pe (sE b F h4).pe ?_) fun σ H Q q => rd2 (fun _ _ _ _ z => z) q) (fun _ => rfl) rfl
      intro o i
      cases y <;> first | rfl | (simp [notSlice] at h2)
    · cases h
  | .ch o o' a b c, X, F, e, h => by
    unfold chk at h
    split at h
    · rename_i x p p' y z pos
      have hh := and3 h
      clear h
      obtain ⟨h, h6⟩ := hh
      have hh := and3 h
      clear h
      obtain ⟨h, h5⟩ := hh
      have hh := and3 h
      clear h
      obtain ⟨h, h4⟩ := hh
      have hh := and3 h
      clear h
      obtain ⟨h, h3⟩ := hh
      have hh := and3 h
      clear h
      obtain ⟨h1, h2⟩ := hh
      have ho := of_decide_eq_true h1
      have ho' := of_decide_eq_true h2
      have hm : lastMarks [p, p'] [y, z] = false := by have : behindInMarks p' z = false := by simpa using h3
                                                       exact this
      have key : ∀ σ H Q, rd X.K (ev Φ (.ch o o' a b c)) σ H Q → tChain (rv2 X.K (bin2 o)) (rv2 X.K (bin2 o')) (rd X.K (ev Φ a)) (rd X.K (ev Φ b)) (rd X.K (ev Φ c)) σ H Q := by
        intro σ H Q q
        obtain ⟨θ, ρ, M, v, M', hs, hρ, e, kk⟩ := q
        simp only [ev, Option.bind_eq_some_iff] at e
        obtain ⟨⟨x, M1⟩, e1, ⟨y, M2⟩, e2, ⟨w, M3⟩, e3, e4⟩ := e
        refine ⟨θ, ρ, M, x, M1, hs, hρ, e1, fun θ1 H1 z1 g1 r1 => ⟨θ1, ρ, M1, y, M2, g1.sr, hρ.go hs g1, e2, fun θ2 H2 z2 g2 r2 => ?_⟩⟩
        refine ⟨θ2, M2, x, y, w, M3, g2.sr, r1.go g1.sr g2, r2, e3, fun θ3 H3 z3 g3 r3 => ?_⟩
        have g123 := (g1.trans hs g2).trans hs g3
        obtain ⟨k', rfl⟩ := cmp_bool ho e3
        cases r3
        refine ⟨k', rfl, ?_⟩
        cases k' with
        | true =>
          simp only [chS, Option.bind_eq_some_iff] at e4
          obtain ⟨⟨w, M4⟩, e4, ⟨u, M5⟩, e5, e6⟩ := e4
          rw [if_pos rfl]
          refine ⟨θ3, ρ, M3, w, M4, g3.sr, hρ.go hs g123, e4, fun θ4 H4 z4 g4 r4 => ?_⟩
          refine ⟨θ4, M4, y, w, u, M5, g4.sr, (r2.go g2.sr g3).go g3.sr g4, r4, e5, fun θ5 H5 z5 g5 r5 => ?_⟩
          obtain ⟨k2, rfl⟩ := cmp_bool ho' e5
          cases e6
          exact kk θ5 H5 z5 ((g123.trans hs g4).trans hs g5) r5
        | false =>
          cases e4
          rw [if_neg (by decide)]
          exact kk θ3 H3 _ g123 (.bl _)
      refine ⟨PE.mono (pe_chain (opC_ok F.units ho) (opC_ok F.units ho') (sE a F h4).pe (sE b F h5).pe (sE c F h6).pe hm) key, PT.mono (pt_chain (opC_ok F.units ho) (opC_ok F.units ho') (sE a F h4).pe (sE b F h5).pe (sE c F h6).pe hm) fun σ H Q q => ?_, fun _ _ _ z => nomatch z⟩
      obtain ⟨θ, ρ, M, v, M', b', hs, hρ, e, et, kk⟩ := q
      refine key _ _ _ ⟨θ, ρ, M, v, M', hs, hρ, e, fun θ' H' z g r => ?_⟩
      have hb : ∃ k, v = .d (.bool k) := by
        simp only [ev, Option.bind_eq_some_iff] at e
        obtain ⟨⟨x, M1⟩, e1, ⟨y, M2⟩, e2, ⟨w, M3⟩, e3, e4⟩ := e
        obtain ⟨k', rfl⟩ := cmp_bool ho e3
        cases k' with
        | true =>
          simp only [chS, Option.bind_eq_some_iff] at e4
          obtain ⟨⟨w, M4⟩, e4, ⟨u, M5⟩, e5, e6⟩ := e4
          obtain ⟨k2, rfl⟩ := cmp_bool ho' e5
          cases e6; exact ⟨_, rfl⟩
        | false => cases e4; exact ⟨_, rfl⟩
      obtain ⟨c', rfl⟩ := hb
      cases et
      cases r
      exact ⟨_, rfl, kk θ' H' g⟩
    · cases h
  | .sl a lo hi, X, F, e, h => by
    unfold chk at h
    split at h
    · rename_i x l hh p2 p
      have hh := and3 h
      clear h
      obtain ⟨h, h3⟩ := hh
      have hh := and3 h
      clear h
      obtain ⟨h1, h2⟩ := hh
      have plo : PO X l (rdO X.K (ev Φ lo)) := by
        split at h2
        · exact po_of (sE lo F h2).pe
        · have hc := isNoneC_eq h2
          subst hc
          exact po_no fun ρ M => by simp only [ev]
      have phi : PO X hh (rdO X.K (ev Φ hi)) := by
        split at h3
        · exact po_of (sE hi F h3).pe
        · have hc := isNoneC_eq h3
          subst hc
          exact po_no fun ρ M => by simp only [ev]
      refine .plain (PE.mono (pe_slice v_sl (sE a F h1).pe plo phi) fun σ H Q q => ?_) (fun _ => rfl) rfl
      obtain ⟨θ, ρ, M, v, M', hs, hρ, e, kk⟩ := q
      simp only [ev, Option.bind_eq_some_iff] at e
      obtain ⟨⟨x, M1⟩, e1, ⟨l, M2⟩, e2, ⟨u, M3⟩, e3, l', e4, u', e5, e6⟩ := e
      refine ⟨θ, ρ, M, x, M1, hs, hρ, e1, fun θ1 H1 z1 g1 r1 => ⟨θ1, ρ, M1, l, M2, l', g1.sr, hρ.go hs g1, e2, e4, fun θ2 H2 g2 => ?_⟩⟩
      refine ⟨θ2, ρ, M2, u, M3, u', g2.sr, (hρ.go hs g1).go g1.sr g2, e3, e5, fun θ3 H3 g3 => ?_⟩
      exact ⟨θ3, M3, x, v, M', g3.sr, (r1.go g1.sr g2).go g2.sr g3, e6, fun θ4 H4 z g4 r4 => kk θ4 H4 z (((g1.trans hs g2).trans hs g3).trans hs g4) r4⟩
    · cases h
  | .rev a, X, F, e, h => by
    unfold chk at h
    split at h
    · refine .plain (PE.mono (pe_revL (sE a F h).pe) fun σ H Q q => ?_) (fun _ => rfl) rfl
      obtain ⟨θ, ρ, M, v, M', hs, hρ, e, kk⟩ := q
      simp only [ev, Option.bind_eq_some_iff] at e
      obtain ⟨⟨x, M1⟩, e1, e2⟩ := e
      refine ⟨θ, ρ, M, x, M1, hs, hρ, e1, fun θ1 H1 z1 g1 r1 => ?_⟩
      simp only [revS] at e2
      cases hd : lsOf x M1 with
      | none => rw [hd] at e2; cases e2
      | some ds =>
        rw [hd] at e2
        cases e2
        obtain ⟨p, xs, rfl, hq, rr⟩ := listOf_at g1.sr r1 hd
        exact ⟨p, xs, rfl, hq.sq, Kon.lst (fun θ2 H2 z g2 r2 => kk θ2 H2 z (g1.trans hs g2) r2) g1.sr (paired_rpA (paired_reverse (rpA_paired rr)))⟩
    · cases h
  | .ddis es, X, F, e, h => by
    unfold chk at h
    split at h
    · rename_i ks vs pos
      obtain ⟨h, h4⟩ := and3 h
      have hh := and3 h
      clear h
      obtain ⟨h, h3⟩ := hh
      have hh := and3 h
      clear h
      obtain ⟨h1, h2⟩ := hh
      refine .plain (PE.mono (pe_disp (sP es F (pos := pos) h4) (chkP_some es h4) (of_decide_eq_true h3) (by intro z; rw [z] at h1; simp at h1) (of_decide_eq_true h2)) fun σ H Q q => ?_) (fun _ => rfl) rfl
      obtain ⟨θ, ρ, M, v, M', hs, hρ, e, kk⟩ := q
      simp only [ev, Option.bind_eq_some_iff] at e
      obtain ⟨⟨vs, M1⟩, e1, ps, e2, e3⟩ := e
      intro p hp
      have g0 := Go.push (o := .dK []) (mo := .dct false []) hs hp ⟨_, upd_same, .nil⟩
      refine trs_ok es g0.sr (hρ.go hs g0) e1 e2 fun θ2 H2 qs g2 rq => ?_
      simp only [disS] at e3
      split at e3
      · rename_i eo
        split at e3
        · rename_i hl
          cases e3
          have hl0 : M.length < M1.length := by have := g2.len; simp at this; omega
          have hth : θ2 M.length = p := by rw [g2.th M.length (by simp)]; exact if_pos rfl
          obtain ⟨ls, q, r⟩ := g2.sr.ob _ _ eo
          cases r
          obtain ⟨kvs, rfl, dp⟩ := vpr_keys rq
          rw [hth] at q
          refine ⟨q, kvs, rfl, by rw [Paired.length dp]; exact hl, ?_⟩
          have kr : Kon X.K θ2 M1 H2 (.r M.length) (M1.set M.length (.dct false (dMerge [] ps))) Q := fun θ3 H3 z g3 r3 => kk θ3 H3 z ((g0.trans hs g2).trans hs g3) r3
          have := kr.put (o := .dK (mergeK [] kvs)) (z := .ref p) g2.sr hl0 (by rw [eo]; intro o h; cases h; rfl) (fun kp => ⟨_, upd_same, dp_merge same_kD (DP.kp dp kp (Nat.le_refl _) fun _ _ => rfl) .nil⟩) ⟨hl0, by rw [hth]⟩
          rw [hth] at this
          exact this
        · cases e3
      · cases e3
    · cases h
  | .ddisT es, X, F, e, h => by
    unfold chk at h
    split at h
    · rename_i ks vs pos
      obtain ⟨h, h4⟩ := and3 h
      have hh := and3 h
      clear h
      obtain ⟨h, h3⟩ := hh
      have hh := and3 h
      clear h
      obtain ⟨h1, h2⟩ := hh
      refine .plain (PE.mono (pe_dispT (sP es F (pos := pos) h4) (by have := F.units; omega) (chkP_some es h4) (of_decide_eq_true h3) (by intro z; rw [z] at h1; simp at h1) (of_decide_eq_true h2)) fun σ H Q q => ?_) (fun _ => rfl) rfl
      obtain ⟨θ, ρ, M, v, M', hs, hρ, e, kk⟩ := q
      simp only [ev, Option.bind_eq_some_iff] at e
      obtain ⟨⟨vs, M1⟩, e1, ps, e2, e3⟩ := e
      intro p hp
      have g0 := Go.push (o := .dT []) (mo := .dct true []) hs hp ⟨_, upd_same, .nil⟩
      refine trs_okT es g0.sr (hρ.go hs g0) e1 e2 fun θ2 H2 qs g2 rq => ?_
      simp only [disT] at e3
      split at e3
      · rename_i eo
        split at e3
        · rename_i hl
          cases e3
          have hl0 : M.length < M1.length := by have := g2.len; simp at this; omega
          have hth : θ2 M.length = p := by rw [g2.th M.length (by simp)]; exact if_pos rfl
          obtain ⟨ls, q, r⟩ := g2.sr.ob _ _ eo
          cases r
          obtain ⟨kvs, pr, dp⟩ := vpr_keysT rq
          rw [hth] at q
          refine ⟨q, kvs, pr, by rw [Paired.length dp]; exact hl, ?_⟩
          have kr : Kon X.K θ2 M1 H2 (.r M.length) (M1.set M.length (.dct true (dMerge [] ps))) Q := fun θ3 H3 z g3 r3 => kk θ3 H3 z ((g0.trans hs g2).trans hs g3) r3
          have := kr.put (o := .dT (kvs.foldl (fun acc kv => putK acc kv.1 kv.2) [])) (z := .ref p) g2.sr hl0 (by rw [eo]; intro o h; cases h; rfl) (fun kp => ⟨_, upd_same, dp_merge same_kT (DP.kp dp kp (Nat.le_refl _) fun _ _ => rfl) .nil⟩) ⟨hl0, by rw [hth]⟩
          rw [hth] at this
          exact this
        · cases e3
      · cases e3
    · cases h
  | .tup es, X, F, e, h => by
    unfold chk at h
    split at h
    · refine .plain (PE.mono (pe_tup (sA es F h)) fun σ H Q q => ?_) (fun _ => rfl) rfl
      obtain ⟨θ, ρ, M, v, M', hs, hρ, e, kk⟩ := q
      simp only [ev, Option.bind_eq_some_iff] at e
      obtain ⟨⟨vs, M1⟩, e1, ds, e2, e3⟩ := e
      split at e3
      · rename_i hz
        cases e3
        refine ⟨θ, ρ, M, vs, M1, hs, hρ, e1, fun θ1 H1 zs g1 r1 => ?_⟩
        have rr := dataA_rp r1 e2
        exact ⟨by rw [rr.length]; exact hz, Kon.tup (fun θ2 H2 z g2 r2 => kk θ2 H2 z (g1.trans hs g2) r2) g1.sr rr⟩
      · cases e3
    · cases h
  | .lst es, X, F, e, h => by
    unfold chk at h
    split at h
    · refine .plain (PE.mono (pe_lst (sA es F h)) fun σ H Q q => ?_) (fun _ => rfl) rfl
      obtain ⟨θ, ρ, M, v, M', hs, hρ, e, kk⟩ := q
      simp only [ev, Option.bind_eq_some_iff] at e
      obtain ⟨⟨vs, M1⟩, e1, e2⟩ := e
      split at e2
      · rename_i hz
        refine ⟨θ, ρ, M, vs, M1, hs, hρ, e1, fun θ1 H1 zs g1 r1 => ?_⟩
        refine ⟨by rw [Paired.length r1]; exact hz, ?_⟩
        unfold newL at e2
        split at e2
        · rename_i ds hds
          cases e2
          exact Kon.lst (fun θ2 H2 z g2 r2 => kk θ2 H2 z (g1.trans hs g2) r2) g1.sr (dataA_rp r1 hds)
        · cases e2
          exact Kon.nst (fun θ2 H2 z g2 r2 => kk θ2 H2 z (g1.trans hs g2) r2) g1.sr r1
      · cases e2
    · cases h
  | .dnew t, X, F, e, h => by
    unfold chk at h
    split at h
    · have hm : ∀ ρ M, ev Φ (.dnew t) ρ M = some (.r M.length, M ++ [.dct t []]) := fun ρ M => by simp only [ev]
      cases t with
      | false =>
        refine .plain (PE.mono pe_dnewK fun σ H Q q => ?_) (fun _ => rfl) rfl
        obtain ⟨θ, ρ, M, v, M', hs, hρ, e, kk⟩ := q
        rw [hm] at e
        cases e
        exact Kon.dct kk hs ⟨_, upd_same, .nil⟩
      | true =>
        refine .plain (PE.mono pe_dnewT fun σ H Q q => ?_) (fun _ => rfl) rfl
        obtain ⟨θ, ρ, M, v, M', hs, hρ, e, kk⟩ := q
        rw [hm] at e
        cases e
        exact Kon.dct kk hs ⟨_, upd_same, .nil⟩
    · cases h
  | .lck b a, X, F, e, h => by
    unfold chk at h
    have hh := and3 h
    clear h
    obtain ⟨h1, h2⟩ := hh
    have hev : ev Φ (.lck b a) = fun ρ M => (ev Φ b ρ M).bind fun (x, _) => lckS x M fun M1 => ev Φ a ρ M1 := by funext ρ M; simp only [ev]
    rw [hev]
    obtain ⟨q1, q2⟩ := plainE_ok (X := X) h1
    exact .plain (pe_lck (sE a F h2).pe) q1 q2
  | .frz a, X, F, e, h => by
    unfold chk at h
    have hh := and3 h
    clear h
    obtain ⟨h1, h2⟩ := hh
    have hev : ev Φ (.frz a) = fun ρ M => (ev Φ a ρ M).bind fun r => frzS M.length r := by funext ρ M; simp only [ev]
    rw [hev]
    obtain ⟨q1, q2⟩ := plainE_ok (X := X) h1
    exact .plain (frz_of (sE a F h2).pe) q1 q2
  | .bt b es, X, F, e, h => by
    unfold chk at h
    split at h
    · rename_i x p y ys pos
      have hh := and3 h
      clear h
      obtain ⟨h, h4⟩ := hh
      have hh := and3 h
      clear h
      obtain ⟨h, h3⟩ := hh
      have hh := and3 h
      clear h
      obtain ⟨h1, h2⟩ := hh
      have hev : ev Φ (.bt b es) = fun ρ M => (evs Φ es ρ M).bind fun (vs, M1) => btS b vs M1 := by funext ρ M; simp only [ev]
      rw [hev]
      refine .plain (PE.mono (pe_bt (v_bt F.calm (by have := F.units; omega) b) (of_decide_eq_true h1) (glB_ok h2) (F.free _ (by simpa using h3)) (sA es F h4) ?_ ?_) fun σ H Q q => rdN q) (fun _ => rfl) rfl
      · cases es with
        | nil => simp [chkA] at h4
        | cons a as =>
          simp only [chkA] at h4
          exact star_cons (and3 h4).1
      · cases es with
        | nil => simp [chkA] at h4
        | cons a as =>
          simp only [chkA] at h4
          exact (star_none (and3 h4).2).1
    · cases h
  | .isi a t, X, F, e, h => by
    unfold chk at h
    split at h
    · rename_i x p y z p2 pos
      have hh := and3 h
      clear h
      obtain ⟨h, h7⟩ := hh
      have hh := and3 h
      clear h
      obtain ⟨h, h6⟩ := hh
      have hh := and3 h
      clear h
      obtain ⟨h, h5⟩ := hh
      have hh := and3 h
      clear h
      obtain ⟨h, h4⟩ := hh
      have hh := and3 h
      clear h
      obtain ⟨h, h3⟩ := hh
      have hh := and3 h
      clear h
      obtain ⟨h1, h2⟩ := hh
      have e1 := of_decide_eq_true h1
      have e2 := of_decide_eq_true h4
      subst e1
      obtain ⟨t1, t2, t3⟩ := tyS_ok t
      rw [← e2] at t1 t2 t3
      have hz : PE X (.Name z p2) (tC (.ty (tyN t))) := pe_bltn (glB_ok h5) (F.free _ (by simpa using h6)) t3 rfl t2 t1
      refine .plain (PE.mono (pe_callB (v_isi t) (glB_ok h2) (F.free _ (by simpa using h3)) (by decide +kernel) (pa_cons (sE a F h7).pe (pa_cons hz pa_nil (by rfl)) (star_cons h7)) (by decide) (by decide) (star_cons h7) (by rfl)) fun σ H Q q => ?_) (fun _ => rfl) rfl
      obtain ⟨θ, ρ, M, v, M', hs, hρ, e, kk⟩ := q
      simp only [ev, Option.bind_eq_some_iff] at e
      obtain ⟨⟨x, M1⟩, e1, e2⟩ := e
      exact ⟨θ, ρ, M, x, M1, hs, hρ, e1, fun θ1 H1 z g r => ⟨z, θ1, M1, x, v, M', rfl, g.sr, r, e2, fun θ2 H2 z2 g2 r2 => kk θ2 H2 z2 (g.trans hs g2) r2⟩⟩
    · cases h
  | .mt m a es, X, F, e, h => by
    unfold chk at h
    split at h
    · rename_i o f ap y ys cp
      have hh := and3 h
      clear h
      obtain ⟨h, h6⟩ := hh
      have hh := and3 h
      clear h
      obtain ⟨h, h5⟩ := hh
      have hh := and3 h
      clear h
      obtain ⟨h, h4⟩ := hh
      have hh := and3 h
      clear h
      obtain ⟨h, h3⟩ := hh
      have hh := and3 h
      clear h
      obtain ⟨h1, h2⟩ := hh
      have ef := of_decide_eq_true h1
      have hstar : starEach (y :: ys) X.env = (false, eval y X.env) :: starEach ys X.env := by
        cases es with
        | nil => simp [chkA] at h6
        | cons a as =>
          simp only [chkA] at h6
          exact star_cons (and3 h6).1
      have hpl : (backTo cp (starEach ys X.env)).any (·.1) = false := by
        cases es with
        | nil => simp [chkA] at h6
        | cons a as =>
          simp only [chkA] at h6
          exact (star_none (and3 h6).2).1
      have hall := (star_none (env := X.env) (pos := cp) h6).2
      have hbase : attributeBase o f X.env (eval o X.env) = eval o X.env := by
        cases o
        case Call fn args kws pos =>
          cases args with
          | nil =>
            cases kws with
            | nil => simp [notCall0] at h2
            | cons => cases fn <;> rfl
          | cons => cases fn <;> rfl
        all_goals rfl
      have hfew : ((backTo cp (starEach (y :: ys) X.env)).all (fun x => !x.1) && (backToKw cp (keywordEach [] X.env)).all (fun x => x.1.isSome)
        && decide ((y :: ys).length + ([] : List Keyword).length + (if ([] : List Keyword).isEmpty then 0 else 1) < 30)) = true := by
        rw [hall]
        have : ys.length < 20 := of_decide_eq_true h4
        have e2 : decide ((y :: ys).length + ([] : List Keyword).length + (if ([] : List Keyword).isEmpty then 0 else 1) < 30) = true := decide_eq_true (by simp; omega)
        rw [e2]; rfl
      cases m
      case append =>
        refine .plain (PE.mono (pe_bm (T := "list") PySem.F.plainAttrs_list (by rw [ef]; exact PySem.F.slot_list_append) PySem.F.type_list_append v_app (sE a F h5).pe (sA es F h6) hbase hfew h3 hstar hpl) fun σ H Q q => ?_) (fun _ => rfl) rfl
        obtain ⟨θ, ρ, M, v, M', hs, hρ, e, kk⟩ := q
        simp only [ev, Option.bind_eq_some_iff] at e
        obtain ⟨⟨x, M1⟩, e1, e⟩ := e
        split at e
        case isFalse => cases e
        rename_i hk
        simp only [Option.bind_eq_some_iff] at e
        obtain ⟨⟨vs, M2⟩, e2, e3⟩ := e
        refine ⟨θ, ρ, M, x, M1, hs, hρ, e1, fun θ1 H1 z1 g1 r1 => ⟨kind_list g1.sr r1 ?_, θ1, ρ, M1, vs, M2, g1.sr, hρ.go hs g1, e2, fun θ2 H2 zs g2 r2 => ⟨θ2, M2, x, vs, v, M', g2.sr, r1.go g1.sr g2, r2, e3, fun θ3 H3 z g3 r3 => kk θ3 H3 z ((g1.trans hs g2).trans hs g3) r3⟩⟩⟩
        exact mtK_append hk
      case get =>
        refine .plain (PE.mono (pe_bm (T := "dict") PySem.F.plainAttrs_dict (by rw [ef]; exact PySem.F.slot_dict_get) PySem.F.type_dict_get (v_get (by have := F.units; omega)) (sE a F h5).pe (sA es F h6) hbase hfew h3 hstar hpl) fun σ H Q q => ?_) (fun _ => rfl) rfl
        obtain ⟨θ, ρ, M, v, M', hs, hρ, e, kk⟩ := q
        simp only [ev, Option.bind_eq_some_iff] at e
        obtain ⟨⟨x, M1⟩, e1, e⟩ := e
        split at e
        case isFalse => cases e
        rename_i hk
        simp only [Option.bind_eq_some_iff] at e
        obtain ⟨⟨vs, M2⟩, e2, e3⟩ := e
        refine ⟨θ, ρ, M, x, M1, hs, hρ, e1, fun θ1 H1 z1 g1 r1 => ⟨kind_dict g1.sr r1 ?_, θ1, ρ, M1, vs, M2, g1.sr, hρ.go hs g1, e2, fun θ2 H2 zs g2 r2 => ⟨θ2, M2, x, vs, v, M', g2.sr, r1.go g1.sr g2, r2, e3, fun θ3 H3 z g3 r3 => kk θ3 H3 z ((g1.trans hs g2).trans hs g3) r3⟩⟩⟩
        exact mtK_get hk
      case pop =>
        refine .plain (PE.mono (pe_bm (T := "dict") PySem.F.plainAttrs_dict (by rw [ef]; exact PySem.F.slot_dict_pop) PySem.F.type_dict_pop (v_pop (by have := F.units; omega)) (sE a F h5).pe (sA es F h6) hbase hfew h3 hstar hpl) fun σ H Q q => ?_) (fun _ => rfl) rfl
        obtain ⟨θ, ρ, M, v, M', hs, hρ, e, kk⟩ := q
        simp only [ev, Option.bind_eq_some_iff] at e
        obtain ⟨⟨x, M1⟩, e1, e⟩ := e
        split at e
        case isFalse => cases e
        rename_i hk
        simp only [Option.bind_eq_some_iff] at e
        obtain ⟨⟨vs, M2⟩, e2, e3⟩ := e
        refine ⟨θ, ρ, M, x, M1, hs, hρ, e1, fun θ1 H1 z1 g1 r1 => ⟨kind_dict g1.sr r1 ?_, θ1, ρ, M1, vs, M2, g1.sr, hρ.go hs g1, e2, fun θ2 H2 zs g2 r2 => ⟨θ2, M2, x, vs, v, M', g2.sr, r1.go g1.sr g2, r2, e3, fun θ3 H3 z g3 r3 => kk θ3 H3 z ((g1.trans hs g2).trans hs g3) r3⟩⟩⟩
        exact mtK_pop hk
      all_goals
        refine .plain (pe_no fun σ H Q q => ?_) (fun _ => rfl) rfl
        obtain ⟨θ, ρ, M, v, M', hs, hρ, e, kk⟩ := q
        simp only [ev, Option.bind_eq_some_iff] at e
        obtain ⟨⟨x, M1⟩, e1, e⟩ := e
        simp [mtK] at e
    · cases h
  | .call j es, X, F, e, h => by
    unfold chk at h
    split at h
    · rename_i x p ys pos
      have hh := and3 h
      clear h
      obtain ⟨h, h4⟩ := hh
      have hh := and3 h
      clear h
      obtain ⟨h, h3⟩ := hh
      have hh := and3 h
      clear h
      obtain ⟨h1, h2⟩ := hh
      obtain ⟨f, fd, ps, F1, F2, F3, F4⟩ := F.fns j x _ (of_decide_eq_true h1)
      have hev : ev Φ (.call j es) = fun ρ M => (evs Φ es ρ M).bind fun (vs, M1) => Φ j vs M1 := by funext ρ M; simp only [ev]
      rw [hev]
      have key : ∀ σ H Q, rd X.K (fun ρ M => (evs Φ es ρ M).bind fun (vs, M1) => Φ j vs M1) σ H Q → tCall (spM X.K es.len (Φ j)) [] E0 (rdA X.K (evs Φ es)) σ H Q := by
        intro σ H Q q
        obtain ⟨θ, ρ, M, v, M', hs, hρ, e, kk⟩ := q
        simp only [Option.bind_eq_some_iff] at e
        obtain ⟨⟨vs, M1⟩, e1, e2⟩ := e
        refine ⟨θ, ρ, M, vs, M1, hs, hρ, e1, fun θ1 H1 zs g1 r1 => ?_⟩
        show spM X.K es.len (Φ j) (zs ++ []) H1 Q E0
        rw [List.append_nil]
        exact ⟨by rw [Paired.length r1]; exact evs_len es e1, θ1, M1, vs, v, M', g1.sr, r1, e2, fun θ2 H2 z g2 r2 => kk θ2 H2 z (g1.trans hs g2) r2⟩
      cases es with
      | nil =>
        cases ys with
        | nil =>
          refine .plain (PE.mono (pe_call0 F1 F.room (glB_ok h2) F2 F3 F4 .nil pass0 (plain_ok h3).1) fun σ H Q q => ?_) (fun _ => rfl) rfl
          obtain ⟨θ, ρ, M, vs, M1, hs, hρ, e1, kk⟩ := key σ H Q q
          simp only [evs] at e1
          cases e1
          exact kk θ H [] (Go.refl hs) .nil
        | cons => simp [chkA] at h4
      | cons a as =>
        cases ys with
        | nil => simp [chkA] at h4
        | cons y ys =>
          have h4' := h4
          simp only [chkA] at h4'
          exact .plain (PE.mono (pe_call F1 F.room (glB_ok h2) F2 F3 F4 .nil pass0 (sA _ F h4) (plain_ok h3).1 (star_cons (and3 h4').1) (star_none (and3 h4').2).1) key) (fun _ => rfl) rfl
    · cases h
  | .and a b, X, F, e, h => by
    unfold chk at h
    split at h
    · rename_i x y ys p
      have hh := and3 h
      clear h
      obtain ⟨h1, h2⟩ := hh
      have hb : PE X (.BoolOp .And (y :: ys) p) (rd X.K (ev Φ b)) ∧ PW X (.BoolOp .And (y :: ys) p) (rdT X.K (ev Φ b)) := by
        split at h2
        · have q := sE b F h2
          exact ⟨pe_one q.pe, pw_and1 q.pt⟩
        · have q := sE b F h2
          exact ⟨q.pe, q.pw _ _ _ rfl⟩
      have hw : PW X (.BoolOp .And (x :: y :: ys) p) (rdT X.K (ev Φ (.and a b))) := by
        refine PW.mono (pw_and (sE a F h1).pt hb.2) fun σ H Q q => ?_
        obtain ⟨θ, ρ, M, v, M', bb, hs, hρ, e, et, kk⟩ := q
        simp only [ev, Option.bind_eq_some_iff] at e
        obtain ⟨⟨x, M1⟩, e1, k1, e2, e3⟩ := e
        refine ⟨θ, ρ, M, x, M1, k1, hs, hρ, e1, e2, fun θ1 H1 g1 => ?_⟩
        cases k1 with
        | true =>
          rw [if_pos rfl] at e3 ⊢
          exact ⟨θ1, ρ, M1, v, M', bb, g1.sr, hρ.go hs g1, e3, et, fun θ2 H2 g2 => kk θ2 H2 (g1.trans hs g2)⟩
        | false =>
          rw [if_neg (by decide)] at e3 ⊢
          cases e3
          simp only at e2
          rw [e2] at et; cases et
          exact kk θ1 H1 g1
      refine ⟨PE.mono (pe_andT (sE a F h1).pe hb.1) fun σ H Q q => ?_, hw.pt, fun _ _ _ z => by cases z; exact hw⟩
      obtain ⟨θ, ρ, M, v, M', hs, hρ, e, kk⟩ := q
      simp only [ev, Option.bind_eq_some_iff] at e
      obtain ⟨⟨x, M1⟩, e1, k1, e2, e3⟩ := e
      refine ⟨θ, ρ, M, x, M1, hs, hρ, e1, fun θ1 H1 z g1 r1 => ⟨k1, tru_at g1.sr r1 e2, ?_⟩⟩
      cases k1 with
      | true =>
        rw [if_pos rfl] at e3 ⊢
        exact ⟨θ1, ρ, M1, v, M', g1.sr, hρ.go hs g1, e3, fun θ2 H2 z g2 r2 => kk θ2 H2 z (g1.trans hs g2) r2⟩
      | false =>
        rw [if_neg (by decide)] at e3 ⊢
        cases e3
        exact kk θ1 H1 z g1 r1
    · cases h
  | .or a b, X, F, e, h => by
    unfold chk at h
    split at h
    · rename_i x y ys p
      have hh := and3 h
      clear h
      obtain ⟨h1, h2⟩ := hh
      have hb : PE X (.BoolOp .Or (y :: ys) p) (rd X.K (ev Φ b)) ∧ PW X (.BoolOp .Or (y :: ys) p) (rdT X.K (ev Φ b)) := by
        split at h2
        · have q := sE b F h2
          exact ⟨pe_one q.pe, pw_or1 q.pt⟩
        · have q := sE b F h2
          exact ⟨q.pe, q.pw _ _ _ rfl⟩
      have hw : PW X (.BoolOp .Or (x :: y :: ys) p) (rdT X.K (ev Φ (.or a b))) := by
        refine PW.mono (pw_or (sE a F h1).pt hb.2) fun σ H Q q => ?_
        obtain ⟨θ, ρ, M, v, M', bb, hs, hρ, e, et, kk⟩ := q
        simp only [ev, Option.bind_eq_some_iff] at e
        obtain ⟨⟨x, M1⟩, e1, k1, e2, e3⟩ := e
        refine ⟨θ, ρ, M, x, M1, k1, hs, hρ, e1, e2, fun θ1 H1 g1 => ?_⟩
        cases k1 with
        | false =>
          rw [if_neg (by decide)] at e3 ⊢
          exact ⟨θ1, ρ, M1, v, M', bb, g1.sr, hρ.go hs g1, e3, et, fun θ2 H2 g2 => kk θ2 H2 (g1.trans hs g2)⟩
        | true =>
          rw [if_pos rfl] at e3 ⊢
          cases e3
          simp only at e2
          rw [e2] at et; cases et
          exact kk θ1 H1 g1
      refine ⟨PE.mono (pe_orT (sE a F h1).pe hb.1) fun σ H Q q => ?_, hw.pt, fun _ _ _ z => by cases z; exact hw⟩
      obtain ⟨θ, ρ, M, v, M', hs, hρ, e, kk⟩ := q
      simp only [ev, Option.bind_eq_some_iff] at e
      obtain ⟨⟨x, M1⟩, e1, k1, e2, e3⟩ := e
      refine ⟨θ, ρ, M, x, M1, hs, hρ, e1, fun θ1 H1 z g1 r1 => ⟨k1, tru_at g1.sr r1 e2, ?_⟩⟩
      cases k1 with
      | false =>
        rw [if_neg (by decide)] at e3 ⊢
        exact ⟨θ1, ρ, M1, v, M', g1.sr, hρ.go hs g1, e3, fun θ2 H2 z g2 r2 => kk θ2 H2 z (g1.trans hs g2) r2⟩
      | true =>
        rw [if_pos rfl] at e3 ⊢
        cases e3
        exact kk θ1 H1 z g1 r1
    · cases h
  | .not a, X, F, e, h => by
    unfold chk at h
    split at h
    · refine ⟨PE.mono (pe_notT (sE a F h).pe) fun σ H Q q => ?_, PT.mono (pt_not (sE a F h).pt) fun σ H Q q => ?_, fun _ _ _ z => nomatch z⟩
      · obtain ⟨θ, ρ, M, v, M', hs, hρ, e, kk⟩ := q
        simp only [ev, Option.bind_eq_some_iff] at e
        obtain ⟨⟨x, M1⟩, e1, k1, e2, e3⟩ := e
        cases e3
        exact ⟨θ, ρ, M, x, M1, hs, hρ, e1, fun θ1 H1 z g1 r1 => ⟨k1, tru_at g1.sr r1 e2, kk θ1 H1 _ g1 (.bl _)⟩⟩
      · obtain ⟨θ, ρ, M, v, M', bb, hs, hρ, e, et, kk⟩ := q
        simp only [ev, Option.bind_eq_some_iff] at e
        obtain ⟨⟨x, M1⟩, e1, k1, e2, e3⟩ := e
        cases e3
        cases et
        exact ⟨θ, ρ, M, x, M1, k1, hs, hρ, e1, e2, fun θ1 H1 g1 => kk θ1 H1 g1⟩
    · cases h
  | .ite c a b, X, F, e, h => by
    unfold chk at h
    split at h
    · obtain ⟨h, h3⟩ := and3 h
      have hh := and3 h
      clear h
      obtain ⟨h1, h2⟩ := hh
      refine ⟨PE.mono (pe_ifExp (sE c F h1).pt (sE a F h2).pe (sE b F h3).pe) fun σ H Q q => ?_, PT.mono (pt_ifE (sE c F h1).pt (sE a F h2).pt (sE b F h3).pt) fun σ H Q q => ?_, fun _ _ _ z => nomatch z⟩
      · obtain ⟨θ, ρ, M, v, M', hs, hρ, e, kk⟩ := q
        simp only [ev, Option.bind_eq_some_iff] at e
        obtain ⟨⟨x, M1⟩, e1, k1, e2, e3⟩ := e
        refine ⟨θ, ρ, M, x, M1, k1, hs, hρ, e1, e2, fun θ1 H1 g1 => ?_⟩
        cases k1 with
        | true => rw [if_pos rfl] at e3 ⊢; exact ⟨θ1, ρ, M1, v, M', g1.sr, hρ.go hs g1, e3, fun θ2 H2 z g2 r2 => kk θ2 H2 z (g1.trans hs g2) r2⟩
        | false => rw [if_neg (by decide)] at e3 ⊢; exact ⟨θ1, ρ, M1, v, M', g1.sr, hρ.go hs g1, e3, fun θ2 H2 z g2 r2 => kk θ2 H2 z (g1.trans hs g2) r2⟩
      · obtain ⟨θ, ρ, M, v, M', bb, hs, hρ, e, et, kk⟩ := q
        simp only [ev, Option.bind_eq_some_iff] at e
        obtain ⟨⟨x, M1⟩, e1, k1, e2, e3⟩ := e
        refine ⟨θ, ρ, M, x, M1, k1, hs, hρ, e1, e2, fun θ1 H1 g1 => ?_⟩
        cases k1 with
        | true => rw [if_pos rfl] at e3 ⊢; exact ⟨θ1, ρ, M1, v, M', bb, g1.sr, hρ.go hs g1, e3, et, fun θ2 H2 g2 => kk θ2 H2 (g1.trans hs g2)⟩
        | false => rw [if_neg (by decide)] at e3 ⊢; exact ⟨θ1, ρ, M1, v, M', bb, g1.sr, hρ.go hs g1, e3, et, fun θ2 H2 g2 => kk θ2 H2 (g1.trans hs g2)⟩
    · cases h
  | .lc tg it cond elt, X, F, e, h => by
    unfold chk at h
    split at h
    · rename_i x t i ifs scope pos
      have hh := and3 h
      clear h
      obtain ⟨h, h5⟩ := hh
      have hh := and3 h
      clear h
      obtain ⟨h, h4⟩ := hh
      have hh := and3 h
      clear h
      obtain ⟨h, h3⟩ := hh
      have hh := and3 h
      clear h
      obtain ⟨h1, h2⟩ := hh
      have hev : ev Φ (.lc tg it cond elt) = lcM (evI Φ it) tg (ev Φ cond) (ev Φ elt) := by funext ρ M; simp only [ev, lcM]
      rw [hev]
      have ok : BlkOk X.N X.env.scope scope (ownOf tg t) := by rw [F.nm]; exact blkOk_by h1
      have ow := own_slots (sc := scope) h2
      have hg : ∀ (s : Shared) (H : Hp) (C : Addr) (cl : List (Str × Addr)) (fp : List Addr), PG (X.blk s H scope (compEnvC scope cl C X.env) fp) t (gOf X.K tg) := fun s H C cl fp => by
        refine pg_of (X := X.blk s H scope (compEnvC scope cl C X.env) fp) F.calm F.nd F.nm (sc := scope) (fun y hy => ?_) h2
        obtain ⟨q1, q2⟩ := relS_lookup (sc := X.env.scope) hy
        refine ⟨q1, ?_⟩
        unfold locB at hy
        split at hy
        · exact .inr (q2 (by assumption))
        · rename_i hc
          refine .inl ?_
          show (scope.names.lookup y == some NameKind.cell) = true
          rw [hc]; rfl
        · cases hy
      have he : ∀ (s : Shared) (H : Hp) (C : Addr) (cl : List (Str × Addr)) (fp : List Addr), PE (X.blk s H scope (compEnvC scope cl C X.env) fp) x (rd X.K (ev Φ elt)) := fun s H C cl fp =>
        (sE elt (F.blk s H scope (compEnvC scope cl C X.env) fp) (e := x) h5).pe
      have ht : ∃ tt, (∀ σ H Q, rdT X.K (ev Φ cond) σ H Q → tt σ H Q) ∧ ∀ (s : Shared) (H : Hp) (C : Addr) (cl : List (Str × Addr)) (fp : List Addr), PTs (X.blk s H scope (compEnvC scope cl C X.env) fp) ifs tt := by
        split at h4
        · refine ⟨tYes, fun σ H Q q => ?_, fun s H C cl fp => pts_nil⟩
          have hc : cond = .c (.bool true) := isTrueC_eq h4
          subst hc
          obtain ⟨θ, ρ, M, v, M', b, hs, hρ, e1, e2, kk⟩ := q
          simp only [ev] at e1
          cases e1; cases e2
          exact kk θ H (Go.refl hs)
        · rename_i f
          exact ⟨rdT X.K (ev Φ cond), fun _ _ _ z => z, fun s H C cl fp => pts_one (sE cond (F.blk s H scope (compEnvC scope cl C X.env) fp) (e := f) h4).pt⟩
        · cases h4
      obtain ⟨tt, ht1, ht2⟩ := ht
      have hnoset : ∀ y, foldedSetIterable i X.env y = pure y := sNS it h3
      have hp := pe_lc (elt := x) (tg := t) (pos := pos) F.calm F.nd (sI it F h3) ok hg ht2 he hnoset
      rw [ow] at hp
      exact .plain (PE.mono hp fun σ H Q q => lc_ok ht1 q) (fun _ => rfl) rfl
    · cases h
theorem sA : ∀ (cs : CEs) {X : Cx} (F : XF G Φ N k X) {es : List Expr}, chkA G N cs X.env.scope es = true → PA X es (rdA X.K (evs Φ cs))
  | .nil, X, F, es, h => by
    cases es with
    | cons => simp [chkA] at h
    | nil =>
      refine PA.mono pa_nil fun σ H Q q => ?_
      obtain ⟨θ, ρ, M, vs, M', hs, hρ, e, kk⟩ := q
      simp only [evs] at e
      cases e
      exact kk θ H [] (Go.refl hs) .nil
  | .cons c cs, X, F, es, h => by
    cases es with
    | nil => simp [chkA] at h
    | cons e es =>
      simp only [chkA] at h
      have hh := and3 h
      clear h
      obtain ⟨h1, h2⟩ := hh
      refine PA.mono (pa_cons (sE c F h1).pe (sA cs F h2) (star_cons h1)) fun σ H Q q => ?_
      obtain ⟨θ, ρ, M, vs, M', hs, hρ, e, kk⟩ := q
      simp only [evs, Option.bind_eq_some_iff] at e
      obtain ⟨⟨x, M1⟩, e1, ⟨xs, M2⟩, e2, e3⟩ := e
      cases e3
      exact ⟨θ, ρ, M, x, M1, hs, hρ, e1, fun θ1 H1 z g1 r1 => ⟨θ1, ρ, M1, xs, M2, g1.sr, hρ.go hs g1, e2, fun θ2 H2 zs g2 r2 => kk θ2 H2 _ (g1.trans hs g2) (.cons (r1.go g1.sr g2) r2)⟩⟩
theorem sP : ∀ (cs : CEs) {X : Cx} (F : XF G Φ N k X) {pos : Pos} {ks : List (Option Expr)} {vs : List Expr}, chkP G N cs X.env.scope ks vs = true → PPs X pos ks vs (trsOf X.K Φ cs)
  | .nil, X, F, pos, ks, vs, h => by
    cases ks with
    | nil => cases vs with
      | nil => exact pps_nil
      | cons => simp [chkP] at h
    | cons => simp [chkP] at h
  | .cons a .nil, X, F, pos, ks, vs, h => by cases ks <;> cases vs <;> simp [chkP] at h
  | .cons a (.cons b bs), X, F, pos, ks, vs, h => by
    cases ks with
    | nil => simp [chkP] at h
    | cons x ks =>
      cases x with
      | none => simp [chkP] at h
      | some x =>
        cases vs with
        | nil => simp [chkP] at h
        | cons v vs =>
          rw [chkP] at h
          have hh := and3 h
          clear h
          obtain ⟨h, h3⟩ := hh
          have hh := and3 h
          clear h
          obtain ⟨h1, h2⟩ := hh
          exact pps_cons (sE a F h1).pe (sE b F h2).pe (sP bs F h3)
theorem sI : ∀ (c : CI) {X : Cx} (F : XF G Φ N k X) {e t : Expr}, chkI G N c X.env.scope e t = true → PI X t e (rdI X.K (evI Φ c))
  | .val a, X, F, e, t, h => by
    unfold chkI at h
    have hev : evI Φ (.val a) = fun ρ M => (ev Φ a ρ M).bind fun (x, M1) => (plOf x M1).bind fun pl => some (pl, M1) := by funext ρ M; simp only [evI]
    rw [hev]
    exact pi_val (sE a F h).pe
  | .rng a, X, F, e, t, h => by
    unfold chkI at h
    split at h
    · rename_i x p y pos
      have hh := and3 h
      clear h
      obtain ⟨h, h4⟩ := hh
      have hh := and3 h
      clear h
      obtain ⟨h, h3⟩ := hh
      have hh := and3 h
      clear h
      obtain ⟨h1, h2⟩ := hh
      have e1 := of_decide_eq_true h1
      subst e1
      have hp := pi_range1 (tg := t) (p := p) (pos := pos) (glB_ok h2) (F.free _ (by simpa using h3)) (pa_cons (sE a F h4).pe pa_nil (star_cons h4)) (star_cons h4)
      refine ⟨fun pins s σ H R I q => hp.run pins s σ H R I ?_⟩
      obtain ⟨θ, ρ, M, pl, M', hs, hρ, e, kk⟩ := q
      simp only [evI, Option.bind_eq_some_iff] at e
      obtain ⟨⟨x, M1⟩, e1, e2⟩ := e
      dsimp only at e2
      refine ⟨θ, ρ, M, x, M1, hs, hρ, e1, fun θ1 H1 z g r => ?_⟩
      split at e2
      · rename_i j
        split at e2
        · rename_i hz
          cases e2; cases r
          have hz := small62_ok hz
          exact ⟨j, rfl, hz.1, hz.2, by have := kk θ1 H1 (Itr 0 (j - 0).toNat) g itok_rng; simpa using this⟩
        · cases e2
      · cases e2
    · cases h
  | .rng2 a b, X, F, e, t, h => by
    unfold chkI at h
    split at h
    · rename_i x p y z pos
      have hh := and3 h
      clear h
      obtain ⟨h, h5⟩ := hh
      have hh := and3 h
      clear h
      obtain ⟨h, h4⟩ := hh
      have hh := and3 h
      clear h
      obtain ⟨h, h3⟩ := hh
      have hh := and3 h
      clear h
      obtain ⟨h1, h2⟩ := hh
      have e1 := of_decide_eq_true h1
      subst e1
      have hp := pi_range2 (tg := t) (p := p) (pos := pos) (glB_ok h2) (F.free _ (by simpa using h3)) (pa_cons (sE a F h4).pe (pa_cons (sE b F h5).pe pa_nil (star_cons h5)) (star_cons h4)) (by rw [star_cons h4, star_cons h5]; rfl) (by rw [star_cons h5]; rfl)
      refine ⟨fun pins s σ H R I q => hp.run pins s σ H R I ?_⟩
      obtain ⟨θ, ρ, M, pl, M', hs, hρ, e, kk⟩ := q
      simp only [evI, Option.bind_eq_some_iff] at e
      obtain ⟨⟨x, M1⟩, e1, ⟨y, M2⟩, e2, e3⟩ := e
      dsimp only at e2 e3
      refine ⟨θ, ρ, M, x, M1, hs, hρ, e1, fun θ1 H1 z g r => ⟨θ1, ρ, M1, y, M2, g.sr, hρ.go hs g, e2, fun θ2 H2 z2 g2 r2 => ?_⟩⟩
      split at e3
      · rename_i i j
        split at e3
        · rename_i hz
          cases e3; cases r; cases r2
          have h1 := small62_ok hz.1
          have h2 := small62_ok hz.2
          exact ⟨i, j, rfl, ⟨h1.1, h1.2, h2.1, h2.2⟩, kk θ2 H2 _ (g.trans hs g2) itok_rng⟩
        · cases e3
      · cases e3
    · cases h
  | .enum _, X, F, e, t, h => by simp [chkI] at h
  | .zip _ _, X, F, e, t, h => by simp [chkI] at h
  | .keys a, X, F, e, t, h => by
    unfold chkI at h
    have hev : evI Φ (.keys a) = fun ρ M => (ev Φ a ρ M).bind fun (x, M1) => (keysOf x M1).bind fun pl => some (pl, M1) := by funext ρ M; simp only [evI]
    rw [hev]
    exact pi_keysL (sE a F h).pe
end
end
end Pv
namespace Pv
open PySem PySem.Spec PyProof.Rows L2

/-! ### statements -/
def rdS (K : PySem.W.Frag) (m : Lo → Sto → RQ) : TS := fun D σ H => ∃ θ ρ M fl ρ' M', SR K H θ M ∧ ER K H θ M.length ρ σ ∧ m ρ M = some (fl, ρ', M') ∧ ∀ θ' σ' H', Go K θ M H θ' M' H' → ER K H' θ' M'.length ρ' σ' →
  match fl with
  | .nx => D.nx σ' H'
  | .bk => D.bk σ' H'
  | .ct => D.ct σ' H'
  | .rt v => ∀ x, VR K H' θ' M'.length x v → D.rt x H'
theorem PS.mono {X : Cx} {e : Stmt} {t t' : TS} (h : PS X e t) (m : ∀ D σ H, t' D σ H → t D σ H) : PS X e t' := ⟨fun pins s σ H D I q => h.run pins s σ H D I (m D σ H q)⟩
theorem PSs.mono {X : Cx} {e : List Stmt} {t t' : TS} (h : PSs X e t) (m : ∀ D σ H, t' D σ H → t D σ H) : PSs X e t' := ⟨fun pins s σ H D I q => h.run pins s σ H D I (m D σ H q)⟩
def isComp : Expr → Bool
  | .ListComp _ _ _ _ => true
  | .SetComp _ _ _ _ => true
  | .DictComp _ _ _ _ _ => true
  | _ => false
theorem sw_no {e : Expr} {t : Option Expr} {l : Nat} {env : PySem.Env} (h : isComp e = false) : swapsWith e t l env = pure false := by
  cases e <;> simp only [isComp, Bool.true_eq_false] at h <;> rfl
/-- the place's name is stored by a comprehension's own end -/
def swB (sc : Scope) (x : Str) (px : Pos) : Expr → Bool
  | .ListComp _ _ scope pos => sc.names.lookup x == some .local && px.line == pos.line && !(scope.names.any fun (n, k) => n == x && (k == .local || k == .cell))
  | _ => false
theorem blk_fn {env : PySem.Env} (hk : env.scope.kind = .function) : env.blockKind = .function := by
  unfold PySem.Env.blockKind
  rw [hk]; rfl
theorem sw_comp {elt : Expr} {gs : List Comprehension} {scope : Scope} {pos px : Pos} {x : Str} {l : Nat} {env : PySem.Env} (hk : env.scope.kind = .function) :
    swapsWith (.ListComp elt gs scope pos) (some (.Name x px)) l env = pure (swB env.scope x px (.ListComp elt gs scope pos)) := by
  have hb := blk_fn hk
  show (pure (env.blockKind == .function && env.kindOf x == some .local && px.line == pos.line && !(scope.names.any fun (n, k) => n == x && (k == .local || k == .cell))) : PySem.Sem Bool) = _
  rw [hb]
  rfl
/-- the names of a = b targets that are stored from the right; none: not known -/
def swK (sc : Scope) (ts vs : List Expr) : Option (Option (List Str)) :=
  if (!(ts.length == 2 || ts.length == 3) || vs.length != ts.length) = true then some none
  else if (vs.any fun | .Starred .. => true | _ => false) = true then some none
  else
    let line := (ts.head?.map (·.pos.line)).getD 0
    let names := ts.filterMap fun
      | .Name id pos => if (sc.names.lookup id == some .local && pos.line == line) = true then some id else none
      | _ => none
    if (names.length != ts.length || names.eraseDups.length != names.length) = true then some none
    else if vs.all (foldedForSure 8) = true then some none
    else if vs.all (constantsAlone 8) = true then none
    else some (some names)
theorem swK_ok {env : PySem.Env} (hk : env.scope.kind = .function) {ts vs : List Expr} {k k2 : Nat} {p p2 : Pos} {r : Option (List Str)} (h : swK env.scope ts vs = some r) : swappedStores [.Tuple ts k p] (.Tuple vs k2 p2) env = pure r := by
  have hb := blk_fn hk
  unfold swK at h
  unfold swappedStores
  simp only [hb, bne_self_eq_false, Bool.or_false]
  split at h
  · rename_i h1
    cases h
    rw [if_pos h1]
  · rename_i h1
    rw [if_neg h1]
    split at h
    · rename_i h2
      cases h
      exact if_pos h2
    · rename_i h2
      refine (if_neg h2).trans ?_
      dsimp only at h
      split at h
      · rename_i h3
        cases h
        exact if_pos h3
      · rename_i h3
        refine (if_neg h3).trans ?_
        split at h
        · rename_i h4
          cases h
          exact if_pos h4
        · rename_i h4
          refine (if_neg h4).trans ?_
          split at h
          · cases h
          · rename_i h5
            cases h
            exact if_neg h5
end Pv
namespace Pv
open PySem PySem.Spec PyProof.Rows L2

def notTup : Expr → Bool
  | .Tuple _ _ _ => false
  | _ => true
/-- where a comprehension is stored by its own end, the code is a comprehension (shut or not) -/
def lcOrFrz : CE → Bool
  | .lc _ _ _ _ => true
  | .frz (.lc _ _ _ _) => true
  | _ => false
def asgB (sc : Scope) (x : Str) (px : Pos) (e : CE) (v : Expr) : Bool := match v with
  | .ListComp _ _ _ _ => !swB sc x px v || lcOrFrz e
  | _ => !isComp v
def parB (sc : Scope) (is : List Nat) (ts vs : List Expr) : Bool := match swK sc ts vs with
  | some none => true
  | some (some names) => match is, ts with
    | [i, j], [.Name x _, .Name y _] => decide (vs.length = 2) && decide (names = [x, y]) && decide (i ≠ j) && decide (sc.names.lookup x = some .local) && decide (sc.names.lookup y = some .local)
    | [i, j, l], [.Name x _, .Name y _, .Name z _] => decide (vs.length = 3) && decide (names = [x, y, z]) && decide (i ≠ j) && decide (i ≠ l) && decide (j ≠ l) && decide (sc.names.lookup x = some .local) && decide (sc.names.lookup y = some .local) && decide (sc.names.lookup z = some .local)
    | _, _ => false
  | none => false
def chkTs (G : GT) (N : List Str) : CTs → Scope → List Expr → Bool
  | .nil, _, es => match es with
    | [] => true
    | _ => false
  | .nm i ts, sc, es => match es with
    | .Name x _ :: es => decide (N[i]? = some x) && locB sc x && chkTs G N ts sc es
    | _ => false
  | .sub o i ts, sc, es => match es with
    | .Subscript a b _ :: es => notSlice b && chk G N o sc a && chk G N i sc b && chkTs G N ts sc es
    | _ => false
def tabB (G : GT) (ents : List (Str × Nat)) (t : Str) (n : Nat) : Bool := match G.tabs.lookup t with
  | some names => ents.all fun p => match names.lookup p.1 with
    | some fx => decide (G.fns[p.2]? = some (fx, n))
    | none => false
  | none => false
mutual
def chkS (G : GT) (N : List Str) : CS → Scope → Stmt → Bool
  | .asg i e, sc, st => match st with
    | .Assign [.Name x px] v _ => decide (N[i]? = some x) && locB sc x && chk G N e sc v && asgB sc x px e v
    | _ => false
  | .par is es, sc, st => match st with
    | .Assign [.Tuple ts _ _] (.Tuple vs _ _) _ => decide (is.length ≤ 1000) && chkTg.go N sc is ts && chkA G N es sc vs && parB sc is ts vs
    | _ => false
  | .unp is e, sc, st => match st with
    | .Assign [.Tuple ts _ _] v _ => chkTg.go N sc is ts && notTup v && chk G N e sc v
    | _ => false
  | .gas tg es, sc, st => match st with
    | .Assign [.Tuple ts _ _] (.Tuple vs _ _) _ => decide (tg.len ≤ 1000) && chkTs G N tg sc ts && chkA G N es sc vs && decide (swK sc ts vs = some none)
    | _ => false
  | .gun tg e, sc, st => match st with
    | .Assign [.Tuple ts _ _] v _ => chkTs G N tg sc ts && notTup v && chk G N e sc v
    | _ => false
  | .six o i e, sc, st => match st with
    | .Assign [.Subscript a b _] v _ => notSlice b && chk G N e sc v && chk G N o sc a && chk G N i sc b
    | _ => false
  | .ex e, sc, st => match st with
    | .Expr v _ => !isComp v && chk G N e sc v
    | _ => false
  | .ret e, sc, st => match st with
    | .Return (some v) _ => chk G N e sc v
    | _ => false
  | .retN, _, st => match st with
    | .Return none _ => true
    | _ => false
  | .ite c a b, sc, st => match st with
    | .If t x y _ => chk G N c sc t && chkSs G N a sc x && chkSs G N b sc y
    | _ => false
  | .forr tg it body, sc, st => match st with
    | .For t i b [] _ => chkTg N sc tg t && chkI G N it sc i t && chkSs G N body sc b
    | _ => false
  | .whl c body, sc, st => match st with
    | .While t b [] _ => chk G N c sc t && chkSs G N body sc b
    | _ => false
  | .brk, _, st => match st with
    | .Break _ => true
    | _ => false
  | .cnt, _, st => match st with
    | .Continue _ => true
    | _ => false
  | .pas, _, st => match st with
    | .Pass _ => true
    | _ => false
  | .dead, _, _ => true
  | .lck _ c, sc, s => chkS G N c sc s
def chkSs (G : GT) (N : List Str) : CSs → Scope → List Stmt → Bool
  | .nil, _, st => match st with
    | [] => true
    | _ => false
  | .cons c cs, sc, st => match st with
    | s :: ss => chkS G N c sc s && chkSs G N cs sc ss
    | _ => false
  | .disp i tab ents e es tg cs, sc, st => match st with
    | .Assign [.Name x _] (.Subscript (.Name t _) b _) _ :: s2 :: rest => (decide (N[i]? = some x) && (locB sc x && (visB sc x && (plainName x && (decide (t = tab) && (glB sc t && (plainName t && (notSlice b && (chk G N e sc b && tabB G ents t es.len))))))))) &&
      ((match s2 with
        | .Return (some (.Call (.Name y _) (a :: as) [] _)) _ => decide (tg = none) && (decide (y = x) && chkA G N es sc (a :: as))
        | .Assign [.Name u _] (.Call (.Name y _) (a :: as) [] _) _ => (match tg with
          | some k => decide (N[k]? = some u) && locB sc u
          | none => false) && (decide (y = x) && chkA G N es sc (a :: as))
        | _ => false) && chkSs G N cs sc rest)
    | _ => false
end
section
variable {X : Cx}
theorem gs_okV {K : PySem.W.Frag} {H : Hp} {θ : Nat → Addr} {n : Nat} : ∀ {is : List Nat} {xs : List V} {vs : List VL} {ρ : Lo} {σ : L2.St} {Q : L2.St → Hp → Prop}, VRs K H θ n xs vs → vs.length = is.length → ER K H θ n ρ σ →
    (∀ σ1, ER K H θ n (setVs is vs ρ) σ1 → Q σ1 H) → gsOf is xs σ H Q
  | [], xs, vs, ρ, σ, Q, r, hl, he, k => by
    cases vs with
    | nil => cases r; exact ⟨rfl, k σ he⟩
    | cons => cases hl
  | i :: is, xs, vs, ρ, σ, Q, r, hl, he, k => by
    cases vs with
    | nil => cases hl
    | cons v vs =>
      cases r with
      | cons r rs => exact ⟨_, _, rfl, gs_okV rs (by simpa using hl) (he.set r) fun σ1 h1 => k σ1 h1⟩
/-- targets -/
def gTs (K : PySem.W.Frag) (Φ : Nat → Fs) : CTs → TGs
  | .nil => gNil
  | .nm i ts => gCons (gName i) (gTs K Φ ts)
  | .sub o i ts => gCons (gSub (rd K (ev Φ o)) (rd K (ev Φ i)) (rvSet K)) (gTs K Φ ts)
theorem gTs_ok {K : PySem.W.Frag} {Φ : Nat → Fs} : ∀ {ts : CTs} {xs : List V} {vs : List VL} {ρ ρ2 : Lo} {M M2 : Sto} {θ : Nat → Addr} {σ : L2.St} {H : Hp} {Q : L2.St → Hp → Prop}, SR K H θ M → VRs K H θ M.length xs vs → ER K H θ M.length ρ σ → setT Φ ts vs ρ M = some (ρ2, M2) →
    (∀ θ' H' σ', Go K θ M H θ' M2 H' → ER K H' θ' M2.length ρ2 σ' → Q σ' H') → gTs K Φ ts xs σ H Q
  | .nil, xs, [], ρ, ρ2, M, M2, θ, σ, H, Q, hs, r, he, e, k => by
    cases r
    simp only [setT] at e
    cases e
    exact ⟨rfl, k θ H σ (Go.refl hs) he⟩
  | .nil, xs, _ :: _, ρ, ρ2, M, M2, θ, σ, H, Q, hs, r, he, e, k => by simp [setT] at e
  | .nm i ts, xs, [], ρ, ρ2, M, M2, θ, σ, H, Q, hs, r, he, e, k => by simp [setT] at e
  | .nm i ts, xs, v :: vs, ρ, ρ2, M, M2, θ, σ, H, Q, hs, r, he, e, k => by
    cases r with
    | cons r rs =>
      simp only [setT] at e
      exact ⟨_, _, rfl, gTs_ok hs rs (he.set r) e k⟩
  | .sub o i ts, xs, [], ρ, ρ2, M, M2, θ, σ, H, Q, hs, r, he, e, k => by simp [setT] at e
  | .sub o i ts, xs, v :: vs, ρ, ρ2, M, M2, θ, σ, H, Q, hs, r, he, e, k => by
    cases r with
    | cons r rs =>
      simp only [setT, Option.bind_eq_some_iff] at e
      obtain ⟨⟨x, M1⟩, e1, ⟨z, M3⟩, e2, M4, e3, e4⟩ := e
      refine ⟨_, _, rfl, ⟨θ, ρ, M, x, M1, hs, he, e1, fun θ1 H1 w1 g1 r1 => ⟨θ1, ρ, M1, z, M3, g1.sr, he.go hs g1, e2, fun θ2 H2 w2 g2 r2 => ?_⟩⟩⟩
      have g12 := g1.trans hs g2
      refine ⟨θ2, M3, x, z, v, M4, g2.sr, r1.go g1.sr g2, r2, r.go hs g12, e3, fun θ3 H3 g3 => ?_⟩
      have g123 := g12.trans hs g3
      exact gTs_ok g3.sr (Paired.mapP rs fun _ _ q => VR.go q hs g123) (he.go hs g123) e4 fun θ4 H4 σ4 g4 he4 => k θ4 H4 σ4 (g123.trans hs g4) he4
theorem setT_len {Φ : Nat → Fs} : ∀ {ts : CTs} {vs : List VL} {ρ : Lo} {M : Sto} {r : Lo × Sto}, setT Φ ts vs ρ M = some r → vs.length = ts.len
  | .nil, [], _, _, _, _ => rfl
  | .nil, _ :: _, _, _, _, e => by simp [setT] at e
  | .nm _ _, [], _, _, _, e => by simp [setT] at e
  | .nm i ts, v :: vs, _, _, _, e => by
    simp only [setT] at e
    simp [CTs.len, setT_len e]
  | .sub _ _ _, [], _, _, _, e => by simp [setT] at e
  | .sub o i ts, v :: vs, _, _, _, e => by
    simp only [setT, Option.bind_eq_some_iff] at e
    obtain ⟨_, _, _, _, _, _, e4⟩ := e
    simp [CTs.len, setT_len e4]
/-- a name's value -/
def rdG (K : PySem.W.Frag) (i : Nat) (m : Lo → Sto → RS) : TS := tAsg (rd K m) (gName i)
theorem frzS_of {st : Stmt} {i : Nat} {m : Lo → Sto → RS} (h : PS X st (rdG X.K i m)) : PS X st (rdG X.K i fun ρ M => (m ρ M).bind fun r => frzS M.length r) := by
  refine ⟨fun pins s σ H D I q => ?_⟩
  obtain ⟨θ, ρ, M, v, M2, hs, hρ, e1, k⟩ := q
  simp only [Option.bind_eq_some_iff] at e1
  obtain ⟨⟨w, M1⟩, e1, e2⟩ := e1
  cases w with
  | d d =>
    cases e2
    exact h.run pins s σ H D I ⟨θ, ρ, M, _, _, hs, hρ, e1, k⟩
  | r l =>
    simp only [frzS] at e2
    split at e2
    · rename_i hl
      split at e2
      · rename_i ds eo
        split at e2
        · rename_i hlo
          cases e2
          obtain ⟨rfl, hl⟩ := hl
          refine thn (h.run pins s σ H { nx := fun σ' H1 => ∃ θ1 x, σ' = σ.set i (some x) ∧ Go X.K θ M H θ1 M1 H1 ∧ VR X.K H1 θ1 M1.length x (.r M.length), rt := fun _ _ => False } I ⟨θ, ρ, M, _, M1, hs, hρ, e1, fun θ1 H1 x g r => ⟨θ1, x, rfl, g, r⟩⟩) fun f s1 hf => ?_
          cases f with
          | next =>
            obtain ⟨σ1, H1, I1, θ1, x, rfl, g, r⟩ := hf
            obtain ⟨hl2, rfl⟩ := r
            obtain ⟨xs, qh, rr⟩ := g.sr.ob _ _ eo
            obtain ⟨o, I2⟩ := Inv.freeze I1 qh
            refine ⟨_, _, I2, k θ1 _ _ (Go.frz hs g hl hlo) (Rp.lst (.inl ⟨_, upd_same⟩) (RpA.kp (fun b u e st => ?_) _ _ rr))⟩
            rw [upd_ne]; exact e
            intro z; rw [z, qh] at e; cases e; exact st
          | brk => obtain ⟨_, _, _, z⟩ := hf; exact z.elim
          | cont => obtain ⟨_, _, _, z⟩ := hf; exact z.elim
          | ret u => obtain ⟨_, _, _, _, _, z⟩ := hf; exact z.elim
        · cases e2
      · cases e2
    · cases e2
theorem rdG_ok {K : PySem.W.Frag} {i : Nat} {m : Lo → Sto → RS} {D : Ends} {σ : L2.St} {H : Hp} (q : rdS K (fun ρ M => (m ρ M).bind fun (x, M1) => some (.nx, ρ.set i (some x), M1)) D σ H) : rdG K i m D σ H := by
  obtain ⟨θ, ρ, M, fl, ρ', M', hs, hρ, e, kk⟩ := q
  simp only [Option.bind_eq_some_iff] at e
  obtain ⟨⟨x, M1⟩, e1, e2⟩ := e
  cases e2
  exact ⟨θ, ρ, M, x, M1, hs, hρ, e1, fun θ1 H1 z g r => kk θ1 _ H1 g ((hρ.go hs g).set r)⟩
end
section
variable {G : GT} {Φ : Nat → Fs} {N : List Str} {k : Nat}
/-- a comprehension's parts -/
theorem lc_parts {X : Cx} (F : XF G Φ N k X) {tg : Tg} {it : CI} {cond elt : CE} {e : Expr} (h : chk G N (.lc tg it cond elt) X.env.scope e = true) :
    ∃ x t i ifs scope pos, e = .ListComp x [⟨t, i, ifs, 0⟩] scope pos ∧ BlkOk X.N X.env.scope scope (ownOf tg t) ∧ (ownOf tg t).map (·.2) = tg.slots ∧
      (∀ (s : Shared) (H : Hp) (C : Addr) (cl : List (Str × Addr)) (fp : List Addr), PG (X.blk s H scope (compEnvC scope cl C X.env) fp) t (gOf X.K tg)) ∧
      (∀ (s : Shared) (H : Hp) (C : Addr) (cl : List (Str × Addr)) (fp : List Addr), PE (X.blk s H scope (compEnvC scope cl C X.env) fp) x (rd X.K (ev Φ elt))) ∧
      (∃ tt, (∀ σ H Q, rdT X.K (ev Φ cond) σ H Q → tt σ H Q) ∧ ∀ (s : Shared) (H : Hp) (C : Addr) (cl : List (Str × Addr)) (fp : List Addr), PTs (X.blk s H scope (compEnvC scope cl C X.env) fp) ifs tt) ∧
      PI X t i (rdI X.K (evI Φ it)) ∧ ∀ y, foldedSetIterable i X.env y = pure y := by
  unfold chk at h
  split at h
  · rename_i x t i ifs scope pos
    have hh := and3 h
    clear h
    obtain ⟨h, h5⟩ := hh
    have hh := and3 h
    clear h
    obtain ⟨h, h4⟩ := hh
    have hh := and3 h
    clear h
    obtain ⟨h, h3⟩ := hh
    obtain ⟨h1, h2⟩ := and3 h
    refine ⟨x, t, i, ifs, scope, pos, rfl, by rw [F.nm]; exact blkOk_by h1, own_slots (sc := scope) h2, fun s H C cl fp => ?_, fun s H C cl fp => (sE elt (F.blk s H scope (compEnvC scope cl C X.env) fp) (e := x) h5).pe, ?_, sI it F h3, sNS it h3⟩
    · refine pg_of (X := X.blk s H scope (compEnvC scope cl C X.env) fp) F.calm F.nd F.nm (sc := scope) (fun y hy => ?_) h2
      obtain ⟨q1, q2⟩ := relS_lookup (sc := X.env.scope) hy
      refine ⟨q1, ?_⟩
      unfold locB at hy
      split at hy
      · exact .inr (q2 (by assumption))
      · rename_i hc
        refine .inl ?_
        show (scope.names.lookup y == some NameKind.cell) = true
        rw [hc]; rfl
      · cases hy
    · split at h4
      · refine ⟨tYes, fun σ H Q q => ?_, fun s H C cl fp => pts_nil⟩
        have hc : cond = .c (.bool true) := isTrueC_eq h4
        subst hc
        obtain ⟨θ, ρ, M, v, M', b, hs, hρ, e1, e2, kk⟩ := q
        simp only [ev] at e1
        cases e1; cases e2
        exact kk θ H (Go.refl hs)
      · rename_i f
        exact ⟨rdT X.K (ev Φ cond), fun _ _ _ z => z, fun s H C cl fp => pts_one (sE cond (F.blk s H scope (compEnvC scope cl C X.env) fp) (e := f) h4).pt⟩
      · cases h4
  · cases h
theorem ps_lc {X : Cx} (F : XF G Φ N k X) {tg : Tg} {it : CI} {cond elt : CE} {v : Expr} {i : Nat} {x : Str} {px pos : Pos} (h : chk G N (.lc tg it cond elt) X.env.scope v = true) (hi : N[i]? = some x)
    (hsw : swB X.env.scope x px v = true) : PS X (.Assign [.Name x px] v pos) (rdG X.K i (ev Φ (.lc tg it cond elt))) := by
  obtain ⟨ex, t, ii, ifs, scope, p2, rfl, ok, ow, hg, he, ⟨tt, ht1, ht2⟩, hI, hns⟩ := lc_parts F h
  have hev : ev Φ (.lc tg it cond elt) = lcM (evI Φ it) tg (ev Φ cond) (ev Φ elt) := by funext ρ M; simp only [ev, lcM]
  rw [hev]
  refine ⟨fun pins s σ H D I q => ?_⟩
  have hl : X.env.scope.names.lookup x = some .local := by
    unfold swB at hsw
    simp only [Bool.and_eq_true, beq_iff_eq] at hsw
    exact hsw.1.1
  have hs2 : swapsWith (.ListComp ex [⟨t, ii, ifs, 0⟩] scope p2) (some (.Name x px)) pos.line X.env = pure true := by rw [sw_comp I.ok.kind, hsw]
  have hp := ps_setLc (i := i) (py := px) (spos := pos) F.calm F.nd (by rw [F.nm]; exact hi) hl hs2 hI ok hg ht2 he hns
  rw [ow] at hp
  exact hp.run pins s σ H D I (lc_ok ht1 (Q := fun x H1 => gName i x σ H1 D.nx) q)
/-- name = value -/
theorem ps_name {X : Cx} (F : XF G Φ N k X) (hfn : ∀ x, X.fn x = true) {e : CE} {v : Expr} {i : Nat} {x : Str} {px pos : Pos} (h : chk G N e X.env.scope v = true) (hi : N[i]? = some x) (hx : locB X.env.scope x = true) (ha : asgB X.env.scope x px e v = true) :
    PS X (.Assign [.Name x px] v pos) (rdG X.K i (ev Φ e)) := by
  have plain : (∀ env : PySem.Env, env.scope = X.env.scope → env.scope.kind = .function → swapsWith v (some (.Name x px)) pos.line env = pure false) → PS X (.Assign [.Name x px] v pos) (rdG X.K i (ev Φ e)) := fun hw =>
    ⟨fun pins s σ H D I q => (ps_set (i := i) F.nd (by rw [F.nm]; exact hi) (locB_ok hx) (sE e F h).pe (hw _ rfl I.ok.kind) (.inl (hfn x))).run pins s σ H D I q⟩
  unfold asgB at ha
  split at ha
  · rename_i elt gs scope pc
    by_cases hsw : swB X.env.scope x px (.ListComp elt gs scope pc) = true
    · rw [hsw] at ha
      have ha : lcOrFrz e = true := by simpa using ha
      unfold lcOrFrz at ha
      split at ha
      · exact ps_lc F h hi hsw
      · rename_i tg' it' cond' el'
        rw [chk] at h
        have h2 := (and3 h).2
        refine PS.mono (frzS_of (ps_lc F h2 hi hsw)) fun D σ H q => ?_
        have hev : ∀ a : CE, ev Φ (.frz a) = fun ρ M => (ev Φ a ρ M).bind fun r => frzS M.length r := fun a => by funext ρ M; rw [ev]
        rw [hev] at q
        exact q
      · cases ha
    · refine plain fun env e1 e2 => ?_
      rw [sw_comp e2, e1]
      rw [Bool.not_eq_true] at hsw
      rw [hsw]
  · exact plain fun env e1 e2 => sw_no (by simpa using ha)
theorem for_ok {K : PySem.W.Frag} {mi : Lo → Sto → Option (PL × Sto)} {tg : Tg} {mb : Lo → Sto → RQ} {D : Ends} {σ : L2.St} {H : Hp}
    (q : rdS K (fun ρ M => (mi ρ M).bind fun (pl, M1) => forS pl (fun d ρ M => (setTg tg d ρ).bind fun ρ1 => mb ρ1 M) pl.its ρ M1) D σ H) : tFor (rdI K mi) (gOf K tg) (rdS K mb) D σ H := by
  obtain ⟨θ0, ρ, M0, fl, ρz, Mz, hs0, hρ0, e, kk⟩ := q
  simp only [Option.bind_eq_some_iff] at e
  obtain ⟨⟨pl, M⟩, e1, e2⟩ := e
  dsimp only at e2
  refine ⟨θ0, ρ, M0, pl, M, hs0, hρ0, e1, fun θ H1 J g1 it => ?_⟩
  have hs := g1.sr
  have hρ := hρ0.go hs0 g1
  generalize hf : (fun d ρ M => (setTg tg d ρ).bind fun ρ1 => mb ρ1 M) = f at e2
  refine ⟨fun i m σ2 H2 => m = pl.its.length - i ∧ i ≤ pl.its.length ∧ ∃ θ2 M2 ρ2, Go K θ M H1 θ2 M2 H2 ∧ ER K H2 θ2 M2.length ρ2 σ2 ∧ forS pl f (pl.its.drop i) ρ2 M2 = some (fl, ρz, Mz), ⟨_, rfl, Nat.zero_le _, θ, M, ρ, Go.refl hs, hρ, e2⟩, ?_⟩
  rintro i m σ2 H2 ⟨rfl, hi, θ2, M2, ρ2, g, he, el⟩
  have hok : pl.ok M2 = true := by
    cases hl : pl.its.drop i with
    | nil => rw [hl] at el; simp only [forS] at el; split at el; assumption; cases el
    | cons d ds => rw [hl] at el; simp only [forS] at el; split at el; assumption; cases el
  obtain ⟨go, stop, yld⟩ := it.ok θ2 M2 H2 g.sr g.len (fun j hj => g.th j hj) (g.kf hs) hok
  by_cases hlt : i < pl.its.length
  · refine .inr ⟨go i hlt, fun σ5 H5 => i + 1 ≤ pl.its.length ∧ ∃ θ2 M2 ρ2, Go K θ M H1 θ2 M2 H5 ∧ ER K H5 θ2 M2.length ρ2 σ5 ∧ forS pl f (pl.its.drop (i + 1)) ρ2 M2 = some (fl, ρz, Mz), fun σ5 H5 h5 => ⟨pl.its.length - (i + 1), by omega, rfl, h5⟩, fun x H3 hy => ?_⟩
    obtain ⟨ext, d, hd, rx⟩ := yld i x H3 hlt hy
    have hdrop : pl.its.drop i = d :: pl.its.drop (i + 1) := by
      obtain ⟨h1, h2⟩ := List.getElem?_eq_some_iff.mp hd
      rw [← h2]; exact List.drop_eq_getElem_cons h1
    rw [hdrop] at el
    simp only [forS, hok, if_true] at el
    have gx : Go K θ2 M2 H2 θ2 M2 H3 := Go.ext g.sr ext
    have he3 := he.go g.sr gx
    cases hst : setTg tg d ρ2 with
    | none => rw [← hf] at el; simp only [hst, Option.bind_none] at el; cases el
    | some ρ1 =>
      refine g_ok rx he3 hst fun σ4 hσ4 _ => ?_
      have hfd : f d ρ2 M2 = mb ρ1 M2 := by rw [← hf]; simp only [hst, Option.bind_some]
      rw [hfd] at el
      cases hb : mb ρ1 M2 with
      | none => rw [hb] at el; cases el
      | some r =>
        obtain ⟨fl2, ρ3, M3⟩ := r
        rw [hb] at el
        refine ⟨θ2, ρ1, M2, fl2, ρ3, M3, gx.sr, hσ4, hb, fun θ5 σ5 H5 g5 he5 => ?_⟩
        have gg := (g.trans hs gx).trans hs g5
        cases fl2 with
        | nx => exact ⟨hlt, θ5, M3, ρ3, gg, he5, el⟩
        | ct => exact ⟨hlt, θ5, M3, ρ3, gg, he5, el⟩
        | bk => cases el; exact kk θ5 σ5 H5 (g1.trans hs0 gg) he5
        | rt v => cases el; exact kk θ5 σ5 H5 (g1.trans hs0 gg) he5
  · have hi' : i = pl.its.length := by omega
    subst hi'
    refine .inl ⟨stop, ?_⟩
    rw [List.drop_length] at el
    simp only [forS, hok, if_true] at el
    cases el
    exact kk θ2 σ2 H2 (g1.trans hs0 g) he
theorem whl_ok {K : PySem.W.Frag} {mc : Lo → Sto → RS} {mb : Lo → Sto → RQ} {fu : Nat} {D : Ends} {σ : L2.St} {H : Hp}
    (q : rdS K (fun ρ M => whlS (fun ρ M => (mc ρ M).bind fun (x, M1) => (tru x M1).bind fun k => some (k, M1)) mb fu ρ M) D σ H) : tWhile (rdT K mc) (rdS K mb) D σ H := by
  obtain ⟨θ, ρ, M, fl, ρz, Mz, hs, hρ, e, kk⟩ := q
  refine ⟨fun m σ2 H2 => ∃ θ2 M2 ρ2, Go K θ M H θ2 M2 H2 ∧ ER K H2 θ2 M2.length ρ2 σ2 ∧ whlS (fun ρ M => (mc ρ M).bind fun (x, M1) => (tru x M1).bind fun k => some (k, M1)) mb m ρ2 M2 = some (fl, ρz, Mz), ⟨fu, θ, M, ρ, Go.refl hs, hρ, e⟩, ?_⟩
  rintro m σ2 H2 ⟨θ2, M2, ρ2, g, he, el⟩
  cases m with
  | zero => cases el
  | succ m =>
    simp only [whlS] at el
    cases hc : mc ρ2 M2 with
    | none => rw [hc] at el; simp only [Option.bind_none] at el; cases el
    | some r =>
      obtain ⟨c, M3⟩ := r
      rw [hc] at el
      simp only [Option.bind_some] at el
      cases ht : tru c M3 with
      | none => rw [ht] at el; simp only [Option.bind_none] at el; cases el
      | some b =>
        rw [ht] at el
        simp only [Option.bind_some] at el
        refine ⟨θ2, ρ2, M2, c, M3, b, g.sr, he, hc, ht, fun θ3 H3 g3 => ?_⟩
        have he3 := he.go g.sr g3
        cases b with
        | false =>
          cases el
          show (if false = true then _ else D.nx σ2 H3)
          rw [if_neg (by decide)]
          exact kk θ3 σ2 H3 (g.trans hs g3) he3
        | true =>
          show (if true = true then _ else _)
          rw [if_pos rfl]
          refine ⟨fun σ5 H5 => ∃ θ2 M2 ρ2, Go K θ M H θ2 M2 H5 ∧ ER K H5 θ2 M2.length ρ2 σ5 ∧ whlS (fun ρ M => (mc ρ M).bind fun (x, M1) => (tru x M1).bind fun k => some (k, M1)) mb m ρ2 M2 = some (fl, ρz, Mz), fun σ5 H5 h5 => ⟨m, Nat.lt_succ_self m, h5⟩, ?_⟩
          dsimp only at el
          cases hb : mb ρ2 M3 with
          | none => rw [hb] at el; cases el
          | some r =>
            obtain ⟨fl2, ρ4, M4⟩ := r
            rw [hb] at el
            refine ⟨θ3, ρ2, M3, fl2, ρ4, M4, g3.sr, he3, hb, fun θ5 σ5 H5 g5 he5 => ?_⟩
            have gg := (g.trans hs g3).trans hs g5
            cases fl2 with
            | nx => exact ⟨θ5, M4, ρ4, gg, he5, el⟩
            | ct => exact ⟨θ5, M4, ρ4, gg, he5, el⟩
            | bk => cases el; exact kk θ5 σ5 H5 gg he5
            | rt v => cases el; exact kk θ5 σ5 H5 gg he5
end
end Pv
namespace Pv
open PySem PySem.Spec PyProof.Rows L2
section
variable {G : GT} {Φ : Nat → Fs} {N : List Str} {k fu : Nat}
theorem pgs_T {X : Cx} (F : XF G Φ N k X) (hfn : ∀ x, X.fn x = true) : ∀ {tg : CTs} {es : List Expr}, chkTs G N tg X.env.scope es = true → PGs X es (gTs X.K Φ tg) ∧ (assignEach es X.env).length = tg.len ∧ (assignEach es X.env).findIdx? (·.1) = none
  | .nil, [], _ => ⟨pgs_nil, rfl, rfl⟩
  | .nil, _ :: _, h => by simp [chkTs] at h
  | .nm _ _, [], h => by simp [chkTs] at h
  | .nm i ts, t :: es, h => by
    cases t <;> simp only [chkTs, Bool.false_eq_true] at h
    rename_i x p
    simp only [Bool.and_eq_true, decide_eq_true_eq] at h
    obtain ⟨a, b, c⟩ := pgs_T F hfn h.2
    refine ⟨pgs_cons (pg_name F.nd (by rw [F.nm]; exact h.1.1) (locB_ok h.1.2) (.inl (hfn x))) a, ?_, ?_⟩
    · show (assignEach es X.env).length + 1 = ts.len + 1
      rw [b]
    · have e : assignEach (.Name x p :: es) X.env = (false, assign (.Name x p) X.env) :: assignEach es X.env := rfl
      rw [e, List.findIdx?_cons, c]; rfl
  | .sub _ _ _, [], h => by simp [chkTs] at h
  | .sub o i ts, t :: es, h => by
    cases t <;> simp only [chkTs, Bool.false_eq_true] at h
    rename_i u v p
    have hh := and3 h
    clear h
    obtain ⟨h, h4⟩ := hh
    have hh := and3 h
    clear h
    obtain ⟨h, h3⟩ := hh
    obtain ⟨h1, h2⟩ := and3 h
    obtain ⟨a, b, c⟩ := pgs_T F hfn h4
    refine ⟨pgs_cons (pg_sub (sE o F h2).pe (sE i F h3).pe (v_six (by have := F.units; omega)) (by intro _; cases v <;> first | rfl | (simp [notSlice] at h1))) a, ?_, ?_⟩
    · show (assignEach es X.env).length + 1 = ts.len + 1
      rw [b]
    · have e : assignEach (.Subscript u v p :: es) X.env = (false, assign (.Subscript u v p) X.env) :: assignEach es X.env := rfl
      rw [e, List.findIdx?_cons, c]; rfl
theorem ER.hide {K : PySem.W.Frag} {H : Hp} {θ : Nat → Addr} {ρ : Lo} {σ : L2.St} {n i : Nat} {x : V} (h : ER K H θ n ρ σ) : ER K H θ n (ρ.set i none) (σ.set i (some x)) := ⟨by simp [h.len], fun j w e => by
  by_cases hj : i = j
  · subst hj
    by_cases hi : i < ρ.length
    · rw [List.getElem?_set_self hi] at e; cases e
    · rw [List.getElem?_eq_none (by simpa using hi)] at e; cases e
  · rw [List.getElem?_set_ne hj] at e
    rw [List.getElem?_set_ne hj]
    exact h.at' j w e⟩
theorem lookup_mem {α β : Type} [BEq α] [LawfulBEq α] : ∀ {l : List (α × β)} {z : α} {j : β}, l.lookup z = some j → (z, j) ∈ l
  | [], _, _, h => by cases h
  | (y, k) :: l, z, j, h => by
    rw [List.lookup_cons] at h
    cases q : z == y with
    | true =>
      rw [q] at h
      cases h
      rw [eq_of_beq q]; exact List.mem_cons_self
    | false =>
      rw [q] at h
      exact List.mem_cons_of_mem _ (lookup_mem h)
theorem tab_at {X : Cx} (F : XF G Φ N k X) {ents : List (Str × Nat)} {t : Str} {n : Nat} {z : Str} {j : Nat} (h : tabB G ents t n = true) (hj : ents.lookup z = some j) :
    ∃ d f fx fd ps, X.mg t = some (.ref d) ∧ KDct X.K X.w d z (.ref f) ∧ FnOk X.prog X.w X.K X.mg X.base CX0 k f fd ps (spM X.K n (Φ j)) ∧ X.mg fx = some (.ref f) ∧ PySem.W.keepIn X.K (.ref f) = true ∧ Binds X.K fd ps [] := by
  unfold tabB at h
  split at h
  · rename_i names hn
    have h1 := List.all_eq_true.mp h _ (lookup_mem hj)
    simp only at h1
    split at h1
    · rename_i fx hf
      obtain ⟨d, hd, hk⟩ := F.tabs t names hn
      obtain ⟨f, hm, kd⟩ := hk z fx hf
      obtain ⟨f', fd, ps, F1, F2, F3, F4⟩ := F.fns j fx n (of_decide_eq_true h1)
      have : f' = f := by rw [hm] at F2; cases F2; rfl
      subst this
      exact ⟨d, f', fx, fd, ps, hd, kd, F1, F2, F3, F4⟩
    · cases h1
  · cases h
mutual
theorem sS : ∀ (c : CS) {X : Cx} (F : XF G Φ N k X) (hfn : ∀ x, X.fn x = true) {st : Stmt}, chkS G N c X.env.scope st = true → PS X st (rdS X.K (ex Φ fu c))
  | .asg i e, X, F, hfn, st, h => by
    unfold chkS at h
    split at h
    · have hh := and3 h
      clear h
      obtain ⟨h, h4⟩ := hh
      have hh := and3 h
      clear h
      obtain ⟨h, h3⟩ := hh
      obtain ⟨h1, h2⟩ := and3 h
      have hev : ex Φ fu (.asg i e) = fun ρ M => (ev Φ e ρ M).bind fun (x, M1) => some (.nx, ρ.set i (some x), M1) := by funext ρ M; rw [ex]
      rw [hev]
      exact PS.mono (ps_name F hfn h3 (of_decide_eq_true h1) h2 h4) fun D σ H q => rdG_ok q
    · cases h
  | .par is es, X, F, hfn, st, h => by
    unfold chkS at h
    split at h
    · rename_i ts kk p vs k2 p2 pos
      have hh := and3 h
      clear h
      obtain ⟨h, h3⟩ := hh
      have hh := and3 h
      clear h
      obtain ⟨h, h2⟩ := hh
      obtain ⟨h0, h1⟩ := and3 h
      have h0 : is.length ≤ 1000 := of_decide_eq_true h0
      have key : ∀ (D : Ends) (σ : L2.St) (H : Hp), rdS X.K (ex Φ fu (.par is es)) D σ H → rdA X.K (evs Φ es) σ H fun zs H1 => ∃ θ vs M ρ, SR X.K H1 θ M ∧ ER X.K H1 θ M.length ρ σ ∧ VRs X.K H1 θ M.length zs vs ∧ vs.length = is.length ∧
          ∀ θ' H' σ', Go X.K θ M H1 θ' M H' → ER X.K H' θ' M.length (setVs is vs ρ) σ' → D.nx σ' H' := by
        intro D σ H q
        obtain ⟨θ, ρ, M, fl, ρ', M', hs, hρ, e, kk⟩ := q
        rw [ex] at e
        simp only [Option.bind_eq_some_iff] at e
        obtain ⟨⟨vs, M1⟩, e1, e2⟩ := e
        dsimp only at e2
        split at e2
        · rename_i hl
          cases e2
          refine ⟨θ, ρ, M, vs, _, hs, hρ, e1, fun θ1 H1 zs g r => ⟨θ1, vs, _, ρ, g.sr, hρ.go hs g, r, hl, fun θ2 H2 σ2 g2 he => kk θ2 σ2 H2 (g.trans hs g2) he⟩⟩
        · cases e2
      unfold parB at h3
      split at h3
      · rename_i hk
        refine ⟨fun pins s σ H D I q => ?_⟩
        obtain ⟨a, b, c⟩ := pgs_of (X := X) F.nd F.nm (sc := X.env.scope) (fun x hx => ⟨locB_ok hx, .inl (hfn x)⟩) h1
        have hp := ps_asg (pos := pos) (pe_tup (pos := p2) (x1 := k2) (sA es F h2)) (pg_tup (k := kk) (pos := p) F.calm a b c) (by rfl) (swK_ok I.ok.kind hk) (by rfl)
        refine hp.run pins s σ H D I ?_
        obtain ⟨θ, ρ, M, zs, M1, q1, q2, q3, q4⟩ := key D σ H q
        refine ⟨θ, ρ, M, zs, M1, q1, q2, q3, fun θ1 H1 ws g r => ?_⟩
        obtain ⟨θ2, ws2, M2, ρ2, s2, he2, r2, hl, fin⟩ := q4 θ1 H1 ws g r
        have hlen : ws.length = is.length := by rw [Paired.length r2]; exact hl
        refine ⟨by rw [hlen]; have := sizeLine_eq; omega, fun pp hpp => ⟨pp, ws, rfl, .inl (.inl upd_same), hlen, ?_⟩⟩
        have gl := Go.lay (o := .tup ws) s2 hpp
        exact gs_okV (r2.go s2 gl) hl (he2.go s2 gl) fun σ1 h1 => fin θ2 _ σ1 gl h1
      · rename_i names hk
        split at h3
        · rename_i i j x px y py zz
          simp only [Bool.and_eq_true, decide_eq_true_eq] at h3
          obtain ⟨⟨⟨⟨hv, hnm⟩, hij⟩, hx⟩, hy⟩ := h3
          subst hnm
          obtain ⟨a, b, rfl⟩ : ∃ a b, vs = [a, b] := by
            match vs, hv with
            | [a, b], _ => exact ⟨a, b, rfl⟩
          simp only [chkTg.go, Bool.and_eq_true, decide_eq_true_eq] at h1
          refine ⟨fun pins s σ H D I q => ?_⟩
          have hp := ps_par (pos := pos) (px := px) (py := py) (pt := p) (kt := kk) (k2 := k2) (pt2 := p2) F.calm F.nd (i := i) (j := j) (by rw [F.nm]; exact h1.1.1) (by rw [F.nm]; exact h1.2.1.1) hij hx hy (sA es F h2) (swK_ok I.ok.kind hk) (by rfl)
          refine hp.run pins s σ H D I ?_
          obtain ⟨θ, ρ, M, zs, M1, q1, q2, q3, q4⟩ := key D σ H q
          refine ⟨θ, ρ, M, zs, M1, q1, q2, q3, fun θ1 H1 ws g r => ?_⟩
          obtain ⟨θ2, ws2, M2, ρ2, s2, he2, r2, hl, fin⟩ := q4 θ1 H1 ws g r
          match ws2, hl, r2 with
          | [w1, w2], _, .cons r1 (.cons r2 .nil) =>
            exact ⟨_, _, rfl, fin θ2 H1 _ (Go.refl s2) ((he2.set r1).set r2)⟩
        · rename_i i j l x px y py z pz zz
          simp only [Bool.and_eq_true, decide_eq_true_eq] at h3
          obtain ⟨⟨⟨⟨⟨⟨⟨hv, hnm⟩, hij⟩, hil⟩, hjl⟩, hx⟩, hy⟩, hz⟩ := h3
          subst hnm
          obtain ⟨a, b, c, rfl⟩ : ∃ a b c, vs = [a, b, c] := by
            match vs, hv with
            | [a, b, c], _ => exact ⟨a, b, c, rfl⟩
          simp only [chkTg.go, Bool.and_eq_true, decide_eq_true_eq] at h1
          refine ⟨fun pins s σ H D I q => ?_⟩
          have hp := ps_par3 (pos := pos) (px := px) (py := py) (pz := pz) (pt := p) (kt := kk) (k2 := k2) (pt2 := p2) F.calm F.nd (i := i) (j := j) (l := l) (by rw [F.nm]; exact h1.1.1) (by rw [F.nm]; exact h1.2.1.1) (by rw [F.nm]; exact h1.2.2.1.1) hij hil hjl hx hy hz (sA es F h2) (swK_ok I.ok.kind hk) (by rfl)
          refine hp.run pins s σ H D I ?_
          obtain ⟨θ, ρ, M, zs, M1, q1, q2, q3, q4⟩ := key D σ H q
          refine ⟨θ, ρ, M, zs, M1, q1, q2, q3, fun θ1 H1 ws g r => ?_⟩
          obtain ⟨θ2, ws2, M2, ρ2, s2, he2, r2, hl, fin⟩ := q4 θ1 H1 ws g r
          match ws2, hl, r2 with
          | [w1, w2, w3], _, .cons r1 (.cons r2 (.cons r3 .nil)) =>
            exact ⟨_, _, _, rfl, fin θ2 H1 _ (Go.refl s2) (((he2.set r1).set r2).set r3)⟩
        · cases h3
      · cases h3
    · cases h
  | .unp is e, X, F, hfn, st, h => by
    unfold chkS at h
    split at h
    · rename_i ts kk p v pos
      have hh := and3 h
      clear h
      obtain ⟨h, h3⟩ := hh
      obtain ⟨h1, h2⟩ := and3 h
      obtain ⟨a, b, c⟩ := pgs_of (X := X) F.nd F.nm (sc := X.env.scope) (fun x hx => ⟨locB_ok hx, .inl (hfn x)⟩) h1
      have hp := ps_asg (pos := pos) (sE e F h3).pe (pg_tup (k := kk) (pos := p) F.calm a b c) (by cases v <;> rfl) (by cases v <;> first | rfl | (simp [notTup] at h2)) (by rfl)
      refine PS.mono hp fun D σ H q => ?_
      obtain ⟨θ, ρ, M, fl, ρ', M', hs, hρ, e, kk⟩ := q
      rw [ex] at e
      simp only [Option.bind_eq_some_iff] at e
      obtain ⟨⟨x, M1⟩, e1, e2⟩ := e
      dsimp only at e2
      refine ⟨θ, ρ, M, x, M1, hs, hρ, e1, fun θ1 H1 z g r => ?_⟩
      split at e2
      · rename_i ds
        split at e2
        · rename_i hl
          cases e2
          cases r with
          | tup q r =>
            exact ⟨_, _, rfl, .inl (.inl q), by rw [r.length]; exact hl, gs_ok r hl (hρ.go hs g) fun σ1 h1 _ => kk θ1 σ1 H1 g h1⟩
        · cases e2
      · cases e2
    · cases h
  | .gas tg es, X, F, hfn, st, h => by
    unfold chkS at h
    split at h
    · rename_i ts kk p vs k2 p2 pos
      have hh := and3 h
      clear h
      obtain ⟨h, h3⟩ := hh
      have hh := and3 h
      clear h
      obtain ⟨h, h2⟩ := hh
      obtain ⟨h0, h1⟩ := and3 h
      have h0 : tg.len ≤ 1000 := of_decide_eq_true h0
      have hk := of_decide_eq_true h3
      refine ⟨fun pins s σ H D I q => ?_⟩
      obtain ⟨a, b, c⟩ := pgs_T F hfn h1
      have hp := ps_asg (pos := pos) (pe_tup (pos := p2) (x1 := k2) (sA es F h2)) (pg_tup (k := kk) (pos := p) F.calm a b c) (by rfl) (swK_ok I.ok.kind hk) (by rfl)
      refine hp.run pins s σ H D I ?_
      obtain ⟨θ, ρ, M, fl, ρ', M', hs, hρ, e, kk⟩ := q
      rw [ex] at e
      simp only [Option.bind_eq_some_iff] at e
      obtain ⟨⟨vs, M1⟩, e1, ⟨ρ2, M2⟩, e2, e3⟩ := e
      cases e3
      have hl := setT_len e2
      refine ⟨θ, ρ, M, vs, M1, hs, hρ, e1, fun θ1 H1 ws g r => ?_⟩
      have hlen : ws.length = tg.len := by rw [Paired.length r]; exact hl
      refine ⟨by rw [hlen]; have := sizeLine_eq; omega, fun pp hpp => ⟨pp, ws, rfl, .inl (.inl upd_same), hlen, ?_⟩⟩
      have gl := Go.lay (o := .tup ws) g.sr hpp
      have g1 := g.trans hs gl
      exact gTs_ok gl.sr (Paired.mapP r fun _ _ q => VR.go q g.sr gl) (hρ.go hs g1) e2 fun θ3 H3 σ3 g3 h3 => kk θ3 σ3 H3 (g1.trans hs g3) h3
    · cases h
  | .gun tg e, X, F, hfn, st, h => by
    unfold chkS at h
    split at h
    · rename_i ts kk p v pos
      have hh := and3 h
      clear h
      obtain ⟨h, h3⟩ := hh
      obtain ⟨h1, h2⟩ := and3 h
      obtain ⟨a, b, c⟩ := pgs_T F hfn h1
      have hp := ps_asg (pos := pos) (sE e F h3).pe (pg_tup (k := kk) (pos := p) F.calm a b c) (by cases v <;> rfl) (by cases v <;> first | rfl | (simp [notTup] at h2)) (by rfl)
      refine PS.mono hp fun D σ H q => ?_
      obtain ⟨θ, ρ, M, fl, ρ', M', hs, hρ, e, kk⟩ := q
      rw [ex] at e
      simp only [Option.bind_eq_some_iff] at e
      obtain ⟨⟨x, M1⟩, e1, e2⟩ := e
      dsimp only at e2
      refine ⟨θ, ρ, M, x, M1, hs, hρ, e1, fun θ1 H1 z g r => ?_⟩
      split at e2
      · rename_i ds
        simp only [Option.bind_eq_some_iff] at e2
        obtain ⟨⟨ρ2, M2⟩, e2, e3⟩ := e2
        cases e3
        have hl := setT_len e2
        rw [List.length_map] at hl
        cases r with
        | tup q r => exact ⟨_, _, rfl, .inl (.inl q), by rw [r.length]; exact hl, gTs_ok g.sr (RpA.vrs r) (hρ.go hs g) e2 fun θ3 H3 σ3 g3 h3 => kk θ3 σ3 H3 (g.trans hs g3) h3⟩
      · cases e2
    · cases h
  | .six o i e, X, F, hfn, st, h => by
    unfold chkS at h
    split at h
    · rename_i a b p v pos
      have hh := and3 h
      clear h
      obtain ⟨h, h4⟩ := hh
      have hh := and3 h
      clear h
      obtain ⟨h, h3⟩ := hh
      obtain ⟨h1, h2⟩ := and3 h
      have hp := ps_asg (pos := pos) (sE e F h2).pe (pg_sub (pos := p) (sE o F h3).pe (sE i F h4).pe (v_six (by have := F.units; omega)) (by intro _; cases b <;> first | rfl | (simp [notSlice] at h1))) (by cases v <;> rfl) (by cases v <;> rfl) (by rfl)
      refine PS.mono hp fun D σ H q => ?_
      obtain ⟨θ, ρ, M, fl, ρ', M', hs, hρ, e, kk⟩ := q
      rw [ex] at e
      simp only [Option.bind_eq_some_iff] at e
      obtain ⟨⟨x, M1⟩, e1, ⟨y, M2⟩, e2, ⟨z, M3⟩, e3, M4, e4, e5⟩ := e
      cases e5
      refine ⟨θ, ρ, M, x, M1, hs, hρ, e1, fun θ1 H1 w1 g1 r1 => ⟨θ1, ρ, M1, y, M2, g1.sr, hρ.go hs g1, e2, fun θ2 H2 w2 g2 r2 => ?_⟩⟩
      refine ⟨θ2, ρ, M2, z, M3, g2.sr, (hρ.go hs g1).go g1.sr g2, e3, fun θ3 H3 w3 g3 r3 => ?_⟩
      have g123 := (g1.trans hs g2).trans hs g3
      refine ⟨θ3, M3, y, z, x, _, g3.sr, r2.go g2.sr g3, r3, (r1.go g1.sr g2).go g2.sr g3, e4, fun θ4 H4 g4 => ?_⟩
      exact kk θ4 σ H4 (g123.trans hs g4) (hρ.go hs (g123.trans hs g4))
    · cases h
  | .ex e, X, F, hfn, st, h => by
    unfold chkS at h
    split at h
    · obtain ⟨h1, h2⟩ := and3 h
      refine PS.mono (ps_expr (sE e F h2).pe (sw_no (by simpa using h1))) fun D σ H q => ?_
      obtain ⟨θ, ρ, M, fl, ρ', M', hs, hρ, e, kk⟩ := q
      rw [ex] at e
      simp only [Option.bind_eq_some_iff] at e
      obtain ⟨⟨x, M1⟩, e1, e2⟩ := e
      cases e2
      exact ⟨θ, ρ, M, x, M1, hs, hρ, e1, fun θ1 H1 z g r => kk θ1 σ H1 g (hρ.go hs g)⟩
    · cases h
  | .ret e, X, F, hfn, st, h => by
    unfold chkS at h
    split at h
    · refine PS.mono (ps_ret (sE e F h).pe) fun D σ H q => ?_
      obtain ⟨θ, ρ, M, fl, ρ', M', hs, hρ, e, kk⟩ := q
      rw [ex] at e
      simp only [Option.bind_eq_some_iff] at e
      obtain ⟨⟨x, M1⟩, e1, e2⟩ := e
      cases e2
      exact ⟨θ, ρ, M, x, M1, hs, hρ, e1, fun θ1 H1 z g r => kk θ1 σ H1 g (hρ.go hs g) z r⟩
    · cases h
  | .retN, X, F, hfn, st, h => by
    unfold chkS at h
    split at h
    · refine PS.mono ps_retN fun D σ H q => ?_
      obtain ⟨θ, ρ, M, fl, ρ', M', hs, hρ, e, kk⟩ := q
      rw [ex] at e
      cases e
      exact kk θ σ H (Go.refl hs) hρ _ .non
    · cases h
  | .ite c a b, X, F, hfn, st, h => by
    unfold chkS at h
    split at h
    · have hh := and3 h
      clear h
      obtain ⟨h, h3⟩ := hh
      obtain ⟨h1, h2⟩ := and3 h
      refine PS.mono (ps_if (sE c F h1).pt (sSs a F hfn h2) (sSs b F hfn h3)) fun D σ H q => ?_
      obtain ⟨θ, ρ, M, fl, ρ', M', hs, hρ, e, kk⟩ := q
      rw [ex] at e
      simp only [Option.bind_eq_some_iff] at e
      obtain ⟨⟨x, M1⟩, e1, k1, e2, e3⟩ := e
      refine ⟨θ, ρ, M, x, M1, k1, hs, hρ, e1, e2, fun θ1 H1 g1 => ?_⟩
      cases k1 with
      | true =>
        rw [if_pos rfl] at e3
        show (if true = true then _ else _)
        rw [if_pos rfl]
        exact ⟨θ1, ρ, M1, fl, ρ', M', g1.sr, hρ.go hs g1, e3, fun θ2 σ2 H2 g2 he => kk θ2 σ2 H2 (g1.trans hs g2) he⟩
      | false =>
        rw [if_neg (by decide)] at e3
        show (if false = true then _ else _)
        rw [if_neg (by decide)]
        exact ⟨θ1, ρ, M1, fl, ρ', M', g1.sr, hρ.go hs g1, e3, fun θ2 σ2 H2 g2 he => kk θ2 σ2 H2 (g1.trans hs g2) he⟩
    · cases h
  | .forr tg it body, X, F, hfn, st, h => by
    unfold chkS at h
    split at h
    · have hh := and3 h
      clear h
      obtain ⟨h, h3⟩ := hh
      obtain ⟨h1, h2⟩ := and3 h
      have hev : ex Φ fu (.forr tg it body) = fun ρ M => (evI Φ it ρ M).bind fun (pl, M1) => forS pl (fun d ρ M => (setTg tg d ρ).bind fun ρ1 => exs Φ fu body ρ1 M) pl.its ρ M1 := by funext ρ M; rw [ex]
      rw [hev]
      have hp : PassesOwn (model X.prog X.w) X.A X.env X.xe := by rw [F.nox]; exact PassesOwn.never
      exact PS.mono (ps_for hp F.calm (sI it F h2) (pg_of F.calm F.nd F.nm (fun x hx => ⟨locB_ok hx, .inl (hfn x)⟩) h1) (sSs body F hfn h3) (sNS it h2)) fun D σ H q => for_ok q
    · cases h
  | .whl c body, X, F, hfn, st, h => by
    unfold chkS at h
    split at h
    · obtain ⟨h1, h2⟩ := and3 h
      have hev : ex Φ fu (.whl c body) = fun ρ M => whlS (fun ρ M => (ev Φ c ρ M).bind fun (x, M1) => (tru x M1).bind fun k => some (k, M1)) (exs Φ fu body) fu ρ M := by funext ρ M; rw [ex]
      rw [hev]
      have hp : PassesOwn (model X.prog X.w) X.A X.env X.xe := by rw [F.nox]; exact PassesOwn.never
      exact PS.mono (ps_while hp (sE c F h1).pt (sSs body F hfn h2)) fun D σ H q => whl_ok q
    · cases h
  | .brk, X, F, hfn, st, h => by
    unfold chkS at h
    split at h
    · refine PS.mono ps_break fun D σ H q => ?_
      obtain ⟨θ, ρ, M, fl, ρ', M', hs, hρ, e, kk⟩ := q
      rw [ex] at e
      cases e
      exact kk θ σ H (Go.refl hs) hρ
    · cases h
  | .cnt, X, F, hfn, st, h => by
    unfold chkS at h
    split at h
    · refine PS.mono ps_continue fun D σ H q => ?_
      obtain ⟨θ, ρ, M, fl, ρ', M', hs, hρ, e, kk⟩ := q
      rw [ex] at e
      cases e
      exact kk θ σ H (Go.refl hs) hρ
    · cases h
  | .pas, X, F, hfn, st, h => by
    unfold chkS at h
    split at h
    · refine PS.mono ps_pass fun D σ H q => ?_
      obtain ⟨θ, ρ, M, fl, ρ', M', hs, hρ, e, kk⟩ := q
      rw [ex] at e
      cases e
      exact kk θ σ H (Go.refl hs) hρ
    · cases h
  | .dead, X, F, hfn, st, h => by
    refine PS.mono ps_never fun D σ H q => ?_
    obtain ⟨θ, ρ, M, fl, ρ', M', hs, hρ, e, kk⟩ := q
    rw [ex] at e
    cases e
  | .lck a c, X, F, hfn, st, h => by
    unfold chkS at h
    refine PS.mono (ps_lock (sS c F hfn h)) fun D σ H q => ?_
    obtain ⟨θ, ρ, M, fl, ρ', M', hs, hρ, e1, k⟩ := q
    rw [ex] at e1
    simp only [Option.bind_eq_some_iff] at e1
    obtain ⟨⟨x, _⟩, _, e1⟩ := e1
    dsimp only at e1
    cases x with
    | d d => cases e1
    | r l =>
      simp only [lckQ] at e1
      split at e1
      · rename_i t kvs eo
        simp only [Option.bind_eq_some_iff] at e1
        obtain ⟨⟨y, ρ2, M2⟩, e1, e2⟩ := e1
        cases e2
        obtain ⟨u, hu, mu, hk⟩ := lock_in hs eo
        refine ⟨θ l, u, hu, mu, fun od => ?_⟩
        obtain ⟨g1, hk⟩ := hk od
        refine ⟨θ, ρ, _, y, ρ2, M2, g1.sr, hρ.go hs g1, e1, fun θ2 σ2 H2 g2 he => ?_⟩
        obtain ⟨h2, kp2, g3⟩ := hk θ2 M2 H2 g2
        have he' : ER X.K (upd H2 (θ l) u) θ2 (M2.set l (.dct t kvs)).length ρ2 σ2 := ⟨he.len, fun i v e => by
          obtain ⟨z, h1, h3⟩ := he.at' i v e
          exact ⟨z, h1, h3.kp kp2 (by rw [List.length_set]; exact Nat.le_refl _) fun _ _ => rfl⟩⟩
        have := k θ2 σ2 _ g3 he'
        cases y with
        | nx => exact ⟨h2, this⟩
        | bk => exact ⟨h2, this⟩
        | ct => exact ⟨h2, this⟩
        | rt v => exact fun x r => ⟨h2, this x (r.kp kp2 (by rw [List.length_set]; exact Nat.le_refl _) fun _ _ => rfl)⟩
      · cases e1
theorem sSs : ∀ (c : CSs) {X : Cx} (F : XF G Φ N k X) (hfn : ∀ x, X.fn x = true) {st : List Stmt}, chkSs G N c X.env.scope st = true → PSs X st (rdS X.K (exs Φ fu c))
  | .nil, X, F, hfn, st, h => by
    unfold chkSs at h
    split at h
    · refine PSs.mono pss_nil fun D σ H q => ?_
      obtain ⟨θ, ρ, M, fl, ρ', M', hs, hρ, e, kk⟩ := q
      rw [exs] at e
      cases e
      exact kk θ σ H (Go.refl hs) hρ
    · cases h
  | .cons c cs, X, F, hfn, st, h => by
    unfold chkSs at h
    split at h
    · obtain ⟨h1, h2⟩ := and3 h
      refine PSs.mono (pss_cons (sS c F hfn h1) (sSs cs F hfn h2)) fun D σ H q => ?_
      obtain ⟨θ, ρ, M, fl, ρ', M', hs, hρ, e, kk⟩ := q
      rw [exs] at e
      cases hc : ex Φ fu c ρ M with
      | none => rw [hc] at e; cases e
      | some r =>
        obtain ⟨fl1, ρ1, M1⟩ := r
        rw [hc] at e
        refine ⟨θ, ρ, M, fl1, ρ1, M1, hs, hρ, hc, fun θ1 σ1 H1 g1 he1 => ?_⟩
        cases fl1 with
        | nx => exact ⟨θ1, ρ1, M1, fl, ρ', M', g1.sr, he1, e, fun θ2 σ2 H2 g2 he => kk θ2 σ2 H2 (g1.trans hs g2) he⟩
        | bk => cases e; exact kk θ1 σ1 H1 g1 he1
        | ct => cases e; exact kk θ1 σ1 H1 g1 he1
        | rt v => cases e; exact kk θ1 σ1 H1 g1 he1
    · cases h
  | .disp i tab ents ce es tg cs, X, F, hfn, st, h => by
    unfold chkSs at h
    split at h
    · rename_i x px t pt b ps pa s2 rest
      obtain ⟨h, h2⟩ := and3 h
      obtain ⟨hN, h⟩ := and3 h
      obtain ⟨hloc, h⟩ := and3 h
      obtain ⟨hvis, h⟩ := and3 h
      obtain ⟨hpx, h⟩ := and3 h
      obtain ⟨htt, h⟩ := and3 h
      obtain ⟨hgt, h⟩ := and3 h
      obtain ⟨hpt, h⟩ := and3 h
      obtain ⟨hns, h⟩ := and3 h
      obtain ⟨he, htab⟩ := and3 h
      obtain ⟨h2, hrest⟩ := and3 h2
      have hN := of_decide_eq_true hN
      refine ⟨fun pins s σ H D I q => ?_⟩
      obtain ⟨θ, ρ, M, fl, ρ', M', hs, hρ, e, kk⟩ := q
      rw [exs] at e
      split at e
      rotate_left
      · cases e
      rename_i hil
      simp only [Option.bind_eq_some_iff] at e
      obtain ⟨⟨v0, M1⟩, e1, e⟩ := e
      split at e
      rotate_left
      · cases e
      rename_i z hz0
      simp only at hz0
      subst hz0
      split at e
      rotate_left
      · cases e
      rename_i j hj
      simp only [Option.bind_eq_some_iff] at e
      obtain ⟨⟨vs, M2⟩, e2, ⟨v, M3⟩, e3, e⟩ := e
      obtain ⟨d, f, fx, fd, psn, hmd, hkd, F1, F2, F3, F4⟩ := tab_at F htab hj
      have hσ : i < σ.length := by rw [hρ.len]; exact hil
      have hp1 := ps_asg (pos := pa) (pe_ix (pos := ps) ix_kdict (pe_glob (pos := pt) (v := .ref d) (glB_ok hgt) hmd rfl (plain_ok hpt).1) (sE ce F he).pe (by intro v u; cases b <;> first | rfl | (simp [notSlice] at hns))) (pg_name (pos := px) F.nd (by rw [F.nm]; exact hN) (locB_ok hloc) (.inl (hfn x)))
      have hcall : ∀ {y : Str} {py pc : Pos} {a : Expr} {as : List Expr}, y = x → chkA G N es X.env.scope (a :: as) = true → PE X (.Call (.Name y py) (a :: as) [] pc) (tCallL i f (spM X.K es.len (Φ j)) [] E0 (rdA X.K (evs Φ es))) := by
        intro y py pc a as hy ha
        subst hy
        cases es with
        | nil => simp [chkA] at ha
        | cons ea eas =>
          have h4' := ha
          simp only [chkA] at h4'
          exact pe_callL F1 F.room (by rw [F.nm]; exact hN) (visB_ok hvis) F3 F4 .nil pass0 (sA _ F ha) (plain_ok hpx).1 (plain_ok hpx).2.1 (star_cons (and3 h4').1) (star_none (and3 h4').2).1
      -- what the call promises
      have prom : ∀ {θ1 : Nat → Addr} {H1 : Hp} (Q : VK), Go X.K θ M H θ1 M1 H1 → Kon X.K θ1 M1 H1 v M3 Q → tCallL i f (spM X.K es.len (Φ j)) [] E0 (rdA X.K (evs Φ es)) (σ.set i (some (.ref f))) H1 Q := by
        intro θ1 H1 Q g1 kq
        refine ⟨List.getElem?_set_self hσ, θ1, ρ.set i none, M1, vs, M2, g1.sr, (hρ.go hs g1).hide, e2, fun θ2 H2 zs g2 r2 => ?_⟩
        show spM X.K es.len (Φ j) (zs ++ []) H2 Q E0
        rw [List.append_nil]
        exact ⟨by rw [Paired.length r2]; exact evs_len es e2, θ2, M2, vs, v, M3, g2.sr, r2, e3, fun θ3 H3 w3 g3 r3 => kq θ3 H3 w3 (g2.trans g1.sr g3) r3⟩
      have first : ∀ (D1 : Ends), (∀ θ1 H1, Go X.K θ M H θ1 M1 H1 → D1.nx (σ.set i (some (.ref f))) H1) → tAsg (tOp (rIxD X.K X.w) (tC (.ref d)) (rd X.K (ev Φ ce))) (gName i) D1 σ H := by
        intro D1 k1
        refine ⟨θ, ρ, M, _, M1, hs, hρ, e1, fun θ1 H1 y g1 r1 => ?_⟩
        cases r1
        exact ⟨d, z, .ref f, rfl, rfl, hkd, k1 θ1 H1 g1⟩
      split at h2
      · rename_i y py a as pc pr _
        obtain ⟨ht, h2⟩ := and3 h2
        obtain ⟨hy, ha⟩ := and3 h2
        have ht := of_decide_eq_true ht
        subst ht
        simp only [Option.some.injEq, Prod.mk.injEq] at e
        obtain ⟨rfl, rfl, rfl⟩ := e
        refine (pss_cons hp1 (pss_cons (ps_ret (pos := pr) (hcall (of_decide_eq_true hy) ha)) (sSs cs F hfn hrest))).run pins s σ H D I ?_
        refine first _ fun θ1 H1 g1 => ?_
        exact prom _ g1 fun θ3 H3 w3 g3 r3 => kk θ3 (σ.set i (some (.ref f))) H3 (g1.trans hs g3) (((hρ.go hs g1).hide (x := .ref f)).go g1.sr g3) w3 r3
      · rename_i u pu y py a as pc pr _
        obtain ⟨ht, h2⟩ := and3 h2
        obtain ⟨hy, ha⟩ := and3 h2
        split at ht
        rotate_left
        · cases ht
        rename_i kt
        obtain ⟨hk1, hk2⟩ := and3 ht
        have hp2 := ps_asg (pos := pr) (hcall (py := py) (pc := pc) (of_decide_eq_true hy) ha) (pg_name (pos := pu) F.nd (by rw [F.nm]; exact of_decide_eq_true hk1) (locB_ok hk2) (.inl (hfn u)))
        refine (pss_cons hp1 (pss_cons hp2 (sSs cs F hfn hrest))).run pins s σ H D I ?_
        refine first _ fun θ1 H1 g1 => ?_
        refine prom _ g1 fun θ3 H3 w3 g3 r3 => ?_
        have g13 := g1.trans hs g3
        exact ⟨θ3, _, M3, fl, ρ', M', g3.sr, (((hρ.go hs g1).hide (x := .ref f)).go g1.sr g3).set r3, e, fun θ4 σ4 H4 g4 he4 => kk θ4 σ4 H4 (g13.trans hs g4) he4⟩
      · cases h2
    · cases h
end
end
end Pv
namespace Pv
open PySem PySem.Spec PyProof.Rows L2

theorem er_start {K : PySem.W.Frag} {H : Hp} {θ : Nat → Addr} {n : Nat} {N : List Str} {vs : List V} {as : List VL} (r : VRs K H θ n vs as) :
    ER K H θ n (as.map some ++ List.replicate (N.length - as.length) none) (start N vs) := by
  have hl := Paired.length r
  refine ⟨by simp [L2.start, hl], fun i v e => ?_⟩
  by_cases hi : i < as.length
  · rw [List.getElem?_append_left (by simpa using hi), List.getElem?_map] at e
    cases q : as[i]? with
    | none => rw [q] at e; cases e
    | some a =>
      rw [q] at e
      cases e
      obtain ⟨x, h1, h2⟩ := paired_get r q
      refine ⟨x, ?_, h2⟩
      unfold L2.start
      rw [List.getElem?_append_left (by rw [List.length_map, hl]; exact hi), List.getElem?_map, h1]; rfl
  · rw [List.getElem?_append_right (by simpa using hi)] at e
    rw [List.getElem?_replicate] at e
    split at e <;> cases e
/-- a place behind is brought to the cut's end -/
theorem Go.bring {K : PySem.W.Frag} {θ θ' : Nat → Addr} {M M' : Sto} {H H' : Hp} {l : Nat} {o : MO} (g : Go K θ M H θ' M' H') (hl : (M'.take M.length).all (·.lo M.length) = true) (hn : M.length ≤ l) (eo : M'[l]? = some o) (lo : o.lo M.length = true) :
    Go K θ M H (fun i => if i = M.length then θ' l else θ' i) (M'.take M.length ++ [o]) H' := by
  have g1 := g.cut hl
  have hz : (M'.take M.length).length = M.length := by rw [List.length_take]; exact Nat.min_eq_left g.len
  have hlt : l < M'.length := (List.getElem?_eq_some_iff.mp eo).1
  have hne : ∀ i, i < M.length → θ' i ≠ θ' l := fun i hi q => by
    have := g.sr.inj i l (by have := g.len; omega) hlt q
    omega
  refine ⟨⟨fun i j hi hj e => ?_, fun i u e => ?_⟩, by simp; omega, fun i hi => ?_, g.fr, fun i h1 h2 => ?_, fun i u q h => by
    obtain ⟨h1, h2⟩ := g1.lk i u q h
    have hi : i < (M'.take M.length).length := (List.getElem?_eq_some_iff.mp h1).1
    exact ⟨by rw [List.getElem?_append_left hi]; exact h1, h2⟩⟩
  · simp only [List.length_append, List.length_singleton, hz] at hi hj
    by_cases h1 : i = M.length
    · by_cases h2 : j = M.length
      · omega
      · rw [if_pos h1, if_neg h2] at e; exact absurd e.symm (hne j (by omega))
    · by_cases h2 : j = M.length
      · rw [if_neg h1, if_pos h2] at e; exact absurd e (hne i (by omega))
      · rw [if_neg h1, if_neg h2] at e; exact g1.sr.inj i j (by omega) (by omega) e
  · have hlen : (M'.take M.length ++ [o]).length = M.length + 1 := by simp [hz]
    rw [hlen]
    by_cases h1 : i < M.length
    · rw [List.getElem?_append_left (by omega)] at e
      show MR K H' _ _ (if i = M.length then θ' l else θ' i) u
      rw [if_neg (Nat.ne_of_lt h1)]
      have := g1.sr.ob i u e
      rw [hz] at this
      exact this.kp Kp.refl rfl (Nat.le_succ _) fun j hj => if_neg (Nat.ne_of_lt hj)
    · have h2 : i = M.length := by
        have := (List.getElem?_eq_some_iff.mp e).1
        rw [hlen] at this; omega
      subst h2
      rw [List.getElem?_append_right (by omega), hz, Nat.sub_self] at e
      simp at e
      subst e
      show MR K H' _ _ (if M.length = M.length then θ' l else θ' M.length) o
      rw [if_pos rfl]
      exact ((g.sr.ob l o eo).lo lo).kp Kp.refl rfl (Nat.le_succ _) fun j hj => if_neg (Nat.ne_of_lt hj)
  · show (if i = M.length then θ' l else θ' i) = θ i
    rw [if_neg (Nat.ne_of_lt hi)]; exact g.th i hi
  · simp [hz] at h2
    have : i = M.length := by omega
    subst this
    show H (if M.length = M.length then θ' l else θ' M.length) = none
    rw [if_pos rfl]; exact g.nw l hn hlt
theorem trunc_ok {K : PySem.W.Frag} {θ θ' : Nat → Addr} {M M1 M' : Sto} {H H' : Hp} {v w : VL} {Q : VK} {x : V} (g : Go K θ M H θ' M1 H') (r : VR K H' θ' M1.length x w) (e : trunc M.length w M1 = some (v, M')) (k : Kon K θ M H v M' Q) : Q x H' := by
  have hz : (M1.take M.length).length = M.length := by rw [List.length_take]; exact Nat.min_eq_left g.len
  unfold trunc at e
  split at e
  · rename_i hlo
    split at e
    · cases e
      exact k θ' H' x (g.cut hlo) r
    · rename_i l
      obtain ⟨hl, rfl⟩ := r
      split at e
      · rename_i hlt
        cases e
        exact k θ' H' _ (g.cut hlo) ⟨by rw [hz]; exact hlt, rfl⟩
      · rename_i hlt
        split at e
        · rename_i o eo
          split at e
          · rename_i lo
            cases e
            refine k _ H' _ (g.bring hlo (Nat.not_lt.mp hlt) eo lo) ⟨by simp [hz], ?_⟩
            show V.ref (θ' l) = V.ref (if M.length = M.length then θ' l else θ' M.length)
            rw [if_pos rfl]
          · cases e
        · cases e
  · cases e
/-- the defs known so far -/
def FnsOk (P : Program) (w : World) (K : PySem.W.Frag) (mg : Str → Option Value) (base : Heap) (k : Nat) (fns : List (Str × Nat)) (Φ : Nat → Fs) : Prop :=
  ∀ j x n, fns[j]? = some (x, n) → ∃ f fd ps, FnOk P w K mg base CX0 k f fd ps (spM K n (Φ j)) ∧ mg x = some (.ref f) ∧ PySem.W.keepIn K (.ref f) = true ∧ Binds K fd ps []
/-- the names that a module's def may meet -/
structure GOk (K : PySem.W.Frag) (w : World) (mg : Str → Option Value) (G : GT) : Prop where
  free : ∀ x, x ∈ G.free → mg x = none
  cons : ∀ x d, (x, d) ∈ G.cons → ∃ u v, mg x = some u ∧ RelV v u ∧ ∀ H, RpC K H v d
  tabs : TabsOk K w mg G.tabs
theorem def_ok {P : Program} {w : World} {K : PySem.W.Frag} {mg : Str → Option Value} {base : Heap} {k fu : Nat} {x qual : Str} {params : Arguments} {body : List Stmt} {scope : Scope} {f : Addr} {fd : FuncData} {N ps : List Str} {G : GT} {Φ : Nat → Fs} {c : CSs}
    (F : FunD K x qual params body scope [] [] f fd) (S : FnScope N ps scope) (gk : GOk K w mg G) (fn : FnsOk P w K mg base k G.fns Φ) (hc : chkSs G N c scope body = true) : FnOk P w K mg base CX0 (k + 1) f fd ps (spM K ps.length (fnS Φ fu N.length c)) := by
  refine F.ok S (fun vs H Q E h => h.1) fun cdv A outer s H vs Q E hr h => ⟨rdS K (exs Φ fu c), PSs.nox ?_, ?_⟩
  · have F' : XF G Φ N k ((cxOf CX0 P w K mg base N qual scope f cdv A outer s H E).nox) := ⟨rfl, rfl, S.nd, hr, rfl, gk.free, gk.cons, fn, gk.tabs⟩
    exact sSs c F' (fun _ => rfl) (st := body) hc
  · obtain ⟨hl, θ, M, as, v, M', hs, ha, e, k'⟩ := h
    unfold fnS at e
    split at e
    · rename_i w ρ' M1 he
      exact ⟨θ, _, M, .rt w, ρ', M1, hs, er_start ha, he, fun θ' σ' H' g _ x r => trunc_ok g r e k'⟩
    · rename_i ρ' M1 he
      exact ⟨θ, _, M, .nx, ρ', M1, hs, er_start ha, he, fun θ' σ' H' g _ => trunc_ok g (w := .d .none) .non e k'⟩
    · cases e
theorem FnsOk.nil {P : Program} {w : World} {K : PySem.W.Frag} {mg : Str → Option Value} {base : Heap} {k : Nat} {Φ : Nat → Fs} : FnsOk P w K mg base k [] Φ := fun j x n e => by simp at e
/-- one def more -/
theorem FnsOk.snoc {P : Program} {w : World} {K : PySem.W.Frag} {mg : Str → Option Value} {base : Heap} {k k' : Nat} {fns : List (Str × Nat)} {Φ Φ' : Nat → Fs} {x : Str} {n : Nat} {f : Addr} {fd : FuncData} {ps : List Str} {sem : Fs}
    (h : FnsOk P w K mg base k fns Φ) (hk : k ≤ k') (ha : ∀ j, j < fns.length → Φ' j = Φ j) (F : FnOk P w K mg base CX0 k' f fd ps (spM K n sem)) (hs : Φ' fns.length = sem) (hm : mg x = some (.ref f)) (kp : PySem.W.keepIn K (.ref f) = true) (hb : Binds K fd ps []) :
    FnsOk P w K mg base k' (fns ++ [(x, n)]) Φ' := fun j y m e => by
  by_cases hj : j < fns.length
  · rw [List.getElem?_append_left hj] at e
    obtain ⟨f', fd', ps', q1, q2⟩ := h j y m e
    refine ⟨f', fd', ps', ?_, q2⟩
    rw [ha j hj]
    exact q1.mono hk
  · have : j = fns.length := by
      have := (List.getElem?_eq_some_iff.mp e).1
      simp at this; omega
    subst this
    simp at e
    obtain ⟨rfl, rfl⟩ := e
    exact ⟨f, fd, ps, by rw [hs]; exact F, hm, kp, hb⟩
/-- the functions in a row -/
def look (T : List Fs) (j : Nat) : Fs := T.getD j fun _ _ => none
theorem look_snoc {T : List Fs} {f : Fs} : (∀ j, j < T.length → look (T ++ [f]) j = look T j) ∧ look (T ++ [f]) T.length = f := by
  constructor
  · intro j hj
    unfold look
    rw [List.getD_eq_getElem?_getD, List.getD_eq_getElem?_getD, List.getElem?_append_left hj]
  · unfold look
    rw [List.getD_eq_getElem?_getD, List.getElem?_append_right (Nat.le_refl _)]
    simp
/-- a def that calls itself, at most n deep; it's the last of its table -/
def recS (T : List Fs) (fu len : Nat) (c : CSs) : Nat → Fs
  | 0 => fun _ _ => none
  | n + 1 => fnS (look (T ++ [recS T fu len c n])) fu len c
theorem rec_ok {P : Program} {w : World} {K : PySem.W.Frag} {mg : Str → Option Value} {base : Heap} {k fu : Nat} {x qual : Str} {params : Arguments} {body : List Stmt} {scope : Scope} {f : Addr} {fd : FuncData} {N ps : List Str} {fr : List Str} {co : List (Str × PyData)} {fns : List (Str × Nat)} {tb : List (Str × List (Str × Str))} {T : List Fs} {c : CSs}
    (F : FunD K x qual params body scope [] [] f fd) (S : FnScope N ps scope) (gk : ∀ fns, GOk K w mg ⟨fr, co, fns, tb⟩) (hT : fns.length = T.length) (fn : FnsOk P w K mg base k fns (look T)) (hm : mg x = some (.ref f)) (kp : PySem.W.keepIn K (.ref f) = true) (hb : Binds K fd ps [])
    (hc : chkSs ⟨fr, co, fns ++ [(x, ps.length)], tb⟩ N c scope body = true) : ∀ n, FnOk P w K mg base CX0 (k + n) f fd ps (spM K ps.length (recS T fu N.length c n))
  | 0 => ⟨fun vs H Q E h => h.1, fun A outer s H args us vs Q E _ _ _ _ h => by
      obtain ⟨_, _, _, _, _, _, _, _, e, _⟩ := h
      cases e⟩
  | n + 1 => def_ok F S (gk _) (fn.snoc (Nat.le_add_right _ _) (fun j hj => (look_snoc (T := T) (f := recS T fu N.length c n)).1 j (hT ▸ hj)) (rec_ok F S gk hT fn hm kp hb hc n) (hT ▸ (look_snoc (T := T) (f := recS T fu N.length c n)).2) hm kp hb) hc
end Pv
namespace Pv
open PySem PySem.Spec PyProof.Rows L2
theorem law_sp {K : PySem.W.Frag} {H : Hp} {a : Addr} {ns : List Int} {sem : Fs} (hm : sem [.d (.list (ns.map PyData.int))] [] = some (.d (.bool true), [])) (hO : Only H) (hS : SqL K H a (ns.map V.int)) :
    spM K 1 sem [.ref a] H (fun v _ => v = .bl true) fun _ _ _ => False := by
  have fz : FzL K H a (ns.map V.int) := by
    rcases hS with (h | ⟨o, h⟩) | h
    · rcases hO a with z | ⟨o, xs, z⟩
      · rw [h] at z; cases z
      · rw [h] at z; cases z
    · exact .inl ⟨o, h⟩
    · exact .inr h
  refine ⟨rfl, fun _ => 0, [], [.d (.list (ns.map PyData.int))], .d (.bool true), [], ⟨fun i j hi => absurd hi (Nat.not_lt_zero _), fun i o e => by simp at e⟩, .cons (Rp.lst fz (RpA.ofInts ns)) .nil, hm, fun θ' H' z g r => ?_⟩
  cases r
  rfl
end Pv
namespace Pv
open PySem PySem.Spec PyProof.Rows L2 He
/-! ### constants that are tuples, in the head -/
mutual
def cstIn (K : PySem.W.Frag) : PyData → Value → Bool
  | .none, v => decide (v = .none)
  | .bool b, v => decide (v = .bool b)
  | .int i, v => match v with
    | .int j _ => decide (j = i)
    | _ => false
  | .str x, v => match v with
    | .str y _ => decide (y = x)
    | _ => false
  | .tuple ds, v => match v with
    | .ref a => match K.lookup a with
      | some ⟨.type c, _, .seq its _, _⟩ => decide (c = "tuple") && (decide (its.size ≤ sizeLine) && cstAll K ds its.toList)
      | _ => false
    | _ => false
  | .list _, _ => false
  | .dict _, _ => false
def cstAll (K : PySem.W.Frag) : List PyData → List Value → Bool
  | [], [] => true
  | d :: ds, v :: vs => cstIn K d v && cstAll K ds vs
  | _, _ => false
end
mutual
theorem cstIn_ok {K : PySem.W.Frag} : ∀ (d : PyData) (v : Value), cstIn K d v = true → ∃ x, RelV x v ∧ ∀ H, Dp K H x d
  | .none, v, h => by
    rw [cstIn] at h
    obtain rfl := of_decide_eq_true h
    exact ⟨.non, rfl, fun _ => .non⟩
  | .bool b, v, h => by
    rw [cstIn] at h
    obtain rfl := of_decide_eq_true h
    exact ⟨.bl b, rfl, fun _ => .bl b⟩
  | .int i, v, h => by
    cases v <;> simp [cstIn] at h
    subst h
    exact ⟨.int _, ⟨_, rfl⟩, fun _ => .int _⟩
  | .str x, v, h => by
    cases v <;> simp [cstIn] at h
    subst h
    exact ⟨.str _, ⟨_, rfl⟩, fun _ => .str _⟩
  | .tuple ds, v, h => by
    cases v with
    | ref a =>
      simp only [cstIn] at h
      split at h
      · rename_i c od its n sl eo
        simp only [Bool.and_eq_true, decide_eq_true_eq] at h
        obtain ⟨h1, h2, h3⟩ := h
        subst h1
        obtain ⟨xs, r, hd⟩ := cstAll_ok ds its.toList h3
        exact ⟨.ref a, rfl, fun H => .tup (.inr ⟨_, its, n, eo, rfl, rfl, h2, r⟩) (hd H)⟩
      · cases h
    | _ => simp [cstIn] at h
  | .list _, _, h => by simp [cstIn] at h
  | .dict _, _, h => by simp [cstIn] at h
theorem cstAll_ok {K : PySem.W.Frag} : ∀ (ds : List PyData) (vs : List Value), cstAll K ds vs = true → ∃ xs, Vals xs vs ∧ ∀ H, DpAll K H xs ds
  | [], [], _ => ⟨[], .nil, fun _ => .nil⟩
  | d :: ds, v :: vs, h => by
    simp only [cstAll, Bool.and_eq_true] at h
    obtain ⟨x, r, hx⟩ := cstIn_ok d v h.1
    obtain ⟨xs, rs, hxs⟩ := cstAll_ok ds vs h.2
    exact ⟨x :: xs, .cons r rs, fun H => .cons (hx H) (hxs H)⟩
  | [], _ :: _, h => by simp [cstAll] at h
  | _ :: _, [], h => by simp [cstAll] at h
end
def cstG (K : PySem.W.Frag) (p : Str × PyData) : Bool := match PySem.W.nsIn K mainGlobals p.1 with
  | some (some v) => cstIn K p.2 v
  | _ => false
theorem cst_ok {K : PySem.W.Frag} {h : Heap} {mg : Str → Option Value} (X : K.In h) (G : h.Ns mainGlobals mg) {x : Str} {d : PyData} (c : cstG K (x, d) = true) : ∃ u v, mg x = some u ∧ RelV v u ∧ ∀ H, Dp K H v d := by
  unfold cstG at c
  split at c
  · rename_i v e
    obtain ⟨y, r, hy⟩ := cstIn_ok d v c
    exact ⟨v, y, PySem.W.mg_of X G e, r, hy⟩
  · cases c
/-- a table of functions: its name, its keys, each with the function's name -/
abbrev FTab : Type := Str × List (Str × Str)
def tabV (K : PySem.W.Frag) (t : FTab) : Bool := match PySem.W.nsIn K mainGlobals t.1 with
  | some (some (.ref d)) => t.2.all fun q => match PySem.W.nsIn K d q.1 with
    | some (some (.ref f)) => (match PySem.W.nsIn K mainGlobals q.2 with
      | some (some (.ref g)) => decide (f = g)
      | _ => false)
    | _ => false
  | _ => false
abbrev AlT : Type := Bool × AlD × List (Option (List (Option (Str × Int))))
def obsT (fa : List Fa) (fn : List DefD) (cs : List (Str × PyData)) (ts : List FTab) (K : PySem.W.Frag) : AlT := ((cs.all fun p => cstG K p) && ts.all fun t => tabV K t, obsD fa fn K, ts.map fun t => dicW K (ga K t.1))
def valT (fn : List DefD) (ts : List FTab) (w : World) : AlT := (true, He.valD fn, ts.map fun t => some (keysIn w.params (t.2.map Prod.fst)))
def SaysT (fa : List Fa) (fn : List DefD) (cs : List (Str × PyData)) (ts : List FTab) (w : World) (K : PySem.W.Frag) : Prop := obsT fa fn cs ts K = valT fn ts w
def obsTG (n : Nat) (fa : List Fa) (fn : List DefD) (cs : List (Str × PyData)) (ts : List FTab) (g : Addr → Option Obj) : AlT := obsT fa fn cs ts (frG g (asD g n))
def hookT (n : Nat) (fa : List Fa) (fn : List DefD) (cs : List (Str × PyData)) (ts : List FTab) : PySem.W.Hook where
  α := AlT
  obs := fun s => obsTG n fa fn cs ts s.heap.get?
  val := fun w => valT fn ts w
  says := fun w h => ∃ K : PySem.W.Frag, K.In h ∧ SaysT fa fn cs ts w K
  of := fun _ _ e => ⟨_, frG_in, e⟩
  keeps := fun _ _ _ ⟨K, hK, c⟩ k => ⟨K, PySem.W.Frag.In.keeps hK k, c⟩
section
variable {n : Nat} {fa : List Fa} {fn : List DefD} {cs : List (Str × PyData)} {ts : List FTab} {w : World} {K : PySem.W.Frag}
theorem obsTG_eq {g : Addr → Option Obj} {s : Shared} (h : ∀ a, g a = s.heap.get? a) : obsTG n fa fn cs ts g = (hookT n fa fn cs ts).obs s := by
  have e : g = s.heap.get? := funext h
  rw [e] <;> rfl
theorem SaysT.says (c : SaysT fa fn cs ts w K) : SaysD fa fn K := congrArg (fun z : AlT => z.2.1) c
theorem SaysT.one (c : SaysT fa fn cs ts w K) : (cs.all fun p => cstG K p) = true ∧ (ts.all fun t => tabV K t) = true := Bool.and_eq_true_iff.mp (congrArg (fun z : AlT => z.1) c)
theorem SaysT.cst (c : SaysT fa fn cs ts w K) (i : Nat) {p : Str × PyData} (h : cs[i]? = some p := by rfl) : cstG K p = true :=
  List.all_eq_true.mp c.one.1 p (List.mem_of_getElem? h)
theorem SaysT.tab {h : Heap} {mg : Str → Option Value} (c : SaysT fa fn cs ts w K) (X : K.In h) (G : h.Ns mainGlobals mg) : TabsOk K w mg ts := by
  intro x names hx
  have hm := lookup_mem hx
  have h1 := List.all_eq_true.mp c.one.2 _ hm
  have h2 : ts.map (fun t => dicW K (ga K t.1)) = ts.map fun t => some (keysIn w.params (t.2.map Prod.fst)) := congrArg (fun z : AlT => z.2.2) c
  have h3 := List.map_inj_left.mp h2 _ hm
  unfold tabV at h1
  split at h1
  · rename_i d e
    have eg : ga K x = d := by unfold ga; rw [e]
    simp only at h3
    rw [eg] at h3
    obtain ⟨es, en, D⟩ := dicW_ok h3
    refine ⟨d, PySem.W.mg_of X G e, fun z fx hz => ?_⟩
    have h4 := List.all_eq_true.mp h1 _ (lookup_mem hz)
    simp only at h4
    split at h4
    · rename_i f ef
      split at h4
      · rename_i g eg
        have := of_decide_eq_true h4
        subst this
        exact ⟨f, PySem.W.mg_of X G eg, es, en, .ref f, D.at_, D.lit, ef, rfl⟩
      · cases h4
    · cases h4
  · cases h1
end
/-! ### a top that hashes a text: the world's one habit that it asks for -/
def wx (w : World) (b : Bool) : World := { w with params := { w.params with followText := fun s => match decide (s = "special-get-raises") with | true => b | false => w.params.followText s } }
theorem wx_eq (w : World) : wx w (w.params.followText "special-get-raises") = w := by
  have h : (fun s => match decide (s = "special-get-raises") with | true => w.params.followText "special-get-raises" | false => w.params.followText s) = w.params.followText := by
    funext s
    by_cases q : s = "special-get-raises"
    · subst q; simp
    · simp [q]
  unfold wx
  rw [h]
end Pv
namespace Pv
open PySem PySem.Spec PyProof.Rows L2

/-! ### what an evaluation comes to -/
@[irreducible] def W {γ : Type} (r : Option γ) (P : γ → Prop) : Prop := match r with
  | some x => P x
  | none => False
section
variable {γ δ : Type} {P Q : γ → Prop}
theorem W_some {x : γ} : W (some x) P = P x := by unfold W; rfl
theorem W_none : W (none : Option γ) P = False := by unfold W; rfl
theorem W_bind {r : Option δ} {f : δ → Option γ} : W (r.bind f) P = W r fun x => W (f x) P := by unfold W; cases r <;> rfl
theorem W_map {r : Option δ} {f : δ → γ} : W (r.map f) P = W r fun x => P (f x) := by unfold W; cases r <;> rfl
theorem W.mono {r : Option γ} (h : W r P) (k : ∀ x, P x → Q x) : W r Q := by
  unfold W at h ⊢
  cases r with
  | none => exact h
  | some x => exact k x h
theorem W.ex {r : Option γ} (h : W r P) : ∃ x, r = some x ∧ P x := by
  unfold W at h
  cases r with
  | none => exact h.elim
  | some x => exact ⟨x, rfl, h⟩
theorem W.of {r : Option γ} {x : γ} (e : r = some x) (h : P x) : W r P := by rw [e, W_some]; exact h
theorem W_eq {r : Option γ} {x : γ} : W r (fun y => y = x) ↔ r = some x := by
  unfold W
  cases r with
  | none => exact ⟨fun h => h.elim, fun h => nomatch h⟩
  | some y => exact ⟨fun h => by rw [show y = x from h], fun h => Option.some.inj h⟩
theorem W_ite {c : Prop} [Decidable c] {a b : Option γ} : W (if c then a else b) P = if c then W a P else W b P := by split <;> rfl
end
/-- what follows a statement -/
@[irreducible] def Nx (Φ : Nat → Fs) (fu : Nat) (ss : CSs) (P : Fl × Lo × Sto → Prop) : Fl × Lo × Sto → Prop
  | (.nx, ρ, M) => W (exs Φ fu ss ρ M) P
  | r => P r
section
variable {Φ : Nat → Fs} {fu : Nat} {P : Fl × Lo × Sto → Prop} {ρ ρ' : Lo} {M M' : Sto}
theorem W_nil : W (exs Φ fu .nil ρ M) P = P (.nx, ρ, M) := by rw [exs, W_some]
theorem W_cons {s : CS} {ss : CSs} : W (exs Φ fu (.cons s ss) ρ M) P = W (ex Φ fu s ρ M) (Nx Φ fu ss P) := by
  rw [exs]
  cases ex Φ fu s ρ M with
  | none => simp only [W_none]
  | some r =>
    obtain ⟨fl, ρ1, M1⟩ := r
    cases fl
    · simp only [W_some]; unfold Nx W; rfl
    · simp only [W_some]; unfold Nx; rfl
    · simp only [W_some]; unfold Nx; rfl
    · simp only [W_some]; unfold Nx; rfl
theorem Nx_nx {ss : CSs} : Nx Φ fu ss P (.nx, ρ, M) = W (exs Φ fu ss ρ M) P := by unfold Nx; rfl
theorem Nx_rt {ss : CSs} {v : VL} : Nx Φ fu ss P (.rt v, ρ, M) = P (.rt v, ρ, M) := by unfold Nx; rfl
theorem Nx_bk {ss : CSs} : Nx Φ fu ss P (.bk, ρ, M) = P (.bk, ρ, M) := by unfold Nx; rfl
theorem Nx_ct {ss : CSs} : Nx Φ fu ss P (.ct, ρ, M) = P (.ct, ρ, M) := by unfold Nx; rfl
/-- a def's end -/
@[irreducible] def FnEnd (n : Nat) (P : VL × Sto → Prop) : Fl × Lo × Sto → Prop
  | (.rt v, _, M') => W (trunc n v M') P
  | (.nx, _, M') => W (trunc n (.d .none) M') P
  | _ => False
theorem W_fn {n : Nat} {c : CSs} {vs : List VL} {P : VL × Sto → Prop} : W (fnS Φ fu n c vs M) P = W (exs Φ fu c (vs.map some ++ List.replicate (n - vs.length) none) M) (FnEnd M.length P) := by
  unfold fnS
  cases exs Φ fu c (vs.map some ++ List.replicate (n - vs.length) none) M with
  | none => simp only [W_none]
  | some r =>
    obtain ⟨fl, ρ1, M1⟩ := r
    rw [W_some]
    cases fl
    · unfold FnEnd; rfl
    · simp only [W_none]; unfold FnEnd; rfl
    · simp only [W_none]; unfold FnEnd; rfl
    · unfold FnEnd; rfl
theorem FnEnd_rt {n : Nat} {v : VL} {P : VL × Sto → Prop} : FnEnd n P (.rt v, ρ, M) = W (trunc n v M) P := by unfold FnEnd; rfl
theorem FnEnd_nx {n : Nat} {P : VL × Sto → Prop} : FnEnd n P (.nx, ρ, M) = W (trunc n (.d .none) M) P := by unfold FnEnd; rfl
/-- a for over a range, by what holds ahead of each turn -/
theorem for_rng {f : PyData → Lo → Sto → RQ} {i : Int} {n : Nat} {Q : Fl × Lo × Sto → Prop} (I : Nat → Lo → Sto → Prop) (h0 : I 0 ρ M)
    (hs : ∀ k ρ M, k < n → I k ρ M → W (f (.int (i + k)) ρ M) fun r => match r with | (.nx, ρ', M') => I (k + 1) ρ' M' | (.ct, ρ', M') => I (k + 1) ρ' M' | (.bk, ρ', M') => Q (.nx, ρ', M') | (.rt v, ρ', M') => Q (.rt v, ρ', M'))
    (hd : ∀ ρ M, I n ρ M → Q (.nx, ρ, M)) {ds : List PyData} (hds : ds = (List.range n).map fun (k : Nat) => PyData.int (i + (k : Int))) : W (forS (.fx ds) f ds ρ M) Q := by
  have go : ∀ m k ρ M, n = k + m → I k ρ M → W (forS (.fx ds) f ((List.range' k m).map fun (k : Nat) => PyData.int (i + (k : Int))) ρ M) Q := by
    intro m
    induction m with
    | zero => intro k ρ M e hI; subst e; simp only [List.range'_zero, List.map_nil, forS, PL.ok, if_true, W_some]; exact hd ρ M hI
    | succ m ih =>
      intro k ρ M e hI
      rw [List.range'_succ, List.map_cons]
      have h := hs k ρ M (by omega) hI
      simp only [forS, PL.ok, if_true]
      cases hf : f (.int (i + k)) ρ M with
      | none => rw [hf, W_none] at h; exact h.elim
      | some r =>
        obtain ⟨fl, ρ', M'⟩ := r
        rw [hf, W_some] at h
        cases fl with
        | nx => exact ih (k + 1) ρ' M' (by omega) h
        | ct => exact ih (k + 1) ρ' M' (by omega) h
        | bk => simp only [W_some]; exact h
        | rt v => simp only [W_some]; exact h
  have h := go n 0 ρ M (by omega) h0
  rw [← List.range_eq_range', ← hds] at h
  exact h
/-- a for over items, by what holds ahead of each turn -/
theorem for_fx {f : PyData → Lo → Sto → RQ} {ds : List PyData} {Q : Fl × Lo × Sto → Prop} (I : Nat → Lo → Sto → Prop) (h0 : I 0 ρ M)
    (hs : ∀ k d ρ M, ds[k]? = some d → I k ρ M → W (f d ρ M) fun r => match r with | (.nx, ρ', M') => I (k + 1) ρ' M' | (.ct, ρ', M') => I (k + 1) ρ' M' | (.bk, ρ', M') => Q (.nx, ρ', M') | (.rt v, ρ', M') => Q (.rt v, ρ', M'))
    (hd : ∀ ρ M, I ds.length ρ M → Q (.nx, ρ, M)) : W (forS (.fx ds) f ds ρ M) Q := by
  generalize hpl : PL.fx ds = pl
  have hok : ∀ M, pl.ok M = true := fun M => by rw [← hpl]; rfl
  have go : ∀ es k ρ M, es = ds.drop k → k ≤ ds.length → I k ρ M → W (forS pl f es ρ M) Q := by
    intro es
    induction es with
    | nil =>
      intro k ρ M e hk hI
      have : k = ds.length := by
        have := List.drop_eq_nil_iff.mp e.symm
        omega
      subst this
      simp only [forS, hok, if_true, W_some]
      exact hd ρ M hI
    | cons d es ih =>
      intro k ρ M e hk hI
      have hlt : k < ds.length := by
        by_cases q : k < ds.length
        · exact q
        · rw [List.drop_eq_nil_of_le (by omega)] at e; cases e
      rw [List.drop_eq_getElem_cons hlt] at e
      injection e with e1 e2
      have h := hs k d ρ M (by rw [e1]; exact List.getElem?_eq_getElem hlt) hI
      simp only [forS, hok, if_true]
      cases hf : f d ρ M with
      | none => rw [hf, W_none] at h; exact h.elim
      | some r =>
        obtain ⟨fl, ρ', M'⟩ := r
        rw [hf, W_some] at h
        cases fl with
        | nx => exact ih (k + 1) ρ' M' e2 hlt h
        | ct => exact ih (k + 1) ρ' M' e2 hlt h
        | bk => simp only [W_some]; exact h
        | rt v => simp only [W_some]; exact h
  exact go ds 0 ρ M rfl (Nat.zero_le _) h0
/-- a comprehension whose turns change nothing -/
theorem lc_pure {pl : PL} {f : PyData → Sto → Option (Option VL × Sto)} (hok : pl.ok M = true) (p : PyData → Bool) (g : PyData → PyData) : ∀ {ds : List PyData} {acc : List VL},
    (∀ d ∈ ds, f d M = some (if p d then some (.d (g d)) else none, M)) → acc.length + ds.length ≤ sizeLine → lcS pl f ds acc M = some (acc ++ ((ds.filter p).map g).map VL.d, M)
  | [], acc, h, _ => by simp only [lcS, hok, if_true, List.filter_nil, List.map_nil, List.append_nil]
  | d :: ds, acc, h, hl => by
    have h1 := h d List.mem_cons_self
    simp only [List.length_cons] at hl
    simp only [lcS, hok, if_true, h1]
    cases hp : p d with
    | false =>
      simp only [Bool.false_eq_true, if_false]
      rw [lc_pure hok p g (fun x hx => h x (List.mem_cons_of_mem _ hx)) (by omega), List.filter_cons, if_neg (by rw [hp]; decide)]
    | true =>
      simp only [if_true]
      rw [if_pos (by omega), lc_pure hok p g (fun x hx => h x (List.mem_cons_of_mem _ hx)) (by simp; omega), List.filter_cons, if_pos hp]
      simp
end
theorem dataA_map : ∀ (ds : List PyData), dataA (ds.map VL.d) = some ds
  | [] => rfl
  | d :: ds => by simp [dataA, dataA_map ds]
theorem newL_map (ds : List PyData) (M : Sto) : newL (ds.map VL.d) M = some (.r M.length, M ++ [.lst ds]) := by
  unfold newL
  rw [dataA_map]
theorem take_app {α : Type} (M : List α) (x : α) : (M ++ [x]).take M.length = M := by simp
theorem get_app {α : Type} (M : List α) (x : α) : (M ++ [x])[M.length]? = some x := by simp
theorem frz_new {M : Sto} {ds : List PyData} (h : M.all (·.lo M.length) = true) : frzS M.length (.r M.length, M ++ [.lst ds]) = some (.d (.list ds), M) := by
  simp only [frzS, List.length_append, List.length_singleton, and_self, if_true, get_app, take_app, h]
/-- a function's end where nothing is new -/
theorem trunc_d {M : Sto} {d : PyData} (h : M.all (·.lo M.length) = true) : trunc M.length (.d d) M = some (.d d, M) := by
  simp only [trunc, List.take_length, h, if_true]
theorem trunc_d1 {M : Sto} {o : MO} {d : PyData} (h : M.all (·.lo M.length) = true) : trunc M.length (.d d) (M ++ [o]) = some (.d d, M) := by
  simp only [trunc, take_app, h, if_true]

/-! ### what is rolled -/
/-- the cup's two numbers -/
structure Cup (a b : Int) : Prop where
  a0 : 0 ≤ a
  b0 : 0 ≤ b
  b1 : b < 2147483648
def cupC : CSs := (.cons (.asg 1 (.bt .abs (.cons (.o2 .ix (.frz (.o2 .add (.frz (.bt .list (.cons (.v 0) .nil))) (.frz (.lst (.cons (.c (.int 0))
  .nil))))) (.c (.int 0))) .nil))) (.cons (.ret (.lst (.cons (.ite (.o2 .ge (.v 1) (.o2 .pow (.c (.int 10)) (.c (.int 18)))) (.o2 .fdiv (.v 1) (.c
  (.int 67))) (.c (.int 0))) (.cons (.o2 .add (.o2 .mod (.bt .int (.cons (.o2 .add (.o2 .mul (.v 1) (.c (.int 277))) (.c (.int 2609))) .nil)) (.c
  (.int 2077503167))) (.c (.int 163))) .nil)))) .nil))
def rollC : CSs := (.cons (.ite (.o2 .gt (.o2 .ix (.v 0) (.c (.int 0))) (.c (.int 0))) (.cons (.asg 2 (.o2 .mod (.bt .int (.cons (.o2 .ix (.v 0) (.c
  (.int 0))) .nil)) (.v 1))) (.cons (.six (.v 0) (.c (.int 0)) (.o2 .fdiv (.o2 .ix (.v 0) (.c (.int 0))) (.v 1))) (.cons (.ret (.v 2)) .nil))) .nil)
  (.cons (.six (.v 0) (.c (.int 1)) (.o2 .mod (.bt .int (.cons (.o2 .add (.o2 .mul (.o2 .ix (.v 0) (.c (.int 1))) (.c (.int 31051))) (.c (.int
  7993))) .nil)) (.c (.int 2147483543)))) (.cons (.asg 3 (.o2 .mod (.bt .int (.cons (.o2 .mul (.o2 .ix (.v 0) (.c (.int 1))) (.o2 .add (.o2 .ix (.v
  0) (.c (.int 1))) (.c (.int 229)))) .nil)) (.c (.int 2147483587)))) (.cons (.ret (.o2 .mod (.bt .int (.cons (.o2 .fdiv (.v 3) (.c (.int 821)))
  .nil)) (.v 1))) .nil))))
section
variable {Φ : Nat → Fs} {fu : Nat}
theorem all_set {M : Sto} {l : Nat} {ds : List PyData} {n : Nat} (h : M.all (·.lo n) = true) : (M.set l (.lst ds)).all (·.lo n) = true := by
  rw [List.all_eq_true] at h ⊢
  intro o ho
  rcases List.mem_or_eq_of_mem_set ho with ho | ho
  · exact h o ho
  · subst ho; rfl
theorem roll_at {l : Nat} {n a b : Int} {M : Sto} (hM : M[l]? = some (.lst [.int a, .int b])) (hc : Cup a b) (hn : 0 < n) (hn2 : n < 1073741824) (hlo : M.all (·.lo M.length) = true) :
    ∃ v a' b', fnS Φ fu 4 rollC [.r l, .d (.int n)] M = some (.d (.int v), M.set l (.lst [.int a', .int b'])) ∧ 0 ≤ v ∧ v < n ∧ Cup a' b' := by
  have hl : l < M.length := (List.getElem?_eq_some_iff.mp hM).1
  obtain ⟨a0, b0, b1⟩ := hc
  have ix0 : ixS (.r l) (.d (.int 0)) M = some (.d (.int a), M) := by simp [ixS, hM, atI, ixN]
  have ix1 : ixS (.r l) (.d (.int 1)) M = some (.d (.int b), M) := by simp [ixS, hM, atI, ixN]
  by_cases h : 0 < a
  · refine ⟨a % n, a / n, b, ?_, Int.emod_nonneg _ (by omega), Int.emod_lt_of_pos _ hn, ⟨Int.ediv_nonneg a0 (by omega), b0, b1⟩⟩
    have st : sixS (.r l) (.d (.int 0)) (.d (.int (a / n))) M = some (M.set l (.lst [.int (a / n), .int b])) := by simp [sixS, sixL, hM, ixN]
    simp [fnS, rollC, exs, ex, ev, evs, bin2, ix0, cmpI, tru, h, btS, modS, hn, fdivS, hn2, st, trunc]
    rw [List.take_of_length_le (by simp)]
    have := all_set (l := l) (ds := [.int (a / n), .int b]) hlo
    rw [List.all_eq_true] at this
    exact ⟨this, rfl⟩
  · have hb1 : (0 : Int) ≤ (b * 31051 + 7993) % 2147483543 := Int.emod_nonneg _ (by decide)
    have hb2 : (b * 31051 + 7993) % 2147483543 < 2147483543 := Int.emod_lt_of_pos _ (by decide)
    generalize hb' : (b * 31051 + 7993) % 2147483543 = b' at hb1 hb2
    refine ⟨(b' * (b' + 229)) % 2147483587 / 821 % n, a, b', ?_, Int.emod_nonneg _ (by omega), Int.emod_lt_of_pos _ hn, ⟨a0, hb1, by omega⟩⟩
    have st : sixS (.r l) (.d (.int 1)) (.d (.int b')) M = some (M.set l (.lst [.int a, .int b'])) := by simp [sixS, sixL, hM, ixN]
    have ix2 : ixS (.r l) (.d (.int 1)) (M.set l (.lst [.int a, .int b'])) = some (.d (.int b'), M.set l (.lst [.int a, .int b'])) := by simp [ixS, hl, atI, ixN]
    have hm : mulOk b' (b' + 229) = true := mulOk_l (by omega)
    have hm2 : ∀ x : Int, mulOk x 31051 = true := fun x => mulOk_of (by decide)
    simp [fnS, rollC, exs, ex, ev, evs, bin2, ix0, ix1, cmpI, tru, h, btS, modS, hn, fdivS, hn2, mulS, addS, hb', st, ix2, hm, hm2, trunc]
    rw [List.take_of_length_le (by simp)]
    have := all_set (l := l) (ds := [.int a, .int b']) hlo
    rw [List.all_eq_true] at this
    exact ⟨this, rfl⟩
/-- a roll, whatever comes -/
theorem W_roll {l : Nat} {n a b : Int} {M : Sto} {P : VL × Sto → Prop} (hM : M[l]? = some (.lst [.int a, .int b])) (hc : Cup a b) (hn : 0 < n) (hn2 : n < 1073741824) (hlo : M.all (·.lo M.length) = true)
    (h : ∀ v a' b', 0 ≤ v → v < n → Cup a' b' → P (.d (.int v), M.set l (.lst [.int a', .int b']))) : W (fnS Φ fu 4 rollC [.r l, .d (.int n)] M) P := by
  obtain ⟨v, a', b', e, h1, h2, h3⟩ := roll_at (Φ := Φ) (fu := fu) hM hc hn hn2 hlo
  rw [e, W_some]
  exact h v a' b' h1 h2 h3
/-- the cup -/
theorem cup_at (ns : List Int) (hl : ns.length ≤ 63) : ∃ a b, fnS Φ fu 2 cupC [.d (.list (ns.map PyData.int))] [] = some (.r 0, [.lst [.int a, .int b]]) ∧ Cup a b := by
  obtain ⟨c, hc⟩ : ∃ c, atI (ns.map PyData.int ++ [.int 0]) 0 = some (.int c) := by
    cases ns with
    | nil => exact ⟨0, rfl⟩
    | cons n ns => exact ⟨n, atI_nat (j := 0) (by simp)⟩
  have hz := sizeLine_eq
  have hlen : ns.length + 1 ≤ sizeLine := by omega
  generalize hx : (if c < 0 then -c else c) = x
  have hx0 : 0 ≤ x := by rw [← hx]; split <;> omega
  have hb1 : (0 : Int) ≤ (x * 277 + 2609) % 2077503167 := Int.emod_nonneg _ (by decide)
  have hb2 : (x * 277 + 2609) % 2077503167 < 2077503167 := Int.emod_lt_of_pos _ (by decide)
  have h2 : (2 : Nat) ≤ sizeLine := by omega
  have hm : mulOk x 277 = true := mulOk_of (by decide)
  have h1 : (1 : Nat) ≤ sizeLine := by omega
  by_cases h : 1000000000000000000 ≤ x
  · refine ⟨x / 67, (x * 277 + 2609) % 2077503167 + 163, ?_, ⟨Int.ediv_nonneg hx0 (by decide), by omega, by omega⟩⟩
    simp [fnS, cupC, exs, ex, ev, evs, btS, seqOf, lsOf, frzS, MO.lo, newL, dataA, h1, h2, bin2, addS, hlen, ixS, hc, hx, powS, cmpI, tru, h, fdivS, mulS, hm, modS, trunc]
  · refine ⟨0, (x * 277 + 2609) % 2077503167 + 163, ?_, ⟨by decide, by omega, by omega⟩⟩
    simp [fnS, cupC, exs, ex, ev, evs, btS, seqOf, lsOf, frzS, MO.lo, newL, dataA, h1, h2, bin2, addS, hlen, ixS, hc, hx, powS, cmpI, tru, h, fdivS, mulS, hm, modS, trunc]
end
end Pv
namespace Pv
open PySem PySem.Spec PyProof.Rows L2
/-! ### shapes -/
/-- may be compared, at most n deep -/
structure Sh (n : Nat) (d : PyData) : Prop where
  lay : d.canLay0 = true
  dep : d.depth ≤ n
theorem Sh.mono {n m : Nat} {d : PyData} (h : Sh n d) (k : n ≤ m) : Sh m d := ⟨h.lay, Nat.le_trans h.dep k⟩
theorem Sh.shaped {n : Nat} {d : PyData} (h : Sh n d) (k : n ≤ 64) : SeqAt.shaped d = true := by
  unfold SeqAt.shaped
  rw [h.lay, decide_eq_true (Nat.le_trans h.dep k)]
  rfl
theorem sh_none {n : Nat} : Sh n .none := ⟨rfl, Nat.zero_le _⟩
theorem sh_bool {n : Nat} {b : Bool} : Sh n (.bool b) := ⟨rfl, Nat.zero_le _⟩
theorem sh_int {n : Nat} {i : Int} : Sh n (.int i) := ⟨rfl, Nat.zero_le _⟩
theorem sh_str {n : Nat} {s : Str} (h : PyData.strOk s = true) : Sh n (.str s) := ⟨by simp [PyData.canLay0, h], Nat.zero_le _⟩
theorem lay_all : ∀ {ds : List PyData}, (∀ d ∈ ds, d.canLay0 = true) → PyData.canLayAll0 ds = true
  | [], _ => rfl
  | d :: ds, h => by
    simp only [PyData.canLayAll0, Bool.and_eq_true]
    exact ⟨h d List.mem_cons_self, lay_all fun x hx => h x (List.mem_cons_of_mem _ hx)⟩
theorem dep_all {n : Nat} : ∀ {ds : List PyData}, (∀ d ∈ ds, d.depth ≤ n) → PyData.depthAll ds ≤ n
  | [], _ => by simp [PyData.depthAll]
  | d :: ds, h => by
    have h1 := h d List.mem_cons_self
    have h2 := dep_all fun x hx => h x (List.mem_cons_of_mem _ hx)
    simp only [PyData.depthAll]
    exact Nat.max_le.mpr ⟨h1, h2⟩
theorem sh_tup {n : Nat} {ds : List PyData} (h : ∀ d ∈ ds, Sh n d) : Sh (n + 1) (.tuple ds) := by
  refine ⟨by simp only [PyData.canLay0]; exact lay_all fun d hd => (h d hd).lay, ?_⟩
  have := dep_all fun d hd => (h d hd).dep
  simp only [PyData.depth]
  omega
theorem sh_lst {n : Nat} {ds : List PyData} (h : ∀ d ∈ ds, Sh n d) : Sh (n + 1) (.list ds) := by
  refine ⟨by simp only [PyData.canLay0]; exact lay_all fun d hd => (h d hd).lay, ?_⟩
  have := dep_all fun d hd => (h d hd).dep
  simp only [PyData.depth]
  omega
mutual
theorem eqv_refl : ∀ {d : PyData}, d.canLay0 = true → PyData.eqv d d = true
  | .none, _ => rfl
  | .bool b, _ => by simp [PyData.eqv]
  | .int i, _ => by simp [PyData.eqv]
  | .str s, _ => by simp [PyData.eqv]
  | .list ds, h => by simp only [PyData.eqv]; exact eqvA_refl (by simpa [PyData.canLay0] using h)
  | .tuple ds, h => by simp only [PyData.eqv]; exact eqvA_refl (by simpa [PyData.canLay0] using h)
  | .dict _, h => by simp [PyData.canLay0] at h
theorem eqvA_refl : ∀ {ds : List PyData}, PyData.canLayAll0 ds = true → PyData.eqvAll ds ds = true
  | [], _ => rfl
  | d :: ds, h => by
    simp only [PyData.canLayAll0, Bool.and_eq_true] at h
    simp only [PyData.eqvAll, eqv_refl h.1, eqvA_refl h.2, Bool.and_self]
end
theorem Sh.refl {n : Nat} {d : PyData} (h : Sh n d) : PyData.eqv d d = true := eqv_refl h.lay
theorem shp_none : SeqAt.shaped .none = true := rfl
theorem shp_bool {b : Bool} : SeqAt.shaped (.bool b) = true := rfl
theorem shp_int {i : Int} : SeqAt.shaped (.int i) = true := rfl
theorem eqv_int {i j : Int} : PyData.eqv (.int i) (.int j) = decide (i = j) := by
  simp only [PyData.eqv]
  by_cases h : i = j
  · subst h; simp
  · rw [decide_eq_false h]; simp [h]
theorem eqv_str {i j : Str} : PyData.eqv (.str i) (.str j) = decide (i = j) := by
  simp only [PyData.eqv]
  by_cases h : i = j
  · subst h; simp
  · rw [decide_eq_false h]; simp [h]
theorem eqv_bool {i j : Bool} : PyData.eqv (.bool i) (.bool j) = decide (i = j) := by
  cases i <;> cases j <;> rfl
/-- cuts -/
theorem cut_nat {α : Type} (xs : List α) (p q : Nat) (h : p ≤ xs.length) : cutL xs (some (p : Int)) (some (q : Int)) = (xs.drop p).take (min q xs.length - p) := by
  unfold cutL
  rw [HT.sIx_nat, HT.sIx_nat, Nat.min_eq_left h]
theorem cut_from {α : Type} (xs : List α) (p : Nat) : cutL xs (some (p : Int)) none = xs.drop p := by
  unfold cutL
  rw [HT.sIx_nat, HT.sIx_none]
  by_cases h : p ≤ xs.length
  · rw [Nat.min_eq_left h]
    exact List.take_of_length_le (by simp)
  · rw [Nat.min_eq_right (by omega), List.drop_eq_nil_of_le (Nat.le_refl _), List.drop_eq_nil_of_le (by omega), List.take_nil]
theorem cut_to {α : Type} (xs : List α) (q : Nat) : cutL xs none (some (q : Int)) = xs.take q := by
  unfold cutL
  rw [HT.sIx_nat, HT.sIx_none, List.drop_zero, Nat.sub_zero]
  by_cases h : q ≤ xs.length
  · rw [Nat.min_eq_left h]
  · rw [Nat.min_eq_right (by omega), List.take_of_length_le (Nat.le_refl _), List.take_of_length_le (by omega)]
/-- one of some things -/
def someC (j : Nat) : CSs := (.cons (.ret (.o2 .ix (.v 1) (.call j (.cons (.v 0) (.cons (.bt .len (.cons (.v 1) .nil)) .nil))))) .nil)
section
variable {Φ Φ' : Nat → Fs} {fu fu' : Nat}
theorem all_lo_set {M : Sto} {l : Nat} {ds : List PyData} (h : M.all (·.lo M.length) = true) : (M.set l (.lst ds)).all (·.lo (M.set l (.lst ds)).length) = true := by
  rw [List.length_set]
  exact all_set h
theorem W_some_of {j l : Nat} {a b : Int} {M : Sto} {ds : List PyData} {P : VL × Sto → Prop} (hj : Φ j = fnS Φ' fu' 4 rollC) (hM : M[l]? = some (.lst [.int a, .int b])) (hc : Cup a b) (hn : 0 < ds.length) (hn2 : ds.length < 1073741824)
    (hlo : M.all (·.lo M.length) = true) (h : ∀ d a' b', d ∈ ds → Cup a' b' → P (.d d, M.set l (.lst [.int a', .int b']))) : W (fnS Φ fu 2 (someC j) [.r l, .d (.list ds)] M) P := by
  obtain ⟨v, a', b', e, h1, h2, h3⟩ := roll_at (Φ := Φ') (fu := fu') (n := (ds.length : Int)) hM hc (by omega) (by omega) hlo
  obtain ⟨k, rfl⟩ : ∃ k : Nat, v = (k : Int) := ⟨v.toNat, by omega⟩
  have hk : k < ds.length := by omega
  have hat : atI ds (k : Int) = some ds[k] := atI_nat (List.getElem?_eq_getElem hk)
  have hl2 : (M.set l (.lst [.int a', .int b'])).all (·.lo M.length) = true := all_set hlo
  have e2 : fnS Φ fu 2 (someC j) [.r l, .d (.list ds)] M = some (.d ds[k], M.set l (.lst [.int a', .int b'])) := by
    refine W_eq.mp ?_
    rw [W_fn, someC, W_cons]
    simp [ex, ev, evs, btS, seqOf, lsOf, hj, e, bin2, ixS, hat, W_some, Nx_rt, FnEnd_rt, trunc]
    rw [List.take_of_length_le (by simp)]
    rw [List.all_eq_true] at hl2
    rw [if_pos hl2, W_some]
  rw [e2, W_some]
  exact h _ a' b' (List.getElem_mem hk) h3
end
end Pv
namespace Pv
open PySem PySem.Spec PyProof.Rows L2
/-! ### data without truth values: to be alike is to be the same -/
mutual
def nb : PyData → Bool
  | .none => true
  | .bool _ => false
  | .int _ => true
  | .str _ => true
  | .list ds => nbA ds
  | .tuple ds => nbA ds
  | .dict _ => false
def nbA : List PyData → Bool
  | [] => true
  | d :: ds => nb d && nbA ds
end
theorem nbA_iff : ∀ {ds : List PyData}, nbA ds = true ↔ ∀ d ∈ ds, nb d = true
  | [] => ⟨fun _ _ h => (nomatch h), fun _ => rfl⟩
  | d :: ds => by simp only [nbA, Bool.and_eq_true, nbA_iff (ds := ds), List.mem_cons, forall_eq_or_imp]
mutual
theorem eqv_nb : ∀ {d e : PyData}, nb d = true → nb e = true → PyData.eqv d e = true → d = e
  | .none, e, _, he, h => by cases e <;> simp_all [PyData.eqv]
  | .bool _, _, hd, _, _ => by simp [nb] at hd
  | .int _, e, _, he, h => by cases e <;> simp_all [PyData.eqv, nb]
  | .str _, e, _, he, h => by cases e <;> simp_all [PyData.eqv]
  | .list xs, e, hd, he, h => by
    cases e with
    | list ys =>
      simp only [nb] at hd he
      simp only [PyData.eqv] at h
      rw [eqvA_nb hd he h]
    | _ => simp [PyData.eqv] at h
  | .tuple xs, e, hd, he, h => by
    cases e with
    | tuple ys =>
      simp only [nb] at hd he
      simp only [PyData.eqv] at h
      rw [eqvA_nb hd he h]
    | _ => simp [PyData.eqv] at h
  | .dict _, _, hd, _, _ => by simp [nb] at hd
theorem eqvA_nb : ∀ {ds es : List PyData}, nbA ds = true → nbA es = true → PyData.eqvAll ds es = true → ds = es
  | [], [], _, _, _ => rfl
  | [], _ :: _, _, _, h => by simp [PyData.eqvAll] at h
  | _ :: _, [], _, _, h => by simp [PyData.eqvAll] at h
  | d :: ds, e :: es, hd, he, h => by
    simp only [nbA, Bool.and_eq_true] at hd he
    simp only [PyData.eqvAll, Bool.and_eq_true] at h
    rw [eqv_nb hd.1 he.1 h.1, eqvA_nb hd.2 he.2 h.2]
end
/-- may be compared, at most n deep, no truth value in it -/
structure Pu (n : Nat) (d : PyData) : Prop where
  sh : Sh n d
  nb : nb d = true
theorem Pu.mono {n m : Nat} {d : PyData} (h : Pu n d) (k : n ≤ m) : Pu m d := ⟨h.sh.mono k, h.nb⟩
theorem Pu.shaped {n : Nat} {d : PyData} (h : Pu n d) (k : n ≤ 64) : SeqAt.shaped d = true := h.sh.shaped k
theorem Pu.refl {n : Nat} {d : PyData} (h : Pu n d) : PyData.eqv d d = true := h.sh.refl
theorem Pu.eqv {n m : Nat} {d e : PyData} (h : Pu n d) (k : Pu m e) : PyData.eqv d e = true ↔ d = e := ⟨eqv_nb h.nb k.nb, fun q => q ▸ h.refl⟩
theorem Pu.neqv {n m : Nat} {d e : PyData} (h : Pu n d) (k : Pu m e) : PyData.eqv d e = false ↔ d ≠ e := by
  rw [← Bool.not_eq_true, h.eqv k]
theorem pu_none {n : Nat} : Pu n .none := ⟨sh_none, rfl⟩
theorem pu_int {n : Nat} {i : Int} : Pu n (.int i) := ⟨sh_int, rfl⟩
theorem pu_str {n : Nat} {s : Str} (h : PyData.strOk s = true) : Pu n (.str s) := ⟨sh_str h, rfl⟩
theorem pu_tup {n : Nat} {ds : List PyData} (h : ∀ d ∈ ds, Pu n d) : Pu (n + 1) (.tuple ds) := ⟨sh_tup fun d hd => (h d hd).sh, by simp only [Pv.nb]; exact nbA_iff.mpr fun d hd => (h d hd).nb⟩
theorem pu_lst {n : Nat} {ds : List PyData} (h : ∀ d ∈ ds, Pu n d) : Pu (n + 1) (.list ds) := ⟨sh_lst fun d hd => (h d hd).sh, by simp only [Pv.nb]; exact nbA_iff.mpr fun d hd => (h d hd).nb⟩
theorem pu_nil {n : Nat} : Pu (n + 1) (.tuple []) := pu_tup fun _ h => nomatch h
theorem pu_niL {n : Nat} : Pu (n + 1) (.list []) := pu_lst fun _ h => nomatch h
theorem all_nil {P : PyData → Prop} : ∀ d ∈ ([] : List PyData), P d := fun _ h => nomatch h
theorem all_cons {P : PyData → Prop} {x : PyData} {xs : List PyData} (h : P x) (k : ∀ d ∈ xs, P d) : ∀ d ∈ x :: xs, P d := fun d hd => by
  rcases List.mem_cons.mp hd with rfl | hd
  · exact h
  · exact k d hd
theorem pu_of {n : Nat} {d : PyData} (h : (d.canLay0 && (decide (d.depth ≤ n) && nb d)) = true) : Pu n d := by
  simp only [Bool.and_eq_true, decide_eq_true_eq] at h
  exact ⟨⟨h.1, h.2.1⟩, h.2.2⟩
/-- a comprehension, by what holds ahead of each turn -/
theorem lc_inv {pl : PL} {f : PyData → Sto → Option (Option VL × Sto)} {ds : List PyData} {M : Sto} {Q : List VL × Sto → Prop} (hok : ∀ M, pl.ok M = true) (I : Nat → List VL → Sto → Prop) (h0 : I 0 [] M)
    (hs : ∀ k d acc M, ds[k]? = some d → I k acc M → W (f d M) fun r => match r with | (some y, M') => acc.length < sizeLine ∧ I (k + 1) (acc ++ [y]) M' | (none, M') => I (k + 1) acc M')
    (hd : ∀ acc M, I ds.length acc M → Q (acc, M)) : W (lcS pl f ds [] M) Q := by
  have go : ∀ es k acc M, es = ds.drop k → k ≤ ds.length → I k acc M → W (lcS pl f es acc M) Q := by
    intro es
    induction es with
    | nil =>
      intro k acc M e hk hI
      have : k = ds.length := by
        have := List.drop_eq_nil_iff.mp e.symm
        omega
      subst this
      simp only [lcS, hok, if_true, W_some]
      exact hd acc M hI
    | cons d es ih =>
      intro k acc M e hk hI
      have hlt : k < ds.length := by
        by_cases q : k < ds.length
        · exact q
        · rw [List.drop_eq_nil_of_le (by omega)] at e; cases e
      rw [List.drop_eq_getElem_cons hlt] at e
      injection e with e1 e2
      have h := hs k d acc M (by rw [e1]; exact List.getElem?_eq_getElem hlt) hI
      simp only [lcS, hok, if_true]
      cases hf : f d M with
      | none => rw [hf, W_none] at h; exact h.elim
      | some r =>
        obtain ⟨o, M'⟩ := r
        rw [hf, W_some] at h
        cases o with
        | none => exact ih (k + 1) acc M' e2 hlt h
        | some y =>
          simp only [h.1, if_true]
          exact ih (k + 1) _ M' e2 hlt h.2
  exact go ds 0 [] M rfl (Nat.zero_le _) h0
theorem rngD_len (i j : Int) : (rngD i j).length = (j - i).toNat := by simp [rngD]
theorem rngD_at {i j : Int} {k : Nat} {d : PyData} (h : (rngD i j)[k]? = some d) : d = .int (i + k) ∧ (k : Int) < j - i := by
  have hk := (List.getElem?_eq_some_iff.mp h).1
  rw [rngD_len] at hk
  simp only [rngD, List.getElem?_map, List.getElem?_range (show k < (j - i).toNat from hk), Option.map_some, Option.some.injEq] at h
  exact ⟨h.symm, by omega⟩
theorem flt_true {α : Type} {xs : List α} : xs.filter (fun _ => true) = xs := List.filter_eq_self.mpr fun _ _ => rfl
theorem flt_false {α : Type} {xs : List α} : xs.filter (fun _ => false) = [] := List.filter_eq_nil_iff.mpr fun _ _ => by decide
section
variable {M : Sto} {a b c d e : PyData}
theorem newL_0 : newL [] M = some (.r M.length, M ++ [.lst []]) := id rfl
theorem newL_1 : newL [.d a] M = some (.r M.length, M ++ [.lst [a]]) := id rfl
theorem newL_2 : newL [.d a, .d b] M = some (.r M.length, M ++ [.lst [a, b]]) := id rfl
theorem newL_3 : newL [.d a, .d b, .d c] M = some (.r M.length, M ++ [.lst [a, b, c]]) := id rfl
theorem newL_4 : newL [.d a, .d b, .d c, .d d] M = some (.r M.length, M ++ [.lst [a, b, c, d]]) := id rfl
theorem newL_5 : newL [.d a, .d b, .d c, .d d, .d e] M = some (.r M.length, M ++ [.lst [a, b, c, d, e]]) := id rfl
end
theorem flt_any {α : Type} (f : α → Bool) (xs : List α) : (xs.filter f = [] ∧ xs.any f = false) ∨ ∃ y ys, xs.filter f = y :: ys ∧ xs.any f = true := by
  cases h : xs.filter f with
  | nil =>
    refine .inl ⟨rfl, ?_⟩
    rw [List.any_eq_false]
    exact fun x hx => List.filter_eq_nil_iff.mp h x hx
  | cons y ys =>
    refine .inr ⟨y, ys, rfl, ?_⟩
    rw [List.any_eq_true]
    have : y ∈ xs.filter f := by rw [h]; exact List.mem_cons_self
    exact ⟨y, List.mem_filter.mp this⟩
theorem atI_c0 {α : Type} {x : α} {xs : List α} : atI (x :: xs) 0 = some x := atI_nat (j := 0) rfl
theorem atI_c1 {α : Type} {x y : α} {xs : List α} : atI (x :: y :: xs) 1 = some y := atI_nat (j := 1) rfl
theorem atI_c2 {α : Type} {x y z : α} {xs : List α} : atI (x :: y :: z :: xs) 2 = some z := atI_nat (j := 2) rfl
theorem atI_c3 {α : Type} {x y z w : α} {xs : List α} : atI (x :: y :: z :: w :: xs) 3 = some w := atI_nat (j := 3) rfl
end Pv
namespace Pv
open PySem PySem.Spec PyProof.Rows L2
/-! ### told again: things alike to themselves -/
mutual
/-- no row in it too long to be walked -/
def sz : PyData → Bool
  | .list ds => decide (ds.length ≤ 1000000) && szA ds
  | .tuple ds => decide (ds.length ≤ 1000000) && szA ds
  | _ => true
def szA : List PyData → Bool
  | [] => true
  | d :: ds => sz d && szA ds
end
theorem szA_iff : ∀ {ds : List PyData}, szA ds = true ↔ ∀ d ∈ ds, sz d = true
  | [] => ⟨fun _ _ h => (nomatch h), fun _ => rfl⟩
  | d :: ds => by simp only [szA, Bool.and_eq_true, szA_iff (ds := ds), List.mem_cons, forall_eq_or_imp]
theorem sz_tup {ds : List PyData} (hl : ds.length ≤ 1000000) (h : ∀ d ∈ ds, sz d = true) : sz (.tuple ds) = true := by
  rw [sz, decide_eq_true hl, szA_iff.mpr h]; rfl
theorem Pu.tup {n : Nat} {ds : List PyData} (h : Pu n (.tuple ds)) : ∃ m, n = m + 1 ∧ ∀ d ∈ ds, Pu m d := by
  have hd := h.sh.dep
  have hy := h.sh.lay
  have hn := h.nb
  simp only [PyData.depth] at hd
  simp only [PyData.canLay0] at hy
  simp only [Pv.nb] at hn
  obtain ⟨m, rfl⟩ : ∃ m, n = m + 1 := ⟨n - 1, by omega⟩
  refine ⟨m, rfl, fun d hm => ⟨⟨?_, ?_⟩, nbA_iff.mp hn d hm⟩⟩
  · clear hd hn h
    induction ds with
    | nil => cases hm
    | cons x xs ih =>
      simp only [PyData.canLayAll0, Bool.and_eq_true] at hy
      rcases List.mem_cons.mp hm with rfl | hm
      · exact hy.1
      · exact ih hy.2 hm
  · have hd2 : PyData.depthAll ds ≤ m := by omega
    clear hy hn h hd
    induction ds with
    | nil => cases hm
    | cons x xs ih =>
      simp only [PyData.depthAll] at hd2
      rcases List.mem_cons.mp hm with rfl | hm
      · omega
      · exact ih hm (by omega)
theorem sz_tup_at {ds : List PyData} (h : sz (.tuple ds) = true) : ds.length ≤ 1000000 ∧ ∀ d ∈ ds, sz d = true := by
  rw [sz, Bool.and_eq_true, decide_eq_true_eq, szA_iff] at h
  exact h
/-! ### a store whose first thing is a list -/
section
variable {R : Sto} {xs ds : List PyData} {d : PyData} {n : Nat}
theorem lo_cons (h : R.all (·.lo (R.length + 1)) = true) : (MO.lst xs :: R : Sto).all (·.lo (MO.lst xs :: R : Sto).length) = true := by
  rw [List.all_cons, List.length_cons, h]; rfl
theorem frz_cons (h : R.all (·.lo (R.length + 1)) = true) : frzS (R.length + 1) (.r (R.length + 1), .lst xs :: (R ++ [.lst ds])) = some (.d (.list ds), .lst xs :: R) := frz_new (M := .lst xs :: R) (lo_cons h)
theorem trunc_cons (h : R.all (·.lo (R.length + 1)) = true) : trunc (R.length + 1) (.d d) (.lst xs :: R) = some (.d d, .lst xs :: R) := trunc_d (M := .lst xs :: R) (lo_cons h)
end
theorem boolsOf_map {α : Type} (f : α → Bool) : ∀ xs : List α, boolsOf (xs.map fun x => .bool (f x)) = some (xs.map f)
  | [] => rfl
  | x :: xs => by rw [List.map_cons, boolsOf, boolsOf_map f xs]; rfl
theorem intsOf_map {α : Type} (f : α → Int) : ∀ xs : List α, intsOf (xs.map fun x => .int (f x)) = some (xs.map f)
  | [] => rfl
  | x :: xs => by rw [List.map_cons, intsOf, intsOf_map f xs]; rfl
/-! ### cuts at small numbers -/
section
variable {α : Type} {x y z : α} {xs : List α}
theorem cut_f1 : cutL (x :: xs) (some 1) none = xs := cut_from (x :: xs) 1
theorem cut_f2 : cutL (x :: y :: xs) (some 2) none = xs := cut_from (x :: y :: xs) 2
theorem cut_f3 : cutL (x :: y :: z :: xs) (some 3) none = xs := cut_from (x :: y :: z :: xs) 3
theorem cut_t1 : cutL (x :: xs) none (some 1) = [x] := by rw [show (1 : Int) = ((1 : Nat) : Int) from rfl, cut_to]; rfl
theorem cut_t2 : cutL (x :: y :: xs) none (some 2) = [x, y] := by rw [show (2 : Int) = ((2 : Nat) : Int) from rfl, cut_to]; rfl
theorem cut_t3 : cutL (x :: y :: z :: xs) none (some 3) = [x, y, z] := by rw [show (3 : Int) = ((3 : Nat) : Int) from rfl, cut_to]; rfl
theorem cut_12 : cutL (x :: y :: xs) (some 1) (some 2) = [y] := by
  rw [show (1 : Int) = ((1 : Nat) : Int) from rfl, show (2 : Int) = ((2 : Nat) : Int) from rfl, cut_nat _ _ _ (by simp)]
  simp
end
theorem pa_of {p : List PyData} {n : Nat} (h : (p.all fun x => x.canLay0 && (decide (x.depth ≤ n) && nb x)) = true) : ∀ x ∈ p, Pu n x := fun x hx => pu_of (List.all_eq_true.mp h x hx)
mutual
theorem same_lay : ∀ {d : PyData}, d.canLay0 = true → Pv.same d d = true
  | .none, _ => rfl
  | .bool b, _ => by simp [Pv.same]
  | .int i, _ => by simp [Pv.same]
  | .str s, _ => by simp [Pv.same]
  | .list ds, h => by simp only [Pv.same]; exact sameA_lay (by simpa [PyData.canLay0] using h)
  | .tuple ds, h => by simp only [Pv.same]; exact sameA_lay (by simpa [PyData.canLay0] using h)
  | .dict _, h => by simp [PyData.canLay0] at h
theorem sameA_lay : ∀ {ds : List PyData}, PyData.canLayAll0 ds = true → sameA ds ds = true
  | [], _ => rfl
  | d :: ds, h => by
    simp only [PyData.canLayAll0, Bool.and_eq_true] at h
    simp only [sameA, same_lay h.1, sameA_lay h.2, Bool.and_self]
end
/-! ### an end that the kernel reckons -/
def rtOf : RQ → Option PyData
  | some (.rt (.d x), _, _) => some x
  | _ => none
theorem W_end0 {r : RQ} {d : PyData} (h : rtOf r = some d) : W r (FnEnd 0 fun y => y = (.d d, [])) := by
  unfold rtOf at h
  split at h
  · cases h
    rw [W_some, FnEnd_rt]
    simp [trunc, W_some]
  · cases h
section
variable {M : Sto} {a b c d e f g h i j : PyData}
theorem newL_6 : newL [.d a, .d b, .d c, .d d, .d e, .d f] M = some (.r M.length, M ++ [.lst [a, b, c, d, e, f]]) := id rfl
theorem newL_7 : newL [.d a, .d b, .d c, .d d, .d e, .d f, .d g] M = some (.r M.length, M ++ [.lst [a, b, c, d, e, f, g]]) := id rfl
theorem newL_8 : newL [.d a, .d b, .d c, .d d, .d e, .d f, .d g, .d h] M = some (.r M.length, M ++ [.lst [a, b, c, d, e, f, g, h]]) := id rfl
theorem newL_9 : newL [.d a, .d b, .d c, .d d, .d e, .d f, .d g, .d h, .d i] M = some (.r M.length, M ++ [.lst [a, b, c, d, e, f, g, h, i]]) := id rfl
theorem newL_10 : newL [.d a, .d b, .d c, .d d, .d e, .d f, .d g, .d h, .d i, .d j] M = some (.r M.length, M ++ [.lst [a, b, c, d, e, f, g, h, i, j]]) := id rfl
end
theorem cut_m1 {α : Type} (xs : List α) : cutL xs none (some (-1)) = xs.dropLast := by
  have e : HT.sIx xs.length xs.length (some (-1)) = xs.length - 1 := by
    show (if (-1 : Int) < 0 then ((-1 : Int) + (xs.length : Int)).toNat else min (-1 : Int).toNat xs.length) = xs.length - 1
    rw [if_pos (by decide)]
    omega
  unfold cutL
  rw [e, HT.sIx_none, List.drop_zero, Nat.sub_zero, List.dropLast_eq_take]
/-- texts may be compared -/
theorem shp_str {z : Str} : SeqAt.shaped (.str z) = z.cps.all (· < 1114112) := by
  unfold SeqAt.shaped
  simp [PyData.canLay0, PyData.strOk, PyData.depth]
/-- a comprehension over things told as data -/
theorem lc_map {α : Type} {pl : PL} {f : PyData → Sto → Option (Option VL × Sto)} {M : Sto} (hok : pl.ok M = true) (e : α → PyData) (p : α → Bool) (g : α → PyData) : ∀ {xs : List α} {acc : List VL},
    (∀ x ∈ xs, f (e x) M = some (if p x then some (.d (g x)) else none, M)) → acc.length + xs.length ≤ sizeLine → lcS pl f (xs.map e) acc M = some (acc ++ ((xs.filter p).map g).map VL.d, M)
  | [], acc, h, _ => by simp only [List.map_nil, lcS, hok, if_true, List.filter_nil, List.append_nil]
  | d :: ds, acc, h, hl => by
    have h1 := h d List.mem_cons_self
    simp only [List.length_cons] at hl
    rw [List.map_cons]
    simp only [lcS, hok, if_true, h1]
    cases hp : p d with
    | false =>
      simp only [Bool.false_eq_true, if_false]
      rw [lc_map hok e p g (fun x hx => h x (List.mem_cons_of_mem _ hx)) (by omega), List.filter_cons, if_neg (by rw [hp]; decide)]
    | true =>
      simp only [if_true]
      rw [if_pos (by omega), lc_map hok e p g (fun x hx => h x (List.mem_cons_of_mem _ hx)) (by simp; omega), List.filter_cons, if_pos hp]
      simp
theorem eqv_nilL {xs : List PyData} : PyData.eqv (.list xs) (.list []) = xs.isEmpty := by cases xs <;> rfl
theorem eqv_nilT {xs : List PyData} : PyData.eqv (.tuple xs) (.tuple []) = xs.isEmpty := by cases xs <;> rfl
theorem flt_isEmpty {α : Type} (f : α → Bool) (xs : List α) : (xs.filter f).isEmpty = !xs.any f := by
  induction xs with
  | nil => rfl
  | cons x xs ih => rw [List.filter_cons, List.any_cons]; cases f x <;> simp [ih]
section
variable {Φ : Nat → Fs} {fu : Nat} {ρ : Lo} {M : Sto} {ds es : List PyData} {d : PyData} {f : PyData → Lo → Sto → RQ} {Q : Fl × Lo × Sto → Prop}
theorem W_for_nil : W (forS (.fx es) f [] ρ M) Q = Q (.nx, ρ, M) := by simp only [forS, PL.ok, if_true, W_some]
theorem W_for_cons (h : W (f d ρ M) fun r => match r with | (.nx, ρ', M') => W (forS (.fx es) f ds ρ' M') Q | (.ct, ρ', M') => W (forS (.fx es) f ds ρ' M') Q | (.bk, ρ', M') => Q (.nx, ρ', M') | (.rt v, ρ', M') => Q (.rt v, ρ', M')) : W (forS (.fx es) f (d :: ds) ρ M) Q := by
  simp only [forS, PL.ok, if_true]
  cases hf : f d ρ M with
  | none => rw [hf, W_none] at h; exact h.elim
  | some r =>
    obtain ⟨fl, ρ', M'⟩ := r
    rw [hf, W_some] at h
    cases fl with
    | nx => exact h
    | ct => exact h
    | bk => rw [W_some]; exact h
    | rt v => rw [W_some]; exact h
end
end Pv
namespace Pv
open PySem PySem.Spec PyProof.Rows L2
/-! ### what is sorted -/
theorem dle_refl (a : PyData) : dle a a = true := dle_iff.mpr (dlt_irrefl a)
theorem toks_inj {n m : Nat} {a b : PyData} (h : PySem.W.alike a b = true) (ha : Pu n a) (hb : Pu m b) (e : PySem.W.keyToks a = PySem.W.keyToks b) : a = b := by
  cases q : PyData.eqv a b with
  | true => exact (ha.eqv hb).mp q
  | false =>
    exfalso
    have t := (PySem.W.toks_eqv a b h).2 q [] [Sum.inl 0]
    rw [e, PySem.W.lex_pre, lex_irrefl] at t
    exact absurd t (by decide +kernel)
theorem dle_antisymm {n m : Nat} {a b : PyData} (h : PySem.W.alike a b = true) (ha : Pu n a) (hb : Pu m b) (h1 : dle a b = true) (h2 : dle b a = true) : a = b :=
  toks_inj h ha hb ((listOrd itemOrd).total _ _ (dle_iff.mp h2) (dle_iff.mp h1))
/-- things that may be sorted, each order told apart -/
structure Als (n : Nat) (A : List PyData) : Prop where
  al : ∀ a ∈ A, ∀ b ∈ A, PySem.W.alike a b = true
  pu : ∀ a ∈ A, Pu n a
theorem Als.sub {n : Nat} {A B : List PyData} (h : Als n A) (s : ∀ b ∈ B, b ∈ A) : Als n B := ⟨fun a ha b hb => h.al a (s a ha) b (s b hb), fun a ha => h.pu a (s a ha)⟩
theorem sorted_uniq {n : Nat} {A B : List PyData} (h : Als n A) (p : A.Perm B) (ha : A.Pairwise fun a b => dle a b = true) (hb : B.Pairwise fun a b => dle a b = true) : A = B :=
  List.Perm.eq_of_pairwise (fun a b h1 h2 q1 q2 => dle_antisymm (h.al a h1 b (p.mem_iff.mpr h2)) (h.pu a h1) (h.pu b (p.mem_iff.mpr h2)) q1 q2) ha hb p
theorem srtL_uniq {n : Nat} {A B : List PyData} (h : Als n A) (p : A.Perm B) : srtL A = srtL B :=
  sorted_uniq (h.sub fun b hb => (srtL_perm A).mem_iff.mp hb) (((srtL_perm A).trans p).trans (srtL_perm B).symm) (srtL_sorted A) (srtL_sorted B)
theorem insL_of {x : PyData} : ∀ {ys : List PyData}, (∀ y ∈ ys, dle x y = true) → insL x ys = x :: ys
  | [], _ => rfl
  | y :: ys, h => by rw [insL, if_pos (h y List.mem_cons_self)]
theorem srtL_of : ∀ {A : List PyData}, (A.Pairwise fun a b => dle a b = true) → srtL A = A
  | [], _ => rfl
  | x :: xs, h => by
    have hc := List.pairwise_cons.mp h
    rw [srtL, srtL_of hc.2, insL_of hc.1]
theorem srtL_eq {n : Nat} {A B : List PyData} (h : Als n A) (p : A.Perm B) (hb : B.Pairwise fun a b => dle a b = true) : srtL A = B := by rw [srtL_uniq h p, srtL_of hb]
theorem srtL_filter {n : Nat} {A : List PyData} (h : Als n A) (f : PyData → Bool) : (srtL A).filter f = srtL (A.filter f) := by
  refine (srtL_eq (h.sub fun b hb => (List.mem_filter.mp hb).1) ((srtL_perm A).symm.filter f) ?_).symm
  exact (srtL_sorted A).filter f
end Pv
namespace K36
open Pv PySem PySem.Spec PyProof.Rows L2
def T0 : List Fs := []
/-- _law_cup(script); 0:script 1:cell -/
def c0_1 : CSs := .cons (.ret (.lst (.cons (.ite (.o2 .ge (.v 1) (.o2 .pow (.c (.int 10)) (.c (.int 18)))) (.o2 .fdiv (.v 1) (.c (.int 67))) (.c
  (.int 0))) (.cons (.o2 .add (.o2 .mod (.bt .int (.cons (.o2 .add (.o2 .mul (.v 1) (.c (.int 277))) (.c (.int 2609))) .nil)) (.c (.int 2077503167)))
  (.c (.int 163))) .nil)))) .nil
def c0 : CSs := .cons (.asg 1 (.bt .abs (.cons (.o2 .ix (.frz (.o2 .add (.frz (.bt .list (.cons (.v 0) .nil))) (.frz (.lst (.cons (.c (.int 0))
  .nil))))) (.c (.int 0))) .nil))) c0_1
def F0 : Fs := fnS (look T0) 0 2 c0
def T1 : List Fs := [F0]
/-- heard_now(heard, client, at, now); 0:heard 1:client 2:at 3:now 4:known 5:triple -/
def c1_1a : CSs := .cons (.ret (.v 0)) .nil
def c1_2 : CSs := .cons (.ret (.bt .tuple (.cons (.frz (.bt .sorted (.cons (.frz (.o2 .add (.frz (.lc (.nm 5) (.val (.v 0)) (.o2 .ne (.o2 .ix (.v 5)
  (.c (.int 0))) (.v 1)) (.v 5))) (.frz (.lst (.cons (.tup (.cons (.v 1) (.cons (.v 2) (.cons (.v 3) .nil)))) .nil))))) .nil))) .nil))) .nil
def c1_1 : CSs := .cons (.ite (.and (.o2 .ne (.v 4) (.frz (.lst .nil))) (.o2 .le (.v 2) (.o2 .ix (.v 4) (.c (.int 0))))) c1_1a .nil) c1_2
def c1 : CSs := .cons (.asg 4 (.frz (.lc (.nm 5) (.val (.v 0)) (.o2 .eq (.o2 .ix (.v 5) (.c (.int 0))) (.v 1)) (.o2 .ix (.v 5) (.c (.int 1)))))) c1_1
def F1 : Fs := fnS (look T1) 0 6 c1
def T2 : List Fs := [F0, F1]
/-- _law_roll(cup, many); 0:cup 1:many 2:found 3:deep -/
def c2_0a_2 : CSs := .cons (.ret (.v 2)) .nil
def c2_0a_1 : CSs := .cons (.six (.v 0) (.c (.int 0)) (.o2 .fdiv (.o2 .ix (.v 0) (.c (.int 0))) (.v 1))) c2_0a_2
def c2_0a : CSs := .cons (.asg 2 (.o2 .mod (.bt .int (.cons (.o2 .ix (.v 0) (.c (.int 0))) .nil)) (.v 1))) c2_0a_1
def c2_3 : CSs := .cons (.ret (.o2 .mod (.bt .int (.cons (.o2 .fdiv (.v 3) (.c (.int 821))) .nil)) (.v 1))) .nil
def c2_2 : CSs := .cons (.asg 3 (.o2 .mod (.bt .int (.cons (.o2 .mul (.o2 .ix (.v 0) (.c (.int 1))) (.o2 .add (.o2 .ix (.v 0) (.c (.int 1))) (.c
  (.int 229)))) .nil)) (.c (.int 2147483587)))) c2_3
def c2_1 : CSs := .cons (.six (.v 0) (.c (.int 1)) (.o2 .mod (.bt .int (.cons (.o2 .add (.o2 .mul (.o2 .ix (.v 0) (.c (.int 1))) (.c (.int 31051)))
  (.c (.int 7993))) .nil)) (.c (.int 2147483543)))) c2_2
def c2 : CSs := .cons (.ite (.o2 .gt (.o2 .ix (.v 0) (.c (.int 0))) (.c (.int 0))) c2_0a .nil) c2_1
def F2 : Fs := fnS (look T2) 0 4 c2
def T3 : List Fs := [F0, F1, F2]
/-- _law_some(cup, things); 0:cup 1:things -/
def c3 : CSs := .cons (.ret (.o2 .ix (.v 1) (.call 2 (.cons (.v 0) (.cons (.bt .len (.cons (.v 1) .nil)) .nil))))) .nil
def F3 : Fs := fnS (look T3) 0 2 c3
def T4 : List Fs := [F0, F1, F2, F3]
theorem l3_2 : look T3 2 = F2 := id rfl
/-- started_heard(clients, now); 0:clients 1:now 2:client -/
def c4 : CSs := .cons (.ret (.bt .tuple (.cons (.frz (.lc (.nm 2) (.val (.v 0)) (.c (.bool true)) (.tup (.cons (.v 2) (.cons (.g "NEVER" (.int (-1)))
  (.cons (.v 1) .nil)))))) .nil))) .nil
def F4 : Fs := fnS (look T4) 0 3 c4
def T5 : List Fs := [F0, F1, F2, F3, F4]
/-- unheard_of(heard); 0:heard 1:client 2:at 3:tick -/
def c5 : CSs := .cons (.ret (.bt .tuple (.cons (.frz (.lc (.tp [1, 2, 3]) (.val (.v 0)) (.o2 .eq (.v 2) (.g "NEVER" (.int (-1)))) (.v 1))) .nil)))
  .nil
def F5 : Fs := fnS (look T5) 0 4 c5
def T6 : List Fs := [F0, F1, F2, F3, F4, F5]
/-- silent(heard, client, now); 0:heard 1:client 2:now 3:one 4:at 5:tick -/
def c6 : CSs := .cons (.ret (.bt .all (.cons (.frz (.lc (.tp [3, 4, 5]) (.val (.v 0)) (.o2 .eq (.v 3) (.v 1)) (.o2 .ge (.o2 .sub (.v 2) (.v 5)) (.g
  "HOLD" (.int 46))))) .nil))) .nil
def F6 : Fs := fnS (look T6) 0 6 c6
def T7 : List Fs := [F0, F1, F2, F3, F4, F5, F6]
/-- forgotten(heard, client); 0:heard 1:client 2:triple -/
def c7 : CSs := .cons (.ret (.bt .tuple (.cons (.frz (.lc (.nm 2) (.val (.v 0)) (.o2 .ne (.o2 .ix (.v 2) (.c (.int 0))) (.v 1)) (.v 2))) .nil))) .nil
def F7 : Fs := fnS (look T7) 0 3 c7
def T8 : List Fs := [F0, F1, F2, F3, F4, F5, F6, F7]
/-- law(script); 0:script 1:cup 2:now 3:clients 4:heard 5:known 6:client 7:turn 8:at 9:rest 10:one 11:later -/
def c8_3f : CSs := .cons (.six (.v 5) (.v 6) (.tup (.cons (.o1 .neg (.c (.int 1))) (.cons (.v 2) .nil)))) .nil
def c8_4f_1a_1f_0a : CSs := .cons (.six (.v 9) (.v 10) (.o2 .ix (.v 5) (.v 10))) .nil
def c8_4f_1a_1f : CSs := .cons (.ite (.o2 .ne (.v 10) (.v 6)) c8_4f_1a_1f_0a .nil) .nil
def c8_4f_1a_2 : CSs := .cons (.asg 5 (.v 9)) .nil
def c8_4f_1a_1 : CSs := .cons (.lck (.v 5) (.forr (.nm 10) (.keys (.v 5)) c8_4f_1a_1f)) c8_4f_1a_2
def c8_4f_1a : CSs := .cons (.par [4, 9] (.cons (.call 7 (.cons (.v 4) (.cons (.v 6) .nil))) (.cons (.dnew false) .nil))) c8_4f_1a_1
def c8_4f_1b_1a : CSs := .cons (.six (.v 5) (.v 6) (.tup (.cons (.v 8) (.cons (.v 2) .nil)))) .nil
def c8_4f_1b_1 : CSs := .cons (.ite (.o2 .gt (.v 8) (.o2 .ix (.mt .get (.v 5) (.cons (.v 6) (.cons (.tup (.cons (.o1 .neg (.c (.int 1))) (.cons (.c
  (.int 0)) .nil))) .nil))) (.c (.int 0)))) c8_4f_1b_1a .nil) .nil
def c8_4f_1b : CSs := .cons (.asg 4 (.call 1 (.cons (.v 4) (.cons (.v 6) (.cons (.v 8) (.cons (.v 2) .nil)))))) c8_4f_1b_1
def c8_4f_2a : CSs := .cons (.ret (.c (.bool false))) .nil
def c8_4f_3a : CSs := .cons (.ret (.c (.bool false))) .nil
def c8_4f_4f_1a : CSs := .cons (.ret (.c (.bool false))) .nil
def c8_4f_4f_1 : CSs := .cons (.ite (.o2 .ne (.call 6 (.cons (.v 4) (.cons (.v 10) (.cons (.v 11) .nil)))) (.or (.o2 .nin (.v 10) (.v 5)) (.o2 .ge
  (.o2 .sub (.v 11) (.o2 .ix (.o2 .ix (.v 5) (.v 10)) (.c (.int 1)))) (.c (.int 46))))) c8_4f_4f_1a .nil) .nil
def c8_4f_4f : CSs := .cons (.asg 11 (.o2 .add (.v 2) (.call 3 (.cons (.v 1) (.cons (.frz (.lst (.cons (.c (.int 0)) (.cons (.c (.int 44)) (.cons (.c
  (.int 45)) (.cons (.c (.int 46)) (.cons (.c (.int 47)) .nil))))))) .nil))))) c8_4f_4f_1
def c8_4f_4 : CSs := .cons (.forr (.nm 10) (.val (.tup (.cons (.c (.int 100)) (.cons (.c (.int 101)) (.cons (.c (.int 102)) (.cons (.c (.int 103))
  .nil)))))) c8_4f_4f) .nil
def c8_4f_3 : CSs := .cons (.ite (.o2 .ne (.call 5 (.cons (.v 4) .nil)) (.bt .tuple (.cons (.frz (.lc (.nm 10) (.val (.frz (.bt .sorted (.cons (.v 5)
  .nil)))) (.o2 .eq (.o2 .ix (.o2 .ix (.v 5) (.v 10)) (.c (.int 0))) (.o1 .neg (.c (.int 1)))) (.v 10))) .nil))) c8_4f_3a .nil) c8_4f_4
def c8_4f_2 : CSs := .cons (.ite (.o2 .ne (.v 4) (.bt .tuple (.cons (.frz (.lc (.nm 10) (.val (.frz (.bt .sorted (.cons (.v 5) .nil)))) (.c (.bool
  true)) (.o2 .add (.tup (.cons (.v 10) .nil)) (.o2 .ix (.v 5) (.v 10))))) .nil))) c8_4f_2a .nil) c8_4f_3
def c8_4f_1 : CSs := .cons (.ite (.o2 .eq (.call 2 (.cons (.v 1) (.cons (.c (.int 9)) .nil))) (.c (.int 0))) c8_4f_1a c8_4f_1b) c8_4f_2
def c8_4f : CSs := .cons (.par [2, 6, 8] (.cons (.o2 .add (.v 2) (.call 3 (.cons (.v 1) (.cons (.frz (.lst (.cons (.c (.int 0)) (.cons (.c (.int 1))
  (.cons (.c (.int 3)) (.cons (.c (.int 20)) .nil)))))) .nil)))) (.cons (.o2 .add (.c (.int 100)) (.call 2 (.cons (.v 1) (.cons (.c (.int 4))
  .nil)))) (.cons (.call 2 (.cons (.v 1) (.cons (.c (.int 20)) .nil))) .nil)))) c8_4f_1
def c8_5a : CSs := .cons (.ret (.c (.bool false))) .nil
def c8_7f : CSs := .cons (.asg 4 (.call 1 (.cons (.v 4) (.cons (.c (.int 100)) (.cons (.c (.int 5)) (.cons (.v 2) .nil)))))) .nil
def c8_8 : CSs := .cons (.ret (.and (.o2 .eq (.v 4) (.tup (.cons (.tup (.cons (.c (.int 100)) (.cons (.c (.int 5)) (.cons (.c (.int 10)) .nil))))
  .nil))) (.and (.o2 .is (.call 6 (.cons (.v 4) (.cons (.c (.int 100)) (.cons (.c (.int 56)) .nil)))) (.c (.bool true))) (.and (.o2 .is (.call 6
  (.cons (.v 4) (.cons (.c (.int 100)) (.cons (.c (.int 55)) .nil)))) (.c (.bool false))) (.and (.o2 .eq (.g "HOLD" (.int 46)) (.c (.int 46))) (.o2
  .eq (.call 1 (.cons (.tup .nil) (.cons (.c (.int 101)) (.cons (.c (.int 0)) (.cons (.c (.int 3)) .nil))))) (.tup (.cons (.tup (.cons (.c (.int
  101)) (.cons (.c (.int 0)) (.cons (.c (.int 3)) .nil)))) .nil)))))))) .nil
def c8_7 : CSs := .cons (.forr (.nm 2) (.val (.tup (.cons (.c (.int 50)) (.cons (.c (.int 55)) (.cons (.c (.int 90)) .nil))))) c8_7f) c8_8
def c8_6 : CSs := .cons (.asg 4 (.call 1 (.cons (.call 4 (.cons (.tup (.cons (.c (.int 100)) .nil)) (.cons (.c (.int 0)) .nil))) (.cons (.c (.int
  100)) (.cons (.c (.int 5)) (.cons (.c (.int 10)) .nil)))))) c8_7
def c8_5 : CSs := .cons (.ite (.or (.o2 .isn (.call 6 (.cons (.tup .nil) (.cons (.c (.int 100)) (.cons (.c (.int 0)) .nil)))) (.c (.bool true))) (.o2
  .isn (.call 6 (.cons (.tup (.cons (.tup (.cons (.c (.int 101)) (.cons (.c (.int 3)) (.cons (.c (.int 3)) .nil)))) .nil)) (.cons (.c (.int 100))
  (.cons (.c (.int 4)) .nil)))) (.c (.bool true)))) c8_5a .nil) c8_6
def c8_4 : CSs := .cons (.forr (.nm 7) (.rng (.c (.int 30))) c8_4f) c8_5
def c8_3 : CSs := .cons (.forr (.nm 6) (.val (.v 3)) c8_3f) c8_4
def c8_2 : CSs := .cons (.par [4, 5] (.cons (.call 4 (.cons (.v 3) (.cons (.v 2) .nil))) (.cons (.dnew false) .nil))) c8_3
def c8_1 : CSs := .cons (.par [2, 3] (.cons (.call 2 (.cons (.v 1) (.cons (.c (.int 99)) .nil))) (.cons (.call 3 (.cons (.v 1) (.cons (.frz (.lst
  (.cons (.tup .nil) (.cons (.tup (.cons (.c (.int 100)) .nil)) (.cons (.tup (.cons (.c (.int 100)) (.cons (.c (.int 102)) .nil))) (.cons (.tup
  (.cons (.c (.int 100)) (.cons (.c (.int 101)) (.cons (.c (.int 103)) .nil)))) .nil)))))) .nil))) .nil))) c8_2
def c8 : CSs := .cons (.asg 1 (.call 0 (.cons (.v 0) .nil))) c8_1
def F8 : Fs := fnS (look T8) 0 12 c8
def T9 : List Fs := [F0, F1, F2, F3, F4, F5, F6, F7, F8]
theorem l8_0 : look T8 0 = F0 := id rfl
theorem l8_1 : look T8 1 = F1 := id rfl
theorem l8_2 : look T8 2 = F2 := id rfl
theorem l8_3 : look T8 3 = F3 := id rfl
theorem l8_4 : look T8 4 = F4 := id rfl
theorem l8_5 : look T8 5 = F5 := id rfl
theorem l8_6 : look T8 6 = F6 := id rfl
theorem l8_7 : look T8 7 = F7 := id rfl
end K36
namespace K36
open Pv PySem PySem.Spec PyProof.Rows L2
theorem W_r {n a b : Int} {M : Sto} {P : VL × Sto → Prop} (hM : M[0]? = some (.lst [.int a, .int b])) (hc : Cup a b) (hn : 0 < n) (hn2 : n < 1073741824) (hlo : M.all (·.lo M.length) = true)
    (h : ∀ v a' b', 0 ≤ v → v < n → Cup a' b' → P (.d (.int v), M.set 0 (.lst [.int a', .int b']))) : W (F2 [.r 0, .d (.int n)] M) P := W_roll (l := 0) (Φ := look T2) (fu := 0) hM hc hn hn2 hlo h
theorem W_s {a b : Int} {M : Sto} {ds : List PyData} {P : VL × Sto → Prop} (hM : M[0]? = some (.lst [.int a, .int b])) (hc : Cup a b) (hn : 0 < ds.length) (hn2 : ds.length < 1073741824)
    (hlo : M.all (·.lo M.length) = true) (h : ∀ d a' b', d ∈ ds → Cup a' b' → P (.d d, M.set 0 (.lst [.int a', .int b']))) : W (F3 [.r 0, .d (.list ds)] M) P :=
  W_some_of (l := 0) (Φ := look T3) (Φ' := look T2) (fu := 0) (fu' := 0) (j := 2) l3_2 hM hc hn hn2 hlo h
def cu (a b : Int) : Sto := [.lst [.int a, .int b]]
/-! ### rolls beside other things in the store -/
/-- a store: the cup, and more behind it -/
def Sr (R : Sto) (M : Sto) : Prop := (∃ a b, Cup a b ∧ M = .lst [.int a, .int b] :: R) ∧ R.all (·.lo (R.length + 1)) = true
section
variable {R M : Sto} (h : Sr R M)
include h
theorem Sr.lo : M.all (·.lo M.length) = true := by
  obtain ⟨⟨a, b, _, rfl⟩, hR⟩ := h
  exact lo_cons hR
theorem Sr.len : M.length = R.length + 1 := by
  obtain ⟨⟨a, b, _, rfl⟩, hR⟩ := h
  rfl
theorem Sr.at_ (i : Nat) : M[i + 1]? = R[i]? := by
  obtain ⟨⟨a, b, _, rfl⟩, hR⟩ := h
  rfl
theorem trunc_y {M' : Sto} {d : PyData} (h' : Sr R M') : trunc M.length (.d d) M' = some (.d d, M') := by
  rw [h.len, ← h'.len]; exact trunc_d h'.lo
theorem W_ry {n : Int} {P : VL × Sto → Prop} (hn : 0 < n) (hn2 : n < 1073741824) (k : ∀ v M', 0 ≤ v → v < n → M'.length = M.length → Sr R M' → P (.d (.int v), M')) : W (F2 [.r 0, .d (.int n)] M) P := by
  obtain ⟨⟨a, b, hc, rfl⟩, hR⟩ := h
  exact W_r rfl hc hn hn2 (lo_cons hR) fun v a' b' h0 h1 hc => k v _ h0 h1 rfl ⟨⟨a', b', hc, rfl⟩, hR⟩
theorem W_sy {ds : List PyData} {P : VL × Sto → Prop} (hn : 0 < ds.length) (hn2 : ds.length < 1073741824) (k : ∀ d M', d ∈ ds → M'.length = M.length → Sr R M' → P (.d d, M')) : W (F3 [.r 0, .d (.list ds)] M) P := by
  obtain ⟨⟨a, b, hc, rfl⟩, hR⟩ := h
  exact W_s rfl hc hn hn2 (lo_cons hR) fun d a' b' hd hc => k d _ hd rfl ⟨⟨a', b', hc, rfl⟩, hR⟩
end
/-! ### rows told by a dict: a row is a tuple whose first thing is its key -/
def kof : PyData → PyData
  | .tuple (k :: _) => k
  | _ => .none
def vof : PyData → PyData
  | .tuple (_ :: vs) => .tuple vs
  | _ => .none
abbrev kv (d : PyData) : PyData × VL := (kof d, .d (vof d))
abbrev atK (k d : PyData) : Bool := Pv.same (kof d) k
abbrev offK (k d : PyData) : Bool := !Pv.same (kof d) k
theorem dle_fst {a b : PyData} {xs ys : List PyData} (h : PySem.W.alike a b = true) (e : PyData.eqv b a = false) (hb : PySem.W.alike b a = true) : dle (.tuple (a :: xs)) (.tuple (b :: ys)) = dle a b := by
  rw [Bool.eq_iff_iff, dle_iff, dle_iff, PySem.W.dataLt_tuple]
  have h1 : ∀ (x : PyData) (xs : List PyData), PySem.W.keyToksAll (x :: xs) = [Sum.inl 1] ++ (PySem.W.keyToks x ++ PySem.W.keyToksAll xs) := fun x xs => by simp only [PySem.W.keyToksAll, List.cons_append, List.nil_append]
  rw [h1, h1, PySem.W.lex_pre, (PySem.W.toks_eqv b a hb).2 e]
  rfl
theorem dget_kv : ∀ {es : List PyData}, (es.map kof).Nodup → ∀ {d : PyData}, Pv.same (kof d) (kof d) = true → d ∈ es → dGet (es.map kv) (kof d) = some (.d (vof d))
  | [], _, _, _, h => nomatch h
  | x :: xs, nd, d, hs, h => by
    rw [List.map_cons, List.nodup_cons] at nd
    rw [List.map_cons, dGet]
    by_cases q : Pv.same (kof x) (kof d) = true
    · rw [if_pos q]
      have e := same_eq _ _ q
      rcases List.mem_cons.mp h with rfl | h
      · rfl
      · exact absurd (List.mem_map.mpr ⟨d, h, rfl⟩) (e ▸ nd.1)
    · rw [if_neg q]
      rcases List.mem_cons.mp h with rfl | h
      · exact absurd hs q
      · exact dget_kv nd.2 hs h
theorem dget_off {k : PyData} : ∀ {es : List PyData}, (∀ d ∈ es, atK k d = false) → dGet (es.map kv) k = none
  | [], _ => rfl
  | x :: xs, h => by
    rw [List.map_cons, dGet, if_neg (by rw [show Pv.same (kv x).1 k = false from h x List.mem_cons_self]; decide)]
    exact dget_off fun d hd => h d (List.mem_cons_of_mem _ hd)
theorem dhas_kv (k : PyData) (es : List PyData) : dHas (es.map kv) k = es.any (atK k) := by
  unfold dHas
  rw [List.any_map]
  rfl
theorem ddrop_kv (k : PyData) (es : List PyData) : dDrop (es.map kv) k = (es.filter (offK k)).map kv := by
  unfold dDrop
  rw [List.filter_map]
  rfl
theorem rep_perm {x : PyData} : ∀ {cs : List PyData}, (cs.map kof).Nodup → cs.any (atK (kof x)) = true → (cs.map fun d => if atK (kof x) d = true then x else d).Perm (cs.filter (offK (kof x)) ++ [x])
  | [], _, h => by cases h
  | c :: cs, nd, h => by
    rw [List.map_cons, List.nodup_cons] at nd
    rw [List.map_cons]
    cases q : atK (kof x) c with
    | true =>
      have e := same_eq _ _ q
      have off : ∀ d ∈ cs, atK (kof x) d = false := fun d hd => by
        cases z : atK (kof x) d with
        | false => rfl
        | true => exact absurd (show kof c ∈ cs.map kof from List.mem_map.mpr ⟨d, hd, (same_eq _ _ z).trans e.symm⟩) nd.1
      have e1 : (cs.map fun d => if atK (kof x) d = true then x else d) = cs := by
        refine (List.map_congr_left fun d hd => ?_).trans (List.map_id _)
        rw [off d hd]; rfl
      have e2 : (c :: cs).filter (offK (kof x)) = cs := by
        rw [List.filter_cons, if_neg (by simp only [offK, show Pv.same (kof c) (kof x) = true from q]; decide)]
        exact List.filter_eq_self.mpr fun d hd => by simp only [offK, show Pv.same (kof d) (kof x) = false from off d hd]; rfl
      rw [e1, e2, if_pos rfl]
      exact (List.perm_append_singleton x cs).symm
    | false =>
      rw [List.any_cons, q, Bool.false_or] at h
      have q' : offK (kof x) c = true := by show (!Pv.same (kof c) (kof x)) = true; rw [show Pv.same (kof c) (kof x) = false from q]; rfl
      rw [List.filter_cons, if_pos q', if_neg (by decide)]
      exact (rep_perm nd.2 h).cons c
theorem put_kv {cs : List PyData} {x : PyData} (nd : (cs.map kof).Nodup) : ∃ es : List PyData, dPut (cs.map kv) (kof x) (.d (vof x)) = es.map kv ∧ es.Perm (cs.filter (offK (kof x)) ++ [x]) := by
  unfold dPut
  rw [dhas_kv]
  cases h : cs.any (atK (kof x)) with
  | true =>
    refine ⟨cs.map fun d => if atK (kof x) d = true then x else d, ?_, rep_perm nd h⟩
    rw [if_pos rfl, List.map_map, List.map_map]
    refine List.map_congr_left fun d _ => ?_
    simp only [Function.comp]
    cases q : Pv.same (kof d) (kof x) with
    | true => rw [if_pos rfl, show (if atK (kof x) d = true then x else d) = x from if_pos q, same_eq _ _ q]
    | false => rw [if_neg (by decide), show (if atK (kof x) d = true then x else d) = d from if_neg (by rw [show atK (kof x) d = false from q]; decide)]
  | false =>
    refine ⟨cs ++ [x], by rw [if_neg (by decide), List.map_append]; rfl, ?_⟩
    rw [List.filter_eq_self.mpr fun d hd => ?_]
    have := List.any_eq_false.mp h d hd
    simpa [offK] using this
theorem merge_kv : ∀ {xs acc : List PyData}, ((acc ++ xs).map kof).Nodup → dMerge (acc.map kv) (xs.map kv) = (acc ++ xs).map kv
  | [], acc, _ => by rw [List.append_nil]; rfl
  | x :: xs, acc, nd => by
    have h : dHas (acc.map kv) (kof x) = false := by
      rw [dhas_kv, List.any_eq_false]
      intro d hd q
      have e := same_eq _ _ q
      rw [List.map_append, List.map_cons] at nd
      have := (List.nodup_append.mp nd).2.2 (kof d) (List.mem_map.mpr ⟨d, hd, rfl⟩) (kof x) List.mem_cons_self
      exact this e
    have e : dMerge (acc.map kv) ((x :: xs).map kv) = dMerge ((acc ++ [x]).map kv) (xs.map kv) := by
      show dMerge (dPut (acc.map kv) (kof x) (.d (vof x))) (xs.map kv) = _
      unfold dPut
      rw [h, if_neg (by decide), List.map_append]; rfl
    rw [e, merge_kv (by rw [List.append_assoc]; exact nd), List.append_assoc]
    rfl
theorem prs_kv : ∀ {cs : List PyData}, (∀ d ∈ cs, keyOk true (kof d) = true) → prsD true (cs.map fun d => .tuple [kof d, vof d]) = some (cs.map kv)
  | [], _ => rfl
  | c :: cs, h => by
    rw [List.map_cons, prsD, if_pos (h c List.mem_cons_self), prs_kv fun d hd => h d (List.mem_cons_of_mem _ hd)]
    rfl
theorem kv_lo (es : List PyData) (t : Bool) (n : Nat) : (MO.dct t (es.map kv)).lo n = true := by
  simp only [MO.lo, List.all_map, List.all_eq_true]
  intro d _
  rfl
/-- at most one row has a key -/
theorem one_key {cs : List PyData} (nd : (cs.map kof).Nodup) {k : PyData} {d e : PyData} (hd : d ∈ cs) (he : e ∈ cs) (h : atK k d = true) (h' : atK k e = true) : d = e := by
  have e0 : kof d = kof e := (same_eq _ _ h).trans (same_eq _ _ h').symm
  induction cs with
  | nil => cases hd
  | cons c cs ih =>
    rw [List.map_cons, List.nodup_cons] at nd
    rcases List.mem_cons.mp hd with h1 | h1
    · rcases List.mem_cons.mp he with h2 | h2
      · rw [h1, h2]
      · exact absurd (show kof c ∈ cs.map kof from List.mem_map.mpr ⟨e, h2, by rw [← h1]; exact e0.symm⟩) nd.1
    · rcases List.mem_cons.mp he with h2 | h2
      · exact absurd (show kof c ∈ cs.map kof from List.mem_map.mpr ⟨d, h1, by rw [← h2]; exact e0⟩) nd.1
      · exact ih nd.2 h1 h2
/-! ### rows: who, the last letter's time, when it was heard -/
theorem sl_nilL : SeqAt.shaped (.list []) = true := by decide +kernel
def row (c a t : Int) : PyData := .tuple [.int c, .int a, .int t]
def Row (d : PyData) : Prop := ∃ c a t, d = row c a t ∧ 100 ≤ c ∧ c ≤ 103
def cOf : PyData → Int
  | .tuple [.int c, _, _] => c
  | _ => 0
def aOf : PyData → Int
  | .tuple [_, .int a, _] => a
  | _ => 0
def tOf : PyData → Int
  | .tuple [_, _, .int t] => t
  | _ => 0
theorem row_pu (c a t : Int) : Pu 1 (row c a t) := pu_tup (all_cons pu_int (all_cons pu_int (all_cons pu_int all_nil)))
theorem Row.pu {d : PyData} (h : Row d) : Pu 1 d := by
  obtain ⟨c, a, t, rfl, _⟩ := h
  exact row_pu c a t
theorem Row.alike {d e : PyData} (h : Row d) (h' : Row e) : PySem.W.alike d e = true := by
  obtain ⟨c, a, t, rfl, _⟩ := h
  obtain ⟨c', a', t', rfl, _⟩ := h'
  simp [row, PySem.W.alike, PySem.W.alikeAll]
theorem als_rows {cs : List PyData} (h : ∀ d ∈ cs, Row d) : Als 1 cs := ⟨fun a ha b hb => (h a ha).alike (h b hb), fun a ha => (h a ha).pu⟩
theorem als_keys {cs : List PyData} (h : ∀ d ∈ cs, Row d) : Als 0 (cs.map kof) := by
  refine ⟨fun a ha b hb => ?_, fun a ha => ?_⟩
  · obtain ⟨x, hx, rfl⟩ := List.mem_map.mp ha
    obtain ⟨y, hy, rfl⟩ := List.mem_map.mp hb
    obtain ⟨c, a, t, rfl, _⟩ := h x hx
    obtain ⟨c', a', t', rfl, _⟩ := h y hy
    simp [row, kof, PySem.W.alike]
  · obtain ⟨x, hx, rfl⟩ := List.mem_map.mp ha
    obtain ⟨c, a, t, rfl, _⟩ := h x hx
    exact pu_int
theorem srt_okT {n : Nat} {A : List PyData} (h : Als n A) (hn : n ≤ 64) (hl : A.length ≤ 1000) (ht : (∀ a ∈ A, isT a = true) ∨ ∀ a ∈ A, notTN a = true) : srtOk A = true := by
  have hz := sizeLine_eq
  unfold srtOk
  simp only [Bool.and_eq_true, Bool.or_eq_true, decide_eq_true_eq, List.all_eq_true]
  exact ⟨⟨by omega, fun d hd => ⟨Nat.le_trans (h.pu d hd).sh.dep hn, fun e he => h.al d hd e he⟩⟩, ht⟩
theorem srt_rows {cs : List PyData} (h : ∀ d ∈ cs, Row d) (hl : cs.length ≤ 1000) : srtOk cs = true := srt_okT (als_rows h) (by decide) hl (.inl fun a ha => by
  obtain ⟨c, a, t, rfl, _⟩ := h a ha
  rfl)
theorem Row.kof {d : PyData} (h : Row d) : kof d = .int (cOf d) := by
  obtain ⟨c, a, t, rfl, _⟩ := h
  rfl
theorem Row.vof {d : PyData} (h : Row d) : vof d = .tuple [.int (aOf d), .int (tOf d)] := by
  obtain ⟨c, a, t, rfl, _⟩ := h
  rfl
theorem Row.eq {d : PyData} (h : Row d) : d = row (cOf d) (aOf d) (tOf d) := by
  obtain ⟨c, a, t, rfl, _⟩ := h
  rfl
theorem same_int (i j : Int) : Pv.same (.int i) (.int j) = decide (i = j) := by simp [Pv.same, Bool.beq_eq_decide_eq]
theorem Row.at {d : PyData} (h : Row d) (k : Int) : atK (.int k) d = decide (cOf d = k) := by
  show Pv.same (K36.kof d) _ = _
  rw [h.kof, same_int]
theorem Row.off {d : PyData} (h : Row d) (k : Int) : offK (.int k) d = !decide (cOf d = k) := by
  show (!Pv.same (K36.kof d) _) = _
  rw [h.kof, same_int]
theorem Row.self {d : PyData} (h : Row d) : Pv.same (K36.kof d) (K36.kof d) = true := by rw [h.kof, same_int]; simp
/-- who was heard: the dict's rows, and the same rows in order -/
structure St (es cs : List PyData) (n : Nat) : Prop where
  all : ∀ d ∈ cs, Row d
  srt : cs.Pairwise fun a b => dle a b = true
  nd : (cs.map kof).Nodup
  pm : es.Perm cs
  len : cs.length ≤ n
section
variable {es cs : List PyData} {n : Nat} (h : St es cs n)
include h
theorem St.erow : ∀ d ∈ es, Row d := fun d hd => h.all d (h.pm.mem_iff.mp hd)
theorem St.end_ : (es.map kof).Nodup := (h.pm.map kof).nodup_iff.mpr h.nd
theorem St.keys : srtL (es.map kof) = cs.map kof := by
  refine srtL_eq (als_keys h.erow) (h.pm.map kof) ?_
  rw [List.pairwise_map]
  have h2 : cs.Pairwise fun a b => kof a ≠ kof b := List.pairwise_map.mp h.nd
  refine (h.srt.and h2).imp_of_mem fun {a b} ha hb q => ?_
  obtain ⟨c, x, t, rfl, _⟩ := h.all a ha
  obtain ⟨c', x', t', rfl, _⟩ := h.all b hb
  have q2 : PyData.int c ≠ .int c' := q.2
  have q1 := q.1
  have q3 : c' ≠ c := fun z => q2 (by rw [z])
  rw [row, row, dle_fst (by simp [PySem.W.alike]) (by rw [eqv_int]; simp [q3]) (by simp [PySem.W.alike])] at q1
  exact q1
theorem St.get {d : PyData} (hd : d ∈ cs) : dGet (es.map kv) (.int (cOf d)) = some (.d (.tuple [.int (aOf d), .int (tOf d)])) := by
  have hr := h.all d hd
  have := dget_kv h.end_ hr.self (h.pm.mem_iff.mpr hd)
  rw [hr.kof, hr.vof] at this
  exact this
theorem St.getn {k : Int} (hk : ∀ d ∈ cs, cOf d ≠ k) : dGet (es.map kv) (.int k) = none := dget_off fun d hd => by
  rw [(h.erow d hd).at]; simp [hk d (h.pm.mem_iff.mp hd)]
theorem St.srtk (hn : n ≤ 1000) : srtOk (es.map kof) = true := by
  refine srt_okT (als_keys h.erow) (by decide) (by rw [List.length_map, h.pm.length_eq]; have := h.len; omega) (.inr fun a ha => ?_)
  obtain ⟨x, hx, rfl⟩ := List.mem_map.mp ha
  rw [(h.erow x hx).kof]; rfl
theorem St.put {x : PyData} (hx : Row x) : ∃ es', dPut (es.map kv) (kof x) (.d (vof x)) = es'.map kv ∧ St es' (srtL (cs.filter (offK (kof x)) ++ [x])) (n + 1) := by
  obtain ⟨es', e, p⟩ := put_kv (x := x) h.end_
  have hrow : ∀ d ∈ cs.filter (offK (kof x)) ++ [x], Row d := fun d hd => by
    rcases List.mem_append.mp hd with hd | hd
    · exact h.all d (List.mem_filter.mp hd).1
    · rw [List.mem_singleton.mp hd]; exact hx
  have sp := srtL_perm (cs.filter (offK (kof x)) ++ [x])
  refine ⟨es', e, fun d hd => hrow d (sp.mem_iff.mp hd), srtL_sorted _, ?_, (p.trans ((h.pm.filter _).append_right [x])).trans sp.symm, ?_⟩
  · rw [(sp.map kof).nodup_iff, List.map_append, List.nodup_append]
    refine ⟨(List.Sublist.map kof List.filter_sublist).nodup h.nd, by simp, ?_⟩
    intro a ha b hb q
    obtain ⟨d, hd, rfl⟩ := List.mem_map.mp ha
    rw [List.map_cons, List.map_nil, List.mem_singleton] at hb
    have hf := (List.mem_filter.mp hd).2
    simp only [offK] at hf
    rw [q, hb, hx.self] at hf
    cases hf
  · rw [sp.length_eq, List.length_append, List.length_singleton]
    have := List.length_filter_le (offK (kof x)) cs
    have := h.len
    omega
theorem St.flt (f : PyData → Bool) : St (es.filter f) (cs.filter f) n := by
  refine ⟨fun d hd => h.all d (List.mem_filter.mp hd).1, h.srt.filter f, (List.Sublist.map kof List.filter_sublist).nodup h.nd, h.pm.filter f, ?_⟩
  have := List.length_filter_le f cs
  have := h.len
  omega
theorem St.pu : Pu 2 (.tuple cs) := pu_tup fun d hd => (h.all d hd).pu
theorem St.mono {m : Nat} (k : n ≤ m) : St es cs m := ⟨h.all, h.srt, h.nd, h.pm, Nat.le_trans h.len k⟩
end
/-- what is heard now -/
def hrd (cs : List PyData) (k a t : Int) : List PyData := match cs.filter fun d => decide (cOf d = k) with
  | [] => srtL (cs.filter (fun d => !decide (cOf d = k)) ++ [row k a t])
  | d :: _ => if a ≤ aOf d then cs else srtL (cs.filter (fun d => !decide (cOf d = k)) ++ [row k a t])
section
variable {M : Sto} (hlo : M.all (·.lo M.length) = true)
include hlo
theorem e_heard {cs : List PyData} (hr : ∀ d ∈ cs, Row d) (hl : cs.length ≤ 100) {k : Int} (hk : 100 ≤ k ∧ k ≤ 103) (a t : Int) : F1 [.d (.tuple cs), .d (.int k), .d (.int a), .d (.int t)] M = some (.d (.tuple (hrd cs k a t)), M) := by
  have hz := sizeLine_eq
  have hll := List.length_filter_le (fun d => !decide (cOf d = k)) cs
  have hrow : ∀ d ∈ cs.filter (fun d => !decide (cOf d = k)) ++ [row k a t], Row d := fun d hd => by
    rcases List.mem_append.mp hd with hd | hd
    · exact hr d (List.mem_filter.mp hd).1
    · rw [List.mem_singleton.mp hd]; exact ⟨k, a, t, rfl, hk⟩
  have ho : srtOk (cs.filter (fun d => !decide (cOf d = k)) ++ [row k a t]) = true := srt_rows hrow (by simp; omega)
  have c2 : ∀ (o4 : Option VL) (o5 : Option VL), W (exs (look T1) 0 c1_2 [some (.d (.tuple cs)), some (.d (.int k)), some (.d (.int a)), some (.d (.int t)), o4, o5] M) (FnEnd M.length (fun r => r = (.d (.tuple (srtL (cs.filter (fun d => !decide (cOf d = k)) ++ [row k a t]))), M))) := fun o4 o5 => by
    rw [c1_2, W_cons]
    simp -implicitDefEqProofs [Pv.ex, Pv.ev, Pv.evs, Pv.evI, Pv.W_bind, Pv.W_some, Pv.W_none, Pv.dataA, Pv.MO.lo, Pv.VL.lo, sizeLine_eq, Pv.kindV, Pv.mtK, Pv.mtS, Pv.appS, Pv.bin2, Pv.un1, Pv.int1, Pv.addS, Pv.subS, Pv.mulS, Pv.fdivS, Pv.modS, Pv.powS, Pv.eqS, Pv.cmpI, Pv.isS, Pv.inS, Pv.inL, Pv.dctOf, Pv.ixS, Pv.sixS, Pv.sixL, Pv.slS, Pv.partOf, Pv.btS, Pv.isiS, Pv.isTy, Pv.seqOf, Pv.lsOf, Pv.tru, Pv.valD, Pv.valF, Pv.plOf, Pv.PL.its, Pv.PL.ok, Pv.setTg, Pv.setAll, Pv.setVs, Pv.setT, Pv.revS, Pv.disS, Pv.disT, Pv.prsV, Pv.prsT, Pv.popS, Pv.wipeL, Pv.Tg.slots, Pv.trunc, Pv.shp_none, Pv.shp_bool, Pv.shp_int, Pv.eqv_int, Pv.eqv_bool, Pv.eqv_str, Pv.chS_bool, Pv.chE_bool, Pv.lckS, Pv.lckQ, Pv.keysOf, Pv.W_ite, Pv.atI_c0, Pv.atI_c1, Pv.atI_c2, Pv.atI_c3, -List.map_map, Pv.newL_map, Pv.newL_0, Pv.newL_1, Pv.newL_2, Pv.newL_3, Pv.newL_4, Pv.newL_5, Pv.newL_6, Pv.newL_7, Pv.newL_8, Pv.newL_9, Pv.newL_10, Pv.cut_f1, Pv.cut_f2, Pv.cut_f3, Pv.cut_t1, Pv.cut_t2, Pv.cut_t3, Pv.cut_12, Pv.flt_true, Pv.flt_false, Pv.frz_new hlo]
    rw [lc_pure (M := M) (pl := .fx cs) rfl (fun d => !decide (cOf d = k)) id _ (by simp; omega), W_some]
    rotate_left
    · intro d hd
      obtain ⟨c, x, y, rfl, _⟩ := hr d hd
      simp -implicitDefEqProofs [Pv.ex, Pv.ev, Pv.evs, Pv.evI, Pv.W_bind, Pv.W_some, Pv.W_none, Pv.dataA, Pv.MO.lo, Pv.VL.lo, sizeLine_eq, Pv.kindV, Pv.mtK, Pv.mtS, Pv.appS, Pv.bin2, Pv.un1, Pv.int1, Pv.addS, Pv.subS, Pv.mulS, Pv.fdivS, Pv.modS, Pv.powS, Pv.eqS, Pv.cmpI, Pv.isS, Pv.inS, Pv.inL, Pv.dctOf, Pv.ixS, Pv.sixS, Pv.sixL, Pv.slS, Pv.partOf, Pv.btS, Pv.isiS, Pv.isTy, Pv.seqOf, Pv.lsOf, Pv.tru, Pv.valD, Pv.valF, Pv.plOf, Pv.PL.its, Pv.PL.ok, Pv.setTg, Pv.setAll, Pv.setVs, Pv.setT, Pv.revS, Pv.disS, Pv.disT, Pv.prsV, Pv.prsT, Pv.popS, Pv.wipeL, Pv.Tg.slots, Pv.trunc, Pv.shp_none, Pv.shp_bool, Pv.shp_int, Pv.eqv_int, Pv.eqv_bool, Pv.eqv_str, Pv.chS_bool, Pv.chE_bool, Pv.lckS, Pv.lckQ, Pv.keysOf, Pv.W_ite, Pv.atI_c0, Pv.atI_c1, Pv.atI_c2, Pv.atI_c3, -List.map_map, Pv.newL_map, Pv.newL_0, Pv.newL_1, Pv.newL_2, Pv.newL_3, Pv.newL_4, Pv.newL_5, Pv.newL_6, Pv.newL_7, Pv.newL_8, Pv.newL_9, Pv.newL_10, Pv.cut_f1, Pv.cut_f2, Pv.cut_f3, Pv.cut_t1, Pv.cut_t2, Pv.cut_t3, Pv.cut_12, Pv.flt_true, Pv.flt_false, Pv.frz_new hlo, row, cOf]
      by_cases q : c = k <;> simp [q]
    rw [List.map_id]
    simp only [row] at ho ⊢
    generalize cs.filter (fun d => !decide (cOf d = k)) = R at hll ho ⊢
    simp -implicitDefEqProofs [Pv.ex, Pv.ev, Pv.evs, Pv.evI, Pv.W_bind, Pv.W_some, Pv.W_none, Pv.dataA, Pv.MO.lo, Pv.VL.lo, sizeLine_eq, Pv.kindV, Pv.mtK, Pv.mtS, Pv.appS, Pv.bin2, Pv.un1, Pv.int1, Pv.addS, Pv.subS, Pv.mulS, Pv.fdivS, Pv.modS, Pv.powS, Pv.eqS, Pv.cmpI, Pv.isS, Pv.inS, Pv.inL, Pv.dctOf, Pv.ixS, Pv.sixS, Pv.sixL, Pv.slS, Pv.partOf, Pv.btS, Pv.isiS, Pv.isTy, Pv.seqOf, Pv.lsOf, Pv.tru, Pv.valD, Pv.valF, Pv.plOf, Pv.PL.its, Pv.PL.ok, Pv.setTg, Pv.setAll, Pv.setVs, Pv.setT, Pv.revS, Pv.disS, Pv.disT, Pv.prsV, Pv.prsT, Pv.popS, Pv.wipeL, Pv.Tg.slots, Pv.trunc, Pv.shp_none, Pv.shp_bool, Pv.shp_int, Pv.eqv_int, Pv.eqv_bool, Pv.eqv_str, Pv.chS_bool, Pv.chE_bool, Pv.lckS, Pv.lckQ, Pv.keysOf, Pv.W_ite, Pv.atI_c0, Pv.atI_c1, Pv.atI_c2, Pv.atI_c3, -List.map_map, Pv.newL_map, Pv.newL_0, Pv.newL_1, Pv.newL_2, Pv.newL_3, Pv.newL_4, Pv.newL_5, Pv.newL_6, Pv.newL_7, Pv.newL_8, Pv.newL_9, Pv.newL_10, Pv.cut_f1, Pv.cut_f2, Pv.cut_f3, Pv.cut_t1, Pv.cut_t2, Pv.cut_t3, Pv.cut_12, Pv.flt_true, Pv.flt_false, Pv.frz_new hlo, itsOf, ho]
    refine ⟨by omega, ?_⟩
    rw [Nx_rt, FnEnd_rt, trunc_d hlo, W_some]
  refine W_eq.mp ?_
  rw [F1, W_fn, c1, W_cons]
  simp -implicitDefEqProofs [Pv.ex, Pv.ev, Pv.evs, Pv.evI, Pv.W_bind, Pv.W_some, Pv.W_none, Pv.dataA, Pv.MO.lo, Pv.VL.lo, sizeLine_eq, Pv.kindV, Pv.mtK, Pv.mtS, Pv.appS, Pv.bin2, Pv.un1, Pv.int1, Pv.addS, Pv.subS, Pv.mulS, Pv.fdivS, Pv.modS, Pv.powS, Pv.eqS, Pv.cmpI, Pv.isS, Pv.inS, Pv.inL, Pv.dctOf, Pv.ixS, Pv.sixS, Pv.sixL, Pv.slS, Pv.partOf, Pv.btS, Pv.isiS, Pv.isTy, Pv.seqOf, Pv.lsOf, Pv.tru, Pv.valD, Pv.valF, Pv.plOf, Pv.PL.its, Pv.PL.ok, Pv.setTg, Pv.setAll, Pv.setVs, Pv.setT, Pv.revS, Pv.disS, Pv.disT, Pv.prsV, Pv.prsT, Pv.popS, Pv.wipeL, Pv.Tg.slots, Pv.trunc, Pv.shp_none, Pv.shp_bool, Pv.shp_int, Pv.eqv_int, Pv.eqv_bool, Pv.eqv_str, Pv.chS_bool, Pv.chE_bool, Pv.lckS, Pv.lckQ, Pv.keysOf, Pv.W_ite, Pv.atI_c0, Pv.atI_c1, Pv.atI_c2, Pv.atI_c3, -List.map_map, Pv.newL_map, Pv.newL_0, Pv.newL_1, Pv.newL_2, Pv.newL_3, Pv.newL_4, Pv.newL_5, Pv.newL_6, Pv.newL_7, Pv.newL_8, Pv.newL_9, Pv.newL_10, Pv.cut_f1, Pv.cut_f2, Pv.cut_f3, Pv.cut_t1, Pv.cut_t2, Pv.cut_t3, Pv.cut_12, Pv.flt_true, Pv.flt_false, Pv.frz_new hlo]
  rw [lc_pure (M := M) (pl := .fx cs) rfl (fun d => decide (cOf d = k)) (fun d => .int (aOf d)) _ (by simp; omega), W_some]
  rotate_left
  · intro d hd
    obtain ⟨c, x, y, rfl, _⟩ := hr d hd
    simp -implicitDefEqProofs [Pv.ex, Pv.ev, Pv.evs, Pv.evI, Pv.W_bind, Pv.W_some, Pv.W_none, Pv.dataA, Pv.MO.lo, Pv.VL.lo, sizeLine_eq, Pv.kindV, Pv.mtK, Pv.mtS, Pv.appS, Pv.bin2, Pv.un1, Pv.int1, Pv.addS, Pv.subS, Pv.mulS, Pv.fdivS, Pv.modS, Pv.powS, Pv.eqS, Pv.cmpI, Pv.isS, Pv.inS, Pv.inL, Pv.dctOf, Pv.ixS, Pv.sixS, Pv.sixL, Pv.slS, Pv.partOf, Pv.btS, Pv.isiS, Pv.isTy, Pv.seqOf, Pv.lsOf, Pv.tru, Pv.valD, Pv.valF, Pv.plOf, Pv.PL.its, Pv.PL.ok, Pv.setTg, Pv.setAll, Pv.setVs, Pv.setT, Pv.revS, Pv.disS, Pv.disT, Pv.prsV, Pv.prsT, Pv.popS, Pv.wipeL, Pv.Tg.slots, Pv.trunc, Pv.shp_none, Pv.shp_bool, Pv.shp_int, Pv.eqv_int, Pv.eqv_bool, Pv.eqv_str, Pv.chS_bool, Pv.chE_bool, Pv.lckS, Pv.lckQ, Pv.keysOf, Pv.W_ite, Pv.atI_c0, Pv.atI_c1, Pv.atI_c2, Pv.atI_c3, -List.map_map, Pv.newL_map, Pv.newL_0, Pv.newL_1, Pv.newL_2, Pv.newL_3, Pv.newL_4, Pv.newL_5, Pv.newL_6, Pv.newL_7, Pv.newL_8, Pv.newL_9, Pv.newL_10, Pv.cut_f1, Pv.cut_f2, Pv.cut_f3, Pv.cut_t1, Pv.cut_t2, Pv.cut_t3, Pv.cut_12, Pv.flt_true, Pv.flt_false, Pv.frz_new hlo, row, cOf, aOf]
    by_cases q : c = k <;> simp [q]
  have hs : SeqAt.shaped (.list ((cs.filter fun d => decide (cOf d = k)).map fun d => .int (aOf d))) = true := (pu_lst (n := 0) fun d hd => by
    obtain ⟨x, _, rfl⟩ := List.mem_map.mp hd
    exact pu_int).shaped (by decide)
  unfold hrd
  simp -implicitDefEqProofs [Pv.ex, Pv.ev, Pv.evs, Pv.evI, Pv.W_bind, Pv.W_some, Pv.W_none, Pv.dataA, Pv.MO.lo, Pv.VL.lo, sizeLine_eq, Pv.kindV, Pv.mtK, Pv.mtS, Pv.appS, Pv.bin2, Pv.un1, Pv.int1, Pv.addS, Pv.subS, Pv.mulS, Pv.fdivS, Pv.modS, Pv.powS, Pv.eqS, Pv.cmpI, Pv.isS, Pv.inS, Pv.inL, Pv.dctOf, Pv.ixS, Pv.sixS, Pv.sixL, Pv.slS, Pv.partOf, Pv.btS, Pv.isiS, Pv.isTy, Pv.seqOf, Pv.lsOf, Pv.tru, Pv.valD, Pv.valF, Pv.plOf, Pv.PL.its, Pv.PL.ok, Pv.setTg, Pv.setAll, Pv.setVs, Pv.setT, Pv.revS, Pv.disS, Pv.disT, Pv.prsV, Pv.prsT, Pv.popS, Pv.wipeL, Pv.Tg.slots, Pv.trunc, Pv.shp_none, Pv.shp_bool, Pv.shp_int, Pv.eqv_int, Pv.eqv_bool, Pv.eqv_str, Pv.chS_bool, Pv.chE_bool, Pv.lckS, Pv.lckQ, Pv.keysOf, Pv.W_ite, Pv.atI_c0, Pv.atI_c1, Pv.atI_c2, Pv.atI_c3, -List.map_map, Pv.newL_map, Pv.newL_0, Pv.newL_1, Pv.newL_2, Pv.newL_3, Pv.newL_4, Pv.newL_5, Pv.newL_6, Pv.newL_7, Pv.newL_8, Pv.newL_9, Pv.newL_10, Pv.cut_f1, Pv.cut_f2, Pv.cut_f3, Pv.cut_t1, Pv.cut_t2, Pv.cut_t3, Pv.cut_12, Pv.flt_true, Pv.flt_false, Pv.frz_new hlo]
  rw [Nx_nx, c1_1, W_cons]
  generalize hK : (cs.filter fun d => decide (cOf d = k)) = K at hs ⊢
  cases K with
  | nil =>
    simp -implicitDefEqProofs [Pv.ex, Pv.ev, Pv.evs, Pv.evI, Pv.W_bind, Pv.W_some, Pv.W_none, Pv.dataA, Pv.MO.lo, Pv.VL.lo, sizeLine_eq, Pv.kindV, Pv.mtK, Pv.mtS, Pv.appS, Pv.bin2, Pv.un1, Pv.int1, Pv.addS, Pv.subS, Pv.mulS, Pv.fdivS, Pv.modS, Pv.powS, Pv.eqS, Pv.cmpI, Pv.isS, Pv.inS, Pv.inL, Pv.dctOf, Pv.ixS, Pv.sixS, Pv.sixL, Pv.slS, Pv.partOf, Pv.btS, Pv.isiS, Pv.isTy, Pv.seqOf, Pv.lsOf, Pv.tru, Pv.valD, Pv.valF, Pv.plOf, Pv.PL.its, Pv.PL.ok, Pv.setTg, Pv.setAll, Pv.setVs, Pv.setT, Pv.revS, Pv.disS, Pv.disT, Pv.prsV, Pv.prsT, Pv.popS, Pv.wipeL, Pv.Tg.slots, Pv.trunc, Pv.shp_none, Pv.shp_bool, Pv.shp_int, Pv.eqv_int, Pv.eqv_bool, Pv.eqv_str, Pv.chS_bool, Pv.chE_bool, Pv.lckS, Pv.lckQ, Pv.keysOf, Pv.W_ite, Pv.atI_c0, Pv.atI_c1, Pv.atI_c2, Pv.atI_c3, -List.map_map, Pv.newL_map, Pv.newL_0, Pv.newL_1, Pv.newL_2, Pv.newL_3, Pv.newL_4, Pv.newL_5, Pv.newL_6, Pv.newL_7, Pv.newL_8, Pv.newL_9, Pv.newL_10, Pv.cut_f1, Pv.cut_f2, Pv.cut_f3, Pv.cut_t1, Pv.cut_t2, Pv.cut_t3, Pv.cut_12, Pv.flt_true, Pv.flt_false, Pv.frz_new hlo, sl_nilL, eqv_nilL]
    rw [W_nil, Nx_nx]
    exact c2 _ _
  | cons d ds =>
    simp only [List.map_cons] at hs
    by_cases q : a ≤ aOf d
    · simp -implicitDefEqProofs [Pv.ex, Pv.ev, Pv.evs, Pv.evI, Pv.W_bind, Pv.W_some, Pv.W_none, Pv.dataA, Pv.MO.lo, Pv.VL.lo, sizeLine_eq, Pv.kindV, Pv.mtK, Pv.mtS, Pv.appS, Pv.bin2, Pv.un1, Pv.int1, Pv.addS, Pv.subS, Pv.mulS, Pv.fdivS, Pv.modS, Pv.powS, Pv.eqS, Pv.cmpI, Pv.isS, Pv.inS, Pv.inL, Pv.dctOf, Pv.ixS, Pv.sixS, Pv.sixL, Pv.slS, Pv.partOf, Pv.btS, Pv.isiS, Pv.isTy, Pv.seqOf, Pv.lsOf, Pv.tru, Pv.valD, Pv.valF, Pv.plOf, Pv.PL.its, Pv.PL.ok, Pv.setTg, Pv.setAll, Pv.setVs, Pv.setT, Pv.revS, Pv.disS, Pv.disT, Pv.prsV, Pv.prsT, Pv.popS, Pv.wipeL, Pv.Tg.slots, Pv.trunc, Pv.shp_none, Pv.shp_bool, Pv.shp_int, Pv.eqv_int, Pv.eqv_bool, Pv.eqv_str, Pv.chS_bool, Pv.chE_bool, Pv.lckS, Pv.lckQ, Pv.keysOf, Pv.W_ite, Pv.atI_c0, Pv.atI_c1, Pv.atI_c2, Pv.atI_c3, -List.map_map, Pv.newL_map, Pv.newL_0, Pv.newL_1, Pv.newL_2, Pv.newL_3, Pv.newL_4, Pv.newL_5, Pv.newL_6, Pv.newL_7, Pv.newL_8, Pv.newL_9, Pv.newL_10, Pv.cut_f1, Pv.cut_f2, Pv.cut_f3, Pv.cut_t1, Pv.cut_t2, Pv.cut_t3, Pv.cut_12, Pv.flt_true, Pv.flt_false, Pv.frz_new hlo, sl_nilL, eqv_nilL, hs, q]
      rw [c1_1a, W_cons]
      simp -implicitDefEqProofs [Pv.ex, Pv.ev, Pv.evs, Pv.evI, Pv.W_bind, Pv.W_some, Pv.W_none, Pv.dataA, Pv.MO.lo, Pv.VL.lo, sizeLine_eq, Pv.kindV, Pv.mtK, Pv.mtS, Pv.appS, Pv.bin2, Pv.un1, Pv.int1, Pv.addS, Pv.subS, Pv.mulS, Pv.fdivS, Pv.modS, Pv.powS, Pv.eqS, Pv.cmpI, Pv.isS, Pv.inS, Pv.inL, Pv.dctOf, Pv.ixS, Pv.sixS, Pv.sixL, Pv.slS, Pv.partOf, Pv.btS, Pv.isiS, Pv.isTy, Pv.seqOf, Pv.lsOf, Pv.tru, Pv.valD, Pv.valF, Pv.plOf, Pv.PL.its, Pv.PL.ok, Pv.setTg, Pv.setAll, Pv.setVs, Pv.setT, Pv.revS, Pv.disS, Pv.disT, Pv.prsV, Pv.prsT, Pv.popS, Pv.wipeL, Pv.Tg.slots, Pv.trunc, Pv.shp_none, Pv.shp_bool, Pv.shp_int, Pv.eqv_int, Pv.eqv_bool, Pv.eqv_str, Pv.chS_bool, Pv.chE_bool, Pv.lckS, Pv.lckQ, Pv.keysOf, Pv.W_ite, Pv.atI_c0, Pv.atI_c1, Pv.atI_c2, Pv.atI_c3, -List.map_map, Pv.newL_map, Pv.newL_0, Pv.newL_1, Pv.newL_2, Pv.newL_3, Pv.newL_4, Pv.newL_5, Pv.newL_6, Pv.newL_7, Pv.newL_8, Pv.newL_9, Pv.newL_10, Pv.cut_f1, Pv.cut_f2, Pv.cut_f3, Pv.cut_t1, Pv.cut_t2, Pv.cut_t3, Pv.cut_12, Pv.flt_true, Pv.flt_false, Pv.frz_new hlo]
      rw [Nx_rt, Nx_rt, FnEnd_rt, trunc_d hlo, W_some]
    · simp -implicitDefEqProofs [Pv.ex, Pv.ev, Pv.evs, Pv.evI, Pv.W_bind, Pv.W_some, Pv.W_none, Pv.dataA, Pv.MO.lo, Pv.VL.lo, sizeLine_eq, Pv.kindV, Pv.mtK, Pv.mtS, Pv.appS, Pv.bin2, Pv.un1, Pv.int1, Pv.addS, Pv.subS, Pv.mulS, Pv.fdivS, Pv.modS, Pv.powS, Pv.eqS, Pv.cmpI, Pv.isS, Pv.inS, Pv.inL, Pv.dctOf, Pv.ixS, Pv.sixS, Pv.sixL, Pv.slS, Pv.partOf, Pv.btS, Pv.isiS, Pv.isTy, Pv.seqOf, Pv.lsOf, Pv.tru, Pv.valD, Pv.valF, Pv.plOf, Pv.PL.its, Pv.PL.ok, Pv.setTg, Pv.setAll, Pv.setVs, Pv.setT, Pv.revS, Pv.disS, Pv.disT, Pv.prsV, Pv.prsT, Pv.popS, Pv.wipeL, Pv.Tg.slots, Pv.trunc, Pv.shp_none, Pv.shp_bool, Pv.shp_int, Pv.eqv_int, Pv.eqv_bool, Pv.eqv_str, Pv.chS_bool, Pv.chE_bool, Pv.lckS, Pv.lckQ, Pv.keysOf, Pv.W_ite, Pv.atI_c0, Pv.atI_c1, Pv.atI_c2, Pv.atI_c3, -List.map_map, Pv.newL_map, Pv.newL_0, Pv.newL_1, Pv.newL_2, Pv.newL_3, Pv.newL_4, Pv.newL_5, Pv.newL_6, Pv.newL_7, Pv.newL_8, Pv.newL_9, Pv.newL_10, Pv.cut_f1, Pv.cut_f2, Pv.cut_f3, Pv.cut_t1, Pv.cut_t2, Pv.cut_t3, Pv.cut_12, Pv.flt_true, Pv.flt_false, Pv.frz_new hlo, sl_nilL, eqv_nilL, hs, q]
      rw [W_nil, Nx_nx]
      exact c2 _ _
theorem e_start (cl : List Int) (now : Int) (hl : cl.length ≤ 100) : F4 [.d (.tuple (cl.map .int)), .d (.int now)] M = some (.d (.tuple (cl.map fun c => row c (-1) now)), M) := by
  have hz := sizeLine_eq
  refine W_eq.mp ?_
  rw [F4, W_fn, c4, W_cons]
  simp -implicitDefEqProofs [Pv.ex, Pv.ev, Pv.evs, Pv.evI, Pv.W_bind, Pv.W_some, Pv.W_none, Pv.dataA, Pv.MO.lo, Pv.VL.lo, sizeLine_eq, Pv.kindV, Pv.mtK, Pv.mtS, Pv.appS, Pv.bin2, Pv.un1, Pv.int1, Pv.addS, Pv.subS, Pv.mulS, Pv.fdivS, Pv.modS, Pv.powS, Pv.eqS, Pv.cmpI, Pv.isS, Pv.inS, Pv.inL, Pv.dctOf, Pv.ixS, Pv.sixS, Pv.sixL, Pv.slS, Pv.partOf, Pv.btS, Pv.isiS, Pv.isTy, Pv.seqOf, Pv.lsOf, Pv.tru, Pv.valD, Pv.valF, Pv.plOf, Pv.PL.its, Pv.PL.ok, Pv.setTg, Pv.setAll, Pv.setVs, Pv.setT, Pv.revS, Pv.disS, Pv.disT, Pv.prsV, Pv.prsT, Pv.popS, Pv.wipeL, Pv.Tg.slots, Pv.trunc, Pv.shp_none, Pv.shp_bool, Pv.shp_int, Pv.eqv_int, Pv.eqv_bool, Pv.eqv_str, Pv.chS_bool, Pv.chE_bool, Pv.lckS, Pv.lckQ, Pv.keysOf, Pv.W_ite, Pv.atI_c0, Pv.atI_c1, Pv.atI_c2, Pv.atI_c3, -List.map_map, Pv.newL_map, Pv.newL_0, Pv.newL_1, Pv.newL_2, Pv.newL_3, Pv.newL_4, Pv.newL_5, Pv.newL_6, Pv.newL_7, Pv.newL_8, Pv.newL_9, Pv.newL_10, Pv.cut_f1, Pv.cut_f2, Pv.cut_f3, Pv.cut_t1, Pv.cut_t2, Pv.cut_t3, Pv.cut_12, Pv.flt_true, Pv.flt_false, Pv.frz_new hlo]
  rw [lc_map (M := M) (pl := .fx _) rfl PyData.int (fun _ => true) (fun c => row c (-1) now) _ (by simp; omega), W_some]
  rotate_left
  · intro c hc
    simp -implicitDefEqProofs [Pv.ex, Pv.ev, Pv.evs, Pv.evI, Pv.W_bind, Pv.W_some, Pv.W_none, Pv.dataA, Pv.MO.lo, Pv.VL.lo, sizeLine_eq, Pv.kindV, Pv.mtK, Pv.mtS, Pv.appS, Pv.bin2, Pv.un1, Pv.int1, Pv.addS, Pv.subS, Pv.mulS, Pv.fdivS, Pv.modS, Pv.powS, Pv.eqS, Pv.cmpI, Pv.isS, Pv.inS, Pv.inL, Pv.dctOf, Pv.ixS, Pv.sixS, Pv.sixL, Pv.slS, Pv.partOf, Pv.btS, Pv.isiS, Pv.isTy, Pv.seqOf, Pv.lsOf, Pv.tru, Pv.valD, Pv.valF, Pv.plOf, Pv.PL.its, Pv.PL.ok, Pv.setTg, Pv.setAll, Pv.setVs, Pv.setT, Pv.revS, Pv.disS, Pv.disT, Pv.prsV, Pv.prsT, Pv.popS, Pv.wipeL, Pv.Tg.slots, Pv.trunc, Pv.shp_none, Pv.shp_bool, Pv.shp_int, Pv.eqv_int, Pv.eqv_bool, Pv.eqv_str, Pv.chS_bool, Pv.chE_bool, Pv.lckS, Pv.lckQ, Pv.keysOf, Pv.W_ite, Pv.atI_c0, Pv.atI_c1, Pv.atI_c2, Pv.atI_c3, -List.map_map, Pv.newL_map, Pv.newL_0, Pv.newL_1, Pv.newL_2, Pv.newL_3, Pv.newL_4, Pv.newL_5, Pv.newL_6, Pv.newL_7, Pv.newL_8, Pv.newL_9, Pv.newL_10, Pv.cut_f1, Pv.cut_f2, Pv.cut_f3, Pv.cut_t1, Pv.cut_t2, Pv.cut_t3, Pv.cut_12, Pv.flt_true, Pv.flt_false, Pv.frz_new hlo, row]
  simp -implicitDefEqProofs [Pv.ex, Pv.ev, Pv.evs, Pv.evI, Pv.W_bind, Pv.W_some, Pv.W_none, Pv.dataA, Pv.MO.lo, Pv.VL.lo, sizeLine_eq, Pv.kindV, Pv.mtK, Pv.mtS, Pv.appS, Pv.bin2, Pv.un1, Pv.int1, Pv.addS, Pv.subS, Pv.mulS, Pv.fdivS, Pv.modS, Pv.powS, Pv.eqS, Pv.cmpI, Pv.isS, Pv.inS, Pv.inL, Pv.dctOf, Pv.ixS, Pv.sixS, Pv.sixL, Pv.slS, Pv.partOf, Pv.btS, Pv.isiS, Pv.isTy, Pv.seqOf, Pv.lsOf, Pv.tru, Pv.valD, Pv.valF, Pv.plOf, Pv.PL.its, Pv.PL.ok, Pv.setTg, Pv.setAll, Pv.setVs, Pv.setT, Pv.revS, Pv.disS, Pv.disT, Pv.prsV, Pv.prsT, Pv.popS, Pv.wipeL, Pv.Tg.slots, Pv.trunc, Pv.shp_none, Pv.shp_bool, Pv.shp_int, Pv.eqv_int, Pv.eqv_bool, Pv.eqv_str, Pv.chS_bool, Pv.chE_bool, Pv.lckS, Pv.lckQ, Pv.keysOf, Pv.W_ite, Pv.atI_c0, Pv.atI_c1, Pv.atI_c2, Pv.atI_c3, -List.map_map, Pv.newL_map, Pv.newL_0, Pv.newL_1, Pv.newL_2, Pv.newL_3, Pv.newL_4, Pv.newL_5, Pv.newL_6, Pv.newL_7, Pv.newL_8, Pv.newL_9, Pv.newL_10, Pv.cut_f1, Pv.cut_f2, Pv.cut_f3, Pv.cut_t1, Pv.cut_t2, Pv.cut_t3, Pv.cut_12, Pv.flt_true, Pv.flt_false, Pv.frz_new hlo]
  rw [Nx_rt, FnEnd_rt, trunc_d hlo, W_some]
theorem e_silent {cs : List PyData} (hr : ∀ d ∈ cs, Row d) (hl : cs.length ≤ 100) (k now : Int) : F6 [.d (.tuple cs), .d (.int k), .d (.int now)] M = some (.d (.bool ((cs.filter fun d => decide (cOf d = k)).all fun d => decide (46 ≤ now - tOf d))), M) := by
  have hz := sizeLine_eq
  refine W_eq.mp ?_
  rw [F6, W_fn, c6, W_cons]
  simp -implicitDefEqProofs [Pv.ex, Pv.ev, Pv.evs, Pv.evI, Pv.W_bind, Pv.W_some, Pv.W_none, Pv.dataA, Pv.MO.lo, Pv.VL.lo, sizeLine_eq, Pv.kindV, Pv.mtK, Pv.mtS, Pv.appS, Pv.bin2, Pv.un1, Pv.int1, Pv.addS, Pv.subS, Pv.mulS, Pv.fdivS, Pv.modS, Pv.powS, Pv.eqS, Pv.cmpI, Pv.isS, Pv.inS, Pv.inL, Pv.dctOf, Pv.ixS, Pv.sixS, Pv.sixL, Pv.slS, Pv.partOf, Pv.btS, Pv.isiS, Pv.isTy, Pv.seqOf, Pv.lsOf, Pv.tru, Pv.valD, Pv.valF, Pv.plOf, Pv.PL.its, Pv.PL.ok, Pv.setTg, Pv.setAll, Pv.setVs, Pv.setT, Pv.revS, Pv.disS, Pv.disT, Pv.prsV, Pv.prsT, Pv.popS, Pv.wipeL, Pv.Tg.slots, Pv.trunc, Pv.shp_none, Pv.shp_bool, Pv.shp_int, Pv.eqv_int, Pv.eqv_bool, Pv.eqv_str, Pv.chS_bool, Pv.chE_bool, Pv.lckS, Pv.lckQ, Pv.keysOf, Pv.W_ite, Pv.atI_c0, Pv.atI_c1, Pv.atI_c2, Pv.atI_c3, -List.map_map, Pv.newL_map, Pv.newL_0, Pv.newL_1, Pv.newL_2, Pv.newL_3, Pv.newL_4, Pv.newL_5, Pv.newL_6, Pv.newL_7, Pv.newL_8, Pv.newL_9, Pv.newL_10, Pv.cut_f1, Pv.cut_f2, Pv.cut_f3, Pv.cut_t1, Pv.cut_t2, Pv.cut_t3, Pv.cut_12, Pv.flt_true, Pv.flt_false, Pv.frz_new hlo]
  rw [lc_pure (M := M) (pl := .fx cs) rfl (fun d => decide (cOf d = k)) (fun d => .bool (decide (46 ≤ now - tOf d))) _ (by simp; omega), W_some]
  rotate_left
  · intro d hd
    obtain ⟨c, x, y, rfl, _⟩ := hr d hd
    simp -implicitDefEqProofs [Pv.ex, Pv.ev, Pv.evs, Pv.evI, Pv.W_bind, Pv.W_some, Pv.W_none, Pv.dataA, Pv.MO.lo, Pv.VL.lo, sizeLine_eq, Pv.kindV, Pv.mtK, Pv.mtS, Pv.appS, Pv.bin2, Pv.un1, Pv.int1, Pv.addS, Pv.subS, Pv.mulS, Pv.fdivS, Pv.modS, Pv.powS, Pv.eqS, Pv.cmpI, Pv.isS, Pv.inS, Pv.inL, Pv.dctOf, Pv.ixS, Pv.sixS, Pv.sixL, Pv.slS, Pv.partOf, Pv.btS, Pv.isiS, Pv.isTy, Pv.seqOf, Pv.lsOf, Pv.tru, Pv.valD, Pv.valF, Pv.plOf, Pv.PL.its, Pv.PL.ok, Pv.setTg, Pv.setAll, Pv.setVs, Pv.setT, Pv.revS, Pv.disS, Pv.disT, Pv.prsV, Pv.prsT, Pv.popS, Pv.wipeL, Pv.Tg.slots, Pv.trunc, Pv.shp_none, Pv.shp_bool, Pv.shp_int, Pv.eqv_int, Pv.eqv_bool, Pv.eqv_str, Pv.chS_bool, Pv.chE_bool, Pv.lckS, Pv.lckQ, Pv.keysOf, Pv.W_ite, Pv.atI_c0, Pv.atI_c1, Pv.atI_c2, Pv.atI_c3, -List.map_map, Pv.newL_map, Pv.newL_0, Pv.newL_1, Pv.newL_2, Pv.newL_3, Pv.newL_4, Pv.newL_5, Pv.newL_6, Pv.newL_7, Pv.newL_8, Pv.newL_9, Pv.newL_10, Pv.cut_f1, Pv.cut_f2, Pv.cut_f3, Pv.cut_t1, Pv.cut_t2, Pv.cut_t3, Pv.cut_12, Pv.flt_true, Pv.flt_false, Pv.frz_new hlo, row, cOf, tOf]
    by_cases q : c = k
    · simp [q]; rfl
    · simp [q]
  simp -implicitDefEqProofs [Pv.ex, Pv.ev, Pv.evs, Pv.evI, Pv.W_bind, Pv.W_some, Pv.W_none, Pv.dataA, Pv.MO.lo, Pv.VL.lo, sizeLine_eq, Pv.kindV, Pv.mtK, Pv.mtS, Pv.appS, Pv.bin2, Pv.un1, Pv.int1, Pv.addS, Pv.subS, Pv.mulS, Pv.fdivS, Pv.modS, Pv.powS, Pv.eqS, Pv.cmpI, Pv.isS, Pv.inS, Pv.inL, Pv.dctOf, Pv.ixS, Pv.sixS, Pv.sixL, Pv.slS, Pv.partOf, Pv.btS, Pv.isiS, Pv.isTy, Pv.seqOf, Pv.lsOf, Pv.tru, Pv.valD, Pv.valF, Pv.plOf, Pv.PL.its, Pv.PL.ok, Pv.setTg, Pv.setAll, Pv.setVs, Pv.setT, Pv.revS, Pv.disS, Pv.disT, Pv.prsV, Pv.prsT, Pv.popS, Pv.wipeL, Pv.Tg.slots, Pv.trunc, Pv.shp_none, Pv.shp_bool, Pv.shp_int, Pv.eqv_int, Pv.eqv_bool, Pv.eqv_str, Pv.chS_bool, Pv.chE_bool, Pv.lckS, Pv.lckQ, Pv.keysOf, Pv.W_ite, Pv.atI_c0, Pv.atI_c1, Pv.atI_c2, Pv.atI_c3, -List.map_map, Pv.newL_map, Pv.newL_0, Pv.newL_1, Pv.newL_2, Pv.newL_3, Pv.newL_4, Pv.newL_5, Pv.newL_6, Pv.newL_7, Pv.newL_8, Pv.newL_9, Pv.newL_10, Pv.cut_f1, Pv.cut_f2, Pv.cut_f3, Pv.cut_t1, Pv.cut_t2, Pv.cut_t3, Pv.cut_12, Pv.flt_true, Pv.flt_false, Pv.frz_new hlo, boolsOf_map]
  rw [Nx_rt, FnEnd_rt, trunc_d hlo, W_some]
theorem e_unheard {cs : List PyData} (hr : ∀ d ∈ cs, Row d) (hl : cs.length ≤ 100) : F5 [.d (.tuple cs)] M = some (.d (.tuple ((cs.filter fun d => decide (aOf d = -1)).map fun d => .int (cOf d))), M) := by
  have hz := sizeLine_eq
  refine W_eq.mp ?_
  rw [F5, W_fn, c5, W_cons]
  simp -implicitDefEqProofs [Pv.ex, Pv.ev, Pv.evs, Pv.evI, Pv.W_bind, Pv.W_some, Pv.W_none, Pv.dataA, Pv.MO.lo, Pv.VL.lo, sizeLine_eq, Pv.kindV, Pv.mtK, Pv.mtS, Pv.appS, Pv.bin2, Pv.un1, Pv.int1, Pv.addS, Pv.subS, Pv.mulS, Pv.fdivS, Pv.modS, Pv.powS, Pv.eqS, Pv.cmpI, Pv.isS, Pv.inS, Pv.inL, Pv.dctOf, Pv.ixS, Pv.sixS, Pv.sixL, Pv.slS, Pv.partOf, Pv.btS, Pv.isiS, Pv.isTy, Pv.seqOf, Pv.lsOf, Pv.tru, Pv.valD, Pv.valF, Pv.plOf, Pv.PL.its, Pv.PL.ok, Pv.setTg, Pv.setAll, Pv.setVs, Pv.setT, Pv.revS, Pv.disS, Pv.disT, Pv.prsV, Pv.prsT, Pv.popS, Pv.wipeL, Pv.Tg.slots, Pv.trunc, Pv.shp_none, Pv.shp_bool, Pv.shp_int, Pv.eqv_int, Pv.eqv_bool, Pv.eqv_str, Pv.chS_bool, Pv.chE_bool, Pv.lckS, Pv.lckQ, Pv.keysOf, Pv.W_ite, Pv.atI_c0, Pv.atI_c1, Pv.atI_c2, Pv.atI_c3, -List.map_map, Pv.newL_map, Pv.newL_0, Pv.newL_1, Pv.newL_2, Pv.newL_3, Pv.newL_4, Pv.newL_5, Pv.newL_6, Pv.newL_7, Pv.newL_8, Pv.newL_9, Pv.newL_10, Pv.cut_f1, Pv.cut_f2, Pv.cut_f3, Pv.cut_t1, Pv.cut_t2, Pv.cut_t3, Pv.cut_12, Pv.flt_true, Pv.flt_false, Pv.frz_new hlo]
  rw [lc_pure (M := M) (pl := .fx cs) rfl (fun d => decide (aOf d = -1)) (fun d => .int (cOf d)) _ (by simp; omega), W_some]
  rotate_left
  · intro d hd
    obtain ⟨c, x, y, rfl, _⟩ := hr d hd
    simp -implicitDefEqProofs [Pv.ex, Pv.ev, Pv.evs, Pv.evI, Pv.W_bind, Pv.W_some, Pv.W_none, Pv.dataA, Pv.MO.lo, Pv.VL.lo, sizeLine_eq, Pv.kindV, Pv.mtK, Pv.mtS, Pv.appS, Pv.bin2, Pv.un1, Pv.int1, Pv.addS, Pv.subS, Pv.mulS, Pv.fdivS, Pv.modS, Pv.powS, Pv.eqS, Pv.cmpI, Pv.isS, Pv.inS, Pv.inL, Pv.dctOf, Pv.ixS, Pv.sixS, Pv.sixL, Pv.slS, Pv.partOf, Pv.btS, Pv.isiS, Pv.isTy, Pv.seqOf, Pv.lsOf, Pv.tru, Pv.valD, Pv.valF, Pv.plOf, Pv.PL.its, Pv.PL.ok, Pv.setTg, Pv.setAll, Pv.setVs, Pv.setT, Pv.revS, Pv.disS, Pv.disT, Pv.prsV, Pv.prsT, Pv.popS, Pv.wipeL, Pv.Tg.slots, Pv.trunc, Pv.shp_none, Pv.shp_bool, Pv.shp_int, Pv.eqv_int, Pv.eqv_bool, Pv.eqv_str, Pv.chS_bool, Pv.chE_bool, Pv.lckS, Pv.lckQ, Pv.keysOf, Pv.W_ite, Pv.atI_c0, Pv.atI_c1, Pv.atI_c2, Pv.atI_c3, -List.map_map, Pv.newL_map, Pv.newL_0, Pv.newL_1, Pv.newL_2, Pv.newL_3, Pv.newL_4, Pv.newL_5, Pv.newL_6, Pv.newL_7, Pv.newL_8, Pv.newL_9, Pv.newL_10, Pv.cut_f1, Pv.cut_f2, Pv.cut_f3, Pv.cut_t1, Pv.cut_t2, Pv.cut_t3, Pv.cut_12, Pv.flt_true, Pv.flt_false, Pv.frz_new hlo, row, cOf, aOf]
    by_cases q : x = -1 <;> simp [q]
  simp -implicitDefEqProofs [Pv.ex, Pv.ev, Pv.evs, Pv.evI, Pv.W_bind, Pv.W_some, Pv.W_none, Pv.dataA, Pv.MO.lo, Pv.VL.lo, sizeLine_eq, Pv.kindV, Pv.mtK, Pv.mtS, Pv.appS, Pv.bin2, Pv.un1, Pv.int1, Pv.addS, Pv.subS, Pv.mulS, Pv.fdivS, Pv.modS, Pv.powS, Pv.eqS, Pv.cmpI, Pv.isS, Pv.inS, Pv.inL, Pv.dctOf, Pv.ixS, Pv.sixS, Pv.sixL, Pv.slS, Pv.partOf, Pv.btS, Pv.isiS, Pv.isTy, Pv.seqOf, Pv.lsOf, Pv.tru, Pv.valD, Pv.valF, Pv.plOf, Pv.PL.its, Pv.PL.ok, Pv.setTg, Pv.setAll, Pv.setVs, Pv.setT, Pv.revS, Pv.disS, Pv.disT, Pv.prsV, Pv.prsT, Pv.popS, Pv.wipeL, Pv.Tg.slots, Pv.trunc, Pv.shp_none, Pv.shp_bool, Pv.shp_int, Pv.eqv_int, Pv.eqv_bool, Pv.eqv_str, Pv.chS_bool, Pv.chE_bool, Pv.lckS, Pv.lckQ, Pv.keysOf, Pv.W_ite, Pv.atI_c0, Pv.atI_c1, Pv.atI_c2, Pv.atI_c3, -List.map_map, Pv.newL_map, Pv.newL_0, Pv.newL_1, Pv.newL_2, Pv.newL_3, Pv.newL_4, Pv.newL_5, Pv.newL_6, Pv.newL_7, Pv.newL_8, Pv.newL_9, Pv.newL_10, Pv.cut_f1, Pv.cut_f2, Pv.cut_f3, Pv.cut_t1, Pv.cut_t2, Pv.cut_t3, Pv.cut_12, Pv.flt_true, Pv.flt_false, Pv.frz_new hlo]
  rw [Nx_rt, FnEnd_rt, trunc_d hlo, W_some]
theorem e_forgot {cs : List PyData} (hr : ∀ d ∈ cs, Row d) (hl : cs.length ≤ 100) (k : Int) : F7 [.d (.tuple cs), .d (.int k)] M = some (.d (.tuple (cs.filter fun d => !decide (cOf d = k))), M) := by
  have hz := sizeLine_eq
  refine W_eq.mp ?_
  rw [F7, W_fn, c7, W_cons]
  simp -implicitDefEqProofs [Pv.ex, Pv.ev, Pv.evs, Pv.evI, Pv.W_bind, Pv.W_some, Pv.W_none, Pv.dataA, Pv.MO.lo, Pv.VL.lo, sizeLine_eq, Pv.kindV, Pv.mtK, Pv.mtS, Pv.appS, Pv.bin2, Pv.un1, Pv.int1, Pv.addS, Pv.subS, Pv.mulS, Pv.fdivS, Pv.modS, Pv.powS, Pv.eqS, Pv.cmpI, Pv.isS, Pv.inS, Pv.inL, Pv.dctOf, Pv.ixS, Pv.sixS, Pv.sixL, Pv.slS, Pv.partOf, Pv.btS, Pv.isiS, Pv.isTy, Pv.seqOf, Pv.lsOf, Pv.tru, Pv.valD, Pv.valF, Pv.plOf, Pv.PL.its, Pv.PL.ok, Pv.setTg, Pv.setAll, Pv.setVs, Pv.setT, Pv.revS, Pv.disS, Pv.disT, Pv.prsV, Pv.prsT, Pv.popS, Pv.wipeL, Pv.Tg.slots, Pv.trunc, Pv.shp_none, Pv.shp_bool, Pv.shp_int, Pv.eqv_int, Pv.eqv_bool, Pv.eqv_str, Pv.chS_bool, Pv.chE_bool, Pv.lckS, Pv.lckQ, Pv.keysOf, Pv.W_ite, Pv.atI_c0, Pv.atI_c1, Pv.atI_c2, Pv.atI_c3, -List.map_map, Pv.newL_map, Pv.newL_0, Pv.newL_1, Pv.newL_2, Pv.newL_3, Pv.newL_4, Pv.newL_5, Pv.newL_6, Pv.newL_7, Pv.newL_8, Pv.newL_9, Pv.newL_10, Pv.cut_f1, Pv.cut_f2, Pv.cut_f3, Pv.cut_t1, Pv.cut_t2, Pv.cut_t3, Pv.cut_12, Pv.flt_true, Pv.flt_false, Pv.frz_new hlo]
  rw [lc_pure (M := M) (pl := .fx cs) rfl (fun d => !decide (cOf d = k)) id _ (by simp; omega), W_some]
  rotate_left
  · intro d hd
    obtain ⟨c, x, y, rfl, _⟩ := hr d hd
    simp -implicitDefEqProofs [Pv.ex, Pv.ev, Pv.evs, Pv.evI, Pv.W_bind, Pv.W_some, Pv.W_none, Pv.dataA, Pv.MO.lo, Pv.VL.lo, sizeLine_eq, Pv.kindV, Pv.mtK, Pv.mtS, Pv.appS, Pv.bin2, Pv.un1, Pv.int1, Pv.addS, Pv.subS, Pv.mulS, Pv.fdivS, Pv.modS, Pv.powS, Pv.eqS, Pv.cmpI, Pv.isS, Pv.inS, Pv.inL, Pv.dctOf, Pv.ixS, Pv.sixS, Pv.sixL, Pv.slS, Pv.partOf, Pv.btS, Pv.isiS, Pv.isTy, Pv.seqOf, Pv.lsOf, Pv.tru, Pv.valD, Pv.valF, Pv.plOf, Pv.PL.its, Pv.PL.ok, Pv.setTg, Pv.setAll, Pv.setVs, Pv.setT, Pv.revS, Pv.disS, Pv.disT, Pv.prsV, Pv.prsT, Pv.popS, Pv.wipeL, Pv.Tg.slots, Pv.trunc, Pv.shp_none, Pv.shp_bool, Pv.shp_int, Pv.eqv_int, Pv.eqv_bool, Pv.eqv_str, Pv.chS_bool, Pv.chE_bool, Pv.lckS, Pv.lckQ, Pv.keysOf, Pv.W_ite, Pv.atI_c0, Pv.atI_c1, Pv.atI_c2, Pv.atI_c3, -List.map_map, Pv.newL_map, Pv.newL_0, Pv.newL_1, Pv.newL_2, Pv.newL_3, Pv.newL_4, Pv.newL_5, Pv.newL_6, Pv.newL_7, Pv.newL_8, Pv.newL_9, Pv.newL_10, Pv.cut_f1, Pv.cut_f2, Pv.cut_f3, Pv.cut_t1, Pv.cut_t2, Pv.cut_t3, Pv.cut_12, Pv.flt_true, Pv.flt_false, Pv.frz_new hlo, row, cOf]
    by_cases q : c = k <;> simp [q]
  simp -implicitDefEqProofs [Pv.ex, Pv.ev, Pv.evs, Pv.evI, Pv.W_bind, Pv.W_some, Pv.W_none, Pv.dataA, Pv.MO.lo, Pv.VL.lo, sizeLine_eq, Pv.kindV, Pv.mtK, Pv.mtS, Pv.appS, Pv.bin2, Pv.un1, Pv.int1, Pv.addS, Pv.subS, Pv.mulS, Pv.fdivS, Pv.modS, Pv.powS, Pv.eqS, Pv.cmpI, Pv.isS, Pv.inS, Pv.inL, Pv.dctOf, Pv.ixS, Pv.sixS, Pv.sixL, Pv.slS, Pv.partOf, Pv.btS, Pv.isiS, Pv.isTy, Pv.seqOf, Pv.lsOf, Pv.tru, Pv.valD, Pv.valF, Pv.plOf, Pv.PL.its, Pv.PL.ok, Pv.setTg, Pv.setAll, Pv.setVs, Pv.setT, Pv.revS, Pv.disS, Pv.disT, Pv.prsV, Pv.prsT, Pv.popS, Pv.wipeL, Pv.Tg.slots, Pv.trunc, Pv.shp_none, Pv.shp_bool, Pv.shp_int, Pv.eqv_int, Pv.eqv_bool, Pv.eqv_str, Pv.chS_bool, Pv.chE_bool, Pv.lckS, Pv.lckQ, Pv.keysOf, Pv.W_ite, Pv.atI_c0, Pv.atI_c1, Pv.atI_c2, Pv.atI_c3, -List.map_map, Pv.newL_map, Pv.newL_0, Pv.newL_1, Pv.newL_2, Pv.newL_3, Pv.newL_4, Pv.newL_5, Pv.newL_6, Pv.newL_7, Pv.newL_8, Pv.newL_9, Pv.newL_10, Pv.cut_f1, Pv.cut_f2, Pv.cut_f3, Pv.cut_t1, Pv.cut_t2, Pv.cut_t3, Pv.cut_12, Pv.flt_true, Pv.flt_false, Pv.frz_new hlo]
  rw [Nx_rt, FnEnd_rt, trunc_d hlo, W_some]
end
end K36
namespace K36
open Pv PySem PySem.Spec PyProof.Rows L2
theorem Sr.push {R M : Sto} (h : Sr R M) (x : MO) (hx : ∀ n, x.lo n = true) (hR : ∀ o ∈ R, ∀ n, o.lo n = true) : Sr (R ++ [x]) (M ++ [x]) := by
  obtain ⟨⟨a, b, hc, rfl⟩, _⟩ := h
  refine ⟨⟨a, b, hc, rfl⟩, List.all_eq_true.mpr fun o ho => ?_⟩
  rcases List.mem_append.mp ho with ho | ho
  · exact hR o ho _
  · rw [List.mem_singleton.mp ho]; exact hx _
theorem Sr.put {R M : Sto} (h : Sr R M) (i : Nat) (x : MO) (hx : ∀ n, x.lo n = true) (hR : ∀ o ∈ R, ∀ n, o.lo n = true) : Sr (R.set i x) (M.set (i + 1) x) := by
  obtain ⟨⟨a, b, hc, rfl⟩, _⟩ := h
  refine ⟨⟨a, b, hc, rfl⟩, List.all_eq_true.mpr fun o ho => ?_⟩
  rcases List.mem_or_eq_of_mem_set ho with ho | rfl
  · exact hR o ho _
  · exact hx _
def fd (es : List PyData) : MO := .dct false (es.map kv)
theorem fd_lo (es : List PyData) (n : Nat) : (fd es).lo n = true := kv_lo es false n
/-- the store: the cup, and dicts, one of them at l what is known -/
structure Wd (R M : Sto) (l : Nat) (es : List PyData) : Prop where
  sr : Sr R M
  al : ∀ o ∈ R, ∀ n, o.lo n = true
  at' : R[l]? = some (fd es)
theorem Wd.m {R M : Sto} {l : Nat} {es : List PyData} (h : Wd R M l es) : M[l + 1]? = some (.dct false (es.map kv)) := (h.sr.at_ l).trans h.at'
theorem Wd.go {R M M' : Sto} {l : Nat} {es : List PyData} (h : Wd R M l es) (h' : Sr R M') : Wd R M' l es := ⟨h', h.al, h.at'⟩
theorem dput_new {es : List PyData} (hr : ∀ d ∈ es, Row d) {c a t : Int} (h : ∀ d ∈ es, cOf d ≠ c) : dPut (es.map kv) (.int c) (.d (.tuple [.int a, .int t])) = (es ++ [row c a t]).map kv := by
  unfold dPut
  have : (es.any fun d => atK (.int c) d) = false := List.any_eq_false.mpr fun d hd => by rw [(hr d hd).at]; simp [h d hd]
  rw [dhas_kv, this, if_neg (by decide), List.map_append]
  rfl
theorem fst_kv (es : List PyData) : (es.map kv).map Prod.fst = es.map kof := by rw [List.map_map]; rfl
theorem one_row {es cs : List PyData} {n : Nat} (h : St es cs n) {k : Int} {d : PyData} {ds : List PyData} (hK : (cs.filter fun d => decide (cOf d = k)) = d :: ds) : ds = [] ∧ d ∈ cs ∧ cOf d = k := by
  have hm : ∀ e ∈ d :: ds, e ∈ cs ∧ cOf e = k := fun e he => by
    rw [← hK] at he
    obtain ⟨h1, h2⟩ := List.mem_filter.mp he
    exact ⟨h1, of_decide_eq_true h2⟩
  have hd := hm d List.mem_cons_self
  refine ⟨?_, hd⟩
  cases ds with
  | nil => rfl
  | cons e es' =>
    exfalso
    have he := hm e (List.mem_cons_of_mem _ List.mem_cons_self)
    have nd : (((cs.filter fun d => decide (cOf d = k))).map kof).Nodup := (List.Sublist.map kof List.filter_sublist).nodup h.nd
    rw [hK, List.map_cons, List.map_cons, List.nodup_cons] at nd
    refine nd.1 (List.mem_cons.mpr (.inl ?_))
    rw [(h.all d hd.1).kof, (h.all e he.1).kof, hd.2, he.2]
def lo12 (ns : List Int) (now : Int) (o3 : Option VL) (cs : List PyData) (l : Nat) (o6 o7 o8 o9 o10 o11 : Option VL) : Lo := [some (.d (.list (ns.map PyData.int))), some (.r 0), some (.d (.int now)), o3, some (.d (.tuple cs)), some (.r (l + 1)), o6, o7, o8, o9, o10, o11]
def I4 (ns : List Int) (k : Nat) (ρ : Lo) (M : Sto) : Prop := ∃ (R : Sto) (l : Nat) (es cs : List PyData) (now : Int) (o3 o6 o7 o8 o9 o10 o11 : Option VL), St es cs (k + 3) ∧ Wd R M l es ∧ ρ = lo12 ns now o3 cs l o6 o7 o8 o9 o10 o11
def I4b (ns : List Int) (R : Sto) (l : Nat) (es cs : List PyData) (now : Int) (o3 o6 o7 o8 o9 : Option VL) (k : Nat) (ρ : Lo) (M : Sto) : Prop := ∃ (o10 o11 : Option VL), Wd R M l es ∧ ρ = lo12 ns now o3 cs l o6 o7 o8 o9 o10 o11
theorem tail {ns : List Int} {R M : Sto} {l k : Nat} {es cs : List PyData} {now : Int} {o3 o6 o7 o8 o9 o10 o11 : Option VL} (hk : k ≤ 40) (h : St es cs (k + 3)) (w : Wd R M l es) :
    W (exs (look T8) 0 c8_4f_2 (lo12 ns now o3 cs l o6 o7 o8 o9 o10 o11) M) (fun r => match r with
      | (.nx, ρ', M') => I4 ns k ρ' M'
      | _ => False) := by
  have hz := sizeLine_eq
  have hlo := w.sr.lo
  have hl := h.len
  have hm := w.m
  have hks := h.keys
  have hok := h.srtk (by omega)
  have pc := h.pu
  have sc := pc.shaped (by decide)
  have qc := pc.refl
  have eu := e_unheard hlo h.all (by omega)
  have pu := pu_tup (n := 0) (ds := (cs.filter fun d => decide (aOf d = -1)).map fun d => PyData.int (cOf d)) fun d hd => by
    obtain ⟨x, _, rfl⟩ := List.mem_map.mp hd
    exact pu_int
  have su := pu.shaped (by decide)
  have qu := pu.refl
  have hg : ∀ d ∈ cs, dGet (es.map kv) (.int (cOf d)) = some (.d (.tuple [.int (aOf d), .int (tOf d)])) := fun d hd => h.get hd
  rw [c8_4f_2, W_cons, lo12]
  simp -implicitDefEqProofs [Pv.ex, Pv.ev, Pv.evs, Pv.evI, Pv.W_bind, Pv.W_some, Pv.W_none, Pv.dataA, Pv.MO.lo, Pv.VL.lo, sizeLine_eq, Pv.kindV, Pv.mtK, Pv.mtS, Pv.appS, Pv.bin2, Pv.un1, Pv.int1, Pv.addS, Pv.subS, Pv.mulS, Pv.fdivS, Pv.modS, Pv.powS, Pv.eqS, Pv.cmpI, Pv.isS, Pv.inS, Pv.inL, Pv.dctOf, Pv.ixS, Pv.sixS, Pv.sixL, Pv.slS, Pv.partOf, Pv.btS, Pv.isiS, Pv.isTy, Pv.seqOf, Pv.lsOf, Pv.tru, Pv.valD, Pv.valF, Pv.plOf, Pv.PL.its, Pv.PL.ok, Pv.setTg, Pv.setAll, Pv.setVs, Pv.setT, Pv.revS, Pv.disS, Pv.disT, Pv.prsV, Pv.prsT, Pv.popS, Pv.wipeL, Pv.Tg.slots, Pv.trunc, Pv.shp_none, Pv.shp_bool, Pv.shp_int, Pv.eqv_int, Pv.eqv_bool, Pv.eqv_str, Pv.chS_bool, Pv.chE_bool, Pv.lckS, Pv.lckQ, Pv.keysOf, Pv.W_ite, Pv.atI_c0, Pv.atI_c1, Pv.atI_c2, Pv.atI_c3, -List.map_map, Pv.newL_map, Pv.newL_0, Pv.newL_1, Pv.newL_2, Pv.newL_3, Pv.newL_4, Pv.newL_5, Pv.newL_6, Pv.newL_7, Pv.newL_8, Pv.newL_9, Pv.newL_10, Pv.cut_f1, Pv.cut_f2, Pv.cut_f3, Pv.cut_t1, Pv.cut_t2, Pv.cut_t3, Pv.cut_12, Pv.flt_true, Pv.flt_false, Pv.frz_new hlo, itsOf, hm, fst_kv, hks, hok]
  rw [lc_map (M := M) (pl := .fx _) rfl kof (fun _ => true) id _ (by simp; omega), W_some]
  rotate_left
  · intro d hd
    have g := hg d hd
    obtain ⟨c, x, y, rfl, _⟩ := h.all d hd
    simp only [row, cOf, aOf, tOf] at g
    simp -implicitDefEqProofs [Pv.ex, Pv.ev, Pv.evs, Pv.evI, Pv.W_bind, Pv.W_some, Pv.W_none, Pv.dataA, Pv.MO.lo, Pv.VL.lo, sizeLine_eq, Pv.kindV, Pv.mtK, Pv.mtS, Pv.appS, Pv.bin2, Pv.un1, Pv.int1, Pv.addS, Pv.subS, Pv.mulS, Pv.fdivS, Pv.modS, Pv.powS, Pv.eqS, Pv.cmpI, Pv.isS, Pv.inS, Pv.inL, Pv.dctOf, Pv.ixS, Pv.sixS, Pv.sixL, Pv.slS, Pv.partOf, Pv.btS, Pv.isiS, Pv.isTy, Pv.seqOf, Pv.lsOf, Pv.tru, Pv.valD, Pv.valF, Pv.plOf, Pv.PL.its, Pv.PL.ok, Pv.setTg, Pv.setAll, Pv.setVs, Pv.setT, Pv.revS, Pv.disS, Pv.disT, Pv.prsV, Pv.prsT, Pv.popS, Pv.wipeL, Pv.Tg.slots, Pv.trunc, Pv.shp_none, Pv.shp_bool, Pv.shp_int, Pv.eqv_int, Pv.eqv_bool, Pv.eqv_str, Pv.chS_bool, Pv.chE_bool, Pv.lckS, Pv.lckQ, Pv.keysOf, Pv.W_ite, Pv.atI_c0, Pv.atI_c1, Pv.atI_c2, Pv.atI_c3, -List.map_map, Pv.newL_map, Pv.newL_0, Pv.newL_1, Pv.newL_2, Pv.newL_3, Pv.newL_4, Pv.newL_5, Pv.newL_6, Pv.newL_7, Pv.newL_8, Pv.newL_9, Pv.newL_10, Pv.cut_f1, Pv.cut_f2, Pv.cut_f3, Pv.cut_t1, Pv.cut_t2, Pv.cut_t3, Pv.cut_12, Pv.flt_true, Pv.flt_false, Pv.frz_new hlo, row, kof, hm, keyOk, kyD, g]
  simp -implicitDefEqProofs [Pv.ex, Pv.ev, Pv.evs, Pv.evI, Pv.W_bind, Pv.W_some, Pv.W_none, Pv.dataA, Pv.MO.lo, Pv.VL.lo, sizeLine_eq, Pv.kindV, Pv.mtK, Pv.mtS, Pv.appS, Pv.bin2, Pv.un1, Pv.int1, Pv.addS, Pv.subS, Pv.mulS, Pv.fdivS, Pv.modS, Pv.powS, Pv.eqS, Pv.cmpI, Pv.isS, Pv.inS, Pv.inL, Pv.dctOf, Pv.ixS, Pv.sixS, Pv.sixL, Pv.slS, Pv.partOf, Pv.btS, Pv.isiS, Pv.isTy, Pv.seqOf, Pv.lsOf, Pv.tru, Pv.valD, Pv.valF, Pv.plOf, Pv.PL.its, Pv.PL.ok, Pv.setTg, Pv.setAll, Pv.setVs, Pv.setT, Pv.revS, Pv.disS, Pv.disT, Pv.prsV, Pv.prsT, Pv.popS, Pv.wipeL, Pv.Tg.slots, Pv.trunc, Pv.shp_none, Pv.shp_bool, Pv.shp_int, Pv.eqv_int, Pv.eqv_bool, Pv.eqv_str, Pv.chS_bool, Pv.chE_bool, Pv.lckS, Pv.lckQ, Pv.keysOf, Pv.W_ite, Pv.atI_c0, Pv.atI_c1, Pv.atI_c2, Pv.atI_c3, -List.map_map, Pv.newL_map, Pv.newL_0, Pv.newL_1, Pv.newL_2, Pv.newL_3, Pv.newL_4, Pv.newL_5, Pv.newL_6, Pv.newL_7, Pv.newL_8, Pv.newL_9, Pv.newL_10, Pv.cut_f1, Pv.cut_f2, Pv.cut_f3, Pv.cut_t1, Pv.cut_t2, Pv.cut_t3, Pv.cut_12, Pv.flt_true, Pv.flt_false, Pv.frz_new hlo, sc, qc]
  rw [W_nil, Nx_nx, c8_4f_3, W_cons]
  simp -implicitDefEqProofs [Pv.ex, Pv.ev, Pv.evs, Pv.evI, Pv.W_bind, Pv.W_some, Pv.W_none, Pv.dataA, Pv.MO.lo, Pv.VL.lo, sizeLine_eq, Pv.kindV, Pv.mtK, Pv.mtS, Pv.appS, Pv.bin2, Pv.un1, Pv.int1, Pv.addS, Pv.subS, Pv.mulS, Pv.fdivS, Pv.modS, Pv.powS, Pv.eqS, Pv.cmpI, Pv.isS, Pv.inS, Pv.inL, Pv.dctOf, Pv.ixS, Pv.sixS, Pv.sixL, Pv.slS, Pv.partOf, Pv.btS, Pv.isiS, Pv.isTy, Pv.seqOf, Pv.lsOf, Pv.tru, Pv.valD, Pv.valF, Pv.plOf, Pv.PL.its, Pv.PL.ok, Pv.setTg, Pv.setAll, Pv.setVs, Pv.setT, Pv.revS, Pv.disS, Pv.disT, Pv.prsV, Pv.prsT, Pv.popS, Pv.wipeL, Pv.Tg.slots, Pv.trunc, Pv.shp_none, Pv.shp_bool, Pv.shp_int, Pv.eqv_int, Pv.eqv_bool, Pv.eqv_str, Pv.chS_bool, Pv.chE_bool, Pv.lckS, Pv.lckQ, Pv.keysOf, Pv.W_ite, Pv.atI_c0, Pv.atI_c1, Pv.atI_c2, Pv.atI_c3, -List.map_map, Pv.newL_map, Pv.newL_0, Pv.newL_1, Pv.newL_2, Pv.newL_3, Pv.newL_4, Pv.newL_5, Pv.newL_6, Pv.newL_7, Pv.newL_8, Pv.newL_9, Pv.newL_10, Pv.cut_f1, Pv.cut_f2, Pv.cut_f3, Pv.cut_t1, Pv.cut_t2, Pv.cut_t3, Pv.cut_12, Pv.flt_true, Pv.flt_false, Pv.frz_new hlo, itsOf, hm, fst_kv, hks, hok, l8_5, eu]
  rw [lc_map (M := M) (pl := .fx _) rfl kof (fun d => decide (aOf d = -1)) (fun d => .int (cOf d)) _ (by simp; omega), W_some]
  rotate_left
  · intro d hd
    have g := hg d hd
    obtain ⟨c, x, y, rfl, _⟩ := h.all d hd
    simp only [row, cOf, aOf, tOf] at g
    by_cases q : x = -1 <;> simp -implicitDefEqProofs [Pv.ex, Pv.ev, Pv.evs, Pv.evI, Pv.W_bind, Pv.W_some, Pv.W_none, Pv.dataA, Pv.MO.lo, Pv.VL.lo, sizeLine_eq, Pv.kindV, Pv.mtK, Pv.mtS, Pv.appS, Pv.bin2, Pv.un1, Pv.int1, Pv.addS, Pv.subS, Pv.mulS, Pv.fdivS, Pv.modS, Pv.powS, Pv.eqS, Pv.cmpI, Pv.isS, Pv.inS, Pv.inL, Pv.dctOf, Pv.ixS, Pv.sixS, Pv.sixL, Pv.slS, Pv.partOf, Pv.btS, Pv.isiS, Pv.isTy, Pv.seqOf, Pv.lsOf, Pv.tru, Pv.valD, Pv.valF, Pv.plOf, Pv.PL.its, Pv.PL.ok, Pv.setTg, Pv.setAll, Pv.setVs, Pv.setT, Pv.revS, Pv.disS, Pv.disT, Pv.prsV, Pv.prsT, Pv.popS, Pv.wipeL, Pv.Tg.slots, Pv.trunc, Pv.shp_none, Pv.shp_bool, Pv.shp_int, Pv.eqv_int, Pv.eqv_bool, Pv.eqv_str, Pv.chS_bool, Pv.chE_bool, Pv.lckS, Pv.lckQ, Pv.keysOf, Pv.W_ite, Pv.atI_c0, Pv.atI_c1, Pv.atI_c2, Pv.atI_c3, -List.map_map, Pv.newL_map, Pv.newL_0, Pv.newL_1, Pv.newL_2, Pv.newL_3, Pv.newL_4, Pv.newL_5, Pv.newL_6, Pv.newL_7, Pv.newL_8, Pv.newL_9, Pv.newL_10, Pv.cut_f1, Pv.cut_f2, Pv.cut_f3, Pv.cut_t1, Pv.cut_t2, Pv.cut_t3, Pv.cut_12, Pv.flt_true, Pv.flt_false, Pv.frz_new hlo, row, kof, hm, keyOk, kyD, g, aOf, cOf, q]
  simp -implicitDefEqProofs [Pv.ex, Pv.ev, Pv.evs, Pv.evI, Pv.W_bind, Pv.W_some, Pv.W_none, Pv.dataA, Pv.MO.lo, Pv.VL.lo, sizeLine_eq, Pv.kindV, Pv.mtK, Pv.mtS, Pv.appS, Pv.bin2, Pv.un1, Pv.int1, Pv.addS, Pv.subS, Pv.mulS, Pv.fdivS, Pv.modS, Pv.powS, Pv.eqS, Pv.cmpI, Pv.isS, Pv.inS, Pv.inL, Pv.dctOf, Pv.ixS, Pv.sixS, Pv.sixL, Pv.slS, Pv.partOf, Pv.btS, Pv.isiS, Pv.isTy, Pv.seqOf, Pv.lsOf, Pv.tru, Pv.valD, Pv.valF, Pv.plOf, Pv.PL.its, Pv.PL.ok, Pv.setTg, Pv.setAll, Pv.setVs, Pv.setT, Pv.revS, Pv.disS, Pv.disT, Pv.prsV, Pv.prsT, Pv.popS, Pv.wipeL, Pv.Tg.slots, Pv.trunc, Pv.shp_none, Pv.shp_bool, Pv.shp_int, Pv.eqv_int, Pv.eqv_bool, Pv.eqv_str, Pv.chS_bool, Pv.chE_bool, Pv.lckS, Pv.lckQ, Pv.keysOf, Pv.W_ite, Pv.atI_c0, Pv.atI_c1, Pv.atI_c2, Pv.atI_c3, -List.map_map, Pv.newL_map, Pv.newL_0, Pv.newL_1, Pv.newL_2, Pv.newL_3, Pv.newL_4, Pv.newL_5, Pv.newL_6, Pv.newL_7, Pv.newL_8, Pv.newL_9, Pv.newL_10, Pv.cut_f1, Pv.cut_f2, Pv.cut_f3, Pv.cut_t1, Pv.cut_t2, Pv.cut_t3, Pv.cut_12, Pv.flt_true, Pv.flt_false, Pv.frz_new hlo, su, qu]
  rw [W_nil, Nx_nx, c8_4f_4, W_cons]
  simp -implicitDefEqProofs [Pv.ex, Pv.ev, Pv.evs, Pv.evI, Pv.W_bind, Pv.W_some, Pv.W_none, Pv.dataA, Pv.MO.lo, Pv.VL.lo, sizeLine_eq, Pv.kindV, Pv.mtK, Pv.mtS, Pv.appS, Pv.bin2, Pv.un1, Pv.int1, Pv.addS, Pv.subS, Pv.mulS, Pv.fdivS, Pv.modS, Pv.powS, Pv.eqS, Pv.cmpI, Pv.isS, Pv.inS, Pv.inL, Pv.dctOf, Pv.ixS, Pv.sixS, Pv.sixL, Pv.slS, Pv.partOf, Pv.btS, Pv.isiS, Pv.isTy, Pv.seqOf, Pv.lsOf, Pv.tru, Pv.valD, Pv.valF, Pv.plOf, Pv.PL.its, Pv.PL.ok, Pv.setTg, Pv.setAll, Pv.setVs, Pv.setT, Pv.revS, Pv.disS, Pv.disT, Pv.prsV, Pv.prsT, Pv.popS, Pv.wipeL, Pv.Tg.slots, Pv.trunc, Pv.shp_none, Pv.shp_bool, Pv.shp_int, Pv.eqv_int, Pv.eqv_bool, Pv.eqv_str, Pv.chS_bool, Pv.chE_bool, Pv.lckS, Pv.lckQ, Pv.keysOf, Pv.W_ite, Pv.atI_c0, Pv.atI_c1, Pv.atI_c2, Pv.atI_c3, -List.map_map, Pv.newL_map, Pv.newL_0, Pv.newL_1, Pv.newL_2, Pv.newL_3, Pv.newL_4, Pv.newL_5, Pv.newL_6, Pv.newL_7, Pv.newL_8, Pv.newL_9, Pv.newL_10, Pv.cut_f1, Pv.cut_f2, Pv.cut_f3, Pv.cut_t1, Pv.cut_t2, Pv.cut_t3, Pv.cut_12, Pv.flt_true, Pv.flt_false, Pv.frz_new hlo]
  refine for_fx (I4b ns R l es cs now o3 o6 o7 o8 o9) ⟨_, _, w, rfl⟩ ?_ ?_
  · rintro j d ρ M hd0 ⟨o10, o11, w, rfl⟩
    have hlo := w.sr.lo
    obtain ⟨c, rfl⟩ : ∃ c : Int, d = .int c := by
      have := List.mem_of_getElem? hd0
      simp only [List.mem_cons, List.not_mem_nil, or_false] at this
      rcases this with rfl | rfl | rfl | rfl <;> exact ⟨_, rfl⟩
    simp only [lo12]
    simp -implicitDefEqProofs [Pv.ex, Pv.ev, Pv.evs, Pv.evI, Pv.W_bind, Pv.W_some, Pv.W_none, Pv.dataA, Pv.MO.lo, Pv.VL.lo, sizeLine_eq, Pv.kindV, Pv.mtK, Pv.mtS, Pv.appS, Pv.bin2, Pv.un1, Pv.int1, Pv.addS, Pv.subS, Pv.mulS, Pv.fdivS, Pv.modS, Pv.powS, Pv.eqS, Pv.cmpI, Pv.isS, Pv.inS, Pv.inL, Pv.dctOf, Pv.ixS, Pv.sixS, Pv.sixL, Pv.slS, Pv.partOf, Pv.btS, Pv.isiS, Pv.isTy, Pv.seqOf, Pv.lsOf, Pv.tru, Pv.valD, Pv.valF, Pv.plOf, Pv.PL.its, Pv.PL.ok, Pv.setTg, Pv.setAll, Pv.setVs, Pv.setT, Pv.revS, Pv.disS, Pv.disT, Pv.prsV, Pv.prsT, Pv.popS, Pv.wipeL, Pv.Tg.slots, Pv.trunc, Pv.shp_none, Pv.shp_bool, Pv.shp_int, Pv.eqv_int, Pv.eqv_bool, Pv.eqv_str, Pv.chS_bool, Pv.chE_bool, Pv.lckS, Pv.lckQ, Pv.keysOf, Pv.W_ite, Pv.atI_c0, Pv.atI_c1, Pv.atI_c2, Pv.atI_c3, -List.map_map, Pv.newL_map, Pv.newL_0, Pv.newL_1, Pv.newL_2, Pv.newL_3, Pv.newL_4, Pv.newL_5, Pv.newL_6, Pv.newL_7, Pv.newL_8, Pv.newL_9, Pv.newL_10, Pv.cut_f1, Pv.cut_f2, Pv.cut_f3, Pv.cut_t1, Pv.cut_t2, Pv.cut_t3, Pv.cut_12, Pv.flt_true, Pv.flt_false, Pv.frz_new hlo]
    rw [c8_4f_4f, W_cons]
    simp -implicitDefEqProofs [Pv.ex, Pv.ev, Pv.evs, Pv.evI, Pv.W_bind, Pv.W_some, Pv.W_none, Pv.dataA, Pv.MO.lo, Pv.VL.lo, sizeLine_eq, Pv.kindV, Pv.mtK, Pv.mtS, Pv.appS, Pv.bin2, Pv.un1, Pv.int1, Pv.addS, Pv.subS, Pv.mulS, Pv.fdivS, Pv.modS, Pv.powS, Pv.eqS, Pv.cmpI, Pv.isS, Pv.inS, Pv.inL, Pv.dctOf, Pv.ixS, Pv.sixS, Pv.sixL, Pv.slS, Pv.partOf, Pv.btS, Pv.isiS, Pv.isTy, Pv.seqOf, Pv.lsOf, Pv.tru, Pv.valD, Pv.valF, Pv.plOf, Pv.PL.its, Pv.PL.ok, Pv.setTg, Pv.setAll, Pv.setVs, Pv.setT, Pv.revS, Pv.disS, Pv.disT, Pv.prsV, Pv.prsT, Pv.popS, Pv.wipeL, Pv.Tg.slots, Pv.trunc, Pv.shp_none, Pv.shp_bool, Pv.shp_int, Pv.eqv_int, Pv.eqv_bool, Pv.eqv_str, Pv.chS_bool, Pv.chE_bool, Pv.lckS, Pv.lckQ, Pv.keysOf, Pv.W_ite, Pv.atI_c0, Pv.atI_c1, Pv.atI_c2, Pv.atI_c3, -List.map_map, Pv.newL_map, Pv.newL_0, Pv.newL_1, Pv.newL_2, Pv.newL_3, Pv.newL_4, Pv.newL_5, Pv.newL_6, Pv.newL_7, Pv.newL_8, Pv.newL_9, Pv.newL_10, Pv.cut_f1, Pv.cut_f2, Pv.cut_f3, Pv.cut_t1, Pv.cut_t2, Pv.cut_t3, Pv.cut_12, Pv.flt_true, Pv.flt_false, Pv.frz_new hlo, l8_3]
    refine W_sy w.sr (by simp) (by simp) fun x M1 hx hL1 h1 => ?_
    have w1 := w.go h1
    have hlo := h1.lo
    have hm := w1.m
    obtain ⟨s, rfl⟩ : ∃ s : Int, x = .int s := by
      simp only [List.mem_cons, List.not_mem_nil, or_false] at hx
      rcases hx with rfl | rfl | rfl | rfl | rfl <;> exact ⟨_, rfl⟩
    have es1 := e_silent hlo h.all (by omega) c (now + s)
    simp -implicitDefEqProofs [Pv.ex, Pv.ev, Pv.evs, Pv.evI, Pv.W_bind, Pv.W_some, Pv.W_none, Pv.dataA, Pv.MO.lo, Pv.VL.lo, sizeLine_eq, Pv.kindV, Pv.mtK, Pv.mtS, Pv.appS, Pv.bin2, Pv.un1, Pv.int1, Pv.addS, Pv.subS, Pv.mulS, Pv.fdivS, Pv.modS, Pv.powS, Pv.eqS, Pv.cmpI, Pv.isS, Pv.inS, Pv.inL, Pv.dctOf, Pv.ixS, Pv.sixS, Pv.sixL, Pv.slS, Pv.partOf, Pv.btS, Pv.isiS, Pv.isTy, Pv.seqOf, Pv.lsOf, Pv.tru, Pv.valD, Pv.valF, Pv.plOf, Pv.PL.its, Pv.PL.ok, Pv.setTg, Pv.setAll, Pv.setVs, Pv.setT, Pv.revS, Pv.disS, Pv.disT, Pv.prsV, Pv.prsT, Pv.popS, Pv.wipeL, Pv.Tg.slots, Pv.trunc, Pv.shp_none, Pv.shp_bool, Pv.shp_int, Pv.eqv_int, Pv.eqv_bool, Pv.eqv_str, Pv.chS_bool, Pv.chE_bool, Pv.lckS, Pv.lckQ, Pv.keysOf, Pv.W_ite, Pv.atI_c0, Pv.atI_c1, Pv.atI_c2, Pv.atI_c3, -List.map_map, Pv.newL_map, Pv.newL_0, Pv.newL_1, Pv.newL_2, Pv.newL_3, Pv.newL_4, Pv.newL_5, Pv.newL_6, Pv.newL_7, Pv.newL_8, Pv.newL_9, Pv.newL_10, Pv.cut_f1, Pv.cut_f2, Pv.cut_f3, Pv.cut_t1, Pv.cut_t2, Pv.cut_t3, Pv.cut_12, Pv.flt_true, Pv.flt_false, Pv.frz_new hlo]
    rw [Nx_nx, c8_4f_4f_1, W_cons]
    cases hK : cs.filter fun d => decide (cOf d = c) with
    | nil =>
      have hn := h.getn (k := c) fun d hd q => by
        have := List.filter_eq_nil_iff.mp hK d hd
        simp [q] at this
      rw [hK] at es1
      simp -implicitDefEqProofs [Pv.ex, Pv.ev, Pv.evs, Pv.evI, Pv.W_bind, Pv.W_some, Pv.W_none, Pv.dataA, Pv.MO.lo, Pv.VL.lo, sizeLine_eq, Pv.kindV, Pv.mtK, Pv.mtS, Pv.appS, Pv.bin2, Pv.un1, Pv.int1, Pv.addS, Pv.subS, Pv.mulS, Pv.fdivS, Pv.modS, Pv.powS, Pv.eqS, Pv.cmpI, Pv.isS, Pv.inS, Pv.inL, Pv.dctOf, Pv.ixS, Pv.sixS, Pv.sixL, Pv.slS, Pv.partOf, Pv.btS, Pv.isiS, Pv.isTy, Pv.seqOf, Pv.lsOf, Pv.tru, Pv.valD, Pv.valF, Pv.plOf, Pv.PL.its, Pv.PL.ok, Pv.setTg, Pv.setAll, Pv.setVs, Pv.setT, Pv.revS, Pv.disS, Pv.disT, Pv.prsV, Pv.prsT, Pv.popS, Pv.wipeL, Pv.Tg.slots, Pv.trunc, Pv.shp_none, Pv.shp_bool, Pv.shp_int, Pv.eqv_int, Pv.eqv_bool, Pv.eqv_str, Pv.chS_bool, Pv.chE_bool, Pv.lckS, Pv.lckQ, Pv.keysOf, Pv.W_ite, Pv.atI_c0, Pv.atI_c1, Pv.atI_c2, Pv.atI_c3, -List.map_map, Pv.newL_map, Pv.newL_0, Pv.newL_1, Pv.newL_2, Pv.newL_3, Pv.newL_4, Pv.newL_5, Pv.newL_6, Pv.newL_7, Pv.newL_8, Pv.newL_9, Pv.newL_10, Pv.cut_f1, Pv.cut_f2, Pv.cut_f3, Pv.cut_t1, Pv.cut_t2, Pv.cut_t3, Pv.cut_12, Pv.flt_true, Pv.flt_false, Pv.frz_new hlo, l8_6, es1, hm, keyOk, kyD, hn]
      rw [W_nil, Nx_nx, W_nil]
      exact ⟨_, _, w1, rfl⟩
    | cons d ds =>
      obtain ⟨rfl, hd, rfl⟩ := one_row h hK
      have hn := hg d hd
      rw [hK] at es1
      simp -implicitDefEqProofs [Pv.ex, Pv.ev, Pv.evs, Pv.evI, Pv.W_bind, Pv.W_some, Pv.W_none, Pv.dataA, Pv.MO.lo, Pv.VL.lo, sizeLine_eq, Pv.kindV, Pv.mtK, Pv.mtS, Pv.appS, Pv.bin2, Pv.un1, Pv.int1, Pv.addS, Pv.subS, Pv.mulS, Pv.fdivS, Pv.modS, Pv.powS, Pv.eqS, Pv.cmpI, Pv.isS, Pv.inS, Pv.inL, Pv.dctOf, Pv.ixS, Pv.sixS, Pv.sixL, Pv.slS, Pv.partOf, Pv.btS, Pv.isiS, Pv.isTy, Pv.seqOf, Pv.lsOf, Pv.tru, Pv.valD, Pv.valF, Pv.plOf, Pv.PL.its, Pv.PL.ok, Pv.setTg, Pv.setAll, Pv.setVs, Pv.setT, Pv.revS, Pv.disS, Pv.disT, Pv.prsV, Pv.prsT, Pv.popS, Pv.wipeL, Pv.Tg.slots, Pv.trunc, Pv.shp_none, Pv.shp_bool, Pv.shp_int, Pv.eqv_int, Pv.eqv_bool, Pv.eqv_str, Pv.chS_bool, Pv.chE_bool, Pv.lckS, Pv.lckQ, Pv.keysOf, Pv.W_ite, Pv.atI_c0, Pv.atI_c1, Pv.atI_c2, Pv.atI_c3, -List.map_map, Pv.newL_map, Pv.newL_0, Pv.newL_1, Pv.newL_2, Pv.newL_3, Pv.newL_4, Pv.newL_5, Pv.newL_6, Pv.newL_7, Pv.newL_8, Pv.newL_9, Pv.newL_10, Pv.cut_f1, Pv.cut_f2, Pv.cut_f3, Pv.cut_t1, Pv.cut_t2, Pv.cut_t3, Pv.cut_12, Pv.flt_true, Pv.flt_false, Pv.frz_new hlo, l8_6, es1, hm, keyOk, kyD, hn]
      rw [W_nil, Nx_nx, W_nil]
      exact ⟨_, _, w1, rfl⟩
  · rintro ρ M ⟨o10, o11, w, rfl⟩
    rw [Nx_nx, W_nil]
    exact ⟨R, l, es, cs, now, o3, o6, o7, o8, o9, o10, o11, h, w, rfl⟩
/-! ### one turn -/
def I1f (ns : List Int) (now : Int) (o3 : Option VL) (cs : List PyData) (l : Nat) (c : Int) (o7 o8 : Option VL) (M0 : Sto) (es : List PyData) (k : Nat) (ρ : Lo) (M : Sto) : Prop := ∃ o10 : Option VL, ∃ o11 : Option VL,
  M = (M0 ++ [fd ((es.take k).filter fun d => !decide (cOf d = c))]).set (l + 1) (.dcl false (es.map kv)) ∧ ρ = lo12 ns now o3 cs l (some (.d (.int c))) o7 o8 (some (.r M0.length)) o10 o11
theorem forget {ns : List Int} {R M : Sto} {l k : Nat} {es cs : List PyData} {now c : Int} {o3 o7 o8 o9 o10 o11 : Option VL} (hk : k ≤ 40) (h : St es cs (k + 3)) (w : Wd R M l es) :
    W (exs (look T8) 0 c8_4f_1a (lo12 ns now o3 cs l (some (.d (.int c))) o7 o8 o9 o10 o11) M) (fun r => match r with
      | (.nx, ρ', M') => I4 ns k ρ' M'
      | _ => False) := by
  have hz := sizeLine_eq
  have hlo := w.sr.lo
  have hl := h.len
  have hm := w.m
  have hlt : l + 1 < M.length := (List.getElem?_eq_some_iff.mp hm).1
  have ef := e_forgot hlo h.all (by omega) c
  have hel : es.length ≤ 100 := by rw [h.pm.length_eq]; omega
  rw [c8_4f_1a, W_cons, lo12]
  simp -implicitDefEqProofs [Pv.ex, Pv.ev, Pv.evs, Pv.evI, Pv.W_bind, Pv.W_some, Pv.W_none, Pv.dataA, Pv.MO.lo, Pv.VL.lo, sizeLine_eq, Pv.kindV, Pv.mtK, Pv.mtS, Pv.appS, Pv.bin2, Pv.un1, Pv.int1, Pv.addS, Pv.subS, Pv.mulS, Pv.fdivS, Pv.modS, Pv.powS, Pv.eqS, Pv.cmpI, Pv.isS, Pv.inS, Pv.inL, Pv.dctOf, Pv.ixS, Pv.sixS, Pv.sixL, Pv.slS, Pv.partOf, Pv.btS, Pv.isiS, Pv.isTy, Pv.seqOf, Pv.lsOf, Pv.tru, Pv.valD, Pv.valF, Pv.plOf, Pv.PL.its, Pv.PL.ok, Pv.setTg, Pv.setAll, Pv.setVs, Pv.setT, Pv.revS, Pv.disS, Pv.disT, Pv.prsV, Pv.prsT, Pv.popS, Pv.wipeL, Pv.Tg.slots, Pv.trunc, Pv.shp_none, Pv.shp_bool, Pv.shp_int, Pv.eqv_int, Pv.eqv_bool, Pv.eqv_str, Pv.chS_bool, Pv.chE_bool, Pv.lckS, Pv.lckQ, Pv.keysOf, Pv.W_ite, Pv.atI_c0, Pv.atI_c1, Pv.atI_c2, Pv.atI_c3, -List.map_map, Pv.newL_map, Pv.newL_0, Pv.newL_1, Pv.newL_2, Pv.newL_3, Pv.newL_4, Pv.newL_5, Pv.newL_6, Pv.newL_7, Pv.newL_8, Pv.newL_9, Pv.newL_10, Pv.cut_f1, Pv.cut_f2, Pv.cut_f3, Pv.cut_t1, Pv.cut_t2, Pv.cut_t3, Pv.cut_12, Pv.flt_true, Pv.flt_false, Pv.frz_new hlo, l8_7, ef, setVs]
  rw [Nx_nx, c8_4f_1a_1, W_cons]
  have hm1 : (M ++ [MO.dct false []])[l + 1]? = some (.dct false (es.map kv)) := by rw [List.getElem?_append_left hlt]; exact hm
  have e0 : (M ++ [MO.dct false []]).set (l + 1) (.dcl false (es.map kv)) = (M ++ [fd []]).set (l + 1) (.dcl false (es.map kv)) := rfl
  have hm2 : ((M ++ [MO.dct false []]).set (l + 1) (.dcl false (es.map kv)))[l + 1]? = some (.dcl false (es.map kv)) := List.getElem?_set_self (by simp; omega)
  simp -implicitDefEqProofs [Pv.ex, Pv.ev, Pv.evs, Pv.evI, Pv.W_bind, Pv.W_some, Pv.W_none, Pv.dataA, Pv.MO.lo, Pv.VL.lo, sizeLine_eq, Pv.kindV, Pv.mtK, Pv.mtS, Pv.appS, Pv.bin2, Pv.un1, Pv.int1, Pv.addS, Pv.subS, Pv.mulS, Pv.fdivS, Pv.modS, Pv.powS, Pv.eqS, Pv.cmpI, Pv.isS, Pv.inS, Pv.inL, Pv.dctOf, Pv.ixS, Pv.sixS, Pv.sixL, Pv.slS, Pv.partOf, Pv.btS, Pv.isiS, Pv.isTy, Pv.seqOf, Pv.lsOf, Pv.tru, Pv.valD, Pv.valF, Pv.plOf, Pv.PL.its, Pv.PL.ok, Pv.setTg, Pv.setAll, Pv.setVs, Pv.setT, Pv.revS, Pv.disS, Pv.disT, Pv.prsV, Pv.prsT, Pv.popS, Pv.wipeL, Pv.Tg.slots, Pv.trunc, Pv.shp_none, Pv.shp_bool, Pv.shp_int, Pv.eqv_int, Pv.eqv_bool, Pv.eqv_str, Pv.chS_bool, Pv.chE_bool, Pv.lckS, Pv.lckQ, Pv.keysOf, Pv.W_ite, Pv.atI_c0, Pv.atI_c1, Pv.atI_c2, Pv.atI_c3, -List.map_map, Pv.newL_map, Pv.newL_0, Pv.newL_1, Pv.newL_2, Pv.newL_3, Pv.newL_4, Pv.newL_5, Pv.newL_6, Pv.newL_7, Pv.newL_8, Pv.newL_9, Pv.newL_10, Pv.cut_f1, Pv.cut_f2, Pv.cut_f3, Pv.cut_t1, Pv.cut_t2, Pv.cut_t3, Pv.cut_12, Pv.flt_true, Pv.flt_false, Pv.frz_new hlo, hm1, hm2, fst_kv]
  refine for_fx (I1f ns now o3 (cs.filter fun d => !decide (cOf d = c)) l c o7 o8 M es) ⟨_, _, rfl, rfl⟩ ?_ ?_
  · rintro j d ρ N hd ⟨o10, o11, rfl, rfl⟩
    rw [List.getElem?_map] at hd
    obtain ⟨e, he, rfl⟩ := Option.map_eq_some_iff.mp hd
    have hem := List.mem_of_getElem? he
    have hr := h.erow e hem
    have hecs := h.pm.mem_iff.mp hem
    have tk : es.take (j + 1) = es.take j ++ [e] := by rw [List.take_add_one, he]; rfl
    have hj : j < es.length := (List.getElem?_eq_some_iff.mp he).1
    have hg := h.get hecs
    have r1 : ((M ++ [fd ((es.take j).filter fun d => !decide (cOf d = c))]).set (l + 1) (.dcl false (es.map kv)))[l + 1]? = some (.dcl false (es.map kv)) := List.getElem?_set_self (by simp; omega)
    have r2 : ((M ++ [fd ((es.take j).filter fun d => !decide (cOf d = c))]).set (l + 1) (.dcl false (es.map kv)))[M.length]? = some (fd ((es.take j).filter fun d => !decide (cOf d = c))) := by
      rw [List.getElem?_set_ne (by omega)]; simp
    have r3 : ∀ x : MO, ((M ++ [fd ((es.take j).filter fun d => !decide (cOf d = c))]).set (l + 1) (.dcl false (es.map kv))).set M.length x = (M ++ [x]).set (l + 1) (.dcl false (es.map kv)) := fun x => by
      rw [List.set_comm _ _ (by omega)]; simp
    have hlen : ((es.take j).filter fun d => !decide (cOf d = c)).length < 16777216 := by
      have := List.length_filter_le (fun d => !decide (cOf d = c)) (es.take j)
      rw [List.length_take] at this; omega
    have nk : ∀ d ∈ (es.take j).filter (fun d => !decide (cOf d = c)), cOf d ≠ cOf e := fun d hd q => by
      have hd1 := (List.mem_filter.mp hd).1
      have nd := h.end_
      rw [← List.take_append_drop j es, List.map_append, List.nodup_append] at nd
      have he2 : e ∈ es.drop j := by
        rw [List.drop_eq_getElem_cons hj]
        have := (List.getElem?_eq_some_iff.mp he).2
        rw [this]; exact List.mem_cons_self
      refine nd.2.2 (kof d) (List.mem_map.mpr ⟨d, hd1, rfl⟩) (kof e) (List.mem_map.mpr ⟨e, he2, rfl⟩) ?_
      rw [(h.erow d (List.mem_of_mem_take hd1)).kof, hr.kof, q]
    have dp := dput_new (es := (es.take j).filter fun d => !decide (cOf d = c)) (fun d hd => h.erow d (List.mem_of_mem_take (List.mem_filter.mp hd).1)) (c := cOf e) (a := aOf e) (t := tOf e) nk
    rw [← hr.eq] at dp
    rw [hr.kof]
    generalize hA : (es.take j).filter (fun d => !decide (cOf d = c)) = A at r1 r2 r3 hlen dp ⊢
    generalize hN : (M ++ [fd A]).set (l + 1) (.dcl false (es.map kv)) = N at r1 r2 r3 ⊢
    simp only [lo12]
    simp -implicitDefEqProofs [Pv.ex, Pv.ev, Pv.evs, Pv.evI, Pv.W_bind, Pv.W_some, Pv.W_none, Pv.newL, Pv.dataA, Pv.frzS, Pv.MO.lo, Pv.VL.lo, sizeLine_eq, Pv.kindV, Pv.mtK, Pv.mtS, Pv.appS, Pv.bin2, Pv.un1, Pv.int1, Pv.addS, Pv.subS, Pv.mulS, Pv.fdivS, Pv.modS, Pv.powS, Pv.eqS, Pv.cmpI, Pv.isS, Pv.inS, Pv.inL, Pv.dctOf, Pv.ixS, Pv.sixS, Pv.sixL, Pv.slS, Pv.partOf, Pv.btS, Pv.isiS, Pv.isTy, Pv.seqOf, Pv.lsOf, Pv.tru, Pv.valD, Pv.valF, Pv.plOf, Pv.PL.its, Pv.PL.ok, Pv.setTg, Pv.setAll, Pv.setVs, Pv.setT, Pv.revS, Pv.disS, Pv.disT, Pv.prsV, Pv.prsT, Pv.popS, Pv.wipeL, Pv.Tg.slots, Pv.trunc, Pv.shp_none, Pv.shp_bool, Pv.shp_int, Pv.eqv_int, Pv.eqv_bool, Pv.eqv_str, Pv.chS_bool, Pv.chE_bool, Pv.lckS, Pv.lckQ, Pv.keysOf] 
    rw [c8_4f_1a_1f, W_cons]
    by_cases q : cOf e = c
    · simp -implicitDefEqProofs [Pv.ex, Pv.ev, Pv.evs, Pv.evI, Pv.W_bind, Pv.W_some, Pv.W_none, Pv.newL, Pv.dataA, Pv.frzS, Pv.MO.lo, Pv.VL.lo, sizeLine_eq, Pv.kindV, Pv.mtK, Pv.mtS, Pv.appS, Pv.bin2, Pv.un1, Pv.int1, Pv.addS, Pv.subS, Pv.mulS, Pv.fdivS, Pv.modS, Pv.powS, Pv.eqS, Pv.cmpI, Pv.isS, Pv.inS, Pv.inL, Pv.dctOf, Pv.ixS, Pv.sixS, Pv.sixL, Pv.slS, Pv.partOf, Pv.btS, Pv.isiS, Pv.isTy, Pv.seqOf, Pv.lsOf, Pv.tru, Pv.valD, Pv.valF, Pv.plOf, Pv.PL.its, Pv.PL.ok, Pv.setTg, Pv.setAll, Pv.setVs, Pv.setT, Pv.revS, Pv.disS, Pv.disT, Pv.prsV, Pv.prsT, Pv.popS, Pv.wipeL, Pv.Tg.slots, Pv.trunc, Pv.shp_none, Pv.shp_bool, Pv.shp_int, Pv.eqv_int, Pv.eqv_bool, Pv.eqv_str, Pv.chS_bool, Pv.chE_bool, Pv.lckS, Pv.lckQ, Pv.keysOf, q]
      rw [W_nil, Nx_nx, W_nil]
      refine ⟨_, _, ?_, rfl⟩
      rw [tk, List.filter_append, hA, ← hN]
      simp [q]
    · simp only [fd] at r2
      simp -implicitDefEqProofs [Pv.ex, Pv.ev, Pv.evs, Pv.evI, Pv.W_bind, Pv.W_some, Pv.W_none, Pv.newL, Pv.dataA, Pv.frzS, Pv.MO.lo, Pv.VL.lo, sizeLine_eq, Pv.kindV, Pv.mtK, Pv.mtS, Pv.appS, Pv.bin2, Pv.un1, Pv.int1, Pv.addS, Pv.subS, Pv.mulS, Pv.fdivS, Pv.modS, Pv.powS, Pv.eqS, Pv.cmpI, Pv.isS, Pv.inS, Pv.inL, Pv.dctOf, Pv.ixS, Pv.sixS, Pv.sixL, Pv.slS, Pv.partOf, Pv.btS, Pv.isiS, Pv.isTy, Pv.seqOf, Pv.lsOf, Pv.tru, Pv.valD, Pv.valF, Pv.plOf, Pv.PL.its, Pv.PL.ok, Pv.setTg, Pv.setAll, Pv.setVs, Pv.setT, Pv.revS, Pv.disS, Pv.disT, Pv.prsV, Pv.prsT, Pv.popS, Pv.wipeL, Pv.Tg.slots, Pv.trunc, Pv.shp_none, Pv.shp_bool, Pv.shp_int, Pv.eqv_int, Pv.eqv_bool, Pv.eqv_str, Pv.chS_bool, Pv.chE_bool, Pv.lckS, Pv.lckQ, Pv.keysOf, q]
      rw [c8_4f_1a_1f_0a, W_cons]
      simp -implicitDefEqProofs [Pv.ex, Pv.ev, Pv.evs, Pv.evI, Pv.W_bind, Pv.W_some, Pv.W_none, Pv.newL, Pv.dataA, Pv.frzS, Pv.MO.lo, Pv.VL.lo, sizeLine_eq, Pv.kindV, Pv.mtK, Pv.mtS, Pv.appS, Pv.bin2, Pv.un1, Pv.int1, Pv.addS, Pv.subS, Pv.mulS, Pv.fdivS, Pv.modS, Pv.powS, Pv.eqS, Pv.cmpI, Pv.isS, Pv.inS, Pv.inL, Pv.dctOf, Pv.ixS, Pv.sixS, Pv.sixL, Pv.slS, Pv.partOf, Pv.btS, Pv.isiS, Pv.isTy, Pv.seqOf, Pv.lsOf, Pv.tru, Pv.valD, Pv.valF, Pv.plOf, Pv.PL.its, Pv.PL.ok, Pv.setTg, Pv.setAll, Pv.setVs, Pv.setT, Pv.revS, Pv.disS, Pv.disT, Pv.prsV, Pv.prsT, Pv.popS, Pv.wipeL, Pv.Tg.slots, Pv.trunc, Pv.shp_none, Pv.shp_bool, Pv.shp_int, Pv.eqv_int, Pv.eqv_bool, Pv.eqv_str, Pv.chS_bool, Pv.chE_bool, Pv.lckS, Pv.lckQ, Pv.keysOf, r1, r2, keyOk, kyD, hg, hlen]
      rw [Nx_nx, W_nil, Nx_nx, W_nil]
      refine ⟨_, _, ?_, rfl⟩
      rw [tk, List.filter_append, hA, r3, dp]
      simp [q, fd]
  · rintro ρ N ⟨o10, o11, rfl, rfl⟩
    rw [List.length_map, List.take_length]
    have r3 : ((M ++ [fd (es.filter fun d => !decide (cOf d = c))]).set (l + 1) (.dcl false (es.map kv))).set (l + 1) (.dct false (es.map kv)) = M ++ [fd (es.filter fun d => !decide (cOf d = c))] := by
      rw [List.set_set]
      refine List.ext_getElem? fun i => ?_
      by_cases hi : l + 1 = i
      · subst hi
        rw [List.getElem?_set_self (by simp; omega), List.getElem?_append_left hlt, hm]
      · rw [List.getElem?_set_ne hi]
    simp only [lo12]
    simp -implicitDefEqProofs [Pv.ex, Pv.ev, Pv.evs, Pv.evI, Pv.W_bind, Pv.W_some, Pv.W_none, Pv.newL, Pv.dataA, Pv.frzS, Pv.MO.lo, Pv.VL.lo, sizeLine_eq, Pv.kindV, Pv.mtK, Pv.mtS, Pv.appS, Pv.bin2, Pv.un1, Pv.int1, Pv.addS, Pv.subS, Pv.mulS, Pv.fdivS, Pv.modS, Pv.powS, Pv.eqS, Pv.cmpI, Pv.isS, Pv.inS, Pv.inL, Pv.dctOf, Pv.ixS, Pv.sixS, Pv.sixL, Pv.slS, Pv.partOf, Pv.btS, Pv.isiS, Pv.isTy, Pv.seqOf, Pv.lsOf, Pv.tru, Pv.valD, Pv.valF, Pv.plOf, Pv.PL.its, Pv.PL.ok, Pv.setTg, Pv.setAll, Pv.setVs, Pv.setT, Pv.revS, Pv.disS, Pv.disT, Pv.prsV, Pv.prsT, Pv.popS, Pv.wipeL, Pv.Tg.slots, Pv.trunc, Pv.shp_none, Pv.shp_bool, Pv.shp_int, Pv.eqv_int, Pv.eqv_bool, Pv.eqv_str, Pv.chS_bool, Pv.chE_bool, Pv.lckS, Pv.lckQ, Pv.keysOf, r3]
    rw [Nx_nx, c8_4f_1a_2, W_cons]
    simp -implicitDefEqProofs [Pv.ex, Pv.ev, Pv.evs, Pv.evI, Pv.W_bind, Pv.W_some, Pv.W_none, Pv.newL, Pv.dataA, Pv.frzS, Pv.MO.lo, Pv.VL.lo, sizeLine_eq, Pv.kindV, Pv.mtK, Pv.mtS, Pv.appS, Pv.bin2, Pv.un1, Pv.int1, Pv.addS, Pv.subS, Pv.mulS, Pv.fdivS, Pv.modS, Pv.powS, Pv.eqS, Pv.cmpI, Pv.isS, Pv.inS, Pv.inL, Pv.dctOf, Pv.ixS, Pv.sixS, Pv.sixL, Pv.slS, Pv.partOf, Pv.btS, Pv.isiS, Pv.isTy, Pv.seqOf, Pv.lsOf, Pv.tru, Pv.valD, Pv.valF, Pv.plOf, Pv.PL.its, Pv.PL.ok, Pv.setTg, Pv.setAll, Pv.setVs, Pv.setT, Pv.revS, Pv.disS, Pv.disT, Pv.prsV, Pv.prsT, Pv.popS, Pv.wipeL, Pv.Tg.slots, Pv.trunc, Pv.shp_none, Pv.shp_bool, Pv.shp_int, Pv.eqv_int, Pv.eqv_bool, Pv.eqv_str, Pv.chS_bool, Pv.chE_bool, Pv.lckS, Pv.lckQ, Pv.keysOf]
    rw [Nx_nx, W_nil]
    have hR : M.length = R.length + 1 := w.sr.len
    refine ⟨R ++ [fd (es.filter fun d => !decide (cOf d = c))], R.length, _, _, now, o3, _, o7, o8, some (.r M.length), o10, o11, h.flt fun d => !decide (cOf d = c), ⟨w.sr.push _ (fd_lo _) w.al, fun o ho n => ?_, by simp⟩, by rw [hR]; rfl⟩
    rcases List.mem_append.mp ho with ho | ho
    · exact w.al o ho n
    · rw [List.mem_singleton.mp ho]; exact fd_lo _ n
theorem hear {ns : List Int} {R M : Sto} {l k : Nat} {es cs : List PyData} {now c a : Int} {o3 o7 o9 o10 o11 : Option VL} (hk : k ≤ 40) (hc : 100 ≤ c ∧ c ≤ 103) (ha : 0 ≤ a) (h : St es cs (k + 3)) (w : Wd R M l es) :
    W (exs (look T8) 0 c8_4f_1b (lo12 ns now o3 cs l (some (.d (.int c))) o7 (some (.d (.int a))) o9 o10 o11) M) (fun r => match r with
      | (.nx, ρ', M') => I4 ns (k + 1) ρ' M'
      | _ => False) := by
  have hz := sizeLine_eq
  have hlo := w.sr.lo
  have hl := h.len
  have hm := w.m
  have eh := e_heard hlo h.all (by omega) hc a now
  have hel : es.length < 16777216 := by rw [h.pm.length_eq]; omega
  obtain ⟨es2, e2, h2⟩ := h.put (x := row c a now) ⟨c, a, now, rfl, hc⟩
  have e2 : dPut (es.map kv) (.int c) (.d (.tuple [.int a, .int now])) = es2.map kv := e2
  have ef : cs.filter (offK (kof (row c a now))) = cs.filter fun d => !decide (cOf d = c) := List.filter_congr fun d hd => (h.all d hd).off c
  rw [ef] at h2
  have done : I4 ns (k + 1) (lo12 ns now o3 (srtL (cs.filter (fun d => !decide (cOf d = c)) ++ [row c a now])) l (some (.d (.int c))) o7 (some (.d (.int a))) o9 o10 o11) (M.set (l + 1) (.dct false (es2.map kv))) := by
    refine ⟨R.set l (fd es2), l, es2, _, now, o3, _, o7, _, o9, o10, o11, h2, ⟨w.sr.put l (fd es2) (fd_lo _) w.al, fun o ho n => ?_, ?_⟩, rfl⟩
    · rcases List.mem_or_eq_of_mem_set ho with ho | rfl
      · exact w.al o ho n
      · exact fd_lo _ n
    · exact List.getElem?_set_self (List.getElem?_eq_some_iff.mp w.at').1
  rw [c8_4f_1b, W_cons, lo12]
  simp -implicitDefEqProofs [Pv.ex, Pv.ev, Pv.evs, Pv.evI, Pv.W_bind, Pv.W_some, Pv.W_none, Pv.dataA, Pv.MO.lo, Pv.VL.lo, sizeLine_eq, Pv.kindV, Pv.mtK, Pv.mtS, Pv.appS, Pv.bin2, Pv.un1, Pv.int1, Pv.addS, Pv.subS, Pv.mulS, Pv.fdivS, Pv.modS, Pv.powS, Pv.eqS, Pv.cmpI, Pv.isS, Pv.inS, Pv.inL, Pv.dctOf, Pv.ixS, Pv.sixS, Pv.sixL, Pv.slS, Pv.partOf, Pv.btS, Pv.isiS, Pv.isTy, Pv.seqOf, Pv.lsOf, Pv.tru, Pv.valD, Pv.valF, Pv.plOf, Pv.PL.its, Pv.PL.ok, Pv.setTg, Pv.setAll, Pv.setVs, Pv.setT, Pv.revS, Pv.disS, Pv.disT, Pv.prsV, Pv.prsT, Pv.popS, Pv.wipeL, Pv.Tg.slots, Pv.trunc, Pv.shp_none, Pv.shp_bool, Pv.shp_int, Pv.eqv_int, Pv.eqv_bool, Pv.eqv_str, Pv.chS_bool, Pv.chE_bool, Pv.lckS, Pv.lckQ, Pv.keysOf, Pv.W_ite, Pv.atI_c0, Pv.atI_c1, Pv.atI_c2, Pv.atI_c3, -List.map_map, Pv.newL_map, Pv.newL_0, Pv.newL_1, Pv.newL_2, Pv.newL_3, Pv.newL_4, Pv.newL_5, Pv.newL_6, Pv.newL_7, Pv.newL_8, Pv.newL_9, Pv.newL_10, Pv.cut_f1, Pv.cut_f2, Pv.cut_f3, Pv.cut_t1, Pv.cut_t2, Pv.cut_t3, Pv.cut_12, Pv.flt_true, Pv.flt_false, Pv.frz_new hlo, l8_1, eh]
  rw [Nx_nx, c8_4f_1b_1, W_cons]
  unfold hrd
  cases hK : cs.filter fun d => decide (cOf d = c) with
  | nil =>
    have hn := h.getn (k := c) fun d hd q => by
      have := List.filter_eq_nil_iff.mp hK d hd
      simp [q] at this
    have ha' : -1 < a := by omega
    simp -implicitDefEqProofs [Pv.ex, Pv.ev, Pv.evs, Pv.evI, Pv.W_bind, Pv.W_some, Pv.W_none, Pv.dataA, Pv.MO.lo, Pv.VL.lo, sizeLine_eq, Pv.kindV, Pv.mtK, Pv.mtS, Pv.appS, Pv.bin2, Pv.un1, Pv.int1, Pv.addS, Pv.subS, Pv.mulS, Pv.fdivS, Pv.modS, Pv.powS, Pv.eqS, Pv.cmpI, Pv.isS, Pv.inS, Pv.inL, Pv.dctOf, Pv.ixS, Pv.sixS, Pv.sixL, Pv.slS, Pv.partOf, Pv.btS, Pv.isiS, Pv.isTy, Pv.seqOf, Pv.lsOf, Pv.tru, Pv.valD, Pv.valF, Pv.plOf, Pv.PL.its, Pv.PL.ok, Pv.setTg, Pv.setAll, Pv.setVs, Pv.setT, Pv.revS, Pv.disS, Pv.disT, Pv.prsV, Pv.prsT, Pv.popS, Pv.wipeL, Pv.Tg.slots, Pv.trunc, Pv.shp_none, Pv.shp_bool, Pv.shp_int, Pv.eqv_int, Pv.eqv_bool, Pv.eqv_str, Pv.chS_bool, Pv.chE_bool, Pv.lckS, Pv.lckQ, Pv.keysOf, Pv.W_ite, Pv.atI_c0, Pv.atI_c1, Pv.atI_c2, Pv.atI_c3, -List.map_map, Pv.newL_map, Pv.newL_0, Pv.newL_1, Pv.newL_2, Pv.newL_3, Pv.newL_4, Pv.newL_5, Pv.newL_6, Pv.newL_7, Pv.newL_8, Pv.newL_9, Pv.newL_10, Pv.cut_f1, Pv.cut_f2, Pv.cut_f3, Pv.cut_t1, Pv.cut_t2, Pv.cut_t3, Pv.cut_12, Pv.flt_true, Pv.flt_false, Pv.frz_new hlo, getS, hm, keyOk, kyD, hn, ha']
    rw [c8_4f_1b_1a, W_cons]
    simp -implicitDefEqProofs [Pv.ex, Pv.ev, Pv.evs, Pv.evI, Pv.W_bind, Pv.W_some, Pv.W_none, Pv.dataA, Pv.MO.lo, Pv.VL.lo, sizeLine_eq, Pv.kindV, Pv.mtK, Pv.mtS, Pv.appS, Pv.bin2, Pv.un1, Pv.int1, Pv.addS, Pv.subS, Pv.mulS, Pv.fdivS, Pv.modS, Pv.powS, Pv.eqS, Pv.cmpI, Pv.isS, Pv.inS, Pv.inL, Pv.dctOf, Pv.ixS, Pv.sixS, Pv.sixL, Pv.slS, Pv.partOf, Pv.btS, Pv.isiS, Pv.isTy, Pv.seqOf, Pv.lsOf, Pv.tru, Pv.valD, Pv.valF, Pv.plOf, Pv.PL.its, Pv.PL.ok, Pv.setTg, Pv.setAll, Pv.setVs, Pv.setT, Pv.revS, Pv.disS, Pv.disT, Pv.prsV, Pv.prsT, Pv.popS, Pv.wipeL, Pv.Tg.slots, Pv.trunc, Pv.shp_none, Pv.shp_bool, Pv.shp_int, Pv.eqv_int, Pv.eqv_bool, Pv.eqv_str, Pv.chS_bool, Pv.chE_bool, Pv.lckS, Pv.lckQ, Pv.keysOf, Pv.W_ite, Pv.atI_c0, Pv.atI_c1, Pv.atI_c2, Pv.atI_c3, -List.map_map, Pv.newL_map, Pv.newL_0, Pv.newL_1, Pv.newL_2, Pv.newL_3, Pv.newL_4, Pv.newL_5, Pv.newL_6, Pv.newL_7, Pv.newL_8, Pv.newL_9, Pv.newL_10, Pv.cut_f1, Pv.cut_f2, Pv.cut_f3, Pv.cut_t1, Pv.cut_t2, Pv.cut_t3, Pv.cut_12, Pv.flt_true, Pv.flt_false, Pv.frz_new hlo, hm, keyOk, kyD, hel, e2]
    rw [Nx_nx, W_nil, Nx_nx, W_nil]
    exact done
  | cons d ds =>
    obtain ⟨rfl, hd, hdc⟩ := one_row h hK
    have hn := h.get hd
    rw [hdc] at hn
    by_cases q : a ≤ aOf d
    · have q' : ¬ aOf d < a := by omega
      simp -implicitDefEqProofs [Pv.ex, Pv.ev, Pv.evs, Pv.evI, Pv.W_bind, Pv.W_some, Pv.W_none, Pv.dataA, Pv.MO.lo, Pv.VL.lo, sizeLine_eq, Pv.kindV, Pv.mtK, Pv.mtS, Pv.appS, Pv.bin2, Pv.un1, Pv.int1, Pv.addS, Pv.subS, Pv.mulS, Pv.fdivS, Pv.modS, Pv.powS, Pv.eqS, Pv.cmpI, Pv.isS, Pv.inS, Pv.inL, Pv.dctOf, Pv.ixS, Pv.sixS, Pv.sixL, Pv.slS, Pv.partOf, Pv.btS, Pv.isiS, Pv.isTy, Pv.seqOf, Pv.lsOf, Pv.tru, Pv.valD, Pv.valF, Pv.plOf, Pv.PL.its, Pv.PL.ok, Pv.setTg, Pv.setAll, Pv.setVs, Pv.setT, Pv.revS, Pv.disS, Pv.disT, Pv.prsV, Pv.prsT, Pv.popS, Pv.wipeL, Pv.Tg.slots, Pv.trunc, Pv.shp_none, Pv.shp_bool, Pv.shp_int, Pv.eqv_int, Pv.eqv_bool, Pv.eqv_str, Pv.chS_bool, Pv.chE_bool, Pv.lckS, Pv.lckQ, Pv.keysOf, Pv.W_ite, Pv.atI_c0, Pv.atI_c1, Pv.atI_c2, Pv.atI_c3, -List.map_map, Pv.newL_map, Pv.newL_0, Pv.newL_1, Pv.newL_2, Pv.newL_3, Pv.newL_4, Pv.newL_5, Pv.newL_6, Pv.newL_7, Pv.newL_8, Pv.newL_9, Pv.newL_10, Pv.cut_f1, Pv.cut_f2, Pv.cut_f3, Pv.cut_t1, Pv.cut_t2, Pv.cut_t3, Pv.cut_12, Pv.flt_true, Pv.flt_false, Pv.frz_new hlo, getS, hm, keyOk, kyD, hn, q, q']
      rw [W_nil, Nx_nx, W_nil]
      exact ⟨R, l, es, cs, now, o3, _, o7, _, o9, o10, o11, h.mono (by omega), w, rfl⟩
    · have q' : aOf d < a := by omega
      simp -implicitDefEqProofs [Pv.ex, Pv.ev, Pv.evs, Pv.evI, Pv.W_bind, Pv.W_some, Pv.W_none, Pv.dataA, Pv.MO.lo, Pv.VL.lo, sizeLine_eq, Pv.kindV, Pv.mtK, Pv.mtS, Pv.appS, Pv.bin2, Pv.un1, Pv.int1, Pv.addS, Pv.subS, Pv.mulS, Pv.fdivS, Pv.modS, Pv.powS, Pv.eqS, Pv.cmpI, Pv.isS, Pv.inS, Pv.inL, Pv.dctOf, Pv.ixS, Pv.sixS, Pv.sixL, Pv.slS, Pv.partOf, Pv.btS, Pv.isiS, Pv.isTy, Pv.seqOf, Pv.lsOf, Pv.tru, Pv.valD, Pv.valF, Pv.plOf, Pv.PL.its, Pv.PL.ok, Pv.setTg, Pv.setAll, Pv.setVs, Pv.setT, Pv.revS, Pv.disS, Pv.disT, Pv.prsV, Pv.prsT, Pv.popS, Pv.wipeL, Pv.Tg.slots, Pv.trunc, Pv.shp_none, Pv.shp_bool, Pv.shp_int, Pv.eqv_int, Pv.eqv_bool, Pv.eqv_str, Pv.chS_bool, Pv.chE_bool, Pv.lckS, Pv.lckQ, Pv.keysOf, Pv.W_ite, Pv.atI_c0, Pv.atI_c1, Pv.atI_c2, Pv.atI_c3, -List.map_map, Pv.newL_map, Pv.newL_0, Pv.newL_1, Pv.newL_2, Pv.newL_3, Pv.newL_4, Pv.newL_5, Pv.newL_6, Pv.newL_7, Pv.newL_8, Pv.newL_9, Pv.newL_10, Pv.cut_f1, Pv.cut_f2, Pv.cut_f3, Pv.cut_t1, Pv.cut_t2, Pv.cut_t3, Pv.cut_12, Pv.flt_true, Pv.flt_false, Pv.frz_new hlo, getS, hm, keyOk, kyD, hn, q, q']
      rw [c8_4f_1b_1a, W_cons]
      simp -implicitDefEqProofs [Pv.ex, Pv.ev, Pv.evs, Pv.evI, Pv.W_bind, Pv.W_some, Pv.W_none, Pv.dataA, Pv.MO.lo, Pv.VL.lo, sizeLine_eq, Pv.kindV, Pv.mtK, Pv.mtS, Pv.appS, Pv.bin2, Pv.un1, Pv.int1, Pv.addS, Pv.subS, Pv.mulS, Pv.fdivS, Pv.modS, Pv.powS, Pv.eqS, Pv.cmpI, Pv.isS, Pv.inS, Pv.inL, Pv.dctOf, Pv.ixS, Pv.sixS, Pv.sixL, Pv.slS, Pv.partOf, Pv.btS, Pv.isiS, Pv.isTy, Pv.seqOf, Pv.lsOf, Pv.tru, Pv.valD, Pv.valF, Pv.plOf, Pv.PL.its, Pv.PL.ok, Pv.setTg, Pv.setAll, Pv.setVs, Pv.setT, Pv.revS, Pv.disS, Pv.disT, Pv.prsV, Pv.prsT, Pv.popS, Pv.wipeL, Pv.Tg.slots, Pv.trunc, Pv.shp_none, Pv.shp_bool, Pv.shp_int, Pv.eqv_int, Pv.eqv_bool, Pv.eqv_str, Pv.chS_bool, Pv.chE_bool, Pv.lckS, Pv.lckQ, Pv.keysOf, Pv.W_ite, Pv.atI_c0, Pv.atI_c1, Pv.atI_c2, Pv.atI_c3, -List.map_map, Pv.newL_map, Pv.newL_0, Pv.newL_1, Pv.newL_2, Pv.newL_3, Pv.newL_4, Pv.newL_5, Pv.newL_6, Pv.newL_7, Pv.newL_8, Pv.newL_9, Pv.newL_10, Pv.cut_f1, Pv.cut_f2, Pv.cut_f3, Pv.cut_t1, Pv.cut_t2, Pv.cut_t3, Pv.cut_12, Pv.flt_true, Pv.flt_false, Pv.frz_new hlo, hm, keyOk, kyD, hel, e2]
      rw [Nx_nx, W_nil, Nx_nx, W_nil]
      exact done
theorem turn {ns : List Int} {R M : Sto} {l k : Nat} {es cs : List PyData} {now : Int} {o3 o6 o7 o8 o9 o10 o11 : Option VL} (hk : k ≤ 36) (h : St es cs (k + 3)) (w : Wd R M l es) :
    W (exs (look T8) 0 c8_4f (lo12 ns now o3 cs l o6 o7 o8 o9 o10 o11) M) (fun r => match r with
      | (.nx, ρ', M') => I4 ns (k + 1) ρ' M'
      | _ => False) := by
  have hz := sizeLine_eq
  have hlo := w.sr.lo
  rw [c8_4f, W_cons, lo12]
  simp -implicitDefEqProofs [Pv.ex, Pv.ev, Pv.evs, Pv.evI, Pv.W_bind, Pv.W_some, Pv.W_none, Pv.dataA, Pv.MO.lo, Pv.VL.lo, sizeLine_eq, Pv.kindV, Pv.mtK, Pv.mtS, Pv.appS, Pv.bin2, Pv.un1, Pv.int1, Pv.addS, Pv.subS, Pv.mulS, Pv.fdivS, Pv.modS, Pv.powS, Pv.eqS, Pv.cmpI, Pv.isS, Pv.inS, Pv.inL, Pv.dctOf, Pv.ixS, Pv.sixS, Pv.sixL, Pv.slS, Pv.partOf, Pv.btS, Pv.isiS, Pv.isTy, Pv.seqOf, Pv.lsOf, Pv.tru, Pv.valD, Pv.valF, Pv.plOf, Pv.PL.its, Pv.PL.ok, Pv.setTg, Pv.setAll, Pv.setVs, Pv.setT, Pv.revS, Pv.disS, Pv.disT, Pv.prsV, Pv.prsT, Pv.popS, Pv.wipeL, Pv.Tg.slots, Pv.trunc, Pv.shp_none, Pv.shp_bool, Pv.shp_int, Pv.eqv_int, Pv.eqv_bool, Pv.eqv_str, Pv.chS_bool, Pv.chE_bool, Pv.lckS, Pv.lckQ, Pv.keysOf, Pv.W_ite, Pv.atI_c0, Pv.atI_c1, Pv.atI_c2, Pv.atI_c3, -List.map_map, Pv.newL_map, Pv.newL_0, Pv.newL_1, Pv.newL_2, Pv.newL_3, Pv.newL_4, Pv.newL_5, Pv.newL_6, Pv.newL_7, Pv.newL_8, Pv.newL_9, Pv.newL_10, Pv.cut_f1, Pv.cut_f2, Pv.cut_f3, Pv.cut_t1, Pv.cut_t2, Pv.cut_t3, Pv.cut_12, Pv.flt_true, Pv.flt_false, Pv.frz_new hlo, l8_3]
  refine W_sy w.sr (by simp) (by simp) fun x M1 hx hL1 h1 => ?_
  obtain ⟨s, rfl⟩ : ∃ s : Int, x = .int s := by
    simp only [List.mem_cons, List.not_mem_nil, or_false] at hx
    rcases hx with rfl | rfl | rfl | rfl <;> exact ⟨_, rfl⟩
  have hlo := h1.lo
  simp -implicitDefEqProofs [Pv.ex, Pv.ev, Pv.evs, Pv.evI, Pv.W_bind, Pv.W_some, Pv.W_none, Pv.dataA, Pv.MO.lo, Pv.VL.lo, sizeLine_eq, Pv.kindV, Pv.mtK, Pv.mtS, Pv.appS, Pv.bin2, Pv.un1, Pv.int1, Pv.addS, Pv.subS, Pv.mulS, Pv.fdivS, Pv.modS, Pv.powS, Pv.eqS, Pv.cmpI, Pv.isS, Pv.inS, Pv.inL, Pv.dctOf, Pv.ixS, Pv.sixS, Pv.sixL, Pv.slS, Pv.partOf, Pv.btS, Pv.isiS, Pv.isTy, Pv.seqOf, Pv.lsOf, Pv.tru, Pv.valD, Pv.valF, Pv.plOf, Pv.PL.its, Pv.PL.ok, Pv.setTg, Pv.setAll, Pv.setVs, Pv.setT, Pv.revS, Pv.disS, Pv.disT, Pv.prsV, Pv.prsT, Pv.popS, Pv.wipeL, Pv.Tg.slots, Pv.trunc, Pv.shp_none, Pv.shp_bool, Pv.shp_int, Pv.eqv_int, Pv.eqv_bool, Pv.eqv_str, Pv.chS_bool, Pv.chE_bool, Pv.lckS, Pv.lckQ, Pv.keysOf, Pv.W_ite, Pv.atI_c0, Pv.atI_c1, Pv.atI_c2, Pv.atI_c3, -List.map_map, Pv.newL_map, Pv.newL_0, Pv.newL_1, Pv.newL_2, Pv.newL_3, Pv.newL_4, Pv.newL_5, Pv.newL_6, Pv.newL_7, Pv.newL_8, Pv.newL_9, Pv.newL_10, Pv.cut_f1, Pv.cut_f2, Pv.cut_f3, Pv.cut_t1, Pv.cut_t2, Pv.cut_t3, Pv.cut_12, Pv.flt_true, Pv.flt_false, Pv.frz_new hlo, l8_2]
  refine W_ry h1 (by decide) (by decide) fun c M2 hc0 hc1 hL2 h2 => ?_
  have hlo := h2.lo
  simp -implicitDefEqProofs [Pv.ex, Pv.ev, Pv.evs, Pv.evI, Pv.W_bind, Pv.W_some, Pv.W_none, Pv.dataA, Pv.MO.lo, Pv.VL.lo, sizeLine_eq, Pv.kindV, Pv.mtK, Pv.mtS, Pv.appS, Pv.bin2, Pv.un1, Pv.int1, Pv.addS, Pv.subS, Pv.mulS, Pv.fdivS, Pv.modS, Pv.powS, Pv.eqS, Pv.cmpI, Pv.isS, Pv.inS, Pv.inL, Pv.dctOf, Pv.ixS, Pv.sixS, Pv.sixL, Pv.slS, Pv.partOf, Pv.btS, Pv.isiS, Pv.isTy, Pv.seqOf, Pv.lsOf, Pv.tru, Pv.valD, Pv.valF, Pv.plOf, Pv.PL.its, Pv.PL.ok, Pv.setTg, Pv.setAll, Pv.setVs, Pv.setT, Pv.revS, Pv.disS, Pv.disT, Pv.prsV, Pv.prsT, Pv.popS, Pv.wipeL, Pv.Tg.slots, Pv.trunc, Pv.shp_none, Pv.shp_bool, Pv.shp_int, Pv.eqv_int, Pv.eqv_bool, Pv.eqv_str, Pv.chS_bool, Pv.chE_bool, Pv.lckS, Pv.lckQ, Pv.keysOf, Pv.W_ite, Pv.atI_c0, Pv.atI_c1, Pv.atI_c2, Pv.atI_c3, -List.map_map, Pv.newL_map, Pv.newL_0, Pv.newL_1, Pv.newL_2, Pv.newL_3, Pv.newL_4, Pv.newL_5, Pv.newL_6, Pv.newL_7, Pv.newL_8, Pv.newL_9, Pv.newL_10, Pv.cut_f1, Pv.cut_f2, Pv.cut_f3, Pv.cut_t1, Pv.cut_t2, Pv.cut_t3, Pv.cut_12, Pv.flt_true, Pv.flt_false, Pv.frz_new hlo, l8_2]
  refine W_ry h2 (by decide) (by decide) fun a M3 ha0 ha1 hL3 h3 => ?_
  have hlo := h3.lo
  simp -implicitDefEqProofs [Pv.ex, Pv.ev, Pv.evs, Pv.evI, Pv.W_bind, Pv.W_some, Pv.W_none, Pv.dataA, Pv.MO.lo, Pv.VL.lo, sizeLine_eq, Pv.kindV, Pv.mtK, Pv.mtS, Pv.appS, Pv.bin2, Pv.un1, Pv.int1, Pv.addS, Pv.subS, Pv.mulS, Pv.fdivS, Pv.modS, Pv.powS, Pv.eqS, Pv.cmpI, Pv.isS, Pv.inS, Pv.inL, Pv.dctOf, Pv.ixS, Pv.sixS, Pv.sixL, Pv.slS, Pv.partOf, Pv.btS, Pv.isiS, Pv.isTy, Pv.seqOf, Pv.lsOf, Pv.tru, Pv.valD, Pv.valF, Pv.plOf, Pv.PL.its, Pv.PL.ok, Pv.setTg, Pv.setAll, Pv.setVs, Pv.setT, Pv.revS, Pv.disS, Pv.disT, Pv.prsV, Pv.prsT, Pv.popS, Pv.wipeL, Pv.Tg.slots, Pv.trunc, Pv.shp_none, Pv.shp_bool, Pv.shp_int, Pv.eqv_int, Pv.eqv_bool, Pv.eqv_str, Pv.chS_bool, Pv.chE_bool, Pv.lckS, Pv.lckQ, Pv.keysOf, Pv.W_ite, Pv.atI_c0, Pv.atI_c1, Pv.atI_c2, Pv.atI_c3, -List.map_map, Pv.newL_map, Pv.newL_0, Pv.newL_1, Pv.newL_2, Pv.newL_3, Pv.newL_4, Pv.newL_5, Pv.newL_6, Pv.newL_7, Pv.newL_8, Pv.newL_9, Pv.newL_10, Pv.cut_f1, Pv.cut_f2, Pv.cut_f3, Pv.cut_t1, Pv.cut_t2, Pv.cut_t3, Pv.cut_12, Pv.flt_true, Pv.flt_false, Pv.frz_new hlo, setVs]
  rw [Nx_nx, c8_4f_1, W_cons]
  simp -implicitDefEqProofs [Pv.ex, Pv.ev, Pv.evs, Pv.evI, Pv.W_bind, Pv.W_some, Pv.W_none, Pv.dataA, Pv.MO.lo, Pv.VL.lo, sizeLine_eq, Pv.kindV, Pv.mtK, Pv.mtS, Pv.appS, Pv.bin2, Pv.un1, Pv.int1, Pv.addS, Pv.subS, Pv.mulS, Pv.fdivS, Pv.modS, Pv.powS, Pv.eqS, Pv.cmpI, Pv.isS, Pv.inS, Pv.inL, Pv.dctOf, Pv.ixS, Pv.sixS, Pv.sixL, Pv.slS, Pv.partOf, Pv.btS, Pv.isiS, Pv.isTy, Pv.seqOf, Pv.lsOf, Pv.tru, Pv.valD, Pv.valF, Pv.plOf, Pv.PL.its, Pv.PL.ok, Pv.setTg, Pv.setAll, Pv.setVs, Pv.setT, Pv.revS, Pv.disS, Pv.disT, Pv.prsV, Pv.prsT, Pv.popS, Pv.wipeL, Pv.Tg.slots, Pv.trunc, Pv.shp_none, Pv.shp_bool, Pv.shp_int, Pv.eqv_int, Pv.eqv_bool, Pv.eqv_str, Pv.chS_bool, Pv.chE_bool, Pv.lckS, Pv.lckQ, Pv.keysOf, Pv.W_ite, Pv.atI_c0, Pv.atI_c1, Pv.atI_c2, Pv.atI_c3, -List.map_map, Pv.newL_map, Pv.newL_0, Pv.newL_1, Pv.newL_2, Pv.newL_3, Pv.newL_4, Pv.newL_5, Pv.newL_6, Pv.newL_7, Pv.newL_8, Pv.newL_9, Pv.newL_10, Pv.cut_f1, Pv.cut_f2, Pv.cut_f3, Pv.cut_t1, Pv.cut_t2, Pv.cut_t3, Pv.cut_12, Pv.flt_true, Pv.flt_false, Pv.frz_new hlo, l8_2]
  refine W_ry h3 (by decide) (by decide) fun v M4 hv0 hv1 hL4 h4 => ?_
  have hlo := h4.lo
  have w4 := w.go h4
  have go : ∀ j, j ≤ k + 1 → ∀ ρ' M', I4 ns j ρ' M' → W (exs (look T8) 0 c8_4f_2 ρ' M') (fun r => match r with
      | (.nx, ρ', M') => I4 ns (k + 1) ρ' M'
      | _ => False) := by
    rintro j hj ρ' M' ⟨R, l, es, cs, now, o3, o6, o7, o8, o9, o10, o11, h, w, rfl⟩
    refine (tail (by omega) h w).mono ?_
    rintro ⟨fl, ρ', M'⟩ h
    cases fl <;> first | exact h.elim | skip
    obtain ⟨R, l, es, cs, now, o3, o6, o7, o8, o9, o10, o11, h, w, rfl⟩ := h
    exact ⟨R, l, es, cs, now, o3, o6, o7, o8, o9, o10, o11, h.mono (by omega), w, rfl⟩
  by_cases hv : v = 0
  · simp -implicitDefEqProofs [Pv.ex, Pv.ev, Pv.evs, Pv.evI, Pv.W_bind, Pv.W_some, Pv.W_none, Pv.dataA, Pv.MO.lo, Pv.VL.lo, sizeLine_eq, Pv.kindV, Pv.mtK, Pv.mtS, Pv.appS, Pv.bin2, Pv.un1, Pv.int1, Pv.addS, Pv.subS, Pv.mulS, Pv.fdivS, Pv.modS, Pv.powS, Pv.eqS, Pv.cmpI, Pv.isS, Pv.inS, Pv.inL, Pv.dctOf, Pv.ixS, Pv.sixS, Pv.sixL, Pv.slS, Pv.partOf, Pv.btS, Pv.isiS, Pv.isTy, Pv.seqOf, Pv.lsOf, Pv.tru, Pv.valD, Pv.valF, Pv.plOf, Pv.PL.its, Pv.PL.ok, Pv.setTg, Pv.setAll, Pv.setVs, Pv.setT, Pv.revS, Pv.disS, Pv.disT, Pv.prsV, Pv.prsT, Pv.popS, Pv.wipeL, Pv.Tg.slots, Pv.trunc, Pv.shp_none, Pv.shp_bool, Pv.shp_int, Pv.eqv_int, Pv.eqv_bool, Pv.eqv_str, Pv.chS_bool, Pv.chE_bool, Pv.lckS, Pv.lckQ, Pv.keysOf, Pv.W_ite, Pv.atI_c0, Pv.atI_c1, Pv.atI_c2, Pv.atI_c3, -List.map_map, Pv.newL_map, Pv.newL_0, Pv.newL_1, Pv.newL_2, Pv.newL_3, Pv.newL_4, Pv.newL_5, Pv.newL_6, Pv.newL_7, Pv.newL_8, Pv.newL_9, Pv.newL_10, Pv.cut_f1, Pv.cut_f2, Pv.cut_f3, Pv.cut_t1, Pv.cut_t2, Pv.cut_t3, Pv.cut_12, Pv.flt_true, Pv.flt_false, Pv.frz_new hlo, hv]
    refine (forget (ns := ns) (k := k) (c := 100 + c) (by omega) h w4).mono ?_
    rintro ⟨fl, ρ', M'⟩ hI
    cases fl <;> first | exact hI.elim | skip
    rw [Nx_nx]
    exact go k (by omega) ρ' M' hI
  · simp -implicitDefEqProofs [Pv.ex, Pv.ev, Pv.evs, Pv.evI, Pv.W_bind, Pv.W_some, Pv.W_none, Pv.dataA, Pv.MO.lo, Pv.VL.lo, sizeLine_eq, Pv.kindV, Pv.mtK, Pv.mtS, Pv.appS, Pv.bin2, Pv.un1, Pv.int1, Pv.addS, Pv.subS, Pv.mulS, Pv.fdivS, Pv.modS, Pv.powS, Pv.eqS, Pv.cmpI, Pv.isS, Pv.inS, Pv.inL, Pv.dctOf, Pv.ixS, Pv.sixS, Pv.sixL, Pv.slS, Pv.partOf, Pv.btS, Pv.isiS, Pv.isTy, Pv.seqOf, Pv.lsOf, Pv.tru, Pv.valD, Pv.valF, Pv.plOf, Pv.PL.its, Pv.PL.ok, Pv.setTg, Pv.setAll, Pv.setVs, Pv.setT, Pv.revS, Pv.disS, Pv.disT, Pv.prsV, Pv.prsT, Pv.popS, Pv.wipeL, Pv.Tg.slots, Pv.trunc, Pv.shp_none, Pv.shp_bool, Pv.shp_int, Pv.eqv_int, Pv.eqv_bool, Pv.eqv_str, Pv.chS_bool, Pv.chE_bool, Pv.lckS, Pv.lckQ, Pv.keysOf, Pv.W_ite, Pv.atI_c0, Pv.atI_c1, Pv.atI_c2, Pv.atI_c3, -List.map_map, Pv.newL_map, Pv.newL_0, Pv.newL_1, Pv.newL_2, Pv.newL_3, Pv.newL_4, Pv.newL_5, Pv.newL_6, Pv.newL_7, Pv.newL_8, Pv.newL_9, Pv.newL_10, Pv.cut_f1, Pv.cut_f2, Pv.cut_f3, Pv.cut_t1, Pv.cut_t2, Pv.cut_t3, Pv.cut_12, Pv.flt_true, Pv.flt_false, Pv.frz_new hlo, hv]
    refine (hear (ns := ns) (k := k) (c := 100 + c) (a := a) (by omega) ⟨by omega, by omega⟩ ha0 h w4).mono ?_
    rintro ⟨fl, ρ', M'⟩ hI
    cases fl <;> first | exact hI.elim | skip
    rw [Nx_nx]
    exact go (k + 1) (by omega) ρ' M' hI
/-! ### the law -/
theorem st_start {cl : List Int} (hc : ∀ c ∈ cl, 100 ≤ c ∧ c ≤ 103) (hs : cl.Pairwise fun a b => dle (.int a) (.int b) = true ∧ a ≠ b) (hl : cl.length ≤ 3) (now : Int) : St (cl.map fun c => row c (-1) now) (cl.map fun c => row c (-1) now) 3 := by
  refine ⟨fun d hd => ?_, ?_, ?_, .refl _, by rw [List.length_map]; exact hl⟩
  · obtain ⟨c, hcm, rfl⟩ := List.mem_map.mp hd
    exact ⟨c, -1, now, rfl, hc c hcm⟩
  · rw [List.pairwise_map]
    refine hs.imp fun {a b} q => ?_
    rw [row, row, dle_fst (by simp [PySem.W.alike]) (by rw [eqv_int]; simp [q.2.symm]) (by simp [PySem.W.alike])]
    exact q.1
  · rw [List.map_map]
    show (cl.map fun c => PyData.int c).Nodup
    unfold List.Nodup
    rw [List.pairwise_map]
    exact hs.imp fun {a b} q z => q.2 (by cases z; rfl)
def I3 (ns : List Int) (now : Int) (cl : List Int) (k : Nat) (ρ : Lo) (M : Sto) : Prop := ∃ o6 : Option VL, Sr [fd ((cl.take k).map fun c => row c (-1) now)] M ∧
  ρ = lo12 ns now (some (.d (.tuple (cl.map .int)))) (cl.map fun c => row c (-1) now) 0 o6 none none none none none
theorem known {ns : List Int} {now : Int} {cl : List Int} {M : Sto} {Q : Fl × Lo × Sto → Prop} (hc : ∀ c ∈ cl, 100 ≤ c ∧ c ≤ 103) (hs : cl.Pairwise fun a b => dle (.int a) (.int b) = true ∧ a ≠ b) (hl : cl.length ≤ 3) (h : Sr [fd []] M)
    (hQ : ∀ ρ M, I3 ns now cl cl.length ρ M → Q (.nx, ρ, M)) : W (forS (.fx (cl.map PyData.int)) (fun d ρ M => (setTg (.nm 6) d ρ).bind fun ρ1 => exs (look T8) 0 c8_3f ρ1 M) (cl.map PyData.int) (lo12 ns now (some (.d (.tuple (cl.map .int)))) (cl.map fun c => row c (-1) now) 0 none none none none none none) M) Q := by
  have hz := sizeLine_eq
  refine for_fx (I3 ns now cl) ⟨_, h, rfl⟩ ?_ ?_
  · rintro k d ρ M hd ⟨o6, h, rfl⟩
    have hlo := h.lo
    rw [List.getElem?_map] at hd
    obtain ⟨c, he, rfl⟩ := Option.map_eq_some_iff.mp hd
    have hk : k < cl.length := (List.getElem?_eq_some_iff.mp he).1
    have tk : cl.take (k + 1) = cl.take k ++ [c] := by rw [List.take_add_one, he]; rfl
    have hm : M[1]? = some (.dct false (((cl.take k).map fun c => row c (-1) now).map kv)) := h.at_ 0
    have nk : ∀ d ∈ (cl.take k).map (fun c => row c (-1) now), cOf d ≠ c := fun d hd q => by
      obtain ⟨x, hx, rfl⟩ := List.mem_map.mp hd
      have nd : cl.Pairwise (· ≠ ·) := hs.imp fun {a b} q => q.2
      rw [← List.take_append_drop k cl, List.pairwise_append] at nd
      have he2 : c ∈ cl.drop k := by
        rw [List.drop_eq_getElem_cons hk, (List.getElem?_eq_some_iff.mp he).2]; exact List.mem_cons_self
      exact nd.2.2 x hx c he2 q
    have dp := dput_new (es := (cl.take k).map fun c => row c (-1) now) (fun d hd => by
      obtain ⟨x, hx, rfl⟩ := List.mem_map.mp hd
      exact ⟨x, -1, now, rfl, hc x (List.mem_of_mem_take hx)⟩) (c := c) (a := -1) (t := now) nk
    have hlen : min k cl.length < 16777216 := by omega
    simp only [lo12]
    simp -implicitDefEqProofs [Pv.ex, Pv.ev, Pv.evs, Pv.evI, Pv.W_bind, Pv.W_some, Pv.W_none, Pv.dataA, Pv.MO.lo, Pv.VL.lo, sizeLine_eq, Pv.kindV, Pv.mtK, Pv.mtS, Pv.appS, Pv.bin2, Pv.un1, Pv.int1, Pv.addS, Pv.subS, Pv.mulS, Pv.fdivS, Pv.modS, Pv.powS, Pv.eqS, Pv.cmpI, Pv.isS, Pv.inS, Pv.inL, Pv.dctOf, Pv.ixS, Pv.sixS, Pv.sixL, Pv.slS, Pv.partOf, Pv.btS, Pv.isiS, Pv.isTy, Pv.seqOf, Pv.lsOf, Pv.tru, Pv.valD, Pv.valF, Pv.plOf, Pv.PL.its, Pv.PL.ok, Pv.setTg, Pv.setAll, Pv.setVs, Pv.setT, Pv.revS, Pv.disS, Pv.disT, Pv.prsV, Pv.prsT, Pv.popS, Pv.wipeL, Pv.Tg.slots, Pv.trunc, Pv.shp_none, Pv.shp_bool, Pv.shp_int, Pv.eqv_int, Pv.eqv_bool, Pv.eqv_str, Pv.chS_bool, Pv.chE_bool, Pv.lckS, Pv.lckQ, Pv.keysOf, Pv.W_ite, Pv.atI_c0, Pv.atI_c1, Pv.atI_c2, Pv.atI_c3, -List.map_map, Pv.newL_map, Pv.newL_0, Pv.newL_1, Pv.newL_2, Pv.newL_3, Pv.newL_4, Pv.newL_5, Pv.newL_6, Pv.newL_7, Pv.newL_8, Pv.newL_9, Pv.newL_10, Pv.cut_f1, Pv.cut_f2, Pv.cut_f3, Pv.cut_t1, Pv.cut_t2, Pv.cut_t3, Pv.cut_12, Pv.flt_true, Pv.flt_false, Pv.frz_new hlo]
    rw [c8_3f, W_cons]
    generalize hA : (cl.take k).map (fun c => row c (-1) now) = A at hm dp
    have hlA : A.length < 16777216 := by rw [← hA, List.length_map, List.length_take]; omega
    simp -implicitDefEqProofs [Pv.ex, Pv.ev, Pv.evs, Pv.evI, Pv.W_bind, Pv.W_some, Pv.W_none, Pv.dataA, Pv.MO.lo, Pv.VL.lo, sizeLine_eq, Pv.kindV, Pv.mtK, Pv.mtS, Pv.appS, Pv.bin2, Pv.un1, Pv.int1, Pv.addS, Pv.subS, Pv.mulS, Pv.fdivS, Pv.modS, Pv.powS, Pv.eqS, Pv.cmpI, Pv.isS, Pv.inS, Pv.inL, Pv.dctOf, Pv.ixS, Pv.sixS, Pv.sixL, Pv.slS, Pv.partOf, Pv.btS, Pv.isiS, Pv.isTy, Pv.seqOf, Pv.lsOf, Pv.tru, Pv.valD, Pv.valF, Pv.plOf, Pv.PL.its, Pv.PL.ok, Pv.setTg, Pv.setAll, Pv.setVs, Pv.setT, Pv.revS, Pv.disS, Pv.disT, Pv.prsV, Pv.prsT, Pv.popS, Pv.wipeL, Pv.Tg.slots, Pv.trunc, Pv.shp_none, Pv.shp_bool, Pv.shp_int, Pv.eqv_int, Pv.eqv_bool, Pv.eqv_str, Pv.chS_bool, Pv.chE_bool, Pv.lckS, Pv.lckQ, Pv.keysOf, Pv.W_ite, Pv.atI_c0, Pv.atI_c1, Pv.atI_c2, Pv.atI_c3, -List.map_map, Pv.newL_map, Pv.newL_0, Pv.newL_1, Pv.newL_2, Pv.newL_3, Pv.newL_4, Pv.newL_5, Pv.newL_6, Pv.newL_7, Pv.newL_8, Pv.newL_9, Pv.newL_10, Pv.cut_f1, Pv.cut_f2, Pv.cut_f3, Pv.cut_t1, Pv.cut_t2, Pv.cut_t3, Pv.cut_12, Pv.flt_true, Pv.flt_false, Pv.frz_new hlo, hm, keyOk, kyD, hlA, dp]
    rw [Nx_nx, W_nil]
    refine ⟨_, ?_, rfl⟩
    rw [tk, List.map_append, hA, show List.map kv A ++ [kv (row c (-1) now)] = (A ++ [row c (-1) now]).map kv from by rw [List.map_append]; rfl]
    have := h.put 0 (fd (A ++ [row c (-1) now])) (fd_lo _) (fun o ho n => by rw [List.mem_singleton.mp ho]; exact fd_lo _ n)
    exact this
  · rintro ρ M h
    rw [List.length_map] at h
    exact hQ ρ M h
theorem main (ns : List Int) (hl : ns.length ≤ 63) : F8 [.d (.list (ns.map PyData.int))] [] = some (.d (.bool true), []) := by
  have hz := sizeLine_eq
  obtain ⟨a, b, e0, hc⟩ := cup_at (Φ := look T0) (fu := 0) ns hl
  refine W_eq.mp ?_
  rw [F8, W_fn, c8, W_cons]
  simp -implicitDefEqProofs [Pv.ex, Pv.ev, Pv.evs, Pv.evI, Pv.W_bind, Pv.W_some, Pv.W_none, Pv.dataA, Pv.frzS, Pv.MO.lo, Pv.VL.lo, sizeLine_eq, Pv.kindV, Pv.mtK, Pv.mtS, Pv.appS, Pv.bin2, Pv.un1, Pv.int1, Pv.addS, Pv.subS, Pv.mulS, Pv.fdivS, Pv.modS, Pv.powS, Pv.eqS, Pv.cmpI, Pv.isS, Pv.inS, Pv.inL, Pv.dctOf, Pv.ixS, Pv.sixS, Pv.sixL, Pv.slS, Pv.partOf, Pv.btS, Pv.isiS, Pv.isTy, Pv.seqOf, Pv.lsOf, Pv.tru, Pv.valD, Pv.valF, Pv.plOf, Pv.PL.its, Pv.PL.ok, Pv.setTg, Pv.setAll, Pv.setVs, Pv.setT, Pv.revS, Pv.disS, Pv.disT, Pv.prsV, Pv.prsT, Pv.popS, Pv.wipeL, Pv.Tg.slots, Pv.trunc, Pv.shp_none, Pv.shp_bool, Pv.shp_int, Pv.eqv_int, Pv.eqv_bool, Pv.eqv_str, Pv.chS_bool, Pv.chE_bool, Pv.lckS, Pv.lckQ, Pv.keysOf, Pv.W_ite, Pv.atI_c0, Pv.atI_c1, Pv.atI_c2, Pv.atI_c3, -List.map_map, Pv.newL_map, Pv.newL_0, Pv.newL_1, Pv.newL_2, Pv.newL_3, Pv.newL_4, Pv.newL_5, Pv.newL_6, Pv.newL_7, Pv.newL_8, Pv.newL_9, Pv.newL_10, Pv.cut_f1, Pv.cut_f2, Pv.cut_f3, Pv.cut_t1, Pv.cut_t2, Pv.cut_t3, Pv.cut_12, Pv.flt_true, Pv.flt_false, l8_0, show F0 = fnS (look T0) 0 2 cupC from id rfl, e0]
  have h0 : Sr [] [.lst [.int a, .int b]] := ⟨⟨a, b, hc, rfl⟩, rfl⟩
  rw [Nx_nx, c8_1, W_cons]
  generalize ([.lst [.int a, .int b]] : Sto) = M0 at h0 ⊢
  have hlo := h0.lo
  simp -implicitDefEqProofs [Pv.ex, Pv.ev, Pv.evs, Pv.evI, Pv.W_bind, Pv.W_some, Pv.W_none, Pv.dataA, Pv.MO.lo, Pv.VL.lo, sizeLine_eq, Pv.kindV, Pv.mtK, Pv.mtS, Pv.appS, Pv.bin2, Pv.un1, Pv.int1, Pv.addS, Pv.subS, Pv.mulS, Pv.fdivS, Pv.modS, Pv.powS, Pv.eqS, Pv.cmpI, Pv.isS, Pv.inS, Pv.inL, Pv.dctOf, Pv.ixS, Pv.sixS, Pv.sixL, Pv.slS, Pv.partOf, Pv.btS, Pv.isiS, Pv.isTy, Pv.seqOf, Pv.lsOf, Pv.tru, Pv.valD, Pv.valF, Pv.plOf, Pv.PL.its, Pv.PL.ok, Pv.setTg, Pv.setAll, Pv.setVs, Pv.setT, Pv.revS, Pv.disS, Pv.disT, Pv.prsV, Pv.prsT, Pv.popS, Pv.wipeL, Pv.Tg.slots, Pv.trunc, Pv.shp_none, Pv.shp_bool, Pv.shp_int, Pv.eqv_int, Pv.eqv_bool, Pv.eqv_str, Pv.chS_bool, Pv.chE_bool, Pv.lckS, Pv.lckQ, Pv.keysOf, Pv.W_ite, Pv.atI_c0, Pv.atI_c1, Pv.atI_c2, Pv.atI_c3, -List.map_map, Pv.newL_map, Pv.newL_0, Pv.newL_1, Pv.newL_2, Pv.newL_3, Pv.newL_4, Pv.newL_5, Pv.newL_6, Pv.newL_7, Pv.newL_8, Pv.newL_9, Pv.newL_10, Pv.cut_f1, Pv.cut_f2, Pv.cut_f3, Pv.cut_t1, Pv.cut_t2, Pv.cut_t3, Pv.cut_12, Pv.flt_true, Pv.flt_false, Pv.frz_new hlo, l8_2]
  refine W_ry h0 (by decide) (by decide) fun now M1 hv0 hv1 hL1 h1 => ?_
  have hlo := h1.lo
  simp -implicitDefEqProofs [Pv.ex, Pv.ev, Pv.evs, Pv.evI, Pv.W_bind, Pv.W_some, Pv.W_none, Pv.dataA, Pv.MO.lo, Pv.VL.lo, sizeLine_eq, Pv.kindV, Pv.mtK, Pv.mtS, Pv.appS, Pv.bin2, Pv.un1, Pv.int1, Pv.addS, Pv.subS, Pv.mulS, Pv.fdivS, Pv.modS, Pv.powS, Pv.eqS, Pv.cmpI, Pv.isS, Pv.inS, Pv.inL, Pv.dctOf, Pv.ixS, Pv.sixS, Pv.sixL, Pv.slS, Pv.partOf, Pv.btS, Pv.isiS, Pv.isTy, Pv.seqOf, Pv.lsOf, Pv.tru, Pv.valD, Pv.valF, Pv.plOf, Pv.PL.its, Pv.PL.ok, Pv.setTg, Pv.setAll, Pv.setVs, Pv.setT, Pv.revS, Pv.disS, Pv.disT, Pv.prsV, Pv.prsT, Pv.popS, Pv.wipeL, Pv.Tg.slots, Pv.trunc, Pv.shp_none, Pv.shp_bool, Pv.shp_int, Pv.eqv_int, Pv.eqv_bool, Pv.eqv_str, Pv.chS_bool, Pv.chE_bool, Pv.lckS, Pv.lckQ, Pv.keysOf, Pv.W_ite, Pv.atI_c0, Pv.atI_c1, Pv.atI_c2, Pv.atI_c3, -List.map_map, Pv.newL_map, Pv.newL_0, Pv.newL_1, Pv.newL_2, Pv.newL_3, Pv.newL_4, Pv.newL_5, Pv.newL_6, Pv.newL_7, Pv.newL_8, Pv.newL_9, Pv.newL_10, Pv.cut_f1, Pv.cut_f2, Pv.cut_f3, Pv.cut_t1, Pv.cut_t2, Pv.cut_t3, Pv.cut_12, Pv.flt_true, Pv.flt_false, Pv.frz_new hlo, l8_3]
  refine W_sy h1 (by simp) (by simp) fun d M2 hd hL2 h2 => ?_
  obtain ⟨cl, rfl, hcl, hs, hlen⟩ : ∃ cl : List Int, d = .tuple (cl.map .int) ∧ (∀ c ∈ cl, 100 ≤ c ∧ c ≤ 103) ∧ (cl.Pairwise fun a b => dle (.int a) (.int b) = true ∧ a ≠ b) ∧ cl.length ≤ 3 := by
    simp only [List.mem_cons, List.not_mem_nil, or_false] at hd
    rcases hd with rfl | rfl | rfl | rfl
    · exact ⟨[], rfl, by decide, by decide +kernel, by decide⟩
    · exact ⟨[100], rfl, by decide, by decide +kernel, by decide⟩
    · exact ⟨[100, 102], rfl, by decide, by decide +kernel, by decide⟩
    · exact ⟨[100, 101, 103], rfl, by decide, by decide +kernel, by decide⟩
  have hlo := h2.lo
  have es := e_start hlo cl now (by omega)
  simp -implicitDefEqProofs [Pv.ex, Pv.ev, Pv.evs, Pv.evI, Pv.W_bind, Pv.W_some, Pv.W_none, Pv.dataA, Pv.MO.lo, Pv.VL.lo, sizeLine_eq, Pv.kindV, Pv.mtK, Pv.mtS, Pv.appS, Pv.bin2, Pv.un1, Pv.int1, Pv.addS, Pv.subS, Pv.mulS, Pv.fdivS, Pv.modS, Pv.powS, Pv.eqS, Pv.cmpI, Pv.isS, Pv.inS, Pv.inL, Pv.dctOf, Pv.ixS, Pv.sixS, Pv.sixL, Pv.slS, Pv.partOf, Pv.btS, Pv.isiS, Pv.isTy, Pv.seqOf, Pv.lsOf, Pv.tru, Pv.valD, Pv.valF, Pv.plOf, Pv.PL.its, Pv.PL.ok, Pv.setTg, Pv.setAll, Pv.setVs, Pv.setT, Pv.revS, Pv.disS, Pv.disT, Pv.prsV, Pv.prsT, Pv.popS, Pv.wipeL, Pv.Tg.slots, Pv.trunc, Pv.shp_none, Pv.shp_bool, Pv.shp_int, Pv.eqv_int, Pv.eqv_bool, Pv.eqv_str, Pv.chS_bool, Pv.chE_bool, Pv.lckS, Pv.lckQ, Pv.keysOf, Pv.W_ite, Pv.atI_c0, Pv.atI_c1, Pv.atI_c2, Pv.atI_c3, -List.map_map, Pv.newL_map, Pv.newL_0, Pv.newL_1, Pv.newL_2, Pv.newL_3, Pv.newL_4, Pv.newL_5, Pv.newL_6, Pv.newL_7, Pv.newL_8, Pv.newL_9, Pv.newL_10, Pv.cut_f1, Pv.cut_f2, Pv.cut_f3, Pv.cut_t1, Pv.cut_t2, Pv.cut_t3, Pv.cut_12, Pv.flt_true, Pv.flt_false, Pv.frz_new hlo, setVs]
  rw [Nx_nx, c8_2, W_cons]
  have hM2 : M2.length = 1 := h2.len
  have h3 : Sr [fd []] (M2 ++ [fd []]) := h2.push (fd []) (fd_lo _) (fun _ h => nomatch h)
  simp -implicitDefEqProofs [Pv.ex, Pv.ev, Pv.evs, Pv.evI, Pv.W_bind, Pv.W_some, Pv.W_none, Pv.dataA, Pv.MO.lo, Pv.VL.lo, sizeLine_eq, Pv.kindV, Pv.mtK, Pv.mtS, Pv.appS, Pv.bin2, Pv.un1, Pv.int1, Pv.addS, Pv.subS, Pv.mulS, Pv.fdivS, Pv.modS, Pv.powS, Pv.eqS, Pv.cmpI, Pv.isS, Pv.inS, Pv.inL, Pv.dctOf, Pv.ixS, Pv.sixS, Pv.sixL, Pv.slS, Pv.partOf, Pv.btS, Pv.isiS, Pv.isTy, Pv.seqOf, Pv.lsOf, Pv.tru, Pv.valD, Pv.valF, Pv.plOf, Pv.PL.its, Pv.PL.ok, Pv.setTg, Pv.setAll, Pv.setVs, Pv.setT, Pv.revS, Pv.disS, Pv.disT, Pv.prsV, Pv.prsT, Pv.popS, Pv.wipeL, Pv.Tg.slots, Pv.trunc, Pv.shp_none, Pv.shp_bool, Pv.shp_int, Pv.eqv_int, Pv.eqv_bool, Pv.eqv_str, Pv.chS_bool, Pv.chE_bool, Pv.lckS, Pv.lckQ, Pv.keysOf, Pv.W_ite, Pv.atI_c0, Pv.atI_c1, Pv.atI_c2, Pv.atI_c3, -List.map_map, Pv.newL_map, Pv.newL_0, Pv.newL_1, Pv.newL_2, Pv.newL_3, Pv.newL_4, Pv.newL_5, Pv.newL_6, Pv.newL_7, Pv.newL_8, Pv.newL_9, Pv.newL_10, Pv.cut_f1, Pv.cut_f2, Pv.cut_f3, Pv.cut_t1, Pv.cut_t2, Pv.cut_t3, Pv.cut_12, Pv.flt_true, Pv.flt_false, Pv.frz_new hlo, l8_4, es, setVs, hM2]
  rw [Nx_nx, c8_3, W_cons]
  change W (ex _ _ _ _ (M2 ++ [fd []])) _
  generalize M2 ++ [fd []] = M3 at h3 ⊢
  have hlo := h3.lo
  simp -implicitDefEqProofs [Pv.ex, Pv.ev, Pv.evs, Pv.evI, Pv.W_bind, Pv.W_some, Pv.W_none, Pv.dataA, Pv.MO.lo, Pv.VL.lo, sizeLine_eq, Pv.kindV, Pv.mtK, Pv.mtS, Pv.appS, Pv.bin2, Pv.un1, Pv.int1, Pv.addS, Pv.subS, Pv.mulS, Pv.fdivS, Pv.modS, Pv.powS, Pv.eqS, Pv.cmpI, Pv.isS, Pv.inS, Pv.inL, Pv.dctOf, Pv.ixS, Pv.sixS, Pv.sixL, Pv.slS, Pv.partOf, Pv.btS, Pv.isiS, Pv.isTy, Pv.seqOf, Pv.lsOf, Pv.tru, Pv.valD, Pv.valF, Pv.plOf, Pv.PL.its, Pv.PL.ok, Pv.setTg, Pv.setAll, Pv.setVs, Pv.setT, Pv.revS, Pv.disS, Pv.disT, Pv.prsV, Pv.prsT, Pv.popS, Pv.wipeL, Pv.Tg.slots, Pv.trunc, Pv.shp_none, Pv.shp_bool, Pv.shp_int, Pv.eqv_int, Pv.eqv_bool, Pv.eqv_str, Pv.chS_bool, Pv.chE_bool, Pv.lckS, Pv.lckQ, Pv.keysOf, Pv.W_ite, Pv.atI_c0, Pv.atI_c1, Pv.atI_c2, Pv.atI_c3, -List.map_map, Pv.newL_map, Pv.newL_0, Pv.newL_1, Pv.newL_2, Pv.newL_3, Pv.newL_4, Pv.newL_5, Pv.newL_6, Pv.newL_7, Pv.newL_8, Pv.newL_9, Pv.newL_10, Pv.cut_f1, Pv.cut_f2, Pv.cut_f3, Pv.cut_t1, Pv.cut_t2, Pv.cut_t3, Pv.cut_12, Pv.flt_true, Pv.flt_false, Pv.frz_new hlo]
  refine known (ns := ns) (now := now) hcl hs hlen h3 ?_
  rintro ρ M4 ⟨o6, h4, rfl⟩
  rw [List.take_length] at h4
  have st := st_start hcl hs hlen now
  have w4 : Wd [fd (cl.map fun c => row c (-1) now)] M4 0 (cl.map fun c => row c (-1) now) := ⟨h4, fun o ho n => by rw [List.mem_singleton.mp ho]; exact fd_lo _ n, rfl⟩
  have hlo := h4.lo
  rw [Nx_nx, c8_4, W_cons]
  simp only [lo12]
  simp -implicitDefEqProofs [Pv.ex, Pv.ev, Pv.evs, Pv.evI, Pv.W_bind, Pv.W_some, Pv.W_none, Pv.dataA, Pv.MO.lo, Pv.VL.lo, sizeLine_eq, Pv.kindV, Pv.mtK, Pv.mtS, Pv.appS, Pv.bin2, Pv.un1, Pv.int1, Pv.addS, Pv.subS, Pv.mulS, Pv.fdivS, Pv.modS, Pv.powS, Pv.eqS, Pv.cmpI, Pv.isS, Pv.inS, Pv.inL, Pv.dctOf, Pv.ixS, Pv.sixS, Pv.sixL, Pv.slS, Pv.partOf, Pv.btS, Pv.isiS, Pv.isTy, Pv.seqOf, Pv.lsOf, Pv.tru, Pv.valD, Pv.valF, Pv.plOf, Pv.PL.its, Pv.PL.ok, Pv.setTg, Pv.setAll, Pv.setVs, Pv.setT, Pv.revS, Pv.disS, Pv.disT, Pv.prsV, Pv.prsT, Pv.popS, Pv.wipeL, Pv.Tg.slots, Pv.trunc, Pv.shp_none, Pv.shp_bool, Pv.shp_int, Pv.eqv_int, Pv.eqv_bool, Pv.eqv_str, Pv.chS_bool, Pv.chE_bool, Pv.lckS, Pv.lckQ, Pv.keysOf, Pv.W_ite, Pv.atI_c0, Pv.atI_c1, Pv.atI_c2, Pv.atI_c3, -List.map_map, Pv.newL_map, Pv.newL_0, Pv.newL_1, Pv.newL_2, Pv.newL_3, Pv.newL_4, Pv.newL_5, Pv.newL_6, Pv.newL_7, Pv.newL_8, Pv.newL_9, Pv.newL_10, Pv.cut_f1, Pv.cut_f2, Pv.cut_f3, Pv.cut_t1, Pv.cut_t2, Pv.cut_t3, Pv.cut_12, Pv.flt_true, Pv.flt_false, Pv.frz_new hlo]
  refine ⟨small62_of (by decide) (by decide), ?_⟩
  refine for_rng (i := 0) (n := 30) (I4 ns) ⟨_, _, _, _, now, _, _, _, _, _, _, _, st, w4, rfl⟩ ?_ ?_ (by simp [rngD])
  · rintro k ρ M hk ⟨R, l, es, cs, now, o3, o6, o7, o8, o9, o10, o11, h, w, rfl⟩
    have hlo := w.sr.lo
    simp only [lo12]
    simp -implicitDefEqProofs [Pv.ex, Pv.ev, Pv.evs, Pv.evI, Pv.W_bind, Pv.W_some, Pv.W_none, Pv.dataA, Pv.MO.lo, Pv.VL.lo, sizeLine_eq, Pv.kindV, Pv.mtK, Pv.mtS, Pv.appS, Pv.bin2, Pv.un1, Pv.int1, Pv.addS, Pv.subS, Pv.mulS, Pv.fdivS, Pv.modS, Pv.powS, Pv.eqS, Pv.cmpI, Pv.isS, Pv.inS, Pv.inL, Pv.dctOf, Pv.ixS, Pv.sixS, Pv.sixL, Pv.slS, Pv.partOf, Pv.btS, Pv.isiS, Pv.isTy, Pv.seqOf, Pv.lsOf, Pv.tru, Pv.valD, Pv.valF, Pv.plOf, Pv.PL.its, Pv.PL.ok, Pv.setTg, Pv.setAll, Pv.setVs, Pv.setT, Pv.revS, Pv.disS, Pv.disT, Pv.prsV, Pv.prsT, Pv.popS, Pv.wipeL, Pv.Tg.slots, Pv.trunc, Pv.shp_none, Pv.shp_bool, Pv.shp_int, Pv.eqv_int, Pv.eqv_bool, Pv.eqv_str, Pv.chS_bool, Pv.chE_bool, Pv.lckS, Pv.lckQ, Pv.keysOf, Pv.W_ite, Pv.atI_c0, Pv.atI_c1, Pv.atI_c2, Pv.atI_c3, -List.map_map, Pv.newL_map, Pv.newL_0, Pv.newL_1, Pv.newL_2, Pv.newL_3, Pv.newL_4, Pv.newL_5, Pv.newL_6, Pv.newL_7, Pv.newL_8, Pv.newL_9, Pv.newL_10, Pv.cut_f1, Pv.cut_f2, Pv.cut_f3, Pv.cut_t1, Pv.cut_t2, Pv.cut_t3, Pv.cut_12, Pv.flt_true, Pv.flt_false, Pv.frz_new hlo]
    refine (turn (ns := ns) (k := k) (by omega) h w).mono ?_
    rintro ⟨fl, ρ', M'⟩ h
    cases fl <;> first | exact h | exact h.elim
  · rintro ρ M ⟨R, l, es, cs, now, o3, o6, o7, o8, o9, o10, o11, h, w, rfl⟩
    have hlo := w.sr.lo
    have r0 : ∀ d ∈ ([] : List PyData), Row d := fun _ h => nomatch h
    have r1 : ∀ c a t : Int, 100 ≤ c ∧ c ≤ 103 → ∀ d ∈ [row c a t], Row d := fun c a t h d hd => by rw [List.mem_singleton.mp hd]; exact ⟨c, a, t, rfl, h⟩
    have w1 : F6 [.d (.tuple []), .d (.int 100), .d (.int 0)] M = some (.d (.bool true), M) := (e_silent hlo r0 (by decide) 100 0).trans (by kernel_rfl)
    have w2 : F6 [.d (.tuple [.tuple [.int 101, .int 3, .int 3]]), .d (.int 100), .d (.int 4)] M = some (.d (.bool true), M) := (e_silent hlo (r1 101 3 3 (by decide)) (by decide) 100 4).trans (by kernel_rfl)
    have w3 : F4 [.d (.tuple [.int 100]), .d (.int 0)] M = some (.d (.tuple [row 100 (-1) 0]), M) := (e_start hlo [100] 0 (by decide)).trans (by kernel_rfl)
    have w4 : F1 [.d (.tuple [row 100 (-1) 0]), .d (.int 100), .d (.int 5), .d (.int 10)] M = some (.d (.tuple [row 100 5 10]), M) := (e_heard hlo (r1 100 (-1) 0 (by decide)) (by decide) (by decide) 5 10).trans (by kernel_rfl)
    have w5 : ∀ n : Int, F1 [.d (.tuple [row 100 5 10]), .d (.int 100), .d (.int 5), .d (.int n)] M = some (.d (.tuple [row 100 5 10]), M) := fun n => (e_heard hlo (r1 100 5 10 (by decide)) (by decide) (by decide) 5 n).trans (by kernel_rfl)
    have w6 : F6 [.d (.tuple [row 100 5 10]), .d (.int 100), .d (.int 56)] M = some (.d (.bool true), M) := (e_silent hlo (r1 100 5 10 (by decide)) (by decide) 100 56).trans (by kernel_rfl)
    have w7 : F6 [.d (.tuple [row 100 5 10]), .d (.int 100), .d (.int 55)] M = some (.d (.bool false), M) := (e_silent hlo (r1 100 5 10 (by decide)) (by decide) 100 55).trans (by kernel_rfl)
    have w8 : F1 [.d (.tuple []), .d (.int 101), .d (.int 0), .d (.int 3)] M = some (.d (.tuple [.tuple [.int 101, .int 0, .int 3]]), M) := (e_heard hlo r0 (by decide) (by decide) 0 3).trans (by kernel_rfl)
    have s1 : ∀ c a t : Int, SeqAt.shaped (.tuple [.tuple [.int c, .int a, .int t]]) = true := fun c a t => (pu_tup (n := 1) (all_cons (row_pu c a t) all_nil)).shaped (by decide)
    have q1 : ∀ c a t : Int, PyData.eqv (.tuple [.tuple [.int c, .int a, .int t]]) (.tuple [.tuple [.int c, .int a, .int t]]) = true := fun c a t => (pu_tup (n := 1) (all_cons (row_pu c a t) all_nil)).refl
    rw [Nx_nx, c8_5, W_cons]
    simp only [lo12]
    simp -implicitDefEqProofs [Pv.ex, Pv.ev, Pv.evs, Pv.evI, Pv.W_bind, Pv.W_some, Pv.W_none, Pv.dataA, Pv.MO.lo, Pv.VL.lo, sizeLine_eq, Pv.kindV, Pv.mtK, Pv.mtS, Pv.appS, Pv.bin2, Pv.un1, Pv.int1, Pv.addS, Pv.subS, Pv.mulS, Pv.fdivS, Pv.modS, Pv.powS, Pv.eqS, Pv.cmpI, Pv.isS, Pv.inS, Pv.inL, Pv.dctOf, Pv.ixS, Pv.sixS, Pv.sixL, Pv.slS, Pv.partOf, Pv.btS, Pv.isiS, Pv.isTy, Pv.seqOf, Pv.lsOf, Pv.tru, Pv.valD, Pv.valF, Pv.plOf, Pv.PL.its, Pv.PL.ok, Pv.setTg, Pv.setAll, Pv.setVs, Pv.setT, Pv.revS, Pv.disS, Pv.disT, Pv.prsV, Pv.prsT, Pv.popS, Pv.wipeL, Pv.Tg.slots, Pv.trunc, Pv.shp_none, Pv.shp_bool, Pv.shp_int, Pv.eqv_int, Pv.eqv_bool, Pv.eqv_str, Pv.chS_bool, Pv.chE_bool, Pv.lckS, Pv.lckQ, Pv.keysOf, Pv.W_ite, Pv.atI_c0, Pv.atI_c1, Pv.atI_c2, Pv.atI_c3, -List.map_map, Pv.newL_map, Pv.newL_0, Pv.newL_1, Pv.newL_2, Pv.newL_3, Pv.newL_4, Pv.newL_5, Pv.newL_6, Pv.newL_7, Pv.newL_8, Pv.newL_9, Pv.newL_10, Pv.cut_f1, Pv.cut_f2, Pv.cut_f3, Pv.cut_t1, Pv.cut_t2, Pv.cut_t3, Pv.cut_12, Pv.flt_true, Pv.flt_false, Pv.frz_new hlo, l8_6, w1, w2]
    rw [W_nil, Nx_nx, c8_6, W_cons]
    simp -implicitDefEqProofs [Pv.ex, Pv.ev, Pv.evs, Pv.evI, Pv.W_bind, Pv.W_some, Pv.W_none, Pv.dataA, Pv.MO.lo, Pv.VL.lo, sizeLine_eq, Pv.kindV, Pv.mtK, Pv.mtS, Pv.appS, Pv.bin2, Pv.un1, Pv.int1, Pv.addS, Pv.subS, Pv.mulS, Pv.fdivS, Pv.modS, Pv.powS, Pv.eqS, Pv.cmpI, Pv.isS, Pv.inS, Pv.inL, Pv.dctOf, Pv.ixS, Pv.sixS, Pv.sixL, Pv.slS, Pv.partOf, Pv.btS, Pv.isiS, Pv.isTy, Pv.seqOf, Pv.lsOf, Pv.tru, Pv.valD, Pv.valF, Pv.plOf, Pv.PL.its, Pv.PL.ok, Pv.setTg, Pv.setAll, Pv.setVs, Pv.setT, Pv.revS, Pv.disS, Pv.disT, Pv.prsV, Pv.prsT, Pv.popS, Pv.wipeL, Pv.Tg.slots, Pv.trunc, Pv.shp_none, Pv.shp_bool, Pv.shp_int, Pv.eqv_int, Pv.eqv_bool, Pv.eqv_str, Pv.chS_bool, Pv.chE_bool, Pv.lckS, Pv.lckQ, Pv.keysOf, Pv.W_ite, Pv.atI_c0, Pv.atI_c1, Pv.atI_c2, Pv.atI_c3, -List.map_map, Pv.newL_map, Pv.newL_0, Pv.newL_1, Pv.newL_2, Pv.newL_3, Pv.newL_4, Pv.newL_5, Pv.newL_6, Pv.newL_7, Pv.newL_8, Pv.newL_9, Pv.newL_10, Pv.cut_f1, Pv.cut_f2, Pv.cut_f3, Pv.cut_t1, Pv.cut_t2, Pv.cut_t3, Pv.cut_12, Pv.flt_true, Pv.flt_false, Pv.frz_new hlo, l8_4, l8_1, w3, w4]
    rw [Nx_nx, c8_7, W_cons]
    simp -implicitDefEqProofs [Pv.ex, Pv.ev, Pv.evs, Pv.evI, Pv.W_bind, Pv.W_some, Pv.W_none, Pv.dataA, Pv.MO.lo, Pv.VL.lo, sizeLine_eq, Pv.kindV, Pv.mtK, Pv.mtS, Pv.appS, Pv.bin2, Pv.un1, Pv.int1, Pv.addS, Pv.subS, Pv.mulS, Pv.fdivS, Pv.modS, Pv.powS, Pv.eqS, Pv.cmpI, Pv.isS, Pv.inS, Pv.inL, Pv.dctOf, Pv.ixS, Pv.sixS, Pv.sixL, Pv.slS, Pv.partOf, Pv.btS, Pv.isiS, Pv.isTy, Pv.seqOf, Pv.lsOf, Pv.tru, Pv.valD, Pv.valF, Pv.plOf, Pv.PL.its, Pv.PL.ok, Pv.setTg, Pv.setAll, Pv.setVs, Pv.setT, Pv.revS, Pv.disS, Pv.disT, Pv.prsV, Pv.prsT, Pv.popS, Pv.wipeL, Pv.Tg.slots, Pv.trunc, Pv.shp_none, Pv.shp_bool, Pv.shp_int, Pv.eqv_int, Pv.eqv_bool, Pv.eqv_str, Pv.chS_bool, Pv.chE_bool, Pv.lckS, Pv.lckQ, Pv.keysOf, Pv.W_ite, Pv.atI_c0, Pv.atI_c1, Pv.atI_c2, Pv.atI_c3, -List.map_map, Pv.newL_map, Pv.newL_0, Pv.newL_1, Pv.newL_2, Pv.newL_3, Pv.newL_4, Pv.newL_5, Pv.newL_6, Pv.newL_7, Pv.newL_8, Pv.newL_9, Pv.newL_10, Pv.cut_f1, Pv.cut_f2, Pv.cut_f3, Pv.cut_t1, Pv.cut_t2, Pv.cut_t3, Pv.cut_12, Pv.flt_true, Pv.flt_false, Pv.frz_new hlo]
    refine for_fx (fun k ρ N => N = M ∧ ∃ o2 : Option VL, ρ = [some (.d (.list (ns.map PyData.int))), some (.r 0), o2, o3, some (.d (.tuple [row 100 5 10])), some (.r (l + 1)), o6, o7, o8, o9, o10, o11]) ⟨rfl, _, rfl⟩ ?_ ?_
    · rintro k d ρ N hd ⟨rfl, o2, rfl⟩
      obtain ⟨n, rfl⟩ : ∃ n : Int, d = .int n := by
        have := List.mem_of_getElem? hd
        simp only [List.mem_cons, List.not_mem_nil, or_false] at this
        rcases this with rfl | rfl | rfl <;> exact ⟨_, rfl⟩
      simp -implicitDefEqProofs [Pv.ex, Pv.ev, Pv.evs, Pv.evI, Pv.W_bind, Pv.W_some, Pv.W_none, Pv.dataA, Pv.MO.lo, Pv.VL.lo, sizeLine_eq, Pv.kindV, Pv.mtK, Pv.mtS, Pv.appS, Pv.bin2, Pv.un1, Pv.int1, Pv.addS, Pv.subS, Pv.mulS, Pv.fdivS, Pv.modS, Pv.powS, Pv.eqS, Pv.cmpI, Pv.isS, Pv.inS, Pv.inL, Pv.dctOf, Pv.ixS, Pv.sixS, Pv.sixL, Pv.slS, Pv.partOf, Pv.btS, Pv.isiS, Pv.isTy, Pv.seqOf, Pv.lsOf, Pv.tru, Pv.valD, Pv.valF, Pv.plOf, Pv.PL.its, Pv.PL.ok, Pv.setTg, Pv.setAll, Pv.setVs, Pv.setT, Pv.revS, Pv.disS, Pv.disT, Pv.prsV, Pv.prsT, Pv.popS, Pv.wipeL, Pv.Tg.slots, Pv.trunc, Pv.shp_none, Pv.shp_bool, Pv.shp_int, Pv.eqv_int, Pv.eqv_bool, Pv.eqv_str, Pv.chS_bool, Pv.chE_bool, Pv.lckS, Pv.lckQ, Pv.keysOf, Pv.W_ite, Pv.atI_c0, Pv.atI_c1, Pv.atI_c2, Pv.atI_c3, -List.map_map, Pv.newL_map, Pv.newL_0, Pv.newL_1, Pv.newL_2, Pv.newL_3, Pv.newL_4, Pv.newL_5, Pv.newL_6, Pv.newL_7, Pv.newL_8, Pv.newL_9, Pv.newL_10, Pv.cut_f1, Pv.cut_f2, Pv.cut_f3, Pv.cut_t1, Pv.cut_t2, Pv.cut_t3, Pv.cut_12, Pv.flt_true, Pv.flt_false, Pv.frz_new hlo]
      rw [c8_7f, W_cons]
      simp -implicitDefEqProofs [Pv.ex, Pv.ev, Pv.evs, Pv.evI, Pv.W_bind, Pv.W_some, Pv.W_none, Pv.dataA, Pv.MO.lo, Pv.VL.lo, sizeLine_eq, Pv.kindV, Pv.mtK, Pv.mtS, Pv.appS, Pv.bin2, Pv.un1, Pv.int1, Pv.addS, Pv.subS, Pv.mulS, Pv.fdivS, Pv.modS, Pv.powS, Pv.eqS, Pv.cmpI, Pv.isS, Pv.inS, Pv.inL, Pv.dctOf, Pv.ixS, Pv.sixS, Pv.sixL, Pv.slS, Pv.partOf, Pv.btS, Pv.isiS, Pv.isTy, Pv.seqOf, Pv.lsOf, Pv.tru, Pv.valD, Pv.valF, Pv.plOf, Pv.PL.its, Pv.PL.ok, Pv.setTg, Pv.setAll, Pv.setVs, Pv.setT, Pv.revS, Pv.disS, Pv.disT, Pv.prsV, Pv.prsT, Pv.popS, Pv.wipeL, Pv.Tg.slots, Pv.trunc, Pv.shp_none, Pv.shp_bool, Pv.shp_int, Pv.eqv_int, Pv.eqv_bool, Pv.eqv_str, Pv.chS_bool, Pv.chE_bool, Pv.lckS, Pv.lckQ, Pv.keysOf, Pv.W_ite, Pv.atI_c0, Pv.atI_c1, Pv.atI_c2, Pv.atI_c3, -List.map_map, Pv.newL_map, Pv.newL_0, Pv.newL_1, Pv.newL_2, Pv.newL_3, Pv.newL_4, Pv.newL_5, Pv.newL_6, Pv.newL_7, Pv.newL_8, Pv.newL_9, Pv.newL_10, Pv.cut_f1, Pv.cut_f2, Pv.cut_f3, Pv.cut_t1, Pv.cut_t2, Pv.cut_t3, Pv.cut_12, Pv.flt_true, Pv.flt_false, Pv.frz_new hlo, l8_1, w5]
      rw [Nx_nx, W_nil]
      exact ⟨rfl, _, rfl⟩
    · rintro ρ N ⟨rfl, o2, rfl⟩
      simp only [row] at w6 w7
      rw [Nx_nx, c8_8, W_cons]
      simp only [row]
      simp -implicitDefEqProofs [Pv.ex, Pv.ev, Pv.evs, Pv.evI, Pv.W_bind, Pv.W_some, Pv.W_none, Pv.dataA, Pv.MO.lo, Pv.VL.lo, sizeLine_eq, Pv.kindV, Pv.mtK, Pv.mtS, Pv.appS, Pv.bin2, Pv.un1, Pv.int1, Pv.addS, Pv.subS, Pv.mulS, Pv.fdivS, Pv.modS, Pv.powS, Pv.eqS, Pv.cmpI, Pv.isS, Pv.inS, Pv.inL, Pv.dctOf, Pv.ixS, Pv.sixS, Pv.sixL, Pv.slS, Pv.partOf, Pv.btS, Pv.isiS, Pv.isTy, Pv.seqOf, Pv.lsOf, Pv.tru, Pv.valD, Pv.valF, Pv.plOf, Pv.PL.its, Pv.PL.ok, Pv.setTg, Pv.setAll, Pv.setVs, Pv.setT, Pv.revS, Pv.disS, Pv.disT, Pv.prsV, Pv.prsT, Pv.popS, Pv.wipeL, Pv.Tg.slots, Pv.trunc, Pv.shp_none, Pv.shp_bool, Pv.shp_int, Pv.eqv_int, Pv.eqv_bool, Pv.eqv_str, Pv.chS_bool, Pv.chE_bool, Pv.lckS, Pv.lckQ, Pv.keysOf, Pv.W_ite, Pv.atI_c0, Pv.atI_c1, Pv.atI_c2, Pv.atI_c3, -List.map_map, Pv.newL_map, Pv.newL_0, Pv.newL_1, Pv.newL_2, Pv.newL_3, Pv.newL_4, Pv.newL_5, Pv.newL_6, Pv.newL_7, Pv.newL_8, Pv.newL_9, Pv.newL_10, Pv.cut_f1, Pv.cut_f2, Pv.cut_f3, Pv.cut_t1, Pv.cut_t2, Pv.cut_t3, Pv.cut_12, Pv.flt_true, Pv.flt_false, Pv.frz_new hlo, l8_1, l8_6, w6, w7, w8, s1, q1]
      rw [Nx_rt, FnEnd_rt]
      simp [trunc, W_some]
end K36
namespace K36
open Pv PySem PySem.Spec PyProof.Rows L2
def topS (i : Nat) : Stmt := PySem.Challenge.pw_farleases_k36_whole_heard_once_by_the_cl.main.body.getD i (.Pass ⟨0, 0, 0, 0⟩)
def gFree : List Str := ["abs", "list", "int", "tuple", "sorted", "len", "all", "range"]
def gCons : List (Str × PyData) := [("NEVER", (.int (-1))), ("HOLD", (.int 46))]
def gTabs : List (Str × List (Str × Str)) := []
def N0 : List Str := ["script", "cell"]
def P0 : List Str := ["script"]
def fns0 : List (Str × Nat) := []
theorem sc0 : FnScope N0 P0 (defScope (topS 9)) := ⟨rfl, rfl, rfl, by decide +kernel, rfl, by decide +kernel, by decide +kernel⟩
theorem ck0 : chkSs ⟨gFree, gCons, fns0, gTabs⟩ N0 c0 (defScope (topS 9)) (defBody (topS 9)) = true := by kernel_rfl
def N1 : List Str := ["heard", "client", "at", "now", "known", "triple"]
def P1 : List Str := ["heard", "client", "at", "now"]
def fns1 : List (Str × Nat) := [("_law_cup", 1)]
theorem sc1 : FnScope N1 P1 (defScope (topS 4)) := ⟨rfl, rfl, rfl, by decide +kernel, rfl, by decide +kernel, by decide +kernel⟩
theorem ck1 : chkSs ⟨gFree, gCons, fns1, gTabs⟩ N1 c1 (defScope (topS 4)) (defBody (topS 4)) = true := by kernel_rfl
def N2 : List Str := ["cup", "many", "found", "deep"]
def P2 : List Str := ["cup", "many"]
def fns2 : List (Str × Nat) := [("_law_cup", 1), ("heard_now", 4)]
theorem sc2 : FnScope N2 P2 (defScope (topS 10)) := ⟨rfl, rfl, rfl, by decide +kernel, rfl, by decide +kernel, by decide +kernel⟩
theorem ck2 : chkSs ⟨gFree, gCons, fns2, gTabs⟩ N2 c2 (defScope (topS 10)) (defBody (topS 10)) = true := by kernel_rfl
def N3 : List Str := ["cup", "things"]
def P3 : List Str := ["cup", "things"]
def fns3 : List (Str × Nat) := [("_law_cup", 1), ("heard_now", 4), ("_law_roll", 2)]
theorem sc3 : FnScope N3 P3 (defScope (topS 11)) := ⟨rfl, rfl, rfl, by decide +kernel, rfl, by decide +kernel, by decide +kernel⟩
theorem ck3 : chkSs ⟨gFree, gCons, fns3, gTabs⟩ N3 c3 (defScope (topS 11)) (defBody (topS 11)) = true := by kernel_rfl
def N4 : List Str := ["clients", "now", "client"]
def P4 : List Str := ["clients", "now"]
def fns4 : List (Str × Nat) := [("_law_cup", 1), ("heard_now", 4), ("_law_roll", 2), ("_law_some", 2)]
theorem sc4 : FnScope N4 P4 (defScope (topS 3)) := ⟨rfl, rfl, rfl, by decide +kernel, rfl, by decide +kernel, by decide +kernel⟩
theorem ck4 : chkSs ⟨gFree, gCons, fns4, gTabs⟩ N4 c4 (defScope (topS 3)) (defBody (topS 3)) = true := by kernel_rfl
def N5 : List Str := ["heard", "client", "at", "tick"]
def P5 : List Str := ["heard"]
def fns5 : List (Str × Nat) := [("_law_cup", 1), ("heard_now", 4), ("_law_roll", 2), ("_law_some", 2), ("started_heard", 2)]
theorem sc5 : FnScope N5 P5 (defScope (topS 5)) := ⟨rfl, rfl, rfl, by decide +kernel, rfl, by decide +kernel, by decide +kernel⟩
theorem ck5 : chkSs ⟨gFree, gCons, fns5, gTabs⟩ N5 c5 (defScope (topS 5)) (defBody (topS 5)) = true := by kernel_rfl
def N6 : List Str := ["heard", "client", "now", "one", "at", "tick"]
def P6 : List Str := ["heard", "client", "now"]
def fns6 : List (Str × Nat) := [("_law_cup", 1), ("heard_now", 4), ("_law_roll", 2), ("_law_some", 2), ("started_heard", 2), ("unheard_of", 1)]
theorem sc6 : FnScope N6 P6 (defScope (topS 6)) := ⟨rfl, rfl, rfl, by decide +kernel, rfl, by decide +kernel, by decide +kernel⟩
theorem ck6 : chkSs ⟨gFree, gCons, fns6, gTabs⟩ N6 c6 (defScope (topS 6)) (defBody (topS 6)) = true := by kernel_rfl
def N7 : List Str := ["heard", "client", "triple"]
def P7 : List Str := ["heard", "client"]
def fns7 : List (Str × Nat) := [("_law_cup", 1), ("heard_now", 4), ("_law_roll", 2), ("_law_some", 2), ("started_heard", 2), ("unheard_of", 1), ("silent", 3)]
theorem sc7 : FnScope N7 P7 (defScope (topS 7)) := ⟨rfl, rfl, rfl, by decide +kernel, rfl, by decide +kernel, by decide +kernel⟩
theorem ck7 : chkSs ⟨gFree, gCons, fns7, gTabs⟩ N7 c7 (defScope (topS 7)) (defBody (topS 7)) = true := by kernel_rfl
def N8 : List Str := ["script", "cup", "now", "clients", "heard", "known", "client", "turn", "at", "rest", "one", "later"]
def P8 : List Str := ["script"]
def fns8 : List (Str × Nat) := [("_law_cup", 1), ("heard_now", 4), ("_law_roll", 2), ("_law_some", 2), ("started_heard", 2), ("unheard_of", 1), ("silent", 3), ("forgotten", 2)]
theorem sc8 : FnScope N8 P8 (defScope (topS 12)) := ⟨rfl, rfl, rfl, by decide +kernel, rfl, by decide +kernel, by decide +kernel⟩
theorem ck8 : chkSs ⟨gFree, gCons, fns8, gTabs⟩ N8 c8 (defScope (topS 12)) (defBody (topS 12)) = true := by kernel_rfl
/-! ### the head -/
def d0 : He.DefD := ⟨("_law_cup", none), "_law_cup", "_law_cup", defArgs (topS 9), defBody (topS 9), defScope (topS 9), [], []⟩
def d1 : He.DefD := ⟨("heard_now", none), "heard_now", "heard_now", defArgs (topS 4), defBody (topS 4), defScope (topS 4), [], []⟩
def d2 : He.DefD := ⟨("_law_roll", none), "_law_roll", "_law_roll", defArgs (topS 10), defBody (topS 10), defScope (topS 10), [], []⟩
def d3 : He.DefD := ⟨("_law_some", none), "_law_some", "_law_some", defArgs (topS 11), defBody (topS 11), defScope (topS 11), [], []⟩
def d4 : He.DefD := ⟨("started_heard", none), "started_heard", "started_heard", defArgs (topS 3), defBody (topS 3), defScope (topS 3), [], []⟩
def d5 : He.DefD := ⟨("unheard_of", none), "unheard_of", "unheard_of", defArgs (topS 5), defBody (topS 5), defScope (topS 5), [], []⟩
def d6 : He.DefD := ⟨("silent", none), "silent", "silent", defArgs (topS 6), defBody (topS 6), defScope (topS 6), [], []⟩
def d7 : He.DefD := ⟨("forgotten", none), "forgotten", "forgotten", defArgs (topS 7), defBody (topS 7), defScope (topS 7), [], []⟩
def d8 : He.DefD := ⟨("law", none), "law", "law", defArgs (topS 12), defBody (topS 12), defScope (topS 12), [], []⟩
def fn : List He.DefD := [d0, d1, d2, d3, d4, d5, d6, d7, d8]
def fa : List He.Fa := [.glo "_law_cup", .glo "heard_now", .glo "_law_roll", .glo "_law_some", .glo "started_heard", .glo "unheard_of", .glo "silent", .glo "forgotten", .glo "law", .free "abs", .free "list", .free "int", .free "tuple", .free "sorted", .free "len", .free "all", .free "range", .int "NEVER" (-1), .int "HOLD" 46]
abbrev R : PySem.W.OpenRow := PySem.W.OpenLaw.row PySem.Challenge.rw_farleases_k36_whole_heard_once_by_the_cl
def cs : List (Str × PyData) := []
abbrev hk : PySem.W.Hook := hookT 4 fa fn cs gTabs
def ob (s : PySem.W.SharedT) : AlT := obsTG 4 fa fn cs gTabs (HandSHeadRun.getT s)
theorem ob_eq (s : PySem.W.SharedT) : ob s = hk.obs s.abs := obsTG_eq (HandSHeadRun.getT_eq s)
theorem run (w : World) : HandSHeadRun.RunEq R (PySem.W.view R.prog [12]) hk ob 920 ["started_heard", "heard_now", "unheard_of", "silent", "forgotten", "_law_cup", "_law_roll", "_law_some", "HOLD", "NEVER"] w := by
  intro os
  kernel_rfl
theorem facts {P : Program} {w : World} {K : PySem.W.Frag} {h : Heap} {mg : Str → Option Value} {f : Addr} (X : K.In h) (G : h.Ns mainGlobals mg) (hfa : mg ("law" : Str) = some (.ref f)) (c0 : SaysT fa fn cs gTabs w K) :
    ∃ fd : FuncData, (∀ (s : Shared) (v : Value), BindsTo s fd ⟨[v], []⟩ [("script", v)]) ∧ ∀ base : Heap, K.In base → base.Ns mainGlobals mg → FnOk P w K mg base CX0 9 f fd ["script"] (spM K 1 F8) := by
  have c := c0.says
  obtain ⟨fd0, D0⟩ := c.def_ 0 (d := d0) rfl
  have m0 := He.glo_ok X G (c.fact 0 (f := .glo "_law_cup") rfl)
  have b0 : Binds K fd0 P0 [] := D0.bindsN fun _ _ _ _ _ _ us hl => match us, hl with | [_], _ => rfl
  obtain ⟨fd1, D1⟩ := c.def_ 1 (d := d1) rfl
  have m1 := He.glo_ok X G (c.fact 1 (f := .glo "heard_now") rfl)
  have b1 : Binds K fd1 P1 [] := D1.bindsN fun _ _ _ _ _ _ us hl => match us, hl with | [_, _, _, _], _ => rfl
  obtain ⟨fd2, D2⟩ := c.def_ 2 (d := d2) rfl
  have m2 := He.glo_ok X G (c.fact 2 (f := .glo "_law_roll") rfl)
  have b2 : Binds K fd2 P2 [] := D2.bindsN fun _ _ _ _ _ _ us hl => match us, hl with | [_, _], _ => rfl
  obtain ⟨fd3, D3⟩ := c.def_ 3 (d := d3) rfl
  have m3 := He.glo_ok X G (c.fact 3 (f := .glo "_law_some") rfl)
  have b3 : Binds K fd3 P3 [] := D3.bindsN fun _ _ _ _ _ _ us hl => match us, hl with | [_, _], _ => rfl
  obtain ⟨fd4, D4⟩ := c.def_ 4 (d := d4) rfl
  have m4 := He.glo_ok X G (c.fact 4 (f := .glo "started_heard") rfl)
  have b4 : Binds K fd4 P4 [] := D4.bindsN fun _ _ _ _ _ _ us hl => match us, hl with | [_, _], _ => rfl
  obtain ⟨fd5, D5⟩ := c.def_ 5 (d := d5) rfl
  have m5 := He.glo_ok X G (c.fact 5 (f := .glo "unheard_of") rfl)
  have b5 : Binds K fd5 P5 [] := D5.bindsN fun _ _ _ _ _ _ us hl => match us, hl with | [_], _ => rfl
  obtain ⟨fd6, D6⟩ := c.def_ 6 (d := d6) rfl
  have m6 := He.glo_ok X G (c.fact 6 (f := .glo "silent") rfl)
  have b6 : Binds K fd6 P6 [] := D6.bindsN fun _ _ _ _ _ _ us hl => match us, hl with | [_, _, _], _ => rfl
  obtain ⟨fd7, D7⟩ := c.def_ 7 (d := d7) rfl
  have m7 := He.glo_ok X G (c.fact 7 (f := .glo "forgotten") rfl)
  have b7 : Binds K fd7 P7 [] := D7.bindsN fun _ _ _ _ _ _ us hl => match us, hl with | [_, _], _ => rfl
  obtain ⟨fd8, D8⟩ := c.def_ 8 (d := d8) rfl
  have m8 := He.glo_ok X G (c.fact 8 (f := .glo "law") rfl)
  have b8 : Binds K fd8 P8 [] := D8.bindsN fun _ _ _ _ _ _ us hl => match us, hl with | [_], _ => rfl
  have gk : ∀ fns, GOk K w mg ⟨gFree, gCons, fns, gTabs⟩ := fun fns => by
    refine ⟨fun x hx => ?_, fun x d hx => ?_, c0.tab X G⟩
    · simp only [gFree, List.mem_cons, List.not_mem_nil, or_false] at hx
      rcases hx with rfl | rfl | rfl | rfl | rfl | rfl | rfl | rfl
      · exact He.free_ok X G (c.fact 9 (f := .free "abs") rfl)
      · exact He.free_ok X G (c.fact 10 (f := .free "list") rfl)
      · exact He.free_ok X G (c.fact 11 (f := .free "int") rfl)
      · exact He.free_ok X G (c.fact 12 (f := .free "tuple") rfl)
      · exact He.free_ok X G (c.fact 13 (f := .free "sorted") rfl)
      · exact He.free_ok X G (c.fact 14 (f := .free "len") rfl)
      · exact He.free_ok X G (c.fact 15 (f := .free "all") rfl)
      · exact He.free_ok X G (c.fact 16 (f := .free "range") rfl)
    · simp only [gCons, List.mem_cons, List.not_mem_nil, or_false, Prod.mk.injEq] at hx
      rcases hx with ⟨rfl, rfl⟩ | ⟨rfl, rfl⟩
      · obtain ⟨t, e⟩ := He.int_ok X G (c.fact 17 (f := .int "NEVER" (-1)) rfl)
        exact ⟨_, .int _, e, ⟨t, rfl⟩, fun _ => .int _⟩
      · obtain ⟨t, e⟩ := He.int_ok X G (c.fact 18 (f := .int "HOLD" 46) rfl)
        exact ⟨_, .int _, e, ⟨t, rfl⟩, fun _ => .int _⟩
  have e := hfa.symm.trans m8
  cases e
  refine ⟨fd8, fun s v => FunD.bindsA (ps := ["script"]) D8 (fun _ _ _ _ _ _ us hl => match us, hl with | [_], _ => rfl) s [v] rfl, fun base _ _ => ?_⟩
  have h0 : FnsOk P w K mg base 0 fns0 (look T0) := FnsOk.nil
  have f0 : FnOk P w K mg base CX0 1 _ fd0 P0 (spM K 1 F0) := def_ok D0 sc0 (gk fns0) h0 ck0
  have h1 : FnsOk P w K mg base 1 fns1 (look T1) := h0.snoc (by decide) (look_snoc (T := T0) (f := F0)).1 f0 (look_snoc (T := T0) (f := F0)).2 m0 D0.kp b0
  have f1 : FnOk P w K mg base CX0 2 _ fd1 P1 (spM K 4 F1) := def_ok D1 sc1 (gk fns1) h1 ck1
  have h2 : FnsOk P w K mg base 2 fns2 (look T2) := h1.snoc (by decide) (look_snoc (T := T1) (f := F1)).1 f1 (look_snoc (T := T1) (f := F1)).2 m1 D1.kp b1
  have f2 : FnOk P w K mg base CX0 3 _ fd2 P2 (spM K 2 F2) := def_ok D2 sc2 (gk fns2) h2 ck2
  have h3 : FnsOk P w K mg base 3 fns3 (look T3) := h2.snoc (by decide) (look_snoc (T := T2) (f := F2)).1 f2 (look_snoc (T := T2) (f := F2)).2 m2 D2.kp b2
  have f3 : FnOk P w K mg base CX0 4 _ fd3 P3 (spM K 2 F3) := def_ok D3 sc3 (gk fns3) h3 ck3
  have h4 : FnsOk P w K mg base 4 fns4 (look T4) := h3.snoc (by decide) (look_snoc (T := T3) (f := F3)).1 f3 (look_snoc (T := T3) (f := F3)).2 m3 D3.kp b3
  have f4 : FnOk P w K mg base CX0 5 _ fd4 P4 (spM K 2 F4) := def_ok D4 sc4 (gk fns4) h4 ck4
  have h5 : FnsOk P w K mg base 5 fns5 (look T5) := h4.snoc (by decide) (look_snoc (T := T4) (f := F4)).1 f4 (look_snoc (T := T4) (f := F4)).2 m4 D4.kp b4
  have f5 : FnOk P w K mg base CX0 6 _ fd5 P5 (spM K 1 F5) := def_ok D5 sc5 (gk fns5) h5 ck5
  have h6 : FnsOk P w K mg base 6 fns6 (look T6) := h5.snoc (by decide) (look_snoc (T := T5) (f := F5)).1 f5 (look_snoc (T := T5) (f := F5)).2 m5 D5.kp b5
  have f6 : FnOk P w K mg base CX0 7 _ fd6 P6 (spM K 3 F6) := def_ok D6 sc6 (gk fns6) h6 ck6
  have h7 : FnsOk P w K mg base 7 fns7 (look T7) := h6.snoc (by decide) (look_snoc (T := T6) (f := F6)).1 f6 (look_snoc (T := T6) (f := F6)).2 m6 D6.kp b6
  have f7 : FnOk P w K mg base CX0 8 _ fd7 P7 (spM K 2 F7) := def_ok D7 sc7 (gk fns7) h7 ck7
  have h8 : FnsOk P w K mg base 8 fns8 (look T8) := h7.snoc (by decide) (look_snoc (T := T7) (f := F7)).1 f7 (look_snoc (T := T7) (f := F7)).2 m7 D7.kp b7
  have f8 : FnOk P w K mg base CX0 9 _ fd8 P8 (spM K 1 F8) := def_ok D8 sc8 (gk fns8) h8 ck8
  exact f8
end K36
open PySem PySem.W PySem.Calls PyProof.Rows
set_option maxRecDepth 100000 in
set_option maxHeartbeats 8000000 in
theorem PySem.Challenge.cw_farleases_k36_whole_heard_once_by_the_cl_holds : PySem.Challenge.rw_farleases_k36_whole_heard_once_by_the_cl.Holds := by
  w_on; o_law
  refine HandSHeadRun.head_any (r := OpenLaw.row PySem.Challenge.rw_farleases_k36_whole_heard_once_by_the_cl) (q := view (OpenLaw.row PySem.Challenge.rw_farleases_k36_whole_heard_once_by_the_cl).prog [12]) (H := K36.hk) (ob := K36.ob) (M := 920) (loose := ["started_heard", "heard_now", "unheard_of", "silent", "forgotten", "_law_cup", "_law_roll", "_law_some", "HOLD", "NEVER"]) (d := HandSHeadRun.topDef (OpenLaw.row PySem.Challenge.rw_farleases_k36_whole_heard_once_by_the_cl).prog 12) (kwd := []) K36.ob_eq
    (by kernel_rfl) (fun s => by kernel_rfl) K36.run (by kernel_rfl) (by kernel_rfl) (by kernel_rfl) (by rfl) (by first | assumption | decide +kernel) (by decide +kernel) ⟨rfl, rfl, rfl, rfl, rfl, by decide +kernel⟩ ?hw ?hc
  case hw => w_witness2
  case hc =>
    refine L2.walk_ofE (l := PySem.Challenge.rw_farleases_k36_whole_heard_once_by_the_cl) (n := 63) (k := 9) (x := "script") (CX := L2.CX0) rfl (by decide) (by kernel_rfl) ⟨rfl, by decide, by decide⟩ ?F (fun _ _ _ _ z => z)
    intro w mg fa h Y G hmg0
    obtain ⟨K, KX, c⟩ := Y
    have hmg : mg ("law" : PySem.Str) = some (.ref fa) := by
      have e : (HandSHeadRun.topDef (OpenLaw.row PySem.Challenge.rw_farleases_k36_whole_heard_once_by_the_cl).prog 12).name = ("law" : PySem.Str) := by kernel_rfl
      rw [← e]
      exact hmg0
    obtain ⟨fd, hb, hF⟩ := K36.facts (P := (PySem.Challenge.rw_farleases_k36_whole_heard_once_by_the_cl).prog) (w := w) KX G hmg c
    exact ⟨K, fd, Pv.spM K 1 K36.F8, KX, hb, fun H a ns hl hO hS => Pv.law_sp (K36.main ns hl) hO hS, hF⟩
