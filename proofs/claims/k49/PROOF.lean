import PyProof.Rows.All
import Wide.All
import OpenK.AllK
import Wide.FinOn
import HandS.ForMost
import KE.SortKeyHeap
import HandS.OwnEq
import KE.GoesEnum
import KE.GoesRev
import HandS.Lambda
import HandS.IsInst
import HandS.Codes
import PySem.Challenge.RW_calmblanks_k49_whole_all_webs
import HandS.Conv
import HandS.TupAny
import HandS.EndTab
set_option Elab.async false
set_option maxRecDepth 100000
set_option maxHeartbeats 4000000
/-! sorted of data at any depth, as a rule of the hand layer -/
namespace K49
open PySem PySem.Spec PyProof.Rows L2 PySem.W
section
variable {K : PySem.W.Frag} {H : Hp} {β : Type} {enc : β → PyData}
/-- the value u stands for b -/
def StF (K : PySem.W.Frag) (H : Hp) (enc : β → PyData) (u : Value) (b : β) : Prop := ∃ x, RelV x u ∧ Dp K H x (enc b)
theorem each_in : ∀ {xs : List V} {us : List Value} {bs : List β}, Vals xs us → DpAll K H xs (bs.map enc) → EachIs (StF K H enc) us bs
  | [], us, bs, r, d => by
    cases r
    cases bs with
    | nil => exact .nil
    | cons b bs =>
      have d' : DpAll K H [] (enc b :: bs.map enc) := d
      cases d'
  | x :: xs, us, bs, r, d => by
    cases r with
    | cons r1 r2 =>
      cases bs with
      | nil =>
        have d' : DpAll K H (x :: xs) [] := d
        cases d'
      | cons b bs =>
        have d' : DpAll K H (x :: xs) (enc b :: bs.map enc) := d
        cases d' with
        | cons d1 d2 => exact .cons ⟨x, r1, d1⟩ (each_in r2 d2)
theorem each_out : ∀ {us : List Value} {bs : List β}, EachIs (StF K H enc) us bs → ∃ ys, Vals ys us ∧ DpAll K H ys (bs.map enc)
  | _, _, .nil => ⟨[], .nil, .nil⟩
  | _, _, .cons ⟨x, r, d⟩ t => by
    obtain ⟨ys, h1, h2⟩ := each_out t
    exact ⟨x :: ys, .cons r h1, .cons d h2⟩
end
/-- sorted(xs), xs a list that reads as bs.map enc: a new list that reads as bs.mergeSort .. -/
def rSortedD (K : PySem.W.Frag) {β : Type} (enc : β → PyData) (d : Nat) : List V → Hp → VK → Prop := fun vs H Q => ∃ (a : Addr) (xs : List V) (bs : List β), vs = [V.ref a] ∧ SqL K H a xs ∧ DpAll K H xs (bs.map enc) ∧
  AllAlike (bs.map enc) ∧ Sortable (bs.map enc) ∧ (∀ b ∈ bs, (enc b).depth ≤ d) ∧
  ∀ ys p, DpAll K H ys ((bs.mergeSort (dataLe false enc)).map enc) → ys.length = bs.length → H p = none → Q (.ref p) (upd H p (.lst ys))
section
variable {X : Cx}
theorem cr_sortedD {β : Type} {enc : β → PyData} {d : Nat} (hu : X.A.units + 2 + d < cLine) : CallR X (.builtin "sorted") (rSortedD X.K enc d) := by
  intro pins s σ H vs us Q I r h
  obtain ⟨a, xs, bs, rfl, hs, hd, hal, hk, hdep, q⟩ := h
  obtain ⟨its, rv, hl, hz⟩ := I.list hs
  obtain ⟨u, rfl, ru⟩ := vals1 r
  obtain rfl : u = Value.ref a := ru
  have e : EachIs (StF X.K H enc) its bs := each_in rv hd
  have er : EachIs (fun v b => ∃ as, Reads s.heap v (enc b) as) its bs := e.mono fun v b ⟨x, rx, dx⟩ => Dp.reads I _ _ _ dx rx
  have hL : bs.length ≤ sizeLine := by
    rw [← e.length, ← rv.length]
    exact hz
  refine sorted_data hl.isList e er hal hk hL (fun b hb => Nat.lt_of_le_of_lt (Nat.add_le_add_left (hdep b hb) _) hu) fun out ho eo => ?_
  obtain ⟨ys, r2, d2⟩ := each_out eo
  obtain ⟨ep, he'⟩ := PyProof.Rows.sortedAll_at s.heap its out.toArray
  have hlen : ys.length = bs.length := r2.length.trans ho
  refine ⟨.ref _, upd H (s.heap.objs.size + 1) (.lst ys), I.laid (t' := s.toks) (fun _ _ => PyProof.Rows.sortedAll_old) (Nat.le_succ _) ⟨by rw [hlen]; exact hL, out, ep, r2, he'⟩, rfl, q _ _ d2 hlen (I.hok.fresh (Nat.le_succ _))⟩
end
end K49
set_option Elab.async false
set_option maxRecDepth 100000
set_option maxHeartbeats 4000000
/-! sorted of tuples of which the first is empty (the sort then compares the tuples themselves) -/
namespace K49
open PySem PySem.Spec PyProof.Rows L2 PySem.W PySem.SeqAt PySem.Calls
section
variable {M : Model} {A : Around} {E : Value → Shared → Prop} {s : Shared}
/-- one after another, whatever each gives -/
theorem mapM_some {α γ : Type} {f : α → Sem γ} : ∀ (l : List α) {Q : List γ → Shared → Prop}, (∀ v ∈ l, ∃ r, ∀ Q' : γ → Shared → Prop, Q' r s → wpAny M A (f v) Q' E s) → (∀ rs : List γ, rs.length = l.length → Q rs s) → wpAny M A (l.mapM f) Q E s
  | [], _, _, h => by
    rw [List.mapM_nil]
    exact wpAny_pure (h [] rfl)
  | x :: l, Q, hf, h => by
    rw [List.mapM_cons]
    obtain ⟨r, hr⟩ := hf x List.mem_cons_self
    refine wpAny_bind (hr _ (wpAny_bind (mapM_some l (fun v hv => hf v (List.mem_cons_of_mem _ hv)) fun rs hl => wpAny_pure ?_)))
    exact h (r :: rs) (by rw [List.length_cons, List.length_cons, hl])
/-- what a tuple's first item is to the sort -/
theorem first_here {u : Value} {xs : List PyData} {as : List Addr} (r : Reads s.heap u (.tuple xs) as) : ∃ g : Option Value, (xs = [] → g = none) ∧ ∀ Q' : Option Value → Shared → Prop, Q' g s → wpAny M A (firstOfTuple' u) Q' E s := by
  cases r with
  | @tuple a o vs n _ _ ho hc hd hr =>
    refine ⟨vs[0]?, fun e => ?_, fun Q' hq => ?_⟩
    · subst e
      have hz := SeqAt.ReadsAll.length _ _ _ hr
      have hz' : vs.size = 0 := by simpa using hz
      exact Array.getElem?_eq_none (by omega)
    · rw [kas_first_eq]
      refine wpAny_bind (Looks.here (show Looks M s.heap (typeOf (.ref a)) o.cls from (Looks.ld ho).andThen .now) ?_)
      rw [hc, if_neg (by decide)]
      exact wpAny_bind (listItems_at ho hd (wpAny_pure hq))
/-- the kind of keys: the first is empty, so they are one type's, no more -/
theorem kind_first {u : Value} {us : List Value} {ds : List PyData} {Q : SortKind → Shared → Prop} (e : EachIs (fun v d => ∃ as, Reads s.heap v d as) (u :: us) (.tuple [] :: ds)) (ht : ∀ d ∈ ds, ∃ xs, d = .tuple xs) (h : Q oneType' s) :
    wpAny M A (keyKind' (u :: us).toArray) Q E s := by
  have tup : ∀ v ∈ u :: us, ∃ xs as, Reads s.heap v (.tuple xs) as := fun v hv => by
    obtain ⟨d, hd, as, r⟩ := e.left v hv
    rcases List.mem_cons.mp hd with q | q
    · subst q
      exact ⟨[], as, r⟩
    · obtain ⟨xs, rfl⟩ := ht d q
      exact ⟨xs, as, r⟩
  cases e with
  | cons e1 e2 =>
    obtain ⟨as0, r0⟩ := e1
    obtain ⟨g, g0, hg⟩ := first_here (M := M) (A := A) (E := E) r0
    have g1 := g0 rfl
    subst g1
    rw [keyKind'_eq, List.mapM_toArray, map_eq_pure_bind, List.mapM_cons]
    refine wpAny_bind (wpAny_bind (wpAny_bind (hg _ (wpAny_bind (mapM_some us (fun v hv => ?_) fun rs hl => ?_)))))
    · obtain ⟨xs, as, r⟩ := tup v (List.mem_cons_of_mem _ hv)
      obtain ⟨g, _, hg⟩ := first_here (M := M) (A := A) (E := E) r
      exact ⟨g, hg⟩
    · refine wpAny_pure (wpAny_pure ?_)
      rw [if_neg (by simp), if_neg (by simp), oneTypeOnly'_eq, List.mapM_toArray, map_eq_pure_bind]
      refine wpAny_bind (wpAny_bind (wpAny_bind (kas_mapM (r := Value.type "tuple") _ (fun v hv Q' hq => ?_) (wpAny_pure ?_))))
      · obtain ⟨xs, as, r⟩ := tup v hv
        exact (looks_reads (M := M) r).here hq
      · have hall : ((List.map (fun _ => Value.type "tuple") (u :: us)).toArray.all fun x => x == Value.type "tuple") = true := by
          simp only [List.all_toArray, List.all_map, List.all_eq_true]
          intro _ _
          show (Value.type "tuple" == Value.type "tuple") = true
          decide
        have h0 : (List.map (fun _ => Value.type "tuple") (u :: us)).toArray[0]? = some (Value.type "tuple") := by simp
        rw [h0]
        simp only [hall, if_true]
        exact wpAny_pure (wpAny_pure h)
end
section
variable {prog : Program} {w : World} {A : Around} {E : Value → Shared → Prop} {s : Shared}
/-- one type's < of two tuples -/
theorem tup_oneLt {xs ys : List PyData} {a b : Value} {as bs : List Addr} {Q : Bool → Shared → Prop} (ra : Reads s.heap a (.tuple xs) as) (rb : Reads s.heap b (.tuple ys) bs) (hal : alikeAll xs ys = true)
    (hu : A.units + min (PyData.tuple xs).depth (PyData.tuple ys).depth < cLine) (hq : Q (dataLt (.tuple xs) (.tuple ys)) s) : wpAny (model prog w) A (oneLt' true a b) Q E s := by
  cases ra with
  | @tuple l o vs n _ as₁ h1 h2 h3 h4 =>
    cases rb with
    | @tuple l' o' vs' n' _ bs₁ k1 k2 k3 k4 =>
      have n1 : vs.size = xs.length := by simpa using SeqAt.ReadsAll.length _ _ _ h4
      have n2 : vs'.size = ys.length := by simpa using SeqAt.ReadsAll.length _ _ _ k4
      rw [dataLt_tuple, ← firstLt_toks xs ys hal, ← n1, ← n2] at hq
      rw [oneLt'_eq]
      simp only [if_true]
      refine wpAny_bind (wpAny_cRoomFor (room_here hu) ?_)
      obtain ⟨cls, dd, dt, sl⟩ := o
      obtain ⟨cls', dd', dt', sl'⟩ := o'
      simp only at h2 h3 k2 k3
      subst h2 h3 k2 k3
      refine wpAny_bind (wpAny_callSpecialIfBound?_slot (T := "tuple") ⟨_, h1, rfl⟩ F.slot_tuple_lt (call_meets F.slot_tuple_lt ⟨_, h1, rfl⟩ F.entry_tuple_lt (F.args_tuple_lt_2 _ _)
        (tuple_ltAt l l' vs vs' n n' dd dd' sl sl' (pairEq xs ys) fun j => dataLt (xs.getD j .none) (ys.getD j .none)) ⟨h1, k1, fun j j1 j2 => ?_, fun j j1 j2 hj => ?_, ?_⟩))
      · have := eqAt_alikeAll xs ys A.in1 s vs.toList vs'.toList _ _ h4 k4 hal (room_in hu) j (by simpa using j1) (by simpa using j2)
        simpa using this
      · have := rcLt_alikeAll xs ys A.in1 s vs.toList vs'.toList _ _ h4 k4 hal (room_in hu) j (by simpa using j1) (by simpa using j2) hj
        simpa using this
      · exact wpAny_truthy_bool hq
/-- such a list can be sorted -/
theorem sortsAt_first {u : Value} {us : List Value} {ds : List PyData} (e : EachIs (fun v d => ∃ as, Reads s.heap v d as) (u :: us) (.tuple [] :: ds)) (hal : AllAlike (.tuple [] :: ds)) (ht : ∀ d ∈ ds, ∃ xs, d = .tuple xs)
    (hu : ∀ d, d ∈ PyData.tuple [] :: ds → A.units + d.depth < cLine) : SortsAt prog w A s (dataKind s.heap (.tuple [] :: ds)) (u :: us) := by
  have tup : ∀ d, d ∈ PyData.tuple [] :: ds → ∃ xs, d = .tuple xs := fun d hd => (List.mem_cons.mp hd).elim (fun q => ⟨[], q⟩) (ht d)
  refine ⟨fun v hv => ?_, oneType', fun E x y a b Q ha hb hq => ?_, fun _ E Q hq => kind_first e ht hq⟩
  · obtain ⟨d, hd, as, r⟩ := e.left v hv
    exact ⟨_, dataKind_some hal hd r⟩
  · obtain ⟨d, as, hd, ra, rfl⟩ := dataKind_inv ha
    obtain ⟨d', as', hd', rb, rfl⟩ := dataKind_inv hb
    have hdd := hal d hd d' hd'
    have hroom : A.units + min d.depth d'.depth < cLine := Nat.lt_of_le_of_lt (Nat.add_le_add_left (Nat.min_le_left _ _) _) (hu d hd)
    obtain ⟨xs, rfl⟩ := tup d hd
    obtain ⟨ys, rfl⟩ := tup d' hd'
    rw [keyLt'_oneType]
    exact tup_oneLt ra rb (by simpa [alike] using hdd) hroom hq
end
/-- sorted(xs), xs reads as tuples of which the first is empty -/
def rSortedE (K : PySem.W.Frag) {β : Type} (enc : β → PyData) (d : Nat) : List V → Hp → VK → Prop := fun vs H Q => ∃ (a : Addr) (xs : List V) (b0 : β) (bs : List β), vs = [V.ref a] ∧ SqL K H a xs ∧ DpAll K H xs ((b0 :: bs).map enc) ∧
  AllAlike ((b0 :: bs).map enc) ∧ enc b0 = .tuple [] ∧ (∀ b, ∃ ts, enc b = .tuple ts) ∧ (∀ b ∈ b0 :: bs, (enc b).depth ≤ d) ∧
  ∀ ys p, DpAll K H ys (((b0 :: bs).mergeSort (dataLe false enc)).map enc) → ys.length = bs.length + 1 → H p = none → Q (.ref p) (upd H p (.lst ys))
section
variable {X : Cx}
theorem cr_sortedE {β : Type} {enc : β → PyData} {d : Nat} (hu : X.A.units + 2 + d < cLine) : CallR X (.builtin "sorted") (rSortedE X.K enc d) := by
  intro pins s σ H vs us Q I r h
  obtain ⟨a, xs, b0, bs, rfl, hs, hd, hal, h0, ht, hdep, q⟩ := h
  obtain ⟨its, rv, hl, hz⟩ := I.list hs
  obtain ⟨u, rfl, ru⟩ := vals1 r
  obtain rfl : u = Value.ref a := ru
  have e : EachIs (StF X.K H enc) its (b0 :: bs) := each_in rv hd
  have hL : its.length ≤ sizeLine := by
    rw [← rv.length]
    exact hz
  have er : EachIs (fun v b => ∃ as, Reads (sortingHeap (copyHeap s.heap its) (s.heap.objs.size + 1) its) v (enc b) as) its (b0 :: bs) := e.mono fun v b ⟨x, rx, dx⟩ => by
    obtain ⟨as, r1⟩ := Dp.reads I _ _ _ dx rx
    exact ⟨as, PyProof.Rows.Reads.keeps (fun _ _ => sorting_copy_old) r1⟩
  have ed := each_map (R := fun v d => ∃ as, Reads (sortingHeap (copyHeap s.heap its) (s.heap.objs.size + 1) its) v d as) enc er
  have S : SortsAt X.prog X.w X.A.in1.in1 { s with heap := sortingHeap (copyHeap s.heap its) (s.heap.objs.size + 1) its } (dataKind (sortingHeap (copyHeap s.heap its) (s.heap.objs.size + 1) its) ((b0 :: bs).map enc)) its := by
    cases its with
    | nil => cases e
    | cons v0 vs =>
      have em : (b0 :: bs).map enc = .tuple [] :: bs.map enc := by rw [List.map_cons, h0]
      rw [em] at ed hal ⊢
      refine sortsAt_first (s := { s with heap := _ }) ed hal (fun d hd => ?_) fun d hd => ?_
      · obtain ⟨b, _, rfl⟩ := List.mem_map.mp hd
        exact ht b
      · rw [← em] at hd
        obtain ⟨b, hb, rfl⟩ := List.mem_map.mp hd
        exact Nat.lt_of_le_of_lt (Nat.add_le_add_left (hdep b hb) _) hu
  refine sorted_vals hl.isList S hL ?_
  have eo := sortVals_data (h' := sortingHeap (copyHeap s.heap its) (s.heap.objs.size + 1) its) false e er hal
  have ho : (sortVals (dataKind (sortingHeap (copyHeap s.heap its) (s.heap.objs.size + 1) its) ((b0 :: bs).map enc)) false its its).length = its.length := sortVals_length false rfl
  generalize sortVals (dataKind (sortingHeap (copyHeap s.heap its) (s.heap.objs.size + 1) its) ((b0 :: bs).map enc)) false its its = out at eo ho ⊢
  obtain ⟨ys, r2, d2⟩ := each_out eo
  obtain ⟨ep, he'⟩ := PyProof.Rows.sortedAll_at s.heap its out.toArray
  have hlen : ys.length = its.length := r2.length.trans ho
  refine ⟨.ref _, upd H (s.heap.objs.size + 1) (.lst ys), I.laid (t' := s.toks) (fun _ _ => PyProof.Rows.sortedAll_old) (Nat.le_succ _) ⟨by rw [hlen]; exact hL, out, ep, r2, he'⟩, rfl, q _ _ d2 ?_ (I.hok.fresh (Nat.le_succ _))⟩
  rw [hlen, e.length, List.length_cons]
end
end K49
set_option Elab.async false
set_option maxRecDepth 100000
set_option maxHeartbeats 4000000
/-! == by an own __eq__, both answers; ranges as values and walked; enumerate over a tuple -/
namespace K49
open PySem PySem.Spec PyProof.Rows L2
/-- x == y, both instances of the class at C, by the promise of its own __eq__ -/
def rEqOwn (C : Addr) (sp : Sp) (E : XK) : R2 := fun x y H Q => ∃ a b dx dy fs gs, x = V.ref a ∧ y = V.ref b ∧ H a = some (.ins C dx fs) ∧ H b = some (.ins C dy gs) ∧ sp [.ref a, .ref b] H (fun v H' => (∃ k, v = .bl k) ∧ Q v H') E
section
variable {X : Cx}
theorem op_eqOwn {CX : CXT} {C f : Addr} {fd : FuncData} {ps : List Str} {sp : Sp} {n : Nat} {E : XK} (F : FnOk X.prog X.w X.K X.mg X.base CX n f fd ps sp) (hr : Room n X.A)
    (hs : PySem.W.findIn X.K (.ref C) "__eq__" = some (some (.ref f))) (hf : PySem.W.isFn X.K (.ref f) = true) (hb : Binds X.K fd ps []) (hx : Passes CX X E) : OpR X (compareOp .Eq) (rEqOwn C sp E) := by
  intro pins s σ H x y v u Q I rx ry h
  obtain ⟨a, b, dx, dy, fs, gs, rfl, rfl, ha, hb', hsp⟩ := h
  cases rx
  cases ry
  show wpAny (model X.prog X.w) X.A (richCompare .Eq (.ref a) (.ref b)) (EP X pins σ Q) X.xe s
  obtain ⟨mA, J, _⟩ := ins_get I.hok ha
  obtain ⟨mB, J', _⟩ := ins_get I.hok hb'
  obtain ⟨od, J, _⟩ := J.look
  obtain ⟨od', J', _⟩ := J'.look
  obtain ⟨m, hF⟩ := I.fr
  refine PySem.W.cmp_K (op := .Eq) (tb := .ref C) hr.units0 hF I.ok.mod.kin J J'.type (by simp [PySem.W.notFirst]) hs hf ?_
  refine wpAny_mono (run_fn (vs := [.ref a, .ref b]) (dvs := []) (ds := []) F hr hb .nil hx I (.cons rfl (.cons rfl .nil)) hsp) (fun r s' hq => ?_) fun _ _ z => z
  obtain ⟨z, H', I', rz, ⟨k, rfl⟩, q⟩ := hq
  cases rz
  exact ⟨.bl k, H', I', rfl, q⟩
/-! ### ranges -/
/-- range(n) as a value -/
theorem cr_range1 : CallR X (.type "range") (fun vs H Q => ∃ j, vs = [V.int j] ∧ ∀ p, H p = none → Q (.ref p) (upd H p (.rng 0 j))) := by
  intro pins s σ H vs us Q I r h
  obtain ⟨j, rfl, q⟩ := h
  obtain ⟨u1, rfl, rj⟩ := vals1 r
  obtain ⟨u, rfl⟩ := rj
  refine call_range_1 ⟨.ref s.heap.objs.size, upd H s.heap.objs.size (.rng 0 j), I.laid (t' := _) (fun b o e => Heap.get?_push_of_some _ e) (Nat.le_refl _) ?_, rfl, q _ (I.hok.fresh (Nat.le_refl _))⟩
  exact ⟨_, u, _, Heap.get?_push_size _ rfl⟩
/-- a range that stands as a value is walked -/
def iRngV (te : TE) : TI := fun σ H R => te σ H fun x H1 => ∃ a lo hi, x = .ref a ∧ H1 a = some (.rng lo hi) ∧ -(2 ^ 62) ≤ lo ∧ lo < 2 ^ 62 ∧ -(2 ^ 62) ≤ hi ∧ hi < 2 ^ 62 ∧ R (Itr lo (hi - lo).toNat) H1
theorem pi_rngV {tg e : Expr} {te : TE} (he : PE X e te) : PI X tg e (iRngV te) := by
  refine ⟨fun pins s σ H R I h => ?_⟩
  refine thn (he.run pins s σ H _ I h) fun v s1 ⟨x, H1, I1, r1, q1⟩ => ?_
  obtain ⟨a, lo, hi, rfl, ha, h1, h2, h3, h4, q⟩ := q1
  cases r1
  obtain ⟨t, u, v, ho⟩ := I1.hok a _ ha
  refine PySem.range_begins (n := (hi - lo).toNat) (a := lo) (b := hi) (c := 1) (t := t) (u := u) (v := v) ho (small_one h1 h2 h3 h4) ?_ fun h' hit hsz hk => ?_
  · rw [rangeSize_one]
    split <;> omega
  · refine ⟨s1.heap.objs.size, [s1.heap.objs.size], _, _, H1, rfl, I1.kept (t' := s1.toks) hk, turn_range _ lo (hi - lo).toNat, PySem.range_st hit, fun b hb => ?_, q⟩
    have e : b = s1.heap.objs.size := by simpa using hb
    subst e
    exact I1.fpOk (Nat.le_refl _) (I1.hok.fresh (Nat.le_refl _))
end
/-! ### enumerate over a tuple -/
set_option maxHeartbeats 1000000 in
theorem meets_enum1 {v : Value} {o : Obj} {G : Heap → Prop} (B : Begins v o G) :
    Meets (Builtin.«enumerate.__new__» ⟨[.type "enumerate", v], []⟩) (fun _ R s => G s.heap ∧
      R (.ok (.ret (.ref (s.heap.push o).objs.size))) { s with heap := (s.heap.push o).push { cls := .type "enumerate", data := .fields #[.none, .bool false, .ref s.heap.objs.size, rawInt 0, .none, .none] } }) :=
  .of_wp fun prog w A R s h => by
    obtain ⟨hp, g, d, tk, os⟩ := s
    obtain ⟨h1, h⟩ := h
    have isE := sub_enumerate
    have it1 : ∀ {A' : Around} {E : Value → Shared → Prop} {Q : Value → Shared → Prop}, Q (.ref hp.objs.size) ⟨hp.push o, g, d, tk, os⟩ → wpAny (model prog w) A' (pyIter v) Q E ⟨hp, g, d, tk, os⟩ :=
      fun q => B.iter prog w _ _ ⟨hp, g, d, tk, os⟩ _ h1 q
    wp_walk using it1
    refine wpAny_stack_any fun st => wpAny_pure ?_
    split
    · rename_i c _ _ _ _ _
      cases (c == Value.type "enumerate") <;> (wp_walk using it1; exact ⟨_, rfl, h⟩)
    · wp_walk using it1
      exact ⟨_, rfl, h⟩
section
variable {prog : Program} {w : World} {A : Around} {E : Value → Shared → Prop} {s : Shared}
theorem enum1_begins {v : Value} {o : Obj} {G : Heap → Prop} {Q : Value → Shared → Prop} (B : Begins v o G) (h1 : G s.heap)
    (h : ∀ h', IsEnum h' (s.heap.objs.size + 1) s.heap.objs.size 0 .none → h'.get? s.heap.objs.size = some o → (∀ b ob, s.heap.get? b = some ob → h'.get? b = some ob) → Q (.ref (s.heap.objs.size + 1)) { s with heap := h' }) :
    wpAny (model prog w) A (call (.type "enumerate") [v]) Q E s := by
  refine callType_new F.called_enumerate (by decide) (F.typeCall_enumerate_1 _) (F.newCall_enumerate_1 _) (fun obj => F.args_object_init_2 obj _) F.entry_enumerate_new (meets_enum1 B) ⟨h1, ?_⟩
  have hz : (s.heap.push o).objs.size = s.heap.objs.size + 1 := Heap.size_push ..
  show _ ∧ _
  rw [hz]
  have he : IsEnum ((s.heap.push o).push { cls := .type "enumerate", data := .fields #[.none, .bool false, .ref s.heap.objs.size, rawInt 0, .none, .none] }) (s.heap.objs.size + 1) s.heap.objs.size 0 .none := by
    have q := Heap.get?_push_size (s.heap.push o) (o := { cls := .type "enumerate", data := .fields #[.none, .bool false, .ref s.heap.objs.size, rawInt 0, .none, .none] }) rfl
    rw [hz] at q
    exact q
  exact ⟨⟨_, he, rfl⟩, h _ he (Heap.get?_push_of_some _ (Heap.get?_push_size _ B.free)) fun b ob x => Heap.get?_push_of_some _ (Heap.get?_push_of_some _ x)⟩
end
/-- the tuple at a, each item in a new pair with its number -/
def ItE (K : PySem.W.Frag) (a : Addr) : It :=
  ⟨fun i H => ∃ (xs : List V) (x : V), SqT K H a xs ∧ xs[i]? = some x, fun i H v H' => ∃ T x, v = .ref T ∧ H T = none ∧ H' = upd H T (.tup [.int (i : Nat), x]) ∧ ∀ xs, SqT K H a xs → xs[i]? = some x, fun i H => ∃ xs : List V, SqT K H a xs ∧ xs.length = i⟩
theorem tup_not_iter {h : Heap} {a it : Addr} {items : Array Value} {i : Nat} (t : h.IsTuple a items) (x : h.IsTupleIter it a i) : a ≠ it := by
  rintro rfl
  obtain ⟨o, ho, hc, _⟩ := t
  obtain ⟨o', ho', hc', _⟩ := x
  rw [ho] at ho'
  cases ho'
  rw [hc] at hc'
  exact absurd (Value.type.inj hc') (by decide)
theorem turn_enumT {P : Program} {w : World} {K : PySem.W.Frag} {elts : List Expr} {kk : Nat} {tpos : Pos} (a e it : Addr) :
    Turn P w K (.Tuple elts kk tpos) (ItE K a) [e, it] e (fun i h => (∃ old, IsEnum h e it ((i : Nat) : Int) old) ∧ h.IsTupleIter it a i ∧ e ≠ it) where
  mem := by simp
  obj := fun i h st b hb => by
    obtain ⟨⟨old, he⟩, ⟨o, ho, hc, hd⟩, _⟩ := st
    rcases (show b = e ∨ b = it by simpa using hb) with z | z
    · rw [z]
      exact ⟨_, he, fun v q => nomatch q⟩
    · rw [z]
      exact ⟨o, ho, fun v q => by rw [hd] at q; cases q⟩
  keep := fun i h h' st k => let ⟨⟨old, he⟩, hi, hne⟩ := st; ⟨⟨old, k e (by simp) _ he⟩, hi.at fun o q => k it (by simp) o q, hne⟩
  item := by
    intro X hP hw hK hc i pins s σ H E I hf st hg
    subst hP hw hK
    obtain ⟨⟨old, he⟩, hit, hne⟩ := st
    obtain ⟨xs, x, hq, hx⟩ := hg
    obtain ⟨its, rv, p, hz⟩ := I.tuple hq
    obtain ⟨u, hu, ru⟩ := rv.get hx
    have pt : s.heap.IsTuple a its.toArray := p
    have hel : e < s.heap.objs.size := Heap.lt_size he
    have hil : it < s.heap.objs.size := by obtain ⟨_, q, _⟩ := hit; exact Heap.lt_size q
    have hea : e ≠ a := by
      rintro rfl
      obtain ⟨o, ho, hcl, _⟩ := pt
      rw [he] at ho
      cases ho
      exact absurd (Value.type.inj hcl) (by decide)
    have hii : i < its.toArray.size := by
      have q := (List.getElem?_eq_some_iff.mp hu).1
      simpa using q
    refine wpAny_pyNext_enum_itemC (Draws.tuple (A := X.A.in1) (show X.A.in1.handled = none from I.ok.hd hc) it a (tup_not_iter pt hit) its.toArray) he ⟨hit, pt⟩ hii hne (by simp [hne, hea]) fun x' h' tk hx' ho hst hT hsz hk => ?_
    have eu : x' = u := by
      have q : its.toArray[i]? = some u := by simpa using hu
      exact Option.some.inj (hx'.symm.trans q)
    subst eu
    refine ⟨_, rfl, wpAny_letOwnedTupleGo_enum (s := { s with heap := h', toks := tk + 1 }) ho fun h'' he' sb => ?_⟩
    have hT2 : h''.get? s.heap.objs.size = some { cls := .type "tuple", data := .seq #[.int i tk, x'] } := (sb.2 _ (Nat.ne_of_gt hel)).trans hT
    have new : ObjOk X.prog X.w (upd H s.heap.objs.size (.tup [.int (i : Nat), x])) h'' s.heap.objs.size (.tup [.int (i : Nat), x]) :=
      ⟨by show 2 ≤ sizeLine; decide, [.int i tk, x'], .cons ⟨_, rfl⟩ (.cons ru .nil), ⟨_, hT2, rfl, _, rfl⟩⟩
    have I1 : Inv X pins σ (upd H s.heap.objs.size (.tup [.int (i : Nat), x])) { s with heap := h'', toks := tk + 1 } :=
      I.turnedNew (ch := [e, it]) (fun b ob hb q => (sb.2 b (fun z => hb (by simp [z]))).trans (hk b ob (fun z => hb (by simp [z])) (fun z => hb (by simp [z])) q)) hf (Nat.le_refl _) new
    refine ⟨.ref s.heap.objs.size, _, I1, rfl, ⟨_, x, rfl, I.hok.fresh (Nat.le_refl _), rfl, fun ys hy => by rw [I.tuple_inj hy hq]; exact hx⟩, ⟨⟨x', ?_⟩, hst.1.at fun o q => (sb.2 it (Ne.symm hne)).trans q, hne⟩, fun b hb => ?_⟩
    · have e1 : ((i + 1 : Nat) : Int) = (i : Int) + 1 := by omega
      rw [e1]
      exact he'
    · have hb' : b < s.heap.objs.size := by
        rcases (show b = e ∨ b = it by simpa using hb) with z | z
        · rw [z]
          exact hel
        · rw [z]
          exact hil
      rw [upd_ne (Nat.ne_of_lt hb')]
      exact (hf b hb).1
  done := by
    intro X hP hw hK hc i pins s σ H E I hf st hg
    subst hP hw hK
    obtain ⟨⟨old, he⟩, hit, hne⟩ := st
    obtain ⟨xs, hq, hx⟩ := hg
    obtain ⟨its, rv, p, hz⟩ := I.tuple hq
    have pt : s.heap.IsTuple a its.toArray := p
    obtain ⟨f0, f1, f2, f3, f4, f5⟩ := hf it (by simp)
    have hl := rv.length
    have hii : i = its.toArray.size := by simp; omega
    subst hii
    exact wpAny_pyNext_enum_endD (Draws.tuple (A := X.A.in1) (show X.A.in1.handled = none from I.ok.hd hc) it a (tup_not_iter pt hit) its.toArray) he ⟨hit, pt⟩ fun h' eb => ⟨rfl, I.turned (t' := s.toks) (fun b o hb q => eb b o hb q) f0 f1 f3 f4 f5⟩
  self := fun A i s Q E st h => let ⟨⟨_, he⟩, _⟩ := st; wpAny_pyIter_enum he h
def iEnumT (K : PySem.W.Frag) (ta : TA) : TI := fun σ H R => ta σ H fun vs H1 => ∃ a xs, vs = [.ref a] ∧ SqT K H1 a xs ∧ R (ItE K a) H1
theorem pi_enumT {X : Cx} {e : Expr} {ta : TA} {p pos tpos : Pos} {elts : List Expr} {kk : Nat} (hg : Gl X "enumerate") (hm : X.mg "enumerate" = none) (ha : PA X [e] ta) (hs : starEach [e] X.env = [(false, eval e X.env)] := by rfl) :
    PI X (.Tuple elts kk tpos) (.Call (.Name "enumerate" p) [e] [] pos) (iEnumT X.K ta) := by
  refine ⟨fun pins s σ H R I h => ?_⟩
  refine Call_ (ld_blt I hg hm boot_enumerate (PyProof.Rows.callWith_type1 (thn (ha.run pos pins s σ H _ I h) fun us s1 ⟨vs, H1, I1, r1, q1⟩ => ?_) hs rfl))
  obtain ⟨a, xs, ex, hq, q⟩ := q1
  subst ex
  cases r1 with
  | cons r rr =>
    cases rr
    cases r
    obtain ⟨its, rv, p', hz⟩ := I1.tuple hq
    refine enum1_begins (begins_tuple a its.toArray) p' fun h' he hit hk => wpAny_pyIter_enum he ?_
    have I2 : Inv X pins σ H1 { s1 with heap := h' } := I1.kept (t' := s1.toks) hk
    refine ⟨s1.heap.objs.size + 1, [s1.heap.objs.size + 1, s1.heap.objs.size], _, _, H1, rfl, I2, turn_enumT a (s1.heap.objs.size + 1) s1.heap.objs.size, ⟨⟨.none, he⟩, ⟨_, hit, rfl, rfl⟩, Nat.succ_ne_self _⟩, fun b hb => ?_, q⟩
    have hle : s1.heap.objs.size ≤ b := by
      rcases (show b = s1.heap.objs.size + 1 ∨ b = s1.heap.objs.size by simpa using hb) with z | z
      · rw [z]
        exact Nat.le_add_right _ _
      · rw [z]
        exact Nat.le_refl _
    exact I1.fpOk hle (I1.hok.fresh hle)
/-- the loop over it: Pv by the turn, the slots, the heap -/
theorem for_enumT {K : PySem.W.Frag} {a : Addr} {xs : List V} {g : TG} {tb : TS} {D : Ends} {σ : L2.St} {H : Hp} (Pv : Nat → L2.St → Hp → Prop) (h0 : Pv 0 σ H) (hl : ∀ i σ H, i ≤ xs.length → Pv i σ H → SqT K H a xs)
    (hs : ∀ i x T σ H, xs[i]? = some x → Pv i σ H → H T = none → g (.ref T) σ (upd H T (.tup [.int (i : Nat), x])) fun σ2 H2 => tb { D with nx := Pv (i + 1), ct := Pv (i + 1), bk := D.nx } σ2 H2) (hd : ∀ σ H, Pv xs.length σ H → D.nx σ H) :
    ∃ W : Nat → Nat → L2.St → Hp → Prop, (∃ m, W 0 m σ H) ∧ ∀ i m σ H, W i m σ H →
      ((ItE K a).stop i H ∧ D.nx σ H) ∨ ((ItE K a).go i H ∧ ∃ N : L2.St → Hp → Prop, (∀ σ' H', N σ' H' → ∃ m', m' < m ∧ W (i + 1) m' σ' H') ∧ ∀ x H', (ItE K a).yld i H x H' → g x σ H' fun σ2 H2 => tb { D with nx := N, ct := N, bk := D.nx } σ2 H2) := by
  refine ⟨fun i m σ H => m = xs.length - i ∧ i ≤ xs.length ∧ Pv i σ H, ⟨xs.length, by simp, Nat.zero_le _, h0⟩, ?_⟩
  rintro i m σ H ⟨rfl, hi, p⟩
  have q := hl i σ H hi p
  by_cases hlt : i < xs.length
  · refine .inr ⟨⟨xs, xs[i], q, by simp [hlt]⟩, Pv (i + 1), fun σ' H' p' => ⟨xs.length - (i + 1), by omega, rfl, hlt, p'⟩, fun x H' y => ?_⟩
    obtain ⟨T, x', rfl, hT, rfl, hx⟩ := y
    exact hs i x' T σ H (hx xs q) p hT
  · have e : i = xs.length := by omega
    subst e
    exact .inl ⟨⟨xs, q, rfl⟩, hd σ H p⟩
end K49
set_option Elab.async false
set_option maxRecDepth 100000
set_option maxHeartbeats 4000000
/-! sorted(xs, key=lambda x: (len(x), x)), xs a list of tuples of ints -/
namespace K49
open PySem PySem.Spec PyProof.Rows L2 PySem.W
abbrev encI (l : List Int) : PyData := .tuple (l.map .int)
abbrev keyI (l : List Int) : PyData := .tuple [.int l.length, .tuple (l.map .int)]
theorem readsAll_ints {h : Heap} : ∀ {l : List Int} {vs : List Value} {as : List Addr}, ReadsAll h vs (l.map .int) as → as = []
  | [], _, _, r => by
    cases r
    rfl
  | x :: l, _, _, r => by
    have r' : ReadsAll h _ (PyData.int x :: l.map .int) _ := r
    cases r' with
    | cons h1 h2 =>
      cases h1
      rw [readsAll_ints h2]
      rfl
theorem reads_ints {h : Heap} {l : List Int} {u : Value} {as : List Addr} (r : Reads h u (encI l) as) : as = [] := by
  cases r with
  | tuple h1 h2 h3 h4 => exact readsAll_ints h4
theorem alike_pairI (l m : List Int) : alike (keyI l) (keyI m) = true := by
  simp [alike, alikeAll, alike_ints]
theorem depth_keyI (l : List Int) : (keyI l).depth ≤ 2 := by
  simp [PyData.depth, PyData.depthAll, depth_ints]
/-- the body of such a lambda -/
abbrev keyBody (x : Str) (p1 p2 p3 p4 p5 : Pos) (k : Nat) : Expr := .Tuple [.Call (.Name "len" p1) [.Name x p2] [] p3, .Name x p4] k p5
structure KeyScope (x : Str) (scope : Scope) : Prop where
  kind : scope.kind = .function
  co : scope.isCoroutine = false
  gen : scope.isGenerator = false
  cell : ∀ y ∈ scope.names, y.2 ≠ .cell
  own : scope.names.lookup x = some .local
  len : scope.names.lookup ("len" : Str) = some .globalImplicit
  nofree : ∀ y ∈ scope.names, y.2 ≠ .free
section
variable {prog : Program} {w : World} {A : Around} {s : Shared}
/-- the lambda called with one tuple of ints -/
theorem key_turn {f c' : Addr} {u : Value} {l : List Int} {qual x : Str} {params : Arguments} {scope : Scope} {pm ctv : Value} {p1 p2 p3 p4 p5 : Pos} {k : Nat} {mg mb : Str → Option Value} (S : KeyScope x scope) (hx : (x == ("__debug__" : Str)) = false) (hdepth : A.depth < recursionLimit)
    (ho : s.heap.get? f = some (kla_obj "<lambda>" qual params (keyBody x p1 p2 p3 p4 p5 k) scope [] pm c' ctv)) (hrec : s.heap.CodeRec (.ref c') qual)
    (hbind : bindArgs (kla_fn "<lambda>" qual params (keyBody x p1 p2 p3 p4 p5 k) scope [] pm (.ref c') ctv) ⟨[u], []⟩ = pure [(x, u)])
    (hg : s.heap.Ns mainGlobals mg) (hm : mg "len" = none) (hb : s.heap.Ns builtinsNs mb) (hv : mb "len" = some (.builtin "len")) (lim : s.heap.NoLimit)
    (hu : Reads s.heap u (encI l) []) (hz : l.length ≤ sizeLine) :
    wpAny (model prog w) A (call (.ref f) [u]) (KeyPure (keyI l) s) (fun _ _ => False) s := by
  have bz : sizeLine = 16777216 := sizeLine_eq
  refine wpAny_call ?_
  refine kla_callFunE hdepth ho rfl S.co S.gen rfl hrec ?_
  rw [hbind]
  refine wpAny_pure (wpAny_newFunctionEnv S.cell (fun y hy => ?_) (fun h₁ hns hsb => ⟨lim.fresh _ hsb, ?_⟩) S.kind)
  · rw [List.mem_singleton.mp hy]
    exact S.own
  have kp : ∀ b o, s.heap.get? b = some o → h₁.get? b = some o := fun b o e => hsb.extBut b o (Nat.ne_of_lt (Heap.lt_size e)) (Heap.get?_push_of_some _ e)
  refine kla_codeExpr (wpAny_Tuple_spliced ?_)
  generalize henv : newEnv scope s.heap.objs.size mainGlobals [] (qual ++ ".<locals>.") (some f) (Value.ref c') none builtinsNs = env at *
  have ek : env.scope = scope := by subst henv; rfl
  have eg : env.globals = mainGlobals := by subst henv; rfl
  have eb : env.builtins = builtinsNs := by subst henv; rfl
  have el : env.locals = s.heap.objs.size := by subst henv; rfl
  have ko : env.kindOf x = some .local := by subst henv; exact S.own
  have kl : env.kindOf ("len" : Str) = some .globalImplicit := by subst henv; exact S.len
  have kf : env.scope.kind = .function := by rw [ek]; exact S.kind
  show wpAny _ _ (spliced ((false, eval (.Call (.Name "len" p1) [.Name x p2] [] p3) env) :: (false, eval (.Name x p4) env) :: [])) _ _ _
  have name : ∀ {A' : Around} {E : Value → Shared → Prop} {Q : Value → Shared → Prop} {p : Pos} {s' : Shared}, s'.heap = h₁ → Q u s' → wpAny (model prog w) A' (eval (.Name x p) env) Q E s' := fun {A' E Q p s'} e q => by
    refine wpAny_Name (wpAny_loadName_local kf ko (by rw [el, e]; exact hns) (v := u) (by simp) q) hx
  refine Calls.spliced_cons (wpAny_Call_Name_kw (Calls.Name_function_global kf kl (Calls.loadGlobal_builtin (mg := mg) (mb := mb) (v := .builtin "len") ?_ hm ?_ hv ?_) (by decide)))
  · rw [eg]
    exact hg.keeps kp
  · rw [eb]
    exact hb.keeps kp
  refine PyProof.Rows.callWith_builtin1 ?_
  show wpAny _ _ (spliced ((false, eval (.Name x p2) env) :: [])) _ _ _
  refine Calls.spliced_cons (name rfl (Calls.spliced_nil ?_))
  cases hu with
  | @tuple a o vs n _ _ h1 h2 h3 h4 =>
    have hlen : vs.size = l.length := by
      have q := SeqAt.ReadsAll.length _ _ _ h4
      simpa using q
    refine PyProof.Rows.len_tuple (items := vs) ⟨o, kp _ _ h1, h2, n, h3⟩ (by omega) ?_
    refine Calls.spliced_cons (name rfl (Calls.spliced_nil ⟨by show 2 ≤ sizeLine; omega, ?_⟩))
    refine ⟨_, _, rfl, fun b ob e => Heap.get?_push_of_some _ (kp _ _ e), ?_⟩
    have hk : ∀ b ob, s.heap.get? b = some ob → (h₁.push { cls := .type "tuple", data := .seq [Value.int vs.size (s.toks + ([(x, Value.ref a)] : List (Str × Value)).length + 1), Value.ref a].toArray }).get? b = some ob := fun b ob e => Heap.get?_push_of_some _ (kp _ _ e)
    have rt : Reads (h₁.push { cls := .type "tuple", data := .seq [Value.int vs.size (s.toks + ([(x, Value.ref a)] : List (Str × Value)).length + 1), Value.ref a].toArray }) (.ref a) (encI l) [] := PyProof.Rows.Reads.keeps hk (.tuple h1 h2 h3 h4)
    refine Reads.tuple (Heap.get?_push_size _ rfl) rfl rfl (as := []) ?_
    rw [hlen] at rt ⊢
    exact ReadsAll.cons (as := []) (bs := []) (Reads.int _ _) (ReadsAll.cons (as := []) (bs := []) rt ReadsAll.nil)
end
/-! ### what stands is kept, but for tables -/
theorem SqL.extN {K : PySem.W.Frag} {H H' : Hp} {a : Addr} {xs : List V} (e : LamX.ExtN H H') (h : SqL K H a xs) : SqL K H' a xs := by
  rcases h with (h | ⟨o, h⟩) | h
  · exact .inl (.inl (e _ _ h fun ps z => by cases z))
  · exact .inl (.inr ⟨o, e _ _ h fun ps z => by cases z⟩)
  · exact .inr h
theorem SqT.extN {K : PySem.W.Frag} {H H' : Hp} {a : Addr} {xs : List V} (e : LamX.ExtN H H') (h : SqT K H a xs) : SqT K H' a xs := by
  rcases h with (h | ⟨o, h⟩) | h
  · exact .inl (.inl (e _ _ h fun ps z => by cases z))
  · exact .inl (.inr ⟨o, e _ _ h fun ps z => by cases z⟩)
  · exact .inr h
mutual
theorem Dp.extN {K : PySem.W.Frag} {H H' : Hp} (e : LamX.ExtN H H') : ∀ (d : PyData) (v : V), Dp K H v d → Dp K H' v d
  | .none, _, h => by cases h; exact .non
  | .bool b, _, h => by cases h; exact .bl b
  | .int i, _, h => by cases h; exact .int i
  | .str x, _, h => by cases h; exact .str x
  | .list ds, _, h => by
    cases h with
    | lst hs ha => exact .lst (SqL.extN e hs) (DpAll.extN e ds _ ha)
  | .tuple ds, _, h => by
    cases h with
    | tup hs ha => exact .tup (SqT.extN e hs) (DpAll.extN e ds _ ha)
  | .dict _, _, h => by cases h
theorem DpAll.extN {K : PySem.W.Frag} {H H' : Hp} (e : LamX.ExtN H H') : ∀ (ds : List PyData) (vs : List V), DpAll K H vs ds → DpAll K H' vs ds
  | [], _, h => by cases h; exact .nil
  | d :: ds, _, h => by
    cases h with
    | cons h1 h2 => exact .cons (Dp.extN e d _ h1) (DpAll.extN e ds _ h2)
end
/-- sorted(xs, key=lambda x: (len(x), x)) -/
def tSortLam (K : PySem.W.Frag) (T : List (Addr × Str)) (ta : TA) : TE := fun σ H Q => ta σ H fun vs H1 => ∃ (a : Addr) (xs : List V) (ls : List (List Int)), vs = [V.ref a] ∧ SqL K H1 a xs ∧ DpAll K H1 xs (ls.map encI) ∧ (∀ l ∈ ls, l.length ≤ sizeLine) ∧ LamX.Tabs T H1 ∧
  ∀ H2 ys p, LamX.ExtN H1 H2 → LamX.Tabs T H2 → H2 p = none → DpAll K H2 ys ((ls.mergeSort (dataLe false keyI)).map encI) → ys.length = ls.length → Q (.ref p) (upd H2 p (.lst ys))
section
variable {X : Cx}
theorem pe_sortedLam {T : List (Addr × Str)} {c P : Addr} {e : Expr} {ta : TA} {x : Str} {params : Arguments} {scope : Scope} {p p1 p2 p3 p4 p5 lpos kpos pos : Pos} {k : Nat} (hg : Gl X "sorted") (hm : X.mg "sorted" = none) (hml : X.mg "len" = none) (ha : PA X [e] ta)
    (TB : LamX.TabB X.base X.mg c P) (hcode : X.env.code = .ref c) (hmT : (P, X.env.qual ++ "<lambda>") ∈ T) (hu : ∀ p ∈ T, p.1 = P → p.2 = X.env.qual ++ "<lambda>") (S : KeyScope x scope) (hdef : defaultsOf params X.env = ([], []))
    (hbind : ∀ (pm cv ctv u : Value), bindArgs (kla_fn "<lambda>" (X.env.qual ++ "<lambda>") params (keyBody x p1 p2 p3 p4 p5 k) scope [] pm cv ctv) ⟨[u], []⟩ = pure [(x, u)])
    (hclo : cloFrom X.env.cells scope.names [] = []) (hr : Room 3 X.A) (hx : (x == ("__debug__" : Str)) = false := by decide)
    (he : backTo pos (starEach [e] X.env) = (false, eval e X.env) :: backTo pos (starEach [] X.env) := by rfl) (hpl : (backTo pos (starEach [e] X.env)).any (·.1) = false := by rfl)
    (hall : (backToKw pos (keywordEach [⟨some "key", .Lambda params (keyBody x p1 p2 p3 p4 p5 k) scope lpos, kpos⟩] X.env)).all (·.1.isSome) = true := by rfl)
    (hnone : (backToKw pos (keywordEach [⟨some "key", .Lambda params (keyBody x p1 p2 p3 p4 p5 k) scope lpos, kpos⟩] X.env)).any (·.1.isNone) = false := by rfl)
    (hks : (backToKw pos (keywordEach [⟨some "key", .Lambda params (keyBody x p1 p2 p3 p4 p5 k) scope lpos, kpos⟩] X.env)).filterMap (·.1) = [Str.ofString "key"] := by rfl) :
    PE X (.Call (.Name "sorted" p) [e] [⟨some "key", .Lambda params (keyBody x p1 p2 p3 p4 p5 k) scope lpos, kpos⟩] pos) (tSortLam X.K T ta) := by
  refine ⟨fun pins s σ H Q I h => ?_⟩
  refine wpAny_Call_Name_kw (ld_blt I hg hm boot_sorted ?_)
  refine PyProof.Rows.callWith_kw (thn (ha.run pos pins s σ H _ I h) fun us s1 ⟨vs, H1, I1, r1, q1⟩ => ?_) he hpl hall hnone
  obtain ⟨a, xs, ls, rfl, hs, hd, hz, hT, q⟩ := q1
  show wpAny _ _ (evalAll ((do let v ← eval (.Lambda params (keyBody x p1 p2 p3 p4 p5 k) scope lpos) X.env; standAt pos; pure v) :: [])) _ _ s1
  refine wpAny_evalAll_cons (wpAny_bind (LamX.lam_make2 I1 TB hcode hmT hu hT hdef (fun y hy z => absurd z (S.nofree y hy)) fun f c' pm ctv H2 s2 I2 eN T2 hf hfn hfr hco => ?_))
  rw [hclo] at hf
  refine wpAny_bind (wpAny_standAt (wpAny_pure (wpAny_evalAll_nil ?_)))
  rw [hks]
  obtain ⟨ua, rfl, ru⟩ := vals1 r1
  obtain rfl : ua = Value.ref a := ru
  obtain ⟨its, rv, hl, hlz⟩ := I2.list (SqL.extN eN hs)
  have ee : EachIs (StF X.K H2 encI) its ls := each_in rv (DpAll.extN eN _ _ hd)
  have hL : ls.length ≤ sizeLine := by
    rw [← ee.length, ← rv.length]
    exact hlz
  obtain ⟨⟨oc, vs', t, e1, e2, e3⟩, _, _⟩ := I2.hok c' _ hco
  obtain ⟨mb, hb1, hb2⟩ := I2.mod.blt
  have hr2 : Room 1 X.A.in1.in1 := hr.in1.in1
  refine sorted_key_data (b := false) keyI hl.isList ee (AllAlike.of alike_pairI) (Sortable.tuples fun _ => ⟨_, _, rfl⟩) hL (fun l _ => ?_) (ksk_s1 _ _) (fun _ => ksk_l1 _ _) (fun y => ksk_t1 f y)
    (fun v l hv hlm h tk kp => ?_) fun out c2 h' tk kp hn hD ho eo => ?_
  · have q1 := hr.units
    have q2 := depth_keyI l
    omega
  · obtain ⟨y, ry, dy⟩ := hv
    obtain ⟨as, rd⟩ := Dp.reads I2 _ _ _ dy ry
    have ea := reads_ints rd
    subst ea
    exact key_turn (s := { s2 with heap := h, toks := tk }) (mg := X.mg) (mb := mb) S hx hr2.depth (kp _ _ hf) ⟨c', oc, vs', t, rfl, kp _ _ e1, e2, e3⟩ (hbind pm (.ref c') ctv v) ((I2.mod.glob.keeps I2.bk).keeps kp) hml ((hb1.keeps I2.bk).keeps kp)
      ((hb2 "len" (by decide)).trans PySem.boot_len) (I2.nolimit.keeps kp) (PyProof.Rows.Reads.keeps kp rd) (hz l hlm)
  · obtain ⟨ys, r2, d2⟩ := each_out eo
    have hlen : ys.length = ls.length := r2.length.trans ho
    exact ⟨.ref _, upd H2 (s2.heap.objs.size + 1) (.lst ys), I2.laid (t' := tk) kp (Nat.le_succ _) ⟨by rw [hlen]; exact hL, out, c2, r2, hD⟩, rfl, q H2 ys _ eN T2 (I2.hok.fresh (Nat.le_succ _)) d2 hlen⟩
end
end K49
set_option Elab.async false
set_option autoImplicit false
set_option maxRecDepth 100000
set_option maxHeartbeats 4000000
/-! the mathematics: what the program's defs compute, as plain functions -/
namespace K49
open PySem PySem.W
/-! ### sorts -/
section
variable {α : Type}
def ins (lt : α → α → Bool) (x : α) : List α → List α
  | [] => [x]
  | y :: l => if lt x y then x :: y :: l else y :: ins lt x l
def isort (lt : α → α → Bool) : List α → List α
  | [] => []
  | x :: l => ins lt x (isort lt l)
theorem ins_perm (lt : α → α → Bool) (x : α) : ∀ l, (ins lt x l).Perm (x :: l)
  | [] => .refl _
  | y :: l => by
    unfold ins
    split
    · exact .refl _
    · exact ((ins_perm lt x l).cons y).trans (.swap x y l)
theorem isort_perm (lt : α → α → Bool) : ∀ l, (isort lt l).Perm l
  | [] => .refl _
  | x :: l => (ins_perm lt x _).trans ((isort_perm lt l).cons x)
/-- every item before all that follow -/
def pwB (lt : α → α → Bool) : List α → Bool
  | [] => true
  | x :: l => l.all (lt x) && pwB lt l
theorem pwB_iff {lt : α → α → Bool} : ∀ {l : List α}, pwB lt l = true → l.Pairwise fun a b => lt a b = true
  | [], _ => .nil
  | x :: l, h => by
    unfold pwB at h
    rw [Bool.and_eq_true, List.all_eq_true] at h
    exact .cons h.1 (pwB_iff h.2)
theorem pair_or {R : α → α → Prop} : ∀ {l : List α}, l.Pairwise R → ∀ a ∈ l, ∀ b ∈ l, a = b ∨ R a b ∨ R b a
  | [], _, _, h, _, _ => by cases h
  | x :: l, h, a, ha, b, hb => by
    obtain ⟨h1, h2⟩ := List.pairwise_cons.mp h
    rcases List.mem_cons.mp ha with ea | ha
    · rcases List.mem_cons.mp hb with eb | hb
      · exact .inl (ea.trans eb.symm)
      · rw [ea]
        exact .inr (.inl (h1 b hb))
    · rcases List.mem_cons.mp hb with eb | hb
      · rw [eb]
        exact .inr (.inr (h1 a ha))
      · exact pair_or h2 a ha b hb
end
section
variable {β : Type} {enc : β → PyData}
theorem dataLt_asym {x y : PyData} (h : dataLt x y = true) : dataLt y x = false := by
  cases q : dataLt y x with
  | false => rfl
  | true =>
    have z := PyProof.Rows.lex_trans _ _ _ h q
    rw [PyProof.Rows.lex_irrefl] at z
    cases z
/-- a list that rises, and has the same items, is what the sort gives -/
theorem ms_eq {bs L : List β} (hp : L.Perm bs) (hs : L.Pairwise fun a b => dataLt (enc a) (enc b) = true) : bs.mergeSort (dataLe false enc) = L := by
  have hm : (bs.mergeSort (dataLe false enc)).Perm bs := List.mergeSort_perm _ _
  have h1 : (bs.mergeSort (dataLe false enc)).Pairwise fun a b => dataLe false enc a b = true := sort_pairwise (sortLe_total _ false _) bs
  have le_of : ∀ a b, dataLt (enc a) (enc b) = true → dataLe false enc a b = true := fun a b h => by
    show (!dataLt (enc b) (enc a)) = true
    rw [dataLt_asym h]
    rfl
  have h2 : L.Pairwise fun a b => dataLe false enc a b = true := hs.imp fun {a b} h => le_of a b h
  refine List.Perm.eq_of_pairwise (fun a b ha hb l1 l2 => ?_) h1 h2 (hm.trans hp.symm)
  have ha' : a ∈ L := hp.mem_iff.mpr (hm.mem_iff.mp ha)
  have n1 : dataLt (enc b) (enc a) = false := by simpa using (show (!dataLt (enc b) (enc a)) = true from l1)
  have n2 : dataLt (enc a) (enc b) = false := by simpa using (show (!dataLt (enc a) (enc b)) = true from l2)
  rcases pair_or hs a ha' b hb with e | e | e
  · exact e
  · rw [n2] at e
    cases e
  · rw [n1] at e
    cases e
theorem ms_isort {lt : β → β → Bool} {bs : List β} (hl : ∀ a b, lt a b = true → dataLt (enc a) (enc b) = true) (h : pwB lt (isort lt bs) = true) : bs.mergeSort (dataLe false enc) = isort lt bs :=
  ms_eq (isort_perm lt bs) ((pwB_iff h).imp fun {a b} q => hl a b q)
end
/-! ### the orders -/
abbrev Arr := Int × Int
abbrev encInt (l : List Int) : PyData := .tuple (l.map .int)
abbrev encP (a : Arr) : PyData := .tuple [.int a.1, .int a.2]
abbrev encA (as : List Arr) : PyData := .tuple (as.map encP)
def ltP (a b : Arr) : Bool := if a.1 = b.1 then decide (a.2 < b.2) else decide (a.1 < b.1)
def ltI : List Int → List Int → Bool
  | [], [] => false
  | [], _ :: _ => true
  | _ :: _, [] => false
  | x :: xs, y :: ys => if x = y then ltI xs ys else decide (x < y)
def ltA : List Arr → List Arr → Bool
  | [], [] => false
  | [], _ :: _ => true
  | _ :: _, [] => false
  | x :: xs, y :: ys => if x = y then ltA xs ys else ltP x y
/-- by the number of items, then as lt says -/
def ltN {α : Type} (lt : List α → List α → Bool) (x y : List α) : Bool := if x.length = y.length then lt x y else decide (x.length < y.length)
theorem eqv_int (x y : Int) : PyData.eqv (.int x) (.int y) = decide (x = y) := by
  simp only [PyData.eqv]
  by_cases h : x = y <;> simp [h]
theorem eqv_P (a b : Arr) : PyData.eqv (encP a) (encP b) = decide (a = b) := by
  simp only [encP, PyData.eqv, PyData.eqvAll, Bool.and_true]
  by_cases h1 : a.1 = b.1
  · by_cases h2 : a.2 = b.2
    · have e : a = b := Prod.ext h1 h2
      simp [e]
    · have e : a ≠ b := fun z => h2 (by rw [z])
      simp [h2, e]
  · have e : a ≠ b := fun z => h1 (by rw [z])
    simp [h1, e]
theorem lt_encP (a b : Arr) : dataLt (encP a) (encP b) = ltP a b := by
  unfold ltP
  rw [dataLt_pair (by simp [alike]) (by simp [alike]), eqv_int, eqv_int, dataLt_int, dataLt_int]
  by_cases h1 : a.1 = b.1
  · by_cases h2 : a.2 = b.2
    · simp [h1, h2]
    · simp [h1, h2]
  · simp [h1]
theorem lex_ints : ∀ xs ys : List Int, PyProof.Rows.lexLt PyProof.Rows.itemOrd (keyToksAll (xs.map .int)) (keyToksAll (ys.map .int)) = ltI xs ys
  | [], [] => by
    show PyProof.Rows.lexLt PyProof.Rows.itemOrd [.inl 0] [.inl 0] = false
    exact PyProof.Rows.lex_irrefl _
  | [], y :: ys => by
    show PyProof.Rows.lexLt PyProof.Rows.itemOrd (keyToksAll []) (keyToksAll (.int y :: ys.map .int)) = true
    rw [toks_all_cons]
    simp only [keyToksAll]
    rw [lex_atom (by simp)]
    decide
  | x :: xs, [] => by
    show PyProof.Rows.lexLt PyProof.Rows.itemOrd (keyToksAll (.int x :: xs.map .int)) (keyToksAll []) = false
    rw [toks_all_cons]
    simp only [keyToksAll]
    rw [lex_atom (by simp)]
    decide
  | x :: xs, y :: ys => by
    show PyProof.Rows.lexLt PyProof.Rows.itemOrd (keyToksAll (.int x :: xs.map .int)) (keyToksAll (.int y :: ys.map .int)) = _
    rw [dataLt_cons (by simp [alike]), eqv_int, dataLt_int, lex_ints xs ys]
    simp only [ltI, decide_eq_true_eq]
theorem lt_encInt (xs ys : List Int) : dataLt (encInt xs) (encInt ys) = ltI xs ys := by
  rw [dataLt_tuple]
  exact lex_ints xs ys
theorem alike_P (a b : Arr) : alike (encP a) (encP b) = true := by simp [alike, alikeAll]
theorem alikeAll_P : ∀ xs ys : List Arr, alikeAll (xs.map encP) (ys.map encP) = true
  | [], _ => by simp [alikeAll]
  | _ :: _, [] => by simp [alikeAll]
  | x :: xs, y :: ys => by
    show alikeAll (encP x :: xs.map encP) (encP y :: ys.map encP) = true
    rw [alikeAll, alikeAll_P xs ys, alike_P]
    rfl
theorem lex_arrs : ∀ xs ys : List Arr, PyProof.Rows.lexLt PyProof.Rows.itemOrd (keyToksAll (xs.map encP)) (keyToksAll (ys.map encP)) = ltA xs ys
  | [], [] => by
    show PyProof.Rows.lexLt PyProof.Rows.itemOrd [.inl 0] [.inl 0] = false
    exact PyProof.Rows.lex_irrefl _
  | [], y :: ys => by
    show PyProof.Rows.lexLt PyProof.Rows.itemOrd (keyToksAll []) (keyToksAll (encP y :: ys.map encP)) = true
    rw [toks_all_cons]
    simp only [keyToksAll]
    rw [lex_atom (by simp)]
    decide
  | x :: xs, [] => by
    show PyProof.Rows.lexLt PyProof.Rows.itemOrd (keyToksAll (encP x :: xs.map encP)) (keyToksAll []) = false
    rw [toks_all_cons]
    simp only [keyToksAll]
    rw [lex_atom (by simp)]
    decide
  | x :: xs, y :: ys => by
    show PyProof.Rows.lexLt PyProof.Rows.itemOrd (keyToksAll (encP x :: xs.map encP)) (keyToksAll (encP y :: ys.map encP)) = _
    rw [dataLt_cons (alike_P x y), eqv_P, lt_encP, lex_arrs xs ys]
    simp only [ltA, decide_eq_true_eq]
theorem lt_encA (xs ys : List Arr) : dataLt (encA xs) (encA ys) = ltA xs ys := by
  rw [dataLt_tuple]
  exact lex_arrs xs ys
theorem eqv_lex {x y : PyData} (h : alike x y = true) (e : PyData.eqv x y = true) : dataLt x y = false := by
  unfold dataLt
  rw [(toks_eqv x y h).1 e]
  exact PyProof.Rows.lex_irrefl _
/-- a pair (how many, which): by the first, then by the second -/
theorem lt_pairN {x y : PyData} {n m : Nat} (h : alike x y = true) : dataLt (.tuple [.int n, x]) (.tuple [.int m, y]) = if n = m then dataLt x y else decide (n < m) := by
  rw [dataLt_pair (by simp [alike]) h, eqv_int, dataLt_int]
  by_cases e : n = m
  · subst e
    by_cases q : PyData.eqv x y = true
    · simp [q, eqv_lex h q]
    · simp [q]
  · have e' : ¬ (n : Int) = m := by omega
    simp [e, e']
theorem lt_keyI (xs ys : List Int) : dataLt (.tuple [.int xs.length, encInt xs]) (.tuple [.int ys.length, encInt ys]) = ltN ltI xs ys := by
  rw [lt_pairN (by simp [alike, alike_ints]), lt_encInt]
  rfl
theorem lt_keyA (xs ys : List Arr) : dataLt (.tuple [.int xs.length, encA xs]) (.tuple [.int ys.length, encA ys]) = ltN ltA xs ys := by
  rw [lt_pairN (by simp [alike, alikeAll_P]), lt_encA]
  rfl
end K49
set_option Elab.async false
set_option autoImplicit false
set_option maxRecDepth 100000
set_option maxHeartbeats 4000000
/-! the mathematics: the webs, both ways -/
namespace K49
open PySem PySem.W
/-! ### mirrors -/
abbrev encNI (l : List Int) : PyData := .tuple [.int l.length, encInt l]
abbrev encNA (l : List Arr) : PyData := .tuple [.int l.length, encA l]
def rg (n : Nat) : List Int := (List.range n).map fun (i : Nat) => (i : Int)
def lotsOf {α : Type} (l : List α) : List (List α) := l.foldl (fun acc x => acc ++ acc.map fun y => y ++ [x]) [[]]
def allLots (k : Nat) : List (List Int) := (lotsOf (rg k)).mergeSort (dataLe false encNI)
def sortP (as : List Arr) : List Arr := as.mergeSort (dataLe false encP)
/-- is_arrow -/
def isArr (n : Nat) (a : Arr) : Bool :=
  decide (0 ≤ a.1 ∧ a.1 ≤ 2 * (n : Int) - 1) && decide (0 ≤ a.2 ∧ a.2 ≤ 2 * (n : Int) - 1) && !decide (a.1 = a.2) && !(decide ((n : Int) ≤ a.1) && decide (a.2 < (n : Int)))
def arrowsOf (n : Nat) : List Arr := (rg (2 * n)).flatMap fun x => (rg (2 * n)).filterMap fun y => if isArr n (x, y) = true then some (x, y) else none
/-- order_by -/
def good1 (n : Nat) (found : List Int) : List Int := (rg (2 * n)).filterMap fun t => if t ∈ found then none else some t
def sees (as : List Arr) (found : List Int) (t : Int) : Bool := (as.filterMap fun a => if a.2 = t then some (decide (a.1 ∈ found)) else none).all id
def good2 (n : Nat) (as : List Arr) (found : List Int) : List Int := (good1 n found).filterMap fun t => if sees as found t = true then some t else none
def orderLoop (n : Nat) (as : List Arr) : Nat → List Int → List Int
  | 0, found => found
  | k + 1, found => if (good2 n as found).length = 0 then found else orderLoop n as k (found ++ (good2 n as found).take 1)
def orderBy (n : Nat) (as : List Arr) : List Int := orderLoop n as (2 * n + 1) []
/-- Web(..) takes them -/
def adj : List Arr → Bool
  | a :: b :: l => ltP a b && adj (b :: l)
  | _ => true
def webOk (n : Nat) (as : List Arr) : Bool := as.all (isArr n) && adj as && decide (2 * n ≤ (orderBy n as).length)
def pick (as : List Arr) (lot : List Int) : List Arr := lot.map fun i => as.getD i.toNat (0, 0)
def websOf (n : Nat) : List (List Arr) := (allLots (arrowsOf n).length).filterMap fun lot =>
  if (orderBy n (pick (arrowsOf n) lot)).length = 2 * n then some (sortP (pick (arrowsOf n) lot)) else none
/-- the law's own -/
def lawRow (n : Nat) (x : Int) : List Arr := (rg (2 * n)).filterMap fun y => if x ≠ y ∧ (x < (n : Int) ∨ (n : Int) ≤ y) then some (x, y) else none
def lawArrows (n : Nat) : List Arr := (rg (2 * n)).foldl (fun acc x => acc ++ lawRow n x) []
def lawLots (ts : List Arr) : List (List Arr) := (lotsOf ts).mergeSort (dataLe false encA)
def parentsOf (as : List Arr) (t : Int) : List Int := as.filterMap fun a => if a.2 = t then some a.1 else none
def ringStep (as : List Arr) (left : List Int) : List Int := left.filterMap fun t => if ((parentsOf as t).map fun o => decide (o ∈ left)).any id = true then some t else none
def ringLoop (as : List Arr) : Nat → List Int → List Int
  | 0, left => left
  | k + 1, left => ringLoop as k (ringStep as left)
def hasRing (n : Nat) (as : List Arr) : Bool := decide (0 < (ringLoop as (2 * n) (rg (2 * n))).length)
def every (n : Nat) : List (List Arr) := ((lawLots (lawArrows n)).mergeSort (dataLe false encNA)).filterMap fun l => if hasRing n l = true then none else some l
/-! ### sorts that the kernel can run -/
def chB {α : Type} (lt : α → α → Bool) : List α → Bool
  | x :: y :: l => lt x y && chB lt (y :: l)
  | _ => true
theorem chB_pw {β : Type} {enc : β → PyData} {lt : β → β → Bool} (hl : ∀ a b, lt a b = true → dataLt (enc a) (enc b) = true) : ∀ {l : List β}, chB lt l = true → l.Pairwise fun a b => dataLt (enc a) (enc b) = true
  | [], _ => .nil
  | [x], _ => List.pairwise_singleton _ _
  | x :: y :: l, h => by
    unfold chB at h
    rw [Bool.and_eq_true] at h
    have t := chB_pw hl h.2
    refine .cons (fun z hz => ?_) t
    have hxy := hl _ _ h.1
    rcases List.mem_cons.mp hz with e | hz
    · rw [e]
      exact hxy
    · exact PyProof.Rows.lex_trans _ _ _ hxy ((List.pairwise_cons.mp t).1 z hz)
theorem ms_ch {β : Type} {enc : β → PyData} {lt : β → β → Bool} {bs : List β} (hl : ∀ a b, lt a b = true → dataLt (enc a) (enc b) = true) (h : chB lt (isort lt bs) = true) : bs.mergeSort (dataLe false enc) = isort lt bs :=
  ms_eq (isort_perm lt bs) (chB_pw hl h)
theorem sortP_ch {as : List Arr} (h : chB ltP (isort ltP as) = true) : sortP as = isort ltP as := ms_ch (fun a b q => by rw [lt_encP]; exact q) h
def lotsC (k : Nat) : List (List Int) := isort (ltN ltI) (lotsOf (rg k))
def websC (n : Nat) : List (List Arr) := (lotsC (arrowsOf n).length).filterMap fun lot =>
  if (orderBy n (pick (arrowsOf n) lot)).length = 2 * n then some (isort ltP (pick (arrowsOf n) lot)) else none
def everyC (n : Nat) : List (List Arr) := (isort (ltN ltA) (isort ltA (lotsOf (lawArrows n)))).filterMap fun l => if hasRing n l = true then none else some l
theorem filterMap_eq {α γ : Type} {f g : α → Option γ} : ∀ {l : List α}, (∀ x ∈ l, f x = g x) → l.filterMap f = l.filterMap g
  | [], _ => rfl
  | x :: l, h => by
    rw [List.filterMap_cons, List.filterMap_cons, h x List.mem_cons_self, filterMap_eq fun y hy => h y (List.mem_cons_of_mem _ hy)]
theorem websOf_eq {n : Nat} (h1 : chB (ltN ltI) (lotsC (arrowsOf n).length) = true) (h2 : (lotsC (arrowsOf n).length).all (fun lot => chB ltP (isort ltP (pick (arrowsOf n) lot))) = true) : websOf n = websC n := by
  unfold websOf websC
  have e : allLots (arrowsOf n).length = lotsC (arrowsOf n).length := ms_ch (fun a b q => by rw [lt_keyI]; exact q) h1
  rw [e]
  refine filterMap_eq fun lot hm => ?_
  rw [sortP_ch (List.all_eq_true.mp h2 lot hm)]
theorem every_eq {n : Nat} (h1 : chB ltA (isort ltA (lotsOf (lawArrows n))) = true) (h2 : chB (ltN ltA) (isort (ltN ltA) (isort ltA (lotsOf (lawArrows n)))) = true) : every n = everyC n := by
  unfold every everyC
  have e : lawLots (lawArrows n) = isort ltA (lotsOf (lawArrows n)) := ms_ch (fun a b q => by rw [lt_encA]; exact q) h1
  rw [e, ms_ch (lt := ltN ltA) (fun a b q => by rw [lt_keyA]; exact q) h2]
/-! ### the two numbers of columns -/
theorem w1 : websOf 1 = websC 1 := websOf_eq (by decide +kernel) (by decide +kernel)
theorem v1 : every 1 = everyC 1 := every_eq (by decide +kernel) (by decide +kernel)
theorem c1 : everyC 1 = websC 1 := by decide +kernel
theorem w2 : websOf 2 = websC 2 := websOf_eq (by decide +kernel) (by decide +kernel)
theorem v2 : every 2 = everyC 2 := every_eq (by decide +kernel) (by decide +kernel)
theorem c2 : everyC 2 = websC 2 := by decide +kernel
end K49
set_option Elab.async false
set_option autoImplicit false
set_option maxRecDepth 100000
set_option maxHeartbeats 4000000
/-! the mathematics: the drawn webs -/
namespace K49
open PySem PySem.W
def W2 : List (List Arr) := [[], [(0, 1)], [(0, 2)], [(0, 3)], [(1, 0)], [(1, 2)], [(1, 3)], [(2, 3)], [(3, 2)], [(0, 1), (0, 2)], [(0, 1), (0, 3)], [(0, 1), (1, 2)], [(0, 1), (1, 3)], [(0, 1), (2, 3)], [(0, 1), (3, 2)], [(0, 2), (0, 3)], [(0, 2), (1, 0)], [(0, 2), (1, 2)], [(0, 2), (1, 3)], [(0, 2), (2, 3)], [(0, 2), (3, 2)], [(0, 3), (1, 0)], [(0, 3), (1, 2)], [(0, 3), (1, 3)], [(0, 3), (2, 3)], [(0, 3), (3, 2)], [(1, 0), (1, 2)], [(1, 0), (1, 3)], [(1, 0), (2, 3)], [(1, 0), (3, 2)], [(1, 2), (1, 3)], [(1, 2), (2, 3)], [(1, 2), (3, 2)], [(1, 3), (2, 3)], [(1, 3), (3, 2)], [(0, 1), (0, 2), (0, 3)], [(0, 1), (0, 2), (1, 2)], [(0, 1), (0, 2), (1, 3)], [(0, 1), (0, 2), (2, 3)], [(0, 1), (0, 2), (3, 2)], [(0, 1), (0, 3), (1, 2)], [(0, 1), (0, 3), (1, 3)], [(0, 1), (0, 3), (2, 3)], [(0, 1), (0, 3), (3, 2)], [(0, 1), (1, 2), (1, 3)], [(0, 1), (1, 2), (2, 3)], [(0, 1), (1, 2), (3, 2)], [(0, 1), (1, 3), (2, 3)], [(0, 1), (1, 3), (3, 2)], [(0, 2), (0, 3), (1, 0)], [(0, 2), (0, 3), (1, 2)], [(0, 2), (0, 3), (1, 3)], [(0, 2), (0, 3), (2, 3)], [(0, 2), (0, 3), (3, 2)], [(0, 2), (1, 0), (1, 2)], [(0, 2), (1, 0), (1, 3)], [(0, 2), (1, 0), (2, 3)], [(0, 2), (1, 0), (3, 2)], [(0, 2), (1, 2), (1, 3)], [(0, 2), (1, 2), (2, 3)], [(0, 2), (1, 2), (3, 2)], [(0, 2), (1, 3), (2, 3)], [(0, 2), (1, 3), (3, 2)], [(0, 3), (1, 0), (1, 2)], [(0, 3), (1, 0), (1, 3)], [(0, 3), (1, 0), (2, 3)], [(0, 3), (1, 0), (3, 2)], [(0, 3), (1, 2), (1, 3)], [(0, 3), (1, 2), (2, 3)], [(0, 3), (1, 2), (3, 2)], [(0, 3), (1, 3), (2, 3)], [(0, 3), (1, 3), (3, 2)], [(1, 0), (1, 2), (1, 3)], [(1, 0), (1, 2), (2, 3)], [(1, 0), (1, 2), (3, 2)], [(1, 0), (1, 3), (2, 3)], [(1, 0), (1, 3), (3, 2)], [(1, 2), (1, 3), (2, 3)], [(1, 2), (1, 3), (3, 2)], [(0, 1), (0, 2), (0, 3), (1, 2)], [(0, 1), (0, 2), (0, 3), (1, 3)], [(0, 1), (0, 2), (0, 3), (2, 3)], [(0, 1), (0, 2), (0, 3), (3, 2)], [(0, 1), (0, 2), (1, 2), (1, 3)], [(0, 1), (0, 2), (1, 2), (2, 3)], [(0, 1), (0, 2), (1, 2), (3, 2)], [(0, 1), (0, 2), (1, 3), (2, 3)], [(0, 1), (0, 2), (1, 3), (3, 2)], [(0, 1), (0, 3), (1, 2), (1, 3)], [(0, 1), (0, 3), (1, 2), (2, 3)], [(0, 1), (0, 3), (1, 2), (3, 2)], [(0, 1), (0, 3), (1, 3), (2, 3)], [(0, 1), (0, 3), (1, 3), (3, 2)], [(0, 1), (1, 2), (1, 3), (2, 3)], [(0, 1), (1, 2), (1, 3), (3, 2)], [(0, 2), (0, 3), (1, 0), (1, 2)], [(0, 2), (0, 3), (1, 0), (1, 3)], [(0, 2), (0, 3), (1, 0), (2, 3)], [(0, 2), (0, 3), (1, 0), (3, 2)], [(0, 2), (0, 3), (1, 2), (1, 3)], [(0, 2), (0, 3), (1, 2), (2, 3)], [(0, 2), (0, 3), (1, 2), (3, 2)], [(0, 2), (0, 3), (1, 3), (2, 3)], [(0, 2), (0, 3), (1, 3), (3, 2)], [(0, 2), (1, 0), (1, 2), (1, 3)], [(0, 2), (1, 0), (1, 2), (2, 3)], [(0, 2), (1, 0), (1, 2), (3, 2)], [(0, 2), (1, 0), (1, 3), (2, 3)], [(0, 2), (1, 0), (1, 3), (3, 2)], [(0, 2), (1, 2), (1, 3), (2, 3)], [(0, 2), (1, 2), (1, 3), (3, 2)], [(0, 3), (1, 0), (1, 2), (1, 3)], [(0, 3), (1, 0), (1, 2), (2, 3)], [(0, 3), (1, 0), (1, 2), (3, 2)], [(0, 3), (1, 0), (1, 3), (2, 3)], [(0, 3), (1, 0), (1, 3), (3, 2)], [(0, 3), (1, 2), (1, 3), (2, 3)], [(0, 3), (1, 2), (1, 3), (3, 2)], [(1, 0), (1, 2), (1, 3), (2, 3)], [(1, 0), (1, 2), (1, 3), (3, 2)], [(0, 1), (0, 2), (0, 3), (1, 2), (1, 3)], [(0, 1), (0, 2), (0, 3), (1, 2), (2, 3)], [(0, 1), (0, 2), (0, 3), (1, 2), (3, 2)], [(0, 1), (0, 2), (0, 3), (1, 3), (2, 3)], [(0, 1), (0, 2), (0, 3), (1, 3), (3, 2)], [(0, 1), (0, 2), (1, 2), (1, 3), (2, 3)], [(0, 1), (0, 2), (1, 2), (1, 3), (3, 2)], [(0, 1), (0, 3), (1, 2), (1, 3), (2, 3)], [(0, 1), (0, 3), (1, 2), (1, 3), (3, 2)], [(0, 2), (0, 3), (1, 0), (1, 2), (1, 3)], [(0, 2), (0, 3), (1, 0), (1, 2), (2, 3)], [(0, 2), (0, 3), (1, 0), (1, 2), (3, 2)], [(0, 2), (0, 3), (1, 0), (1, 3), (2, 3)], [(0, 2), (0, 3), (1, 0), (1, 3), (3, 2)], [(0, 2), (0, 3), (1, 2), (1, 3), (2, 3)], [(0, 2), (0, 3), (1, 2), (1, 3), (3, 2)], [(0, 2), (1, 0), (1, 2), (1, 3), (2, 3)], [(0, 2), (1, 0), (1, 2), (1, 3), (3, 2)], [(0, 3), (1, 0), (1, 2), (1, 3), (2, 3)], [(0, 3), (1, 0), (1, 2), (1, 3), (3, 2)], [(0, 1), (0, 2), (0, 3), (1, 2), (1, 3), (2, 3)], [(0, 1), (0, 2), (0, 3), (1, 2), (1, 3), (3, 2)], [(0, 2), (0, 3), (1, 0), (1, 2), (1, 3), (2, 3)], [(0, 2), (0, 3), (1, 0), (1, 2), (1, 3), (3, 2)]]
def W1 : List (List Arr) := [[], [(0, 1)]]
theorem websC1 : websC 1 = W1 := by decide +kernel
theorem websC2 : websC 2 = W2 := by decide +kernel
def WL (n : Nat) : List (List Arr) := if n = 1 then W1 else W2
theorem webs_is {n : Nat} (h : n = 1 ∨ n = 2) : websOf n = WL n := by
  rcases h with rfl | rfl
  · exact w1.trans websC1
  · exact w2.trans websC2
theorem every_is {n : Nat} (h : n = 1 ∨ n = 2) : every n = WL n := by
  rcases h with rfl | rfl
  · exact (v1.trans c1).trans websC1
  · exact (v2.trans c2).trans websC2
/-- the pairs that a drawn web's arrows are drawn from -/
def pairsOf : List Int → List Arr
  | [] => []
  | x :: l => l.map (fun y => (x, y)) ++ pairsOf l
def okD (n : Nat) (sub : List Arr) : Bool := chB ltP (isort ltP sub) && webOk n (isort ltP sub) && decide ((WL n).count (isort ltP sub) = 1)
theorem d1 : ((lotsOf (pairsOf [0, 1])).all (okD 1)) = true := by decide +kernel
theorem d2 : ([[0, 1, 2, 3], [0, 1, 3, 2], [1, 0, 2, 3], [1, 0, 3, 2]].all fun th => (lotsOf (pairsOf th)).all (okD 2)) = true := by decide +kernel
theorem webs_len {n : Nat} (h : n = 1 ∨ n = 2) : 1 ≤ (WL n).length ∧ (WL n).length ≤ 144 := by
  rcases h with rfl | rfl <;> decide +kernel
theorem webs_ok {n : Nat} (h : n = 1 ∨ n = 2) : (WL n).all (webOk n) = true := by
  rcases h with rfl | rfl <;> decide +kernel
theorem arrows_len {n : Nat} (h : n = 1 ∨ n = 2) : (arrowsOf n).length ≤ 8 := by
  rcases h with rfl | rfl <;> decide +kernel
/-- the two orders of two -/
theorem perm_two {a b : Int} {l : List Int} (h : l.Perm [a, b]) : l = [a, b] ∨ l = [b, a] := by
  have hl := h.length_eq
  match l, hl with
  | [x, y], _ =>
    have hx : x ∈ [a, b] := h.mem_iff.mp (by simp)
    rcases List.mem_cons.mp hx with e | hx
    · subst e
      have q := (List.perm_cons _).mp h
      have e2 := List.singleton_perm_singleton.mp q
      exact .inl (by rw [e2])
    · have e : x = b := by simpa using hx
      subst e
      have q : [x, y].Perm [x, a] := h.trans (.swap x a [])
      have e2 := List.singleton_perm_singleton.mp ((List.perm_cons _).mp q)
      exact .inr (by rw [e2])
/-- what a drawn web's arrows are -/
structure Drawn (n : Nat) (as : List Arr) : Prop where
  srt : sortP as = isort ltP as
  ok : webOk n (isort ltP as) = true
  once : (WL n).count (isort ltP as) = 1
theorem drawn_of {n : Nat} (hn : n = 1 ∨ n = 2) {f g : List Int} (hf : f.Perm (rg n)) (hg : g.Perm (rg n)) {sub : List Arr} (hs : sub ∈ lotsOf (pairsOf (f ++ g.map fun y => (n : Int) + y))) : Drawn n sub := by
  have key : okD n sub = true := by
    rcases hn with rfl | rfl
    · have ef : f = [0] := List.perm_singleton.mp hf
      have eg : g = [0] := List.perm_singleton.mp hg
      subst ef eg
      exact List.all_eq_true.mp d1 sub hs
    · have ha := List.all_eq_true.mp d2
      have hf' : f.Perm [0, 1] := hf
      have hg' : g.Perm [0, 1] := hg
      rcases perm_two hf' with rfl | rfl <;> rcases perm_two hg' with rfl | rfl
      · exact List.all_eq_true.mp (ha [0, 1, 2, 3] (by decide)) sub hs
      · exact List.all_eq_true.mp (ha [0, 1, 3, 2] (by decide)) sub hs
      · exact List.all_eq_true.mp (ha [1, 0, 2, 3] (by decide)) sub hs
      · exact List.all_eq_true.mp (ha [1, 0, 3, 2] (by decide)) sub hs
  unfold okD at key
  simp only [Bool.and_eq_true, decide_eq_true_eq] at key
  exact ⟨sortP_ch key.1.1, key.1.2, key.2⟩
end K49
set_option Elab.async false
set_option autoImplicit false
set_option maxRecDepth 100000
set_option maxHeartbeats 4000000
/-! words for the walks: heaps that grow, comprehensions by what each item gives -/
namespace K49
open PySem PySem.Spec PyProof.Rows L2
/-! ### heaps -/
section
variable {K : PySem.W.Frag} {H H1 H2 H' : Hp} {p a : Addr} {o : HO}
theorem same_new (h : H p = none) : L2.Same H (upd H p o) := fun b u e => by
  rw [upd_ne (ne_of_none e h)]
  exact e
theorem same_upd (s : L2.Same H H1) (h : H1 p = none) : L2.Same H (upd H1 p o) := s.trans (same_new h)
/-- a change at a place that H doesn't know -/
theorem same_at (s : L2.Same H H1) (h : H p = none) : L2.Same H (upd H1 p o) := fun b u e => by
  rw [upd_ne (ne_of_none e h)]
  exact s b u e
theorem same_extN (s : L2.Same H H') : LamX.ExtN H H' := fun b u e _ => s b u e
theorem SqT.same {xs : List V} (s : L2.Same H H') (h : SqT K H a xs) : SqT K H' a xs := SqT.extN (same_extN s) h
theorem SqL.same {xs : List V} (s : L2.Same H H') (h : SqL K H a xs) : SqL K H' a xs := SqL.extN (same_extN s) h
theorem Dp.same {d : PyData} {v : V} (s : L2.Same H H') (h : Dp K H v d) : Dp K H' v d := Dp.extN (same_extN s) _ _ h
theorem DpAll.same {ds : List PyData} {vs : List V} (s : L2.Same H H') (h : DpAll K H vs ds) : DpAll K H' vs ds := DpAll.extN (same_extN s) _ _ h
end
/-- all but lists and tables stay -/
def SameT (H H' : Hp) : Prop := ∀ b o, H b = some o → (∀ xs, o ≠ .lst xs) → (∀ ps, o ≠ .tbl ps) → H' b = some o
section
variable {K : PySem.W.Frag} {H H1 H2 H' : Hp} {p a : Addr} {o : HO}
theorem sameT_of (s : L2.Same H H') : SameT H H' := fun b u e _ _ => s b u e
theorem sameT_extN (s : LamX.ExtN H H') : SameT H H' := fun b u e _ n => s b u e n
theorem SameT.trans (s : SameT H H1) (t : SameT H1 H2) : SameT H H2 := fun b u e n m => t b u (s b u e n m) n m
theorem SameT.refl (H : Hp) : SameT H H := fun _ _ e _ _ => e
theorem sameT_lst {xs : List V} (h : H p = some (.lst xs)) : SameT H (upd H p o) := fun b u e n _ => by
  rw [upd_ne (ne_of e h (n xs))]
  exact e
theorem sameT_new (h : H p = none) : SameT H (upd H p o) := sameT_of (same_new h)
theorem SqT.sameT {xs : List V} (e : SameT H H') (h : SqT K H a xs) : SqT K H' a xs := by
  rcases h with (h | ⟨o, h⟩) | h
  · exact .inl (.inl (e _ _ h (fun ps z => by cases z) fun ps z => by cases z))
  · exact .inl (.inr ⟨o, e _ _ h (fun ps z => by cases z) fun ps z => by cases z⟩)
  · exact .inr h
end
mutual
/-- no list within -/
def noL : PyData → Bool
  | .list _ => false
  | .dict _ => false
  | .tuple xs => noLs xs
  | _ => true
def noLs : List PyData → Bool
  | [] => true
  | x :: xs => noL x && noLs xs
end
mutual
theorem Dp.sameT {K : PySem.W.Frag} {H H' : Hp} (e : SameT H H') : ∀ (d : PyData) (v : V), noL d = true → Dp K H v d → Dp K H' v d
  | .none, _, _, h => by cases h; exact .non
  | .bool b, _, _, h => by cases h; exact .bl b
  | .int i, _, _, h => by cases h; exact .int i
  | .str x, _, _, h => by cases h; exact .str x
  | .list ds, _, n, _ => by simp [noL] at n
  | .tuple ds, _, n, h => by
    cases h with
    | tup hs ha => exact .tup (SqT.sameT e hs) (DpAll.sameT e ds _ (by simpa [noL] using n) ha)
  | .dict _, _, _, h => by cases h
theorem DpAll.sameT {K : PySem.W.Frag} {H H' : Hp} (e : SameT H H') : ∀ (ds : List PyData) (vs : List V), noLs ds = true → DpAll K H vs ds → DpAll K H' vs ds
  | [], _, _, h => by cases h; exact .nil
  | d :: ds, _, n, h => by
    simp only [noLs, Bool.and_eq_true] at n
    cases h with
    | cons h1 h2 => exact .cons (Dp.sameT e d _ n.1 h1) (DpAll.sameT e ds _ n.2 h2)
end
theorem noLs_map {β : Type} {enc : β → PyData} (h : ∀ b, noL (enc b) = true) : ∀ bs : List β, noLs (bs.map enc) = true
  | [] => by simp [noLs]
  | b :: bs => by
    show noLs (enc b :: bs.map enc) = true
    simp [noLs, h, noLs_map h bs]
/-! ### lists of things that are one another's likeness -/
section
variable {α β : Type} {F G : α → β → Prop}
theorem pr_len {l : List α} {m : List β} (h : Paired F l m) : l.length = m.length := Paired.length h
theorem pr_get : ∀ {l : List α} {m : List β}, Paired F l m → ∀ {i : Nat} {x : α} {y : β}, l[i]? = some x → m[i]? = some y → F x y
  | _, _, .nil, i, x, y, h, _ => by simp at h
  | _, _, .cons r t, 0, x, y, h1, h2 => by
    simp at h1 h2
    subst h1 h2
    exact r
  | _, _, .cons r t, i + 1, x, y, h1, h2 => pr_get t (by simpa using h1) (by simpa using h2)
theorem pr_snoc {l : List α} {m : List β} {x : α} {y : β} (h : Paired F l m) (r : F x y) : Paired F (l ++ [x]) (m ++ [y]) := Paired.snoc h r
theorem pr_mono {l : List α} {m : List β} (h : Paired F l m) (f : ∀ a b, F a b → G a b) : Paired G l m := Paired.mapP h f
theorem pr_map {f : β → α} : ∀ {m : List β} {l : List α}, Paired (fun x y => x = f y) l m → l = m.map f
  | [], _, .nil => rfl
  | y :: m, _, .cons r t => by rw [r, pr_map t, List.map_cons]
theorem pr_of_map {f : β → α} : ∀ {m : List β}, (∀ y ∈ m, F (f y) y) → Paired F (m.map f) m
  | [], _ => .nil
  | y :: m, h => .cons (h y List.mem_cons_self) (pr_of_map fun z hz => h z (List.mem_cons_of_mem _ hz))
theorem pr_append {l l' : List α} {m m' : List β} : Paired F l m → Paired F l' m' → Paired F (l ++ l') (m ++ m')
  | .nil, h => h
  | .cons r t, h => .cons r (pr_append t h)
end
section
variable {K : PySem.W.Frag} {H : Hp} {β : Type} {enc : β → PyData}
theorem dp_pr : ∀ {ys : List V} {bs : List β}, DpAll K H ys (bs.map enc) → Paired (fun y b => Dp K H y (enc b)) ys bs
  | ys, [], h => by
    have h' : DpAll K H ys [] := h
    cases h'
    exact .nil
  | ys, b :: bs, h => by
    have h' : DpAll K H ys (enc b :: bs.map enc) := h
    cases h' with
    | cons h1 h2 => exact .cons h1 (dp_pr h2)
theorem pr_dp : ∀ {ys : List V} {bs : List β}, Paired (fun y b => Dp K H y (enc b)) ys bs → DpAll K H ys (bs.map enc)
  | _, _, .nil => .nil
  | _, _, .cons r t => .cons r (pr_dp t)
theorem dp_append : ∀ {xs ys : List V} {ds es : List PyData}, DpAll K H xs ds → DpAll K H ys es → DpAll K H (xs ++ ys) (ds ++ es)
  | _, _, _, _, .nil, h => h
  | _, _, _, _, .cons r t, h => .cons r (dp_append t h)
theorem dp_ints : ∀ {ys : List V} {ns : List Int}, DpAll K H ys (ns.map .int) → ys = ns.map V.int
  | ys, [], h => by
    have h' : DpAll K H ys [] := h
    cases h'
    rfl
  | ys, n :: ns, h => by
    have h' : DpAll K H ys (.int n :: ns.map .int) := h
    cases h' with
    | cons h1 h2 =>
      cases h1
      rw [dp_ints h2]
      rfl
theorem ints_dp : ∀ (ns : List Int), DpAll K H (ns.map V.int) (ns.map .int)
  | [] => .nil
  | n :: ns => .cons (.int n) (ints_dp ns)
theorem dp_len : ∀ {xs : List V} {ds : List PyData}, DpAll K H xs ds → xs.length = ds.length
  | _, _, .nil => rfl
  | _, _, .cons _ t => by rw [List.length_cons, List.length_cons, dp_len t]
/-- a tuple of ints, read -/
theorem tup_ints {v : V} {ns : List Int} (h : Dp K H v (.tuple (ns.map .int))) : ∃ a, v = .ref a ∧ SqT K H a (ns.map V.int) := by
  cases h with
  | @tup a xs _ hs hd => exact ⟨a, rfl, by rw [← dp_ints hd]; exact hs⟩
theorem ints_tup {a : Addr} {ns : List Int} (h : SqT K H a (ns.map V.int)) : Dp K H (.ref a) (.tuple (ns.map .int)) := .tup h (ints_dp ns)
end
/-! ### what is walked and stays as it is -/
structure Src (J : It) (H1 : Hp) (xs : List V) : Prop where
  go : ∀ i H, L2.Same H1 H → i < xs.length → J.go i H
  stop : ∀ H, L2.Same H1 H → J.stop xs.length H
  yld : ∀ i H x H', L2.Same H1 H → i < xs.length → J.yld i H x H' → H' = H ∧ xs[i]? = some x
section
variable {K : PySem.W.Frag} {H1 : Hp} {a : Addr} {xs : List V}
theorem src_list (h : SqL K H1 a xs) : Src (Itl K a) H1 xs :=
  ⟨fun i H s hi => ⟨xs, xs[i], SqL.same s h, by simp [hi]⟩, fun H s => ⟨xs, SqL.same s h, Nat.le_refl _⟩, fun i H x H' s hi y => ⟨y.1, y.2 xs (SqL.same s h)⟩⟩
theorem src_tup (h : SqT K H1 a xs) : Src (Itt K a) H1 xs :=
  ⟨fun i H s hi => ⟨xs, xs[i], SqT.same s h, by simp [hi]⟩, fun H s => ⟨xs, SqT.same s h, Nat.le_refl _⟩, fun i H x H' s hi y => ⟨y.1, y.2 xs (SqT.same s h)⟩⟩
end
/-- a list or a tuple is walked -/
def iSeq (K : PySem.W.Frag) (tl : TE) : TI := fun σ H R => tl σ H fun x H1 => ∃ a xs, x = .ref a ∧ (SqL K H1 a xs ∨ SqT K H1 a xs) ∧ ∀ J, Src J H1 xs → R J H1
theorem pi_seq {X : Cx} {tg l : Expr} {tl : TE} (hl : PE X l tl) : PI X tg l (iSeq X.K tl) := by
  refine ⟨fun pins s σ H R I h => ?_⟩
  refine thn (hl.run pins s σ H _ I h) fun v s1 ⟨x, H1, I1, r1, q1⟩ => ?_
  obtain ⟨a, xs, rfl, hq, q⟩ := q1
  cases r1
  have fr : ∀ b ∈ [s1.heap.objs.size], FpOk X pins H1 b := fun b hb => by
    rw [List.mem_singleton.mp hb]
    exact I1.fpOk (Nat.le_refl _) (I1.hok.fresh (Nat.le_refl _))
  rcases hq with hq | hq
  · obtain ⟨its, _, p, _⟩ := I1.list hq
    exact wpAny_pyIter_list p.isList ⟨s1.heap.objs.size, [s1.heap.objs.size], _, _, H1, rfl, I1.kept (t' := s1.toks) fun b o e => Heap.get?_push_of_some _ e, turn_list a _, ⟨_, Heap.get?_push_size _ rfl, rfl, rfl⟩, fr, q _ (src_list hq)⟩
  · obtain ⟨its, _, p, _⟩ := I1.tuple hq
    exact wpAny_pyIter_tuple (show s1.heap.IsTuple a its.toArray from p) ⟨s1.heap.objs.size, [s1.heap.objs.size], _, _, H1, rfl, I1.kept (t' := s1.toks) fun b o e => Heap.get?_push_of_some _ e, turn_tuple a _, ⟨_, Heap.get?_push_size _ rfl, rfl, rfl⟩, fr, q _ (src_tup hq)⟩
/-- 0, 1, .. as values -/
def rgV (n : Nat) : List V := (List.range n).map fun (i : Nat) => V.int (i : Int)
theorem rgV_len (n : Nat) : (rgV n).length = n := by
  unfold rgV
  rw [List.length_map, List.length_range]
theorem rgV_at {n i : Nat} (h : i < n) : (rgV n)[i]? = some (V.int (i : Int)) := by
  unfold rgV
  rw [List.getElem?_map, List.getElem?_range h]
  rfl
theorem src_range {H1 : Hp} (n : Nat) : Src (Itr 0 n) H1 (rgV n) :=
  ⟨fun i H _ hi => by rw [rgV_len] at hi; exact hi, fun H _ => by rw [rgV_len]; exact Nat.le_refl _, fun i H x H' _ hi y => ⟨y.1, by
    rw [rgV_len] at hi
    rw [rgV_at hi, y.2, Int.zero_add]⟩⟩
theorem rgV_pr (n : Nat) : Paired (fun (x : V) (d : Int) => x = V.int d) (rgV n) ((List.range n).map fun (i : Nat) => (i : Int)) := by
  unfold rgV
  generalize List.range n = l
  induction l with
  | nil => exact .nil
  | cons i l ih => exact .cons rfl ih
theorem small {m : Nat} (h : m ≤ 1000000) : m ≤ sizeLine := by
  rw [sizeLine_eq]
  omega
/-! ### ints in lists -/
theorem flat_ints (ns : List Int) : (ns.map V.int).all flatV = true := by
  rw [List.all_eq_true]
  intro x hx
  obtain ⟨n, _, rfl⟩ := List.mem_map.mp hx
  rfl
theorem in_ints (d : Int) (ns : List Int) : inV (.int d) (ns.map V.int) = decide (d ∈ ns) := by
  unfold inV
  induction ns with
  | nil => rfl
  | cons n ns ih =>
    rw [List.map_cons, List.any_cons, ih]
    show ((n == d) || decide (d ∈ ns)) = decide (d ∈ n :: ns)
    by_cases e : n = d
    · subst e
      simp
    · have e' : ¬ d = n := fun z => e z.symm
      simp [e, e']
theorem cut1 (xs : List V) : cutV xs none (some 1) = xs.take 1 := by
  cases xs with
  | nil => rfl
  | cons x xs => simp [cutV, HT.sIx] <;> omega
theorem pr_ints (ns : List Int) : Paired (fun (x : V) (d : Int) => x = V.int d) (ns.map V.int) ns := pr_of_map fun _ _ => rfl
/-! ### a comprehension -/
/-- what is left of a turn when the item's element has come to y in H: it is put to the list at D -/
def Puts (D : Addr) (Nx : Hp → Prop) (H : Hp) (y : V) : Prop := ∃ acc, H D = some (.lst acc) ∧ acc.length < sizeLine ∧ Nx (upd H D (.lst (acc ++ [y])))
section
variable {δ γ : Type}
/-- [te for g in J if tt]: item i is worth f (ds i), R says how the values bear it -/
theorem lc_data {J : It} {xs : List V} {ds : List δ} {E : V → δ → Prop} {f : δ → Option γ} {R : Hp → V → γ → Prop} {g : TG} {tt : TT} {te : TE} {vs : List Nat} {σ : L2.St} {H1 : Hp} {D : Addr} {Qd : Hp → Prop} (hD : H1 D = none)
    (S : Src J H1 xs) (hp : Paired E xs ds) (hz : xs.length ≤ sizeLine) (hR : ∀ H H' y z, SameT H H' → R H y z → R H' y z)
    (turn : ∀ (x : V) (d : δ) (H : Hp) (Nx : Hp → Prop), E x d → L2.Same H1 H → (∀ H3, f d = none → L2.Same H H3 → Nx H3) → (∀ H4 y z, f d = some z → L2.Same H H4 → R H4 y z → Puts D Nx H4 y) →
      g x (wipe σ vs) H fun σ2 H2 => wipe σ2 vs = wipe σ vs ∧ tt σ2 H2 fun b H3 => if b = true then te σ2 H3 fun y H4 => Puts D Nx H4 y else Nx H3)
    (hd : ∀ H ys, L2.Same H1 H → H D = some (.lst ys) → Paired (R H) ys (ds.filterMap f) → Qd H) :
    ∃ W : Nat → Nat → Hp → Prop, (∃ m, W 0 m (upd H1 D (.lst []))) ∧ ∀ i m H, W i m H → (J.stop i H ∧ Qd H) ∨ (J.go i H ∧ ∃ Nx : Hp → Prop, (∀ H', Nx H' → ∃ m', m' < m ∧ W (i + 1) m' H') ∧ ∀ x H', J.yld i H x H' →
      g x (wipe σ vs) H' fun σ2 H2 => wipe σ2 vs = wipe σ vs ∧ tt σ2 H2 fun b H3 => if b = true then te σ2 H3 fun y H4 => ∃ acc, H4 D = some (.lst acc) ∧ acc.length < sizeLine ∧ Nx (upd H4 D (.lst (acc ++ [y]))) else Nx H3) := by
  have hlen : xs.length = ds.length := pr_len hp
  refine ⟨fun i m H => m = xs.length - i ∧ i ≤ xs.length ∧ L2.Same H1 H ∧ ∃ ys, H D = some (.lst ys) ∧ ys.length ≤ i ∧ Paired (R H) ys ((ds.take i).filterMap f),
    ⟨xs.length, by simp, Nat.zero_le _, same_new hD, [], upd_same, Nat.le_refl _, .nil⟩, ?_⟩
  rintro i m H ⟨rfl, hi, s, ys, hy, hl, hq⟩
  by_cases hlt : i < xs.length
  · refine .inr ⟨S.go i H s hlt, fun H' => i + 1 ≤ xs.length ∧ L2.Same H1 H' ∧ ∃ ys, H' D = some (.lst ys) ∧ ys.length ≤ i + 1 ∧ Paired (R H') ys ((ds.take (i + 1)).filterMap f), fun H' p => ⟨xs.length - (i + 1), by omega, rfl, p⟩, fun x H' y => ?_⟩
    obtain ⟨rfl, hx⟩ := S.yld i H x H' s hlt y
    have hdi : ds[i]? = some (ds[i]'(by omega)) := List.getElem?_eq_getElem (by omega)
    have et : ds.take (i + 1) = ds.take i ++ [ds[i]'(by omega)] := by rw [List.take_add_one, hdi]; rfl
    refine turn x _ H' _ (pr_get hp hx hdi) s (fun H3 e s3 => ?_) fun H4 y z e s4 r => ?_
    · refine ⟨hlt, s.trans s3, ys, s3 _ _ hy, by omega, ?_⟩
      rw [et, List.filterMap_append, List.filterMap_cons_none e, List.filterMap_nil, List.append_nil]
      exact pr_mono hq fun y z => hR _ _ y z (sameT_of s3)
    · refine ⟨ys, s4 _ _ hy, by omega, hlt, same_at (s.trans s4) hD, ys ++ [y], upd_same, by rw [List.length_append]; simp; omega, ?_⟩
      rw [et, List.filterMap_append, List.filterMap_cons_some e, List.filterMap_nil]
      have t : SameT H4 (upd H4 D (.lst (ys ++ [y]))) := sameT_lst (s4 _ _ hy)
      exact pr_snoc (pr_mono hq fun y z => hR _ _ y z ((sameT_of s4).trans t)) (hR _ _ y z t r)
  · have e : i = xs.length := by omega
    subst e
    refine .inl ⟨S.stop H s, hd H ys s hy ?_⟩
    rw [hlen, List.take_length] at hq
    exact hq
end
/-! ### the rules that speak of the written part, for a comprehension's block (its written part is the def's) -/
section
variable {X : Cx} {tg l e : Expr} {tl te : TE}
theorem op_inK (K : PySem.W.Frag) (h : X.K = K) : OpR X (compareOp .In) (rIn K false) := by subst h; exact op_in_seq
theorem op_notInK (K : PySem.W.Frag) (h : X.K = K) : OpR X (compareOp .NotIn) (rIn K true) := by subst h; exact op_notIn_seq
theorem pi_seqK (K : PySem.W.Frag) (h : X.K = K) (hl : PE X l tl) : PI X tg l (iSeq K tl) := by subst h; exact pi_seq hl
theorem cr_allK (K : PySem.W.Frag) (h : X.K = K) (hc : X.calm = true) : CallR X (.builtin "all") (rAll K) := by subst h; exact cr_all hc
theorem cr_anyK (K : PySem.W.Frag) (h : X.K = K) (hc : X.calm = true) : CallR X (.builtin "any") (rAny K) := by subst h; exact cr_any hc
theorem call_lenK (K : PySem.W.Frag) (h : X.K = K) : CallR X (.builtin "len") (fun xs H Q => ∃ x n, xs = [x] ∧ LenV K x H n ∧ Q (.int n) H) := by subst h; exact call_len
theorem ix_tupK (K : PySem.W.Frag) (h : X.K = K) : IxR X (rIxT K) := by subst h; exact ix_tup
theorem ix_listK (K : PySem.W.Frag) (h : X.K = K) : IxR X (rIxL K) := by subst h; exact ix_list
theorem ix_seqK (K : PySem.W.Frag) (h : X.K = K) : IxR X (rIx K) := by subst h; exact ix_seq
theorem pg_tupK {pos : Pos} {es : List Expr} {k : Nat} {t : TGs} (K : PySem.W.Frag) (n : Nat) (h : X.K = K) (hc : X.calm = true) (hs : PGs X es t) (hn : (assignEach es X.env).length = n) (hst : (assignEach es X.env).findIdx? (·.1) = none) :
    PG X (.Tuple es k pos) (gTup K n t) := by subst h; exact pg_tup hc hs hn hst
theorem pi_listK (K : PySem.W.Frag) (h : X.K = K) (hl : PE X l tl) : PI X tg l (iList K tl) := by subst h; exact pi_list hl
end
end K49
set_option Elab.async false
set_option autoImplicit false
set_option maxRecDepth 100000
set_option maxHeartbeats 4000000
/-! is_integer, is_within, is_pair, is_arrow -/
namespace K49
open PySem L2
def top (i : Nat) : Stmt := PySem.Challenge.pw_calmblanks_k49_whole_all_webs.main.body.getD i (.Pass ⟨0, 0, 0, 0⟩)
abbrev sInt : Stmt := top 1
abbrev sWithin : Stmt := top 2
abbrev sPair : Stmt := top 3
abbrev sLots : Stmt := top 4
abbrev sArrow : Stmt := top 11
abbrev sOrder : Stmt := top 12
abbrev sWebI : Stmt := inClass (top 13) 0
abbrev sWebE : Stmt := inClass (top 13) 1
abbrev sRaw : Stmt := top 14
abbrev sWebsOf : Stmt := top 17
abbrev sAll : Stmt := top 18
abbrev sHand : Stmt := top 20
abbrev sDraw : Stmt := top 21
abbrev sSome : Stmt := top 22
abbrev sShuf : Stmt := top 23
abbrev sIs : Stmt := top 24
abbrev sLLots : Stmt := top 25
abbrev sLArr : Stmt := top 26
abbrev sPar : Stmt := top 27
abbrev sRing : Stmt := top 28
abbrev sEvery : Stmt := top 29
abbrev sLaw : Stmt := top 30
/-- what the module doesn't bind: the built-ins -/
structure Bl (mg : Str → Option Value) : Prop where
  isi : mg "isinstance" = none
  int : mg "int" = none
  bool : mg "bool" = none
  tuple : mg "tuple" = none
  list : mg "list" = none
  dict : mg "dict" = none
  len : mg "len" = none
  all : mg "all" = none
  any : mg "any" = none
  abs : mg "abs" = none
  range : mg "range" = none
  sorted : mg "sorted" = none
  enumerate : mg "enumerate" = none
theorem tyx_list {K : PySem.W.Frag} {H : Hp} {a : Addr} {xs : List V} (h : SqL K H a xs) : TyX K H (.ref a) (.type "list") := by
  rcases h with (h | ⟨o, h⟩) | ⟨o, its, n, hk, hc, _⟩
  · exact .base (.lst h)
  · exact .base (.frz h)
  · exact .kList hk hc
theorem tyx_tup {K : PySem.W.Frag} {H : Hp} {a : Addr} {xs : List V} (h : SqT K H a xs) : TyX K H (.ref a) (.type "tuple") := by
  rcases h with (h | ⟨o, h⟩) | ⟨o, its, n, hk, hc, _⟩
  · exact .base (.tup h)
  · exact .fTuple h
  · exact .kTuple hk hc
/-! ### a def of the module that keeps a promise, by its name -/
structure Cl (P : Program) (w : World) (K : PySem.W.Frag) (mg : Str → Option Value) (base : Heap) (k : Nat) (x : Str) (sp : Sp) : Prop where
  ex : ∃ (f : Addr) (fd : FuncData) (ps : List Str), FnOk P w K mg base CX0 k f fd ps sp ∧ mg x = some (.ref f) ∧ PySem.W.keepIn K (.ref f) = true ∧ Binds K fd ps []
/-- where it stands -/
structure Df (K : PySem.W.Frag) (mg : Str → Option Value) (x : Str) (st : Stmt) (ps : List Str) : Prop where
  ex : ∃ (f : Addr) (fd : FuncData), Fun K x x st f fd ∧ mg x = some (.ref f) ∧ Binds K fd ps []
section
variable {P : Program} {w : World} {K : PySem.W.Frag} {mg : Str → Option Value} {base : Heap}
theorem Df.cl {x : Str} {st : Stmt} {N ps : List Str} {k : Nat} {sp : Sp} (D : Df K mg x st ps) (S : FnScope N ps (defScope st)) (len : ∀ vs H Q E, sp vs H Q E → vs.length = ps.length)
    (hbody : ∀ (f : Addr) (cdv : Value) (A : Around) (outer : List Env) (s : Shared) (H : Hp) (vs : List V) (Q : VK) (E : XK), Room k (A.deeper (PyProof.Rows.envOfC x (defScope st) s.heap.objs.size f cdv)) → sp vs H Q E →
      ∃ t, PSs (cxOf CX0 P w K mg base N x (defScope st) f cdv A outer s H E).nox (defBody st) t ∧ t { nx := fun _ H' => Q .non H', rt := Q } (start N vs) H) : Cl P w K mg base (k + 1) x sp := by
  obtain ⟨f, fd, F, m, b⟩ := D.ex
  exact ⟨f, fd, ps, F.ok S len (hbody f), m, F.kp, b⟩
theorem Cl.mono {j k : Nat} {x : Str} {sp : Sp} (c : Cl P w K mg base j x sp) (h : j ≤ k) : Cl P w K mg base k x sp := by
  obtain ⟨f, fd, ps, F, r⟩ := c.ex
  exact ⟨f, fd, ps, F.mono h, r⟩
end
theorem pc {X : Cx} {k j : Nat} {x : Str} {sp : Sp} {p pos : Pos} {e : Expr} {es : List Expr} {t : TA} (c : Cl X.prog X.w X.K X.mg X.base k x sp) (hr : Room j X.A) (hk : k ≤ j) (hg : Gl X x) (ha : PA X (e :: es) t)
    (hdb : (x == ("__debug__" : Str)) = false := by decide) (he : starEach (e :: es) X.env = (false, eval e X.env) :: starEach es X.env := by rfl) (hpl : (backTo pos (starEach es X.env)).any (·.1) = false := by rfl) :
    PE X (.Call (.Name x p) (e :: es) [] pos) (tCall sp [] E0 t) := by
  obtain ⟨f, fd, ps, F, hm, kp, b⟩ := c.ex
  exact pe_call F (hr.mono hk) hg hm kp b .nil pass0 ha hdb he hpl
/-! ### promises -/
def spInt : Sp := fun vs H Q _ => ∃ i : Int, vs = [.int i] ∧ Q (.bl true) H
def spWithin : Sp := fun vs H Q _ => ∃ i lo hi : Int, vs = [.int i, .int lo, .int hi] ∧ Q (.bl (decide (lo ≤ i ∧ i ≤ hi))) H
def spPair (K : PySem.W.Frag) : Sp := fun vs H Q _ => ∃ (a : Addr) (x y : V), vs = [.ref a] ∧ SqT K H a [x, y] ∧ Q (.bl true) H
def spArrow (K : PySem.W.Frag) : Sp := fun vs H Q _ => ∃ (n : Nat) (t : Addr) (a : Arr), vs = [.int n, .ref t] ∧ n ≤ 100 ∧ SqT K H t [.int a.1, .int a.2] ∧ ∀ H', L2.Same H H' → Q (.bl (isArr n a)) H'
section
variable {P : Program} {w : World} {K : PySem.W.Frag} {mg : Str → Option Value} {base : Heap}
theorem scInt : FnScope ["thing"] ["thing"] (defScope sInt) := ⟨rfl, rfl, rfl, by decide +kernel, rfl, by decide +kernel, by decide +kernel⟩
theorem cl_int (F : Df K mg "is_integer" sInt ["thing"]) (B : Bl mg) : Cl P w K mg base 1 "is_integer" spInt := by
  refine F.cl scInt (fun vs H Q E h => ?_) (fun f cdv A outer s H vs Q E hr h => ?_)
  · obtain ⟨i, rfl, _⟩ := h
    rfl
  · obtain ⟨i, rfl, k⟩ := h
    refine ⟨_, pss_one (ps_ret (pe_and (pe_callB call_isi (by rfl) B.isi PyProof.Rows.boot_isinstance (pa_cons (pv 0) (pa_cons (pe_bltn (v := .ty "int") (by rfl) B.int PyProof.Rows.boot_int rfl) pa_nil)))
      (pe_one (pe_not (pe_callB call_isi (by rfl) B.isi PyProof.Rows.boot_isinstance (pa_cons (pv 0) (pa_cons (pe_bltn (v := .ty "bool") (by rfl) B.bool PyProof.Rows.boot_bool rfl) pa_nil))))))), ?_⟩
    refine ⟨_, rfl, _, _, _, _, _, rfl, .ty "int", .base (.int i), kit_ty (r := true) (by decide +kernel), _, rfl, iteT ?_⟩
    exact ⟨_, rfl, _, _, _, _, _, rfl, .ty "bool", .base (.int i), kit_ty (r := false) (by decide +kernel), _, rfl, k⟩
theorem scWithin : FnScope ["thing", "least", "most"] ["thing", "least", "most"] (defScope sWithin) := ⟨rfl, rfl, rfl, by decide +kernel, rfl, by decide +kernel, by decide +kernel⟩
theorem cl_within (F : Df K mg "is_within" sWithin ["thing", "least", "most"]) (c1 : Cl P w K mg base 1 "is_integer" spInt) : Cl P w K mg base 2 "is_within" spWithin := by
  refine F.cl scWithin (fun vs H Q E h => ?_) (fun f cdv A outer s H vs Q E hr h => ?_)
  · obtain ⟨i, lo, hi, rfl, _⟩ := h
    rfl
  · obtain ⟨i, lo, hi, rfl, k⟩ := h
    refine ⟨_, pss_one (ps_ret (pe_and (pc c1 hr (by decide) (by rfl) (pa_cons (pv 0) pa_nil)) (pe_one (pe_chain op_le op_le (pv 1) (pv 0) (pv 2))))), ?_⟩
    refine ⟨_, rfl, _, rfl, _, rfl, iteT ?_⟩
    refine ⟨_, rfl, _, rfl, _, _, rfl, rfl, _, rfl, ?_⟩
    by_cases h1 : lo ≤ i
    · rw [decide_eq_true h1]
      refine iteT ⟨_, rfl, _, _, rfl, rfl, ?_⟩
      have e : decide (lo ≤ i ∧ i ≤ hi) = decide (i ≤ hi) := by simp [h1]
      rw [e] at k
      exact k
    · rw [decide_eq_false h1]
      have e : decide (lo ≤ i ∧ i ≤ hi) = false := by simp [h1]
      rw [e] at k
      exact iteF k
theorem scPair : FnScope ["thing"] ["thing"] (defScope sPair) := ⟨rfl, rfl, rfl, by decide +kernel, rfl, by decide +kernel, by decide +kernel⟩
theorem cl_pair (F : Df K mg "is_pair" sPair ["thing"]) (B : Bl mg) : Cl P w K mg base 1 "is_pair" (spPair K) := by
  refine F.cl scPair (fun vs H Q E h => ?_) (fun f cdv A outer s H vs Q E hr h => ?_)
  · obtain ⟨a, x, y, rfl, _⟩ := h
    rfl
  · obtain ⟨a, x, y, rfl, hs, k⟩ := h
    refine ⟨_, pss_one (ps_ret (pe_and (pe_callB call_isi (by rfl) B.isi PyProof.Rows.boot_isinstance (pa_cons (pv 0) (pa_cons (pe_bltn (v := .ty "tuple") (by rfl) B.tuple PyProof.Rows.boot_tuple rfl) pa_nil)))
      (pe_one (pe_cmpR op_eq (pe_callB call_len (by rfl) B.len PySem.boot_len (pa_cons (pv 0) pa_nil)) pe_int (nomark _))))), ?_⟩
    refine ⟨_, rfl, _, _, _, _, _, rfl, .ty "tuple", tyx_tup hs, kit_ty (r := true) (by decide +kernel), _, rfl, iteT ?_⟩
    exact ⟨_, rfl, _, 2, rfl, .inr ⟨_, hs, rfl⟩, rfl, k⟩
theorem scArrow : FnScope ["columns", "thing", "end"] ["columns", "thing"] (defScope sArrow) := ⟨rfl, rfl, rfl, by decide +kernel, rfl, by decide +kernel, by decide +kernel⟩
theorem cl_arrow (F : Df K mg "is_arrow" sArrow ["columns", "thing"]) (c2 : Cl P w K mg base 2 "is_within" spWithin) (c3 : Cl P w K mg base 1 "is_pair" (spPair K)) (B : Bl mg) : Cl P w K mg base 3 "is_arrow" (spArrow K) := by
  refine F.cl scArrow (fun vs H Q E h => ?_) (fun f cdv A outer s H vs Q E hr h => ?_)
  · obtain ⟨n, t, a, rfl, _⟩ := h
    rfl
  · obtain ⟨n, t, a, rfl, hn, hs, k⟩ := h
    refine ⟨_, pss_cons (ps_if (PW.pt (pw_or (pt_not (pt_val (pc c3 hr (by decide) (by rfl) (pa_cons (pv 1) pa_nil))))
        (pw_or1 (pt_not (pt_val (pe_callB (cr_all rfl) (by rfl) B.all PyProof.Rows.boot_all (pa_cons
          (pe_lc (own := [("end", 2)]) (g := gName 2) (tt := tYes) rfl scArrow.nd (pi_tup (pv 1)) (blkOk_by (own := [("end", 2)]) (N := ["columns", "thing", "end"]) (sc := defScope sArrow) (by decide +kernel))
            (fun _ _ _ _ _ => pg_name (i := 2) scArrow.nd rfl (Or.inl rfl)) (fun _ _ _ _ _ => pts_nil)
            (fun _ _ _ _ _ => pc c2 hr (by decide) (by rfl) (pa_cons (pv 2) (pa_cons pe_int (pa_cons (pe_op op_sub (pe_op op_mul pe_int (pv 0)) pe_int) pa_nil))))) pa_nil)))))))
        (pss_one (ps_ret pe_bl)) pss_nil)
      (pss_one (ps_ret (pe_and (pe_cmpR op_ne (pe_ix ix_tup (pv 1) pe_int (fun _ _ => rfl)) (pe_ix ix_tup (pv 1) pe_int (fun _ _ => rfl)) (nomark _))
        (pe_one (pe_not (pe_and (pe_cmpR op_ge (pe_ix ix_tup (pv 1) pe_int (fun _ _ => rfl)) (pv 0) (nomark _)) (pe_one (pe_cmpR op_lt (pe_ix ix_tup (pv 1) pe_int (fun _ _ => rfl)) (pv 0) (nomark _))))))))), ?_⟩
    refine ⟨_, rfl, t, _, _, rfl, hs, _, rfl, iteF ?_⟩
    refine ⟨_, rfl, t, rfl, ⟨_, hs⟩, ?_⟩
    refine fun D hD => lc_data (E := fun x (d : Int) => x = V.int d) (ds := [a.1, a.2]) (f := fun e => some (decide (0 ≤ e ∧ e ≤ 2 * (n : Int) - 1))) (R := fun _ y (b : Bool) => y = V.bl b) hD (src_tup hs) (.cons rfl (.cons rfl .nil)) (by show 2 ≤ sizeLine; decide) (fun _ _ _ _ _ h => h) ?_ ?_
    · rintro x d H1 Nx rfl s1 skip done
      refine ⟨rfl, ?_⟩
      refine ⟨_, rfl, _, rfl, _, _, rfl, rfl, .inl ⟨by decide, by decide⟩, _, _, rfl, rfl, _, _, _, rfl, ?_⟩
      exact done _ _ _ rfl (L2.Same.refl _) rfl
    · intro H1 ys s1 hy hp
      have e := pr_map hp
      subst e
      have hs1 := SqT.same s1 hs
      have eb : (List.filterMap (fun e => some (decide (0 ≤ e ∧ e ≤ 2 * (n : Int) - 1))) [a.1, a.2]).all id = (decide (0 ≤ a.1 ∧ a.1 ≤ 2 * (n : Int) - 1) && decide (0 ≤ a.2 ∧ a.2 ≤ 2 * (n : Int) - 1)) := by simp
      refine ⟨D, _, rfl, SqL.of hy, _, rfl, ?_⟩
      rw [eb]
      have k1 := k H1 s1
      unfold isArr at k1
      cases hc : (decide (0 ≤ a.1 ∧ a.1 ≤ 2 * (n : Int) - 1) && decide (0 ≤ a.2 ∧ a.2 ≤ 2 * (n : Int) - 1)) with
      | false =>
        refine iteT ?_
        rw [hc, Bool.false_and, Bool.false_and] at k1
        exact k1
      | true =>
        refine iteF ?_
        rw [hc, Bool.true_and] at k1
        have ev : decide (V.int a.1 = V.int a.2) = decide (a.1 = a.2) := by simp
        refine ⟨_, rfl, t, _, _, _, rfl, rfl, hs1, rfl, _, rfl, t, _, _, _, rfl, rfl, hs1, rfl, rfl, _, rfl, ?_⟩
        rw [ev]
        cases h1 : (!decide (a.1 = a.2)) with
        | false =>
          rw [h1, Bool.false_and] at k1
          exact iteF k1
        | true =>
          rw [h1, Bool.true_and] at k1
          refine iteT ?_
          refine ⟨_, rfl, t, _, _, _, rfl, rfl, hs1, rfl, _, rfl, _, _, rfl, rfl, _, rfl, ?_⟩
          cases h2 : decide ((n : Int) ≤ a.1) with
          | false =>
            rw [h2, Bool.false_and] at k1
            exact iteF ⟨_, rfl, k1⟩
          | true =>
            rw [h2, Bool.true_and] at k1
            exact iteT ⟨_, rfl, t, _, _, _, rfl, rfl, hs1, rfl, _, rfl, _, _, rfl, rfl, _, rfl, k1⟩
end
end K49
set_option Elab.async false
set_option autoImplicit false
set_option maxRecDepth 100000
set_option maxHeartbeats 4000000
/-! order_by -/
namespace K49
open PySem L2
theorem mem_rg {n : Nat} {x : Int} : x ∈ rg n ↔ 0 ≤ x ∧ x < (n : Int) := by
  unfold rg
  rw [List.mem_map]
  refine ⟨fun ⟨i, hi, e⟩ => ?_, fun ⟨h1, h2⟩ => ⟨x.toNat, List.mem_range.mpr (by omega), by omega⟩⟩
  have := List.mem_range.mp hi
  omega
theorem nodup_le : ∀ (m : Nat) (l : List Int), l.Nodup → (∀ x ∈ l, 0 ≤ x ∧ x < (m : Int)) → l.length ≤ m
  | 0, l, _, h => by
    cases l with
    | nil => exact Nat.le_refl _
    | cons x l =>
      have := h x List.mem_cons_self
      omega
  | m + 1, l, nd, h => by
    by_cases hm : (m : Int) ∈ l
    · have e := List.length_erase_of_mem hm
      have p := List.length_pos_of_mem hm
      have q := nodup_le m (l.erase (m : Int)) (nd.erase _) fun x hx => by
        have h1 := h x (List.mem_of_mem_erase hx)
        have h2 : x ≠ (m : Int) := fun z => by
          rw [z] at hx
          exact nd.not_mem_erase hx
        omega
      omega
    · have q := nodup_le m l nd fun x hx => by
        have h1 := h x hx
        have h2 : x ≠ (m : Int) := fun z => hm (by rw [← z]; exact hx)
        omega
      omega
theorem mem_good2 {n : Nat} {as : List Arr} {found : List Int} {t : Int} (h : t ∈ good2 n as found) : t ∈ rg (2 * n) ∧ t ∉ found := by
  unfold good2 at h
  obtain ⟨t1, h1, e1⟩ := List.mem_filterMap.mp h
  split at e1
  · cases e1
    unfold good1 at h1
    obtain ⟨t2, h2, e2⟩ := List.mem_filterMap.mp h1
    split at e2
    · cases e2
    · rename_i hn
      cases e2
      exact ⟨h2, hn⟩
  · cases e1
/-- what the loop of order_by keeps: m turns at most are left -/
structure OInv (n : Nat) (as : List Arr) (m : Nat) (found : List Int) (b : Bool) : Prop where
  nd : found.Nodup
  sub : ∀ x ∈ found, x ∈ rg (2 * n)
  go : b = true → found.length + m = 2 * n + 1 ∧ orderLoop n as m found = orderBy n as
  done : b = false → found = orderBy n as
theorem oinv_start (n : Nat) (as : List Arr) : OInv n as (2 * n + 1) [] true := ⟨List.nodup_nil, fun x h => absurd h (by simp), fun _ => ⟨by simp, rfl⟩, fun h => absurd h (by simp)⟩
theorem oinv_len {n : Nat} {as : List Arr} {m : Nat} {found : List Int} {b : Bool} (o : OInv n as m found b) : found.length ≤ 2 * n :=
  nodup_le (2 * n) found o.nd fun x hx => by
    have := mem_rg.mp (o.sub x hx)
    omega
theorem oinv_pos {n : Nat} {as : List Arr} {m : Nat} {found : List Int} (o : OInv n as m found true) : ∃ k, m = k + 1 := by
  have h1 := oinv_len o
  have h2 := (o.go rfl).1
  exact ⟨m - 1, by omega⟩
theorem oinv_turn {n : Nat} {as : List Arr} {k : Nat} {found : List Int} (o : OInv n as (k + 1) found true) : OInv n as k (found ++ (good2 n as found).take 1) (decide ((0 : Int) < ((good2 n as found).length : Nat))) := by
  obtain ⟨h1, h2⟩ := o.go rfl
  unfold orderLoop at h2
  cases e : good2 n as found with
  | nil =>
    rw [e] at h2
    have ef : found = orderBy n as := by simpa using h2
    refine ⟨by simpa using o.nd, by simpa using o.sub, fun z => by simp at z, fun _ => by simpa using ef⟩
  | cons g gs =>
    rw [e] at h2
    have hg := mem_good2 (show g ∈ good2 n as found by rw [e]; exact List.mem_cons_self)
    refine ⟨?_, fun x hx => ?_, fun _ => ⟨by simp; omega, by simpa using h2⟩, fun z => ?_⟩
    · show (found ++ [g]).Nodup
      rw [List.nodup_append]
      refine ⟨o.nd, by simp, fun a ha b hb => ?_⟩
      rw [List.mem_singleton.mp hb]
      rintro rfl
      exact hg.2 ha
    · have hx' : x ∈ found ++ [g] := hx
      rcases List.mem_append.mp hx' with q | q
      · exact o.sub x q
      · rw [List.mem_singleton.mp q]
        exact hg.1
    · have : (0 : Int) < ((g :: gs).length : Nat) := by simp <;> omega
      rw [decide_eq_true this] at z
      cases z
theorem good1_len (n : Nat) (found : List Int) : (good1 n found).length ≤ 2 * n := by
  unfold good1
  refine Nat.le_trans (List.length_filterMap_le _ _) ?_
  unfold rg
  simp
theorem good2_len (n : Nat) (as : List Arr) (found : List Int) : (good2 n as found).length ≤ 2 * n := by
  unfold good2
  exact Nat.le_trans (List.length_filterMap_le _ _) (good1_len n found)
/-- order_by's promise -/
def spOrder (K : PySem.W.Frag) : Sp := fun vs H Q _ => ∃ (n : Nat) (t : Addr) (xs : List V) (as : List Arr), vs = [.int n, .ref t] ∧ n ≤ 4 ∧ (SqL K H t xs ∨ SqT K H t xs) ∧ DpAll K H xs (as.map encP) ∧ as.length ≤ 1000 ∧
  ∀ H' p, L2.Same H H' → H p = none → H' p = some (.lst ((orderBy n as).map V.int)) → Q (.ref p) H'
section
variable {P : Program} {w : World} {K : PySem.W.Frag} {mg : Str → Option Value} {base : Heap}
theorem noL_P (a : Arr) : noL (encP a) = true := by simp [noL, noLs]
theorem scOrder : FnScope ["columns", "arrows", "found", "is_longer", "good", "thing", "one", "other"] ["columns", "arrows"] (defScope sOrder) := ⟨rfl, rfl, rfl, by decide +kernel, rfl, by decide +kernel, by decide +kernel⟩
set_option maxHeartbeats 16000000 in
theorem cl_order (F : Df K mg "order_by" sOrder ["columns", "arrows"]) (B : Bl mg) : Cl P w K mg base 1 "order_by" (spOrder K) := by
  refine F.cl scOrder (fun vs H Q E h => ?_) (fun f cdv A outer s H vs Q E hr h => ?_)
  · obtain ⟨n, t, xs, as, rfl, _⟩ := h
    rfl
  · obtain ⟨n, t, xs, as, rfl, hn, hx, hd, hl, k⟩ := h
    refine ⟨_, pss_cons (ps_set (i := 2) scOrder.nd rfl (Or.inr rfl) (pe_lst pa_nil))
      (pss_cons (ps_set (i := 3) scOrder.nd rfl (Or.inl rfl) pe_bl)
      (pss_cons (ps_while PassesOwn.never (pt_val (pv 3))
        (pss_cons (ps_setLc (i := 4) (own := [("thing", 5)]) (g := gName 5) rfl scOrder.nd rfl rfl (sw_true rfl rfl rfl (by decide +kernel)) (pi_range1 (by rfl) B.range (pa_cons (pe_op op_mul pe_int (pv 0)) pa_nil)) (blkOk_by (by kernel_rfl))
            (fun _ _ _ _ _ => pg_name (i := 5) scOrder.nd rfl (Or.inl rfl)) (fun _ _ _ _ _ => pts_one (pt_cmpR (op_notInK K rfl) (pv 5) (pv 2) rfl)) (fun _ _ _ _ _ => pv 5))
        (pss_cons (ps_setLc (i := 4) (own := [("thing", 5)]) (g := gName 5) rfl scOrder.nd rfl rfl (sw_true rfl rfl rfl (by decide +kernel)) (pi_list (pv 4)) (blkOk_by (by kernel_rfl))
            (fun _ _ _ _ _ => pg_name (i := 5) scOrder.nd rfl (Or.inr rfl))
            (fun _ _ _ _ _ => pts_one (pt_val (pe_callB (cr_allK K rfl rfl) (by rfl) B.all PyProof.Rows.boot_all (pa_cons
              (pe_lc (own := [("one", 6), ("other", 7)]) rfl scOrder.nd (pi_seqK K rfl (pv 1)) (blkOk_by (by kernel_rfl))
                (fun _ _ _ _ _ => pg_tupK K 2 rfl rfl (pgs_cons (pg_name (i := 6) scOrder.nd rfl (Or.inl rfl)) (pgs_cons (pg_name (i := 7) scOrder.nd rfl (Or.inl rfl)) pgs_nil)) rfl rfl)
                (fun _ _ _ _ _ => pts_one (pt_cmpR op_eq (pv 7) (pv 5) (nomark _)))
                (fun _ _ _ _ _ => pe_cmpR (op_inK K rfl) (pv 6) (pv 2) rfl)) pa_nil))))
            (fun _ _ _ _ _ => pv 5))
        (pss_cons (ps_expr (pe_bm PySem.F.plainAttrs_list PySem.F.slot_list_extend PySem.F.type_list_extend mt_extend (pv 2) (pa_cons (pe_slice sl_list (pv 4) po_none (po_some pe_int)) pa_nil)))
        (pss_one (ps_set (i := 3) scOrder.nd rfl (Or.inl rfl) (pe_cmpR op_gt (pe_callB call_len (by rfl) B.len PySem.boot_len (pa_cons (pv 4) pa_nil)) pe_int (nomark _))))))))
      (pss_one (ps_ret (pv 2))))), ?_⟩
    refine ⟨small (by decide), fun F hF => ?_⟩
    refine ⟨fun m σ H2 => ∃ (found : List Int) (b : Bool) (g4 : Option V), σ = [some (.int n), some (.ref t), some (.ref F), some (.bl b), g4, none, none, none] ∧ L2.Same H H2 ∧ H2 F = some (.lst (found.map V.int)) ∧ OInv n as m found b,
      ⟨2 * n + 1, [], true, none, rfl, same_new hF, upd_same, oinv_start n as⟩, ?_⟩
    rintro m σ H2 ⟨found, b, g4, rfl, s2, hF2, o⟩
    refine ⟨_, rfl, _, rfl, ?_⟩
    have hfl := oinv_len o
    cases b with
    | false =>
      refine iteF ?_
      have e := o.done rfl
      subst e
      exact ⟨_, rfl, k H2 F s2 hF hF2⟩
    | true =>
      obtain ⟨m', rfl⟩ := oinv_pos o
      refine iteT ⟨fun σ' H' => ∃ (found : List Int) (b : Bool) (g4 : Option V), σ' = [some (.int n), some (.ref t), some (.ref F), some (.bl b), g4, none, none, none] ∧ L2.Same H H' ∧ H' F = some (.lst (found.map V.int)) ∧ OInv n as m' found b, fun σ' H' w => ⟨m', Nat.lt_succ_self _, w⟩, ?_⟩
      -- good = [thing for thing in range(2 * columns) if thing not in found]
      refine ⟨_, rfl, _, _, rfl, rfl, .inl ⟨by decide, by decide⟩, _, rfl, by omega, by omega, fun D1 hD1 => ?_⟩
      refine lc_data (E := fun x (d : Int) => x = V.int d) (ds := rg (2 * n)) (f := fun t => if t ∈ found then none else some t) (R := fun _ y (z : Int) => y = V.int z) hD1
        (by rw [show (2 * (n : Int)).toNat = 2 * n by omega]; exact src_range (2 * n)) (rgV_pr _) (by rw [rgV_len]; exact small (by omega)) (fun _ _ _ _ _ h => h) ?_ ?_
      · rintro x d H3 Nx rfl s3 skip done
        refine ⟨rfl, _, rfl, _, rfl, F, _, rfl, .inl (SqL.of (s3 _ _ hF2)), rfl, flat_ints _, _, rfl, ?_⟩
        show if (!inV (.int d) (found.map V.int)) = true then _ else _
        rw [in_ints]
        by_cases hd : d ∈ found
        · rw [decide_eq_true hd]
          exact iteF (skip _ (if_pos hd) (L2.Same.refl _))
        · rw [decide_eq_false hd]
          exact iteT ⟨_, rfl, done _ _ _ (if_neg hd) (L2.Same.refl _) rfl⟩
      intro H3 ys s3 hy hp
      have e := pr_map hp
      subst e
      -- good = [thing for thing in good if all([..])]
      refine ⟨_, rfl, D1, rfl, ⟨_, SqL.of hy⟩, fun D2 hD2 => ?_⟩
      have g1 : (good1 n found).length ≤ 8 := Nat.le_trans (good1_len n found) (by omega)
      refine lc_data (E := fun x (d : Int) => x = V.int d) (ds := good1 n found) (f := fun t => if sees as found t = true then some t else none) (R := fun _ y (z : Int) => y = V.int z) hD2 (src_list (SqL.of hy)) (pr_ints _)
        (by rw [List.length_map]; exact small (Nat.le_trans g1 (by decide))) (fun _ _ _ _ _ h => h) ?_ ?_
      · rintro x d H4 Nx rfl s4 skip done
        have s24 := s3.trans s4
        have hF4 := s24 _ _ hF2
        have hx4 : SqL K H4 t xs ∨ SqT K H4 t xs := hx.imp (SqL.same (s2.trans s24)) (SqT.same (s2.trans s24))
        have hd4 : DpAll K H4 xs (as.map encP) := DpAll.same (s2.trans s24) hd
        have hxl : xs.length ≤ 1000 := by
          rw [dp_len hd, List.length_map]
          exact hl
        refine ⟨rfl, _, rfl, t, xs, rfl, hx4, fun J S D3 hD3 => ?_⟩
        refine lc_data (E := fun x a => Dp K H4 x (encP a)) (ds := as) (f := fun a => if a.2 = d then some (decide (a.1 ∈ found)) else none) (R := fun _ y (z : Bool) => y = V.bl z) hD3 S (dp_pr hd4) (small (Nat.le_trans hxl (by decide))) (fun _ _ _ _ _ h => h) ?_ ?_
        · rintro x a H5 Nx5 hxa s5 skip5 done5
          obtain ⟨c, rfl, hc⟩ := tup_ints (ns := [a.1, a.2]) hxa
          refine ⟨c, _, rfl, SqT.same s5 hc, rfl, _, _, rfl, _, _, rfl, rfl, rfl, _, rfl, _, rfl, rfl, _, rfl, ?_⟩
          by_cases e : a.2 = d
          · rw [show decide (V.int a.2 = V.int d) = true by simp [e]]
            refine iteT ⟨_, rfl, _, rfl, F, _, rfl, .inl (SqL.of (s5 _ _ hF4)), rfl, flat_ints _, ?_⟩
            show Puts D3 Nx5 H5 (.bl (inV (.int a.1) (found.map V.int)))
            rw [in_ints]
            exact done5 _ _ _ (if_pos e) (L2.Same.refl _) rfl
          · rw [show decide (V.int a.2 = V.int d) = false by simp [e]]
            exact iteF (skip5 _ (if_neg e) (L2.Same.refl _))
        · intro H5 ys5 s5 hy5 hp5
          have e := pr_map hp5
          subst e
          refine ⟨D3, _, rfl, SqL.of hy5, _, rfl, ?_⟩
          show if sees as found d = true then _ else _
          cases es : sees as found d with
          | false => exact iteF (skip _ (by rw [es]; rfl) s5)
          | true => exact iteT ⟨_, rfl, done _ _ _ (by rw [es]; rfl) s5 rfl⟩
      intro H4 ys s4 hy4 hp4
      have e := pr_map hp4
      subst e
      -- found.extend(good[:1])
      have hF4 := s4 _ _ (s3 _ _ hF2)
      have g2 : (good2 n as found).length ≤ 8 := Nat.le_trans (good2_len n as found) (by omega)
      refine ⟨_, rfl, .inl ⟨rfl, _, SqL.of hF4⟩, _, rfl, _, rfl, D2, _, rfl, SqL.of hy4, fun p hp => ?_⟩
      have hFp : F ≠ p := ne_of_none hF4 hp
      refine ⟨F, p, _, _, rfl, rfl, by rw [upd_ne hFp]; exact hF4, upd_same, ?_, ?_⟩
      · rw [cut1]
        refine small ?_
        rw [List.length_map, List.length_take]
        omega
      -- is_longer = len(good) > 0
      have hDp : D2 ≠ p := ne_of_none hy4 hp
      have hDF : D2 ≠ F := fun z => by
        rw [z] at hD2
        rw [s3 _ _ hF2] at hD2
        cases hD2
      refine ⟨_, rfl, _, (good2 n as found).length, rfl, .inl ⟨_, SqL.of (xs := (good2 n as found).map V.int) (by rw [upd_ne hDF, upd_ne hDp]; exact hy4), by rw [List.length_map]⟩, _, _, rfl, rfl, ?_⟩
      refine ⟨found ++ (good2 n as found).take 1, _, _, rfl, same_at (same_upd ((s2.trans s3).trans s4) hp) hF, ?_, oinv_turn o⟩
      rw [upd_same, cut1, List.map_append, List.map_take]
      rfl
end
end K49
set_option Elab.async false
set_option autoImplicit false
set_option maxRecDepth 100000
set_option maxHeartbeats 4000000
/-! the class Web, raw_web -/
namespace K49
open PySem L2
/-! ### data -/
theorem ca : ¬ (("columns" : Str) = "arrows") := by decide +kernel
/-- a Web's fields -/
def wf (n : Nat) (t : Addr) : List (Str × V) := putF "arrows" (.ref t) (putF "columns" (.int n) [])
theorem wf_cols (n : Nat) (t : Addr) : (wf n t).lookup ("columns" : Str) = some (.int n) := by
  unfold wf
  rw [lookup_putF, if_neg ca, lookup_putF, if_pos rfl]
theorem wf_arrs (n : Nat) (t : Addr) : (wf n t).lookup ("arrows" : Str) = some (.ref t) := by
  unfold wf
  rw [lookup_putF, if_pos rfl]
/-- a Web of n columns with the arrows as stands at p -/
def WebAt (K : PySem.W.Frag) (C : Addr) (H : Hp) (p : Addr) (n : Nat) (as : List Arr) : Prop := ∃ dx t, H p = some (.ins C dx (wf n t)) ∧ Dp K H (.ref t) (encA as)
theorem noL_A (as : List Arr) : noL (encA as) = true := by
  show noLs (as.map encP) = true
  exact noLs_map noL_P as
theorem WebAt.sameT {K : PySem.W.Frag} {C : Addr} {H H' : Hp} {p : Addr} {n : Nat} {as : List Arr} (s : SameT H H') (h : WebAt K C H p n as) : WebAt K C H' p n as := by
  obtain ⟨dx, t, h1, h2⟩ := h
  exact ⟨dx, t, s _ _ h1 (fun _ z => by cases z) (fun _ z => by cases z), Dp.sameT s _ _ (noL_A as) h2⟩
theorem lexLt_P (a b : Arr) : HT.lexLt [a.1, a.2] [b.1, b.2] = ltP a b := by
  unfold ltP
  show (if a.1 = b.1 then (if a.2 = b.2 then false else decide (a.2 < b.2)) else decide (a.1 < b.1)) = _
  by_cases h1 : a.1 = b.1
  · rw [if_pos h1, if_pos h1]
    by_cases h2 : a.2 = b.2
    · rw [if_pos h2, h2]
      simp
    · rw [if_neg h2]
  · rw [if_neg h1, if_neg h1]
theorem adj_at : ∀ {as : List Arr} {i : Nat} {a b : Arr}, adj as = true → as[i]? = some a → as[i + 1]? = some b → ltP a b = true
  | [], _, _, _, _, h, _ => by simp at h
  | [_], _, _, _, _, _, h => by simp at h
  | x :: y :: l, 0, a, b, h, h1, h2 => by
    simp at h1 h2
    subst h1 h2
    unfold adj at h
    exact (Bool.and_eq_true _ _ ▸ h).1
  | x :: y :: l, i + 1, a, b, h, h1, h2 => by
    unfold adj at h
    exact adj_at (i := i) (Bool.and_eq_true _ _ ▸ h).2 (by simpa using h1) (by simpa using h2)
theorem eqv_arrs : ∀ as bs : List Arr, PyData.eqvAll (as.map encP) (bs.map encP) = decide (as = bs)
  | [], [] => by simp [PyData.eqvAll]
  | [], b :: bs => by simp [PyData.eqvAll]
  | a :: as, [] => by simp [PyData.eqvAll]
  | a :: as, b :: bs => by
    show PyData.eqvAll (encP a :: as.map encP) (encP b :: bs.map encP) = _
    rw [PyData.eqvAll, eqv_P, eqv_arrs as bs]
    by_cases h1 : a = b <;> by_cases h2 : as = bs <;> simp [h1, h2]
theorem eqv_A (as bs : List Arr) : PyData.eqv (encA as) (encA bs) = decide (as = bs) := by
  show PyData.eqv (.tuple (as.map encP)) (.tuple (bs.map encP)) = _
  rw [PyData.eqv]
  exact eqv_arrs as bs
theorem eqv_web (n m : Nat) (as bs : List Arr) : PyData.eqv (.tuple [.int n, encA as]) (.tuple [.int m, encA bs]) = decide (n = m ∧ as = bs) := by
  rw [PyData.eqv, PyData.eqvAll, PyData.eqvAll, PyData.eqvAll, eqv_A, eqv_int]
  by_cases h1 : n = m
  · subst h1
    simp
  · have : ¬ (n : Int) = m := by omega
    simp [h1, this]
end K49
set_option Elab.async false
set_option autoImplicit false
set_option maxRecDepth 100000
set_option maxHeartbeats 4000000
/-! the class Web: __init__, __eq__ -/
namespace K49
open PySem L2
theorem lay_P : ∀ as : List Arr, PyData.canLayAll0 (as.map encP) = true
  | [] => by simp [PyData.canLayAll0]
  | a :: as => by
    show PyData.canLayAll0 (encP a :: as.map encP) = true
    simp [PyData.canLayAll0, PyData.canLay0, lay_P as]
theorem dep_P : ∀ as : List Arr, PyData.depthAll (as.map encP) ≤ 1
  | [] => by simp [PyData.depthAll]
  | a :: as => by
    show PyData.depthAll (encP a :: as.map encP) ≤ 1
    have := dep_P as
    simp [PyData.depthAll, PyData.depth]
    omega
theorem shaped_web (n : Nat) (as : List Arr) : SeqAt.shaped (.tuple [.int n, encA as]) = true := by
  have h1 := lay_P as
  have h2 := dep_P as
  unfold SeqAt.shaped
  simp [PyData.canLay0, PyData.canLayAll0, PyData.depth, PyData.depthAll, h1]
  omega
/-- what isinstance asks of it -/
structure IsiW (K : PySem.W.Frag) (C : Addr) : Prop where
  c : PySem.W.findIn K (.ref C) "__class__" = some (some (.builtin "object.__class__"))
  g : PySem.W.specialIn K (.builtin "object.__class__") "__get__" = some (some (.builtin "getset_descriptor.__get__"))
  t : PySem.W.takesIn K (.builtin "object.__class__") = some true
  m : PySem.W.mroIn K C (.type "object") = some true
theorem tyx_ins {K : PySem.W.Frag} {H : Hp} {a C dx : Addr} {fs : List (Str × V)} (h : H a = some (.ins C dx fs)) (c : Cls K C) (i : IsiW K C) : TyX K H (.ref a) (.ref C) := .base (.ins h c i.c i.g i.t i.m)
theorem kit_self {K : PySem.W.Frag} {C : Addr} : PySem.W.kitOne K (.ref C) (.ref C) = some true := by
  unfold PySem.W.kitOne
  rw [if_pos (by simp)]
/-- what the walks ask of the class -/
structure TxtW (K : PySem.W.Frag) (mg : Str → Option Value) (C fI fE : Addr) (fdI fdE : FuncData) : Prop where
  cl : Cls K C
  nC : NoAttr K C "columns"
  nA : NoAttr K C "arrows"
  mgC : mg "Web" = some (.ref C)
  mkW : Mk K C fI
  FI : Fun K "__init__" "Web.__init__" sWebI fI fdI
  bI : Binds K fdI ["self", "columns", "arrows"] []
  FE : Fun K "__eq__" "Web.__eq__" sWebE fE fdE
  bE : Binds K fdE ["self", "other"] []
  qE : PySem.W.findIn K (.ref C) "__eq__" = some (some (.ref fE))
  iE : PySem.W.isFn K (.ref fE) = true
  isi : IsiW K C
  m4 : ∃ t, mg "MOST_COLUMNS_webs" = some (.int 4 t)
def spWebI (K : PySem.W.Frag) (C : Addr) : Sp := fun vs H Q _ => ∃ (p dx : Addr) (n : Nat) (t : Addr) (xs : List V) (as : List Arr), vs = [.ref p, .int n, .ref t] ∧ 1 ≤ n ∧ n ≤ 4 ∧ H p = some (.ins C dx []) ∧ SqT K H t xs ∧ DpAll K H xs (as.map encP) ∧ webOk n as = true ∧ as.length ≤ 1000 ∧
  ∀ H', (∀ b o, H b = some o → b ≠ p → H' b = some o) → H' p = some (.ins C dx (wf n t)) → Q .non H'
def spWebE (K : PySem.W.Frag) (C : Addr) : Sp := fun vs H Q _ => ∃ (p q : Addr) (n m : Nat) (as bs : List Arr), vs = [.ref p, .ref q] ∧ WebAt K C H p n as ∧ WebAt K C H q m bs ∧ ∀ H', L2.Same H H' → Q (.bl (decide (n = m ∧ as = bs))) H'
section
variable {P : Program} {w : World} {K : PySem.W.Frag} {mg : Str → Option Value} {base : Heap}
theorem scWebI : FnScope ["self", "columns", "arrows", "at", "arrow"] ["self", "columns", "arrows"] (defScope sWebI) := ⟨rfl, rfl, rfl, by decide +kernel, rfl, by decide +kernel, by decide +kernel⟩
theorem scWebE : FnScope ["self", "other"] ["self", "other"] (defScope sWebE) := ⟨rfl, rfl, rfl, by decide +kernel, rfl, by decide +kernel, by decide +kernel⟩
set_option maxHeartbeats 16000000 in
theorem ok_webI {C fI fE : Addr} {fdI fdE : FuncData} (T : TxtW K mg C fI fE fdI fdE) (c1 : Cl P w K mg base 1 "order_by" (spOrder K)) (c2 : Cl P w K mg base 2 "is_within" spWithin) (c3 : Cl P w K mg base 3 "is_arrow" (spArrow K)) (B : Bl mg) :
    FnOk P w K mg base CX0 4 fI fdI ["self", "columns", "arrows"] (spWebI K C) := by
  refine T.FI.ok scWebI (fun vs H Q E h => ?_) (fun cdv A outer s H vs Q E hr h => ?_)
  · obtain ⟨p, dx, n, t, xs, as, rfl, _⟩ := h
    rfl
  · obtain ⟨p, dx, n, t, xs, as, rfl, hn1, hn, hp, ht, hd, hok, hl, k⟩ := h
    obtain ⟨t4, m4⟩ := T.m4
    refine ⟨_, pss_cons (ps_if (pt_not (pt_val (pc c2 hr (by decide) (by rfl) (pa_cons (pv 1) (pa_cons pe_int (pa_cons (pe_glob (v := .int 4) (by rfl) m4 ⟨_, rfl⟩) pa_nil)))))) (pss_one ps_never) pss_nil)
      (pss_cons (ps_if (pt_not (pt_val (pe_callB call_isi (by rfl) B.isi PyProof.Rows.boot_isinstance (pa_cons (pv 2) (pa_cons (pe_bltn (v := .ty "tuple") (by rfl) B.tuple PyProof.Rows.boot_tuple rfl) pa_nil))))) (pss_one ps_never) pss_nil)
      (pss_cons (ps_for PassesOwn.never rfl (pi_enumT (by rfl) B.enumerate (pa_cons (pv 2) pa_nil)) (pg_tup rfl (pgs_cons (pg_name (i := 3) scWebI.nd rfl (Or.inl rfl)) (pgs_cons (pg_name (i := 4) scWebI.nd rfl (Or.inl rfl)) pgs_nil)))
        (pss_one (ps_if (PW.pt (pw_or (pt_not (pt_val (pc c3 hr (by decide) (by rfl) (pa_cons (pv 1) (pa_cons (pv 4) pa_nil)))))
          (pw_or1 (PW.pt (pw_and (pt_cmpR op_gt (pv 3) pe_int (nomark _)) (pw_and1 (pt_not (pt_cmpR (op_ltT hr.units0) (pe_ix ix_tup (pv 2) (pe_op op_sub (pv 3) pe_int) (fun _ _ => rfl)) (pv 4) (nomark _)))))))))
          (pss_one ps_never) pss_nil)))
      (pss_cons (ps_if (pt_cmpR op_lt (pe_callB call_len (by rfl) B.len PySem.boot_len (pa_cons (pc c1 hr (by decide) (by rfl) (pa_cons (pv 1) (pa_cons (pv 2) pa_nil))) pa_nil)) (pe_op op_mul pe_int (pv 1)) (nomark _)) (pss_one ps_never) pss_nil)
      (pss_cons (ps_fld (pv 0) (pv 1) rfl) (pss_one (ps_fld (pv 0) (pv 2) rfl)))))), ?_⟩
    have hok' := hok
    unfold webOk at hok'
    rw [Bool.and_eq_true, Bool.and_eq_true, decide_eq_true_eq] at hok'
    obtain ⟨⟨ha, hadj⟩, hord⟩ := hok'
    refine ⟨_, rfl, n, 1, 4, rfl, _, rfl, ?_⟩
    rw [decide_eq_true (by omega)]
    refine iteF ?_
    refine ⟨_, rfl, _, _, _, _, _, rfl, .ty "tuple", tyx_tup ht, kit_ty (r := true) (by decide +kernel), _, rfl, iteF ?_⟩
    have hxl : xs.length = as.length := by rw [dp_len hd, List.length_map]
    refine ⟨_, rfl, t, xs, rfl, ht, for_enumT (K := K) (a := t) (xs := xs) (fun i σ H2 => ∃ g3 g4 : Option V, σ = [some (.ref p), some (.int n), some (.ref t), g3, g4] ∧ L2.Same H H2)
      ⟨none, none, rfl, L2.Same.refl _⟩ (fun i σ H2 _ ⟨_, _, _, s2⟩ => SqT.same s2 ht) ?_ ?_⟩
    · rintro i x T' σ H2 hi ⟨g3, g4, rfl, s2⟩ hT
      have hil : i < as.length := by
        have q := (List.getElem?_eq_some_iff.mp hi).1
        omega
      have hai : as[i]? = some (as[i]'hil) := List.getElem?_eq_getElem hil
      obtain ⟨c, rfl, hc⟩ := tup_ints (ns := [(as[i]'hil).1, (as[i]'hil).2]) (Dp.same (same_upd (o := .tup [.int (i : Nat), x]) s2 hT) (pr_get (dp_pr hd) hi hai))
      have s3 := same_upd (o := .tup [.int (i : Nat), V.ref c]) s2 hT
      refine ⟨T', _, rfl, SqT.of upd_same, rfl, _, _, rfl, _, _, rfl, rfl, ?_⟩
      refine ⟨_, rfl, _, rfl, n, c, _, rfl, by omega, hc, fun H4 s4 => ⟨_, rfl, ?_⟩⟩
      rw [List.all_eq_true.mp ha _ (List.getElem_mem hil)]
      refine iteF ?_
      refine ⟨_, rfl, _, _, rfl, rfl, _, rfl, ?_⟩
      cases i with
      | zero =>
        refine iteF ?_
        exact ⟨_, _, rfl, s3.trans s4⟩
      | succ i =>
        rw [decide_eq_true (by omega)]
        refine iteT ?_
        have hil0 : i < as.length := by omega
        have hai0 : as[i]? = some (as[i]'hil0) := List.getElem?_eq_getElem hil0
        have hxi : xs[i]? = some (xs[i]'(by omega)) := List.getElem?_eq_getElem (by omega)
        obtain ⟨c0, e0, hc0⟩ := tup_ints (ns := [(as[i]'hil0).1, (as[i]'hil0).2]) (Dp.same (s3.trans s4) (pr_get (dp_pr hd) hxi hai0))
        rw [e0] at hxi
        have ei : atI xs (((i + 1 : Nat) : Int) - 1) = some (.ref c0) := by
          have e1 : ((i + 1 : Nat) : Int) - 1 = (i : Int) := by omega
          rw [e1]
          exact atI_nat hxi
        refine ⟨_, rfl, _, rfl, _, _, rfl, rfl, t, xs, _, _, rfl, rfl, SqT.same (s3.trans s4) ht, ei, _, rfl, c0, c, [(as[i]'hil0).1, (as[i]'hil0).2], _, rfl, rfl, hc0, SqT.same s4 hc, _, rfl, ?_⟩
        rw [show HT.lexLt [(as[i]'hil0).1, (as[i]'hil0).2] [(as[i + 1]'hil).1, (as[i + 1]'hil).2] = true from (lexLt_P _ _).trans (adj_at hadj hai0 hai)]
        refine iteF ?_
        exact ⟨_, _, rfl, s3.trans s4⟩
    · rintro σ H2 ⟨g3, g4, rfl, s2⟩
      refine ⟨_, rfl, _, rfl, n, t, xs, as, rfl, hn, .inr (SqT.same s2 ht), DpAll.same s2 hd, hl, fun H3 q s3 hq hq3 => ?_⟩
      refine ⟨_, (orderBy n as).length, rfl, .inl ⟨_, SqL.of hq3, by rw [List.length_map]⟩, _, rfl, _, _, rfl, rfl, .inl ⟨by decide, by decide⟩, _, _, rfl, rfl, _, rfl, ?_⟩
      rw [decide_eq_false (by omega)]
      refine iteF ?_
      have hp3 := s3 _ _ (s2 _ _ hp)
      refine ⟨_, rfl, _, rfl, p, C, dx, [], rfl, hp3, T.cl, T.nC, (by show 0 < 1000; decide), _, rfl, _, rfl, p, C, dx, _, rfl, upd_same, T.cl, T.nA, (by show 1 < 1000; decide), ?_⟩
      refine k _ (fun b o e hb => ?_) upd_same
      rw [upd_ne hb, upd_ne hb]
      exact s3 _ _ (s2 _ _ e)
theorem ok_webE {C fI fE : Addr} {fdI fdE : FuncData} (T : TxtW K mg C fI fE fdI fdE) (B : Bl mg) : FnOk P w K mg base CX0 1 fE fdE ["self", "other"] (spWebE K C) := by
  refine T.FE.ok scWebE (fun vs H Q E h => ?_) (fun cdv A outer s H vs Q E hr h => ?_)
  · obtain ⟨p, q, n, m, as, bs, rfl, _⟩ := h
    rfl
  · obtain ⟨p, q, n, m, as, bs, rfl, ⟨dp, tp, hp, hpd⟩, ⟨dq, tq, hq, hqd⟩, k⟩ := h
    refine ⟨_, pss_one (ps_ret (pe_and (pe_callB call_isi (by rfl) B.isi PyProof.Rows.boot_isinstance (pa_cons (pv 1) (pa_cons (pe_glob (v := .ref C) (by rfl) T.mgC rfl) pa_nil)))
      (pe_one (pe_cmpR (op_eqD hr.units) (pe_tup (pa_cons (pe_fld (pv 0) rfl) (pa_cons (pe_fld (pv 0) rfl) pa_nil))) (pe_tup (pa_cons (pe_fld (pv 1) rfl) (pa_cons (pe_fld (pv 1) rfl) pa_nil))) (nomark _))))), ?_⟩
    refine ⟨_, rfl, _, _, _, _, _, rfl, .own C, tyx_ins hq T.cl T.isi, kit_self, _, rfl, iteT ?_⟩
    refine ⟨_, rfl, p, C, dp, _, _, rfl, hp, T.cl, T.nC, wf_cols _ _, _, rfl, p, C, dp, _, _, rfl, hp, T.cl, T.nA, wf_arrs _ _, (by show 2 ≤ sizeLine; decide), fun a ha => ?_⟩
    have hq1 := (same_new (o := .tup [.int (n : Int), V.ref tp]) ha) _ _ hq
    refine ⟨_, rfl, q, C, dq, _, _, rfl, hq1, T.cl, T.nC, wf_cols _ _, _, rfl, q, C, dq, _, _, rfl, hq1, T.cl, T.nA, wf_arrs _ _, (by show 2 ≤ sizeLine; decide), fun b hb => ?_⟩
    have s2 : L2.Same H (upd (upd H a (.tup [.int (n : Int), V.ref tp])) b (.tup [.int (m : Int), V.ref tq])) := same_upd (same_new ha) hb
    have hab : a ≠ b := fun z => by rw [z, upd_same] at hb; cases hb
    refine ⟨.tuple [.int n, encA as], .tuple [.int m, encA bs], .tup (SqT.of (xs := [.int (n : Int), V.ref tp]) (by rw [upd_ne hab]; exact upd_same)) (.cons (.int _) (.cons (Dp.same s2 hpd) .nil)), .tup (SqT.of (xs := [.int (m : Int), V.ref tq]) upd_same) (.cons (.int _) (.cons (Dp.same s2 hqd) .nil)), ?_⟩
    refine ⟨shaped_web _ _, shaped_web _ _, ?_⟩
    rw [eqv_web]
    exact k _ s2
end
end K49
set_option Elab.async false
set_option autoImplicit false
set_option maxRecDepth 100000
set_option maxHeartbeats 4000000
/-! raw_web, all_lots -/
namespace K49
open PySem PySem.W L2
def spRaw (K : PySem.W.Frag) (C : Addr) : Sp := fun vs H Q _ => ∃ (n : Nat) (a : Addr) (xs : List V) (as : List Arr), vs = [.int n, .ref a] ∧ 1 ≤ n ∧ n ≤ 4 ∧ SqL K H a xs ∧ DpAll K H xs (as.map encP) ∧ webOk n (sortP as) = true ∧ as.length ≤ 1000 ∧
  ∀ H' q, L2.Same H H' → H q = none → WebAt K C H' q n (sortP as) → Q (.ref q) H'
/-- where a def stands whose code is at c -/
structure DfC (K : PySem.W.Frag) (mg : Str → Option Value) (x : Str) (st : Stmt) (ps : List Str) (c : Addr) : Prop where
  ex : ∃ (f : Addr) (oc kV doc pm ct : Value) (od an : Option Addr) (osl : Array (Option Value)), List.lookup f K = some { cls := oc, dict := od, data := Data.func (PySem.W.fnOf x x (defArgs st) (defBody st) (defScope st) .none kV doc pm an (.ref c) ct), slots := osl } ∧
    PySem.W.codeIn K (.ref c) x = true ∧ PySem.W.keepIn K (.ref f) = true ∧ mg x = some (.ref f) ∧ Binds K (PySem.W.fnOf x x (defArgs st) (defBody st) (defScope st) .none kV doc pm an (.ref c) ct) ps []
section
variable {P : Program} {w : World} {K : PySem.W.Frag} {mg : Str → Option Value} {base : Heap}
theorem DfC.cl {x : Str} {st : Stmt} {N ps : List Str} {k : Nat} {sp : Sp} {c : Addr} (D : DfC K mg x st ps c) (S : FnScope N ps (defScope st)) (len : ∀ vs H Q E, sp vs H Q E → vs.length = ps.length)
    (hbody : ∀ (f : Addr) (A : Around) (outer : List Env) (s : Shared) (H : Hp) (vs : List V) (Q : VK) (E : XK), Room k (A.deeper (PyProof.Rows.envOfC x (defScope st) s.heap.objs.size f (.ref c))) → sp vs H Q E →
      ∃ t, PSs (cxOf CX0 P w K mg base N x (defScope st) f (.ref c) A outer s H E).nox (defBody st) t ∧ t { nx := fun _ H' => Q .non H', rt := Q } (start N vs) H) : Cl P w K mg base (k + 1) x sp := by
  obtain ⟨f, oc, kV, doc, pm, ct, od, an, osl, hl, hc, kp, m, b⟩ := D.ex
  refine ⟨f, _, ps, fn_of hl hc S len fun A outer s H vs Q E hr h => ?_, m, kp, b⟩
  obtain ⟨t, h1, h2⟩ := hbody f A outer s H vs Q E hr h
  exact ⟨t, h1.nox, h2⟩
theorem room_sort {A : Around} {k d : Nat} (hr : Room k A) (hd : d ≤ 60) : A.units + 2 + d < cLine := by
  have := hr.units
  omega
theorem scRaw : FnScope ["columns", "arrows"] ["columns", "arrows"] (defScope sRaw) := ⟨rfl, rfl, rfl, by decide +kernel, rfl, by decide +kernel, by decide +kernel⟩
theorem sortP_len (as : List Arr) : (sortP as).length = as.length := (List.mergeSort_perm _ _).length_eq
theorem alike_all_P (as : List Arr) : AllAlike (as.map encP) := AllAlike.of alike_P
theorem depth_P (a : Arr) : (encP a).depth ≤ 1 := by simp [PyData.depth, PyData.depthAll]
theorem cl_raw (F : Df K mg "raw_web" sRaw ["columns", "arrows"]) {C fI fE : Addr} {fdI fdE : FuncData} (T : TxtW K mg C fI fE fdI fdE) (GI : FnOk P w K mg base CX0 4 fI fdI ["self", "columns", "arrows"] (spWebI K C)) (B : Bl mg) : Cl P w K mg base 6 "raw_web" (spRaw K C) := by
  refine F.cl scRaw (fun vs H Q E h => ?_) (fun f cdv A outer s H vs Q E hr h => ?_)
  · obtain ⟨n, a, xs, as, rfl, _⟩ := h
    rfl
  · obtain ⟨n, a, xs, as, rfl, h1, h4, hs, hd, hok, hl, k⟩ := h
    refine ⟨_, pss_one (ps_ret (pe_make T.mkW GI (hr.mono (by decide)) (by rfl) T.mgC T.bI .nil pass0 (pa_cons (pv 0) (pa_cons (pe_tupleOf (by rfl) B.tuple (pe_callB (cr_sortedD (enc := encP) (d := 1) (room_sort hr (by decide))) (by rfl) B.sorted PyProof.Rows.boot_sorted (pa_cons (pv 1) pa_nil))) pa_nil)))), ?_⟩
    refine ⟨_, rfl, _, rfl, a, xs, as, rfl, hs, hd, alike_all_P as, Sortable.tuples fun _ => ⟨_, _, rfl⟩, fun b _ => depth_P b, fun ys p dy ly hp => ?_⟩
    refine .inl ⟨p, ys, rfl, SqL.of upd_same, fun q hq => ?_⟩
    have s1 : L2.Same H (upd H p (.lst ys)) := same_new hp
    have s2 : L2.Same (upd H p (.lst ys)) (upd (upd H p (.lst ys)) q (.tup ys)) := same_new hq
    intro x dx hx hdx ne
    have s3 : L2.Same (upd (upd H p (.lst ys)) q (.tup ys)) (upd (upd (upd (upd H p (.lst ys)) q (.tup ys)) dx (.own x)) x (.ins C dx [])) := same_upd (same_new hdx) (by rw [upd_ne ne.symm]; exact hx)
    have eq := s3 _ _ (upd_same (a := q) (o := HO.tup ys))
    refine ⟨x, dx, n, q, ys, sortP as, rfl, h1, h4, upd_same, SqT.of eq, DpAll.same ((s1.trans s2).trans s3) dy, hok, by rw [sortP_len]; exact hl, fun H' kp hx' => ⟨rfl, ?_⟩⟩
    have hxq : ∀ b o, H b = some o → b ≠ x := fun b o e => ne_of_none ((s1.trans s2) _ _ e) hx
    refine k H' x (fun b o e => kp _ _ (((s1.trans s2).trans s3) _ _ e) (hxq b o e)) ?_ ⟨dx, q, hx', ?_⟩
    · cases e : H x with
      | none => rfl
      | some o => exact absurd rfl (hxq x o e)
    · have s4 : ∀ b o, (upd (upd H p (.lst ys)) q (.tup ys)) b = some o → H' b = some o := fun b o e => kp _ _ (s3 _ _ e) (ne_of_none e hx)
      exact .tup (SqT.of (s4 _ _ upd_same)) (DpAll.same (s1.trans (s2.trans s4)) dy)
end
end K49
set_option Elab.async false
set_option autoImplicit false
set_option maxRecDepth 100000
set_option maxHeartbeats 4000000
/-! all_lots -/
namespace K49
open PySem PySem.W L2
/-- at p stands nothing that is known, but maybe a table -/
def NewN (H : Hp) (p : Addr) : Prop := ∀ o, H p = some o → ∃ ps, o = .tbl ps
theorem newN_of {H H2 : Hp} {p : Addr} (e : LamX.ExtN H H2) (h : H2 p = none) : NewN H p := fun o ho => Classical.byContradiction fun n => by
  have := e _ _ ho fun ps z => n ⟨ps, z⟩
  rw [h] at this
  cases this
theorem newN_none {H : Hp} {p : Addr} (h : H p = none) : NewN H p := fun o ho => by
  rw [h] at ho
  cases ho
theorem NewN.ne {H : Hp} {p b : Addr} {o : HO} (n : NewN H p) (h : H b = some o) (hn : ∀ ps, o ≠ .tbl ps) : b ≠ p := fun e => by
  rw [e] at h
  obtain ⟨ps, z⟩ := n _ h
  exact hn ps z
theorem NewN.back {H H2 : Hp} {p : Addr} (e : LamX.ExtN H H2) (n : NewN H2 p) : NewN H p := fun o ho => Classical.byContradiction fun z => by
  obtain ⟨ps, q⟩ := n _ (e _ _ ho fun ps z' => z ⟨ps, z'⟩)
  exact z ⟨ps, q⟩
theorem extN_trans {H H1 H2 : Hp} (s : LamX.ExtN H H1) (t : LamX.ExtN H1 H2) : LamX.ExtN H H2 := fun b o e n => t _ _ (s _ _ e n) n
theorem extN_upd {H H1 : Hp} {p : Addr} {o : HO} (s : LamX.ExtN H H1) (n : NewN H p) : LamX.ExtN H (upd H1 p o) := fun b u e m => by
  rw [upd_ne (n.ne e m)]
  exact s _ _ e m
theorem tabs_lst {T : List (Addr × Str)} {H : Hp} {p : Addr} {xs : List V} {o : HO} (h : H p = some (.lst xs)) (t : LamX.Tabs T H) : LamX.Tabs T (upd H p o) := fun q hq => by
  obtain ⟨ps, h1, h2, h3⟩ := t q hq
  refine ⟨ps, by rw [upd_ne (ne_of h1 h (by intro z; cases z))]; exact h1, h2, fun pos cv e => ?_⟩
  obtain ⟨c, e1, e2⟩ := h3 pos cv e
  exact ⟨c, e1, by rw [upd_ne (ne_of e2 h (by intro z; cases z))]; exact e2⟩
theorem filterMap_some {α β : Type} (f : α → β) : ∀ l : List α, l.filterMap (fun d => some (f d)) = l.map f
  | [] => rfl
  | x :: l => by
    show f x :: l.filterMap (fun d => some (f d)) = f x :: l.map f
    rw [filterMap_some f l]
theorem pr_mem {α β : Type} {F : α → β → Prop} : ∀ {l : List α} {m : List β}, Paired F l m → Paired (fun x y => F x y ∧ y ∈ m) l m
  | _, _, .nil => .nil
  | _, _, .cons r t => .cons ⟨r, List.mem_cons_self⟩ (Paired.mapP (pr_mem t) fun _ _ h => ⟨h.1, List.mem_cons_of_mem _ h.2⟩)
theorem op_catAK {X : Cx} (K : PySem.W.Frag) (h : X.K = K) : OpR X (binaryOp .Add) (rCatA K) := by subst h; exact op_catA
theorem rg_succ (n : Nat) : rg (n + 1) = rg n ++ [(n : Int)] := by
  unfold rg
  rw [List.range_succ, List.map_append]
  rfl
theorem lots_snoc {α : Type} (l : List α) (x : α) : lotsOf (l ++ [x]) = lotsOf l ++ (lotsOf l).map fun y => y ++ [x] := by
  unfold lotsOf
  rw [List.foldl_append]
  rfl
theorem lots_len {α : Type} (l : List α) : (lotsOf l).length = 2 ^ l.length := by
  suffices h : ∀ (l : List α) (acc : List (List α)), (l.foldl (fun acc x => acc ++ acc.map fun y => y ++ [x]) acc).length = acc.length * 2 ^ l.length by
    unfold lotsOf
    rw [h]
    simp
  intro l
  induction l with
  | nil => simp
  | cons x l ih =>
    intro acc
    rw [List.foldl_cons, ih, List.length_append, List.length_map, List.length_cons, Nat.pow_succ, ← Nat.two_mul]
    rw [Nat.mul_comm 2, Nat.mul_assoc, Nat.mul_comm 2]
theorem lots_max {α : Type} {m : Nat} (l : List α) : ∀ acc : List (List α), (∀ y ∈ acc, y.length ≤ m) → ∀ y ∈ l.foldl (fun acc x => acc ++ acc.map fun y => y ++ [x]) acc, y.length ≤ m + l.length := by
  induction l generalizing m with
  | nil => exact fun acc h => h
  | cons x l ih =>
    intro acc h y hy
    rw [List.foldl_cons] at hy
    have := ih (m := m + 1) _ (fun z hz => ?_) y hy
    · rw [List.length_cons]
      omega
    · rcases List.mem_append.mp hz with q | q
      · have := h z q
        omega
      · obtain ⟨u, hu, rfl⟩ := List.mem_map.mp q
        have := h u hu
        rw [List.length_append, List.length_singleton]
        omega
theorem lots_mem_len {α : Type} {l : List α} {y : List α} (h : y ∈ lotsOf l) : y.length ≤ l.length := by
  have := lots_max (m := 0) l [[]] (fun y hy => by rw [List.mem_singleton.mp hy]; exact Nat.le_refl _) y h
  omega
def lamQ : Str := "all_lots.<locals>.<lambda>"
def spLots (K : PySem.W.Frag) (Pt : Addr) : Sp := fun vs H Q _ => ∃ n : Nat, vs = [.int n] ∧ n ≤ 10 ∧ LamX.Tabs [(Pt, lamQ)] H ∧
  ∀ H' p ys, LamX.ExtN H H' → LamX.Tabs [(Pt, lamQ)] H' → NewN H p → H' p = some (.lst ys) → DpAll K H' ys ((allLots n).map encInt) → Q (.ref p) H'
theorem tabs_same {T : List (Addr × Str)} {H H' : Hp} (s : L2.Same H H') (t : LamX.Tabs T H) : LamX.Tabs T H' := fun p hp => by
  obtain ⟨ps, h1, h2, h3⟩ := t p hp
  exact ⟨ps, s _ _ h1, h2, fun pos cv e => by
    obtain ⟨c, e1, e2⟩ := h3 pos cv e
    exact ⟨c, e1, s _ _ e2⟩⟩
theorem cat_tup {K : PySem.W.Frag} {H : Hp} {a b : Addr} {xs : List V} {y : V} {ds : List PyData} {e : PyData} {Q : VK} (ha : SqT K H a xs) (hd : DpAll K H xs ds) (hb : SqT K H b [y]) (he : Dp K H y e) (hl : xs.length ≤ 1000)
    (k : ∀ H' q, L2.Same H H' → Dp K H' (.ref q) (.tuple (ds ++ [e])) → Q (.ref q) H') : rCatA K (.ref a) (.ref b) H Q := by
  refine ⟨a, b, xs, [y], rfl, rfl, ha, hb, small (by show xs.length + 1 ≤ 1000000; omega), fun e1 => ?_, fun _ z => absurd z (by simp), fun _ _ p hp => ?_⟩
  · subst e1
    cases hd
    exact k H b (L2.Same.refl _) (.tup hb (.cons he .nil))
  · have s := same_new (o := .tup (xs ++ [y])) hp
    exact k _ p s (.tup (SqT.of upd_same) (dp_append (DpAll.same s hd) (.cons (Dp.same s he) .nil)))
section
variable {P : Program} {w : World} {K : PySem.W.Frag} {mg : Str → Option Value} {base : Heap}
theorem scLots : FnScope ["many", "found", "number", "lot"] ["many"] (defScope sLots) := ⟨rfl, rfl, rfl, by decide +kernel, rfl, by decide +kernel, by decide +kernel⟩
theorem tup_int {H : Hp} {v : V} {l : List Int} (h : Dp K H v (encInt l)) : ∃ a, v = .ref a ∧ SqT K H a (l.map V.int) := tup_ints h
theorem cl_lots {c Pt : Addr} (F : DfC K mg "all_lots" sLots ["many"] c) (TB : LamX.TabB base mg c Pt) (B : Bl mg) : Cl P w K mg base 4 "all_lots" (spLots K Pt) := by
  refine F.cl scLots (fun vs H Q E h => ?_) (fun f A outer s H vs Q E hr h => ?_)
  · obtain ⟨n, rfl, _⟩ := h
    rfl
  · obtain ⟨n, rfl, hn, hT, k⟩ := h
    refine ⟨_, pss_cons (ps_set (i := 1) scLots.nd rfl (Or.inl rfl) (pe_lst (pa_cons (pe_tup pa_nil) pa_nil)))
      (pss_cons (ps_for PassesOwn.never rfl (pi_range1 (by rfl) B.range (pa_cons (pv 0) pa_nil)) (pg_name (i := 2) scLots.nd rfl (Or.inr rfl))
        (pss_one (ps_set (i := 1) scLots.nd rfl (Or.inl rfl) (pe_op op_cat (pv 1)
          (pe_lc (own := [("lot", 3)]) (g := gName 3) (tt := tYes) rfl scLots.nd (pi_list (pv 1)) (blkOk_by (by kernel_rfl))
            (fun _ _ _ _ _ => pg_name (i := 3) scLots.nd rfl (Or.inl rfl)) (fun _ _ _ _ _ => pts_nil)
            (fun _ _ _ _ _ => pe_op (op_catAK K rfl) (pv 3) (pe_tup (pa_cons (pv 2) pa_nil))))))))
      (pss_one (ps_ret (pe_sortedLam (by rfl) B.sorted B.len (pa_cons (pv 1) pa_nil) TB rfl (T := [(Pt, lamQ)]) (by exact List.mem_singleton.mpr rfl) (fun p hp _ => by rw [List.mem_singleton.mp hp]; rfl)
        ⟨rfl, rfl, rfl, by decide +kernel, rfl, rfl, by decide +kernel⟩ rfl (fun _ _ _ _ => rfl) rfl hr)))), ?_⟩
    refine ⟨by decide, fun t ht => ⟨small (by show 1 ≤ 1000000; decide), fun l hl => ?_⟩⟩
    have s1 := same_upd (o := .lst [V.ref t]) (same_new (o := .tup []) ht) hl
    have hHl : H l = none := by
      by_cases e : l = t
      · rw [e]
        exact ht
      · rw [upd_ne e] at hl
        exact hl
    have htl : t ≠ l := fun e => by
      rw [← e, upd_same] at hl
      cases hl
    refine ⟨_, rfl, _, rfl, by omega, by omega, ?_⟩
    refine for_range (lo := 0) (n := n) (fun i σ H2 => ∃ (Fa : Addr) (xs : List V) (g2 : Option V), σ = [some (.int n), some (.ref Fa), g2, none] ∧ L2.Same H H2 ∧ H Fa = none ∧ H2 Fa = some (.lst xs) ∧ DpAll K H2 xs ((lotsOf (rg i)).map encInt))
      ⟨l, [.ref t], none, rfl, s1, hHl, upd_same, ?_⟩ ?_ ?_
    · exact .cons (.tup (SqT.of (xs := []) (by rw [upd_ne htl]; exact upd_same)) .nil) .nil
    · rintro i σ H2 hi ⟨Fa, xs, g2, rfl, s2, hFa, hx, hd⟩
      have hlen : xs.length ≤ 512 := by
        rw [dp_len hd, List.length_map, lots_len]
        have e : (rg i).length = i := by unfold rg; simp
        rw [e]
        exact Nat.pow_le_pow_right (by decide) (show i ≤ 9 by omega)
      refine ⟨_, rfl, _, rfl, Fa, rfl, ⟨xs, SqL.of hx⟩, fun D hD => ?_⟩
      have hs2 := SqL.of (K := K) hx
      refine lc_data (E := fun x (d : List Int) => Dp K H2 x (encInt d) ∧ d ∈ lotsOf (rg i)) (ds := lotsOf (rg i)) (f := fun d => some (d ++ [(i : Int)])) (R := fun H y (d : List Int) => Dp K H y (encInt d)) hD (src_list hs2) (pr_mem (dp_pr hd))
        (small (by omega)) (fun H3 H4 y z s r => Dp.sameT s _ _ (by show noLs (z.map .int) = true; exact noLs_map (fun _ => rfl) z) r) ?_ ?_
      · rintro x d H3 Nx ⟨hxd, hdl⟩ s3 skip done
        obtain ⟨a, rfl, ha⟩ := tup_int (Dp.same s3 hxd)
        refine ⟨rfl, ?_⟩
        refine ⟨_, rfl, _, rfl, by show 1 ≤ sizeLine; decide, fun b hb => ?_⟩
        have s4 := same_new (o := .tup [V.int (0 + (i : Int))]) hb
        refine cat_tup (SqT.same s4 ha) (ints_dp d) (SqT.of (xs := [V.int (0 + (i : Int))]) upd_same) (.int (0 + (i : Int))) ?_ fun H5 q s5 hq => done H5 _ _ rfl (s4.trans s5) ?_
        · have := lots_mem_len hdl
          have e : (rg i).length = i := by unfold rg; simp
          rw [List.length_map]
          omega
        · rw [show (d.map PyData.int ++ [PyData.int (0 + (i : Int))]) = (d ++ [(i : Int)]).map .int by simp] at hq
          exact hq
      · intro H3 ys s3 hy hp
        have ef : (lotsOf (rg i)).filterMap (fun d => some (d ++ [(i : Int)])) = (lotsOf (rg i)).map fun d => d ++ [(i : Int)] := filterMap_some _ _
        rw [ef] at hp
        have hyl : ys.length = (lotsOf (rg i)).length := by
          rw [pr_len hp, List.length_map]
        have hxl : xs.length = (lotsOf (rg i)).length := by rw [dp_len hd, List.length_map]
        refine ⟨Fa, D, xs, ys, rfl, rfl, s3 _ _ hx, hy, small (by omega), fun p hp' => ?_⟩
        have s4 := same_new (o := .lst (xs ++ ys)) hp'
        have s5 := s2.trans (s3.trans s4)
        refine ⟨p, xs ++ ys, _, rfl, s5, (s2.trans s3).free hp', upd_same, ?_⟩
        rw [rg_succ, lots_snoc, List.map_append]
        have hd2 := DpAll.same (s3.trans s4) hd
        refine dp_append hd2 (DpAll.same s4 ?_)
        exact pr_dp hp
    · rintro σ H2 ⟨Fa, xs, g2, rfl, s2, hFa, hx, hd⟩
      refine ⟨_, rfl, Fa, xs, lotsOf (rg n), rfl, SqL.of hx, hd, fun y hy => small ?_, tabs_same s2 hT, fun H4 ys p e4 t4 hp hd4 hl4 => ?_⟩
      · have := lots_mem_len hy
        have e : (rg n).length = n := by unfold rg; simp
        omega
      · have s4 := same_new (o := .lst ys) hp
        have eN : LamX.ExtN H H4 := fun b o e n => e4 _ _ (s2 _ _ e) n
        exact k _ p ys (fun b o e n => s4 _ _ (eN b o e n)) (tabs_same s4 t4) (newN_of eN hp) upd_same (DpAll.same s4 hd4)
end
end K49
set_option Elab.async false
set_option autoImplicit false
set_option maxRecDepth 100000
set_option maxHeartbeats 4000000
/-! webs_of, all_webs -/
namespace K49
open PySem PySem.W L2
theorem lots_mem {α : Type} {l : List α} : ∀ y ∈ lotsOf l, ∀ x ∈ y, x ∈ l := by
  suffices h : ∀ (l0 l : List α) (acc : List (List α)), (∀ y ∈ acc, ∀ x ∈ y, x ∈ l0) → ∀ y ∈ l.foldl (fun acc x => acc ++ acc.map fun y => y ++ [x]) acc, ∀ x ∈ y, x ∈ l0 ∨ x ∈ l from
    fun y hy x hx => (h [] l [[]] (fun y hy x hx => by rw [List.mem_singleton.mp hy] at hx; cases hx) y hy x hx).elim (fun z => by cases z) id
  intro l0 l
  induction l generalizing l0 with
  | nil => exact fun acc h y hy x hx => .inl (h y hy x hx)
  | cons a l ih =>
    intro acc h y hy x hx
    rw [List.foldl_cons] at hy
    have h2 : ∀ z ∈ acc ++ acc.map (fun y => y ++ [a]), ∀ u ∈ z, u ∈ a :: l0 := fun z hz u hu => by
      rcases List.mem_append.mp hz with q | q
      · exact List.mem_cons_of_mem _ (h z q u hu)
      · obtain ⟨z', hz', rfl⟩ := List.mem_map.mp q
        rcases List.mem_append.mp hu with r | r
        · exact List.mem_cons_of_mem _ (h z' hz' u r)
        · rw [List.mem_singleton.mp r]
          exact List.mem_cons_self
    rcases ih (a :: l0) _ h2 y hy x hx with q | q
    · rcases List.mem_cons.mp q with e | e
      · exact .inr (by rw [e]; exact List.mem_cons_self)
      · exact .inl e
    · exact .inr (List.mem_cons_of_mem _ q)
theorem allLots_perm (k : Nat) : (allLots k).Perm (lotsOf (rg k)) := List.mergeSort_perm _ _
theorem allLots_len (k : Nat) : (allLots k).length = 2 ^ k := by
  have e : (rg k).length = k := by unfold rg; simp
  rw [(allLots_perm k).length_eq, lots_len, e]
theorem allLots_mem {k : Nat} {l : List Int} (h : l ∈ allLots k) : l.length ≤ k ∧ ∀ x ∈ l, 0 ≤ x ∧ x < (k : Int) := by
  have h1 := (allLots_perm k).mem_iff.mp h
  refine ⟨?_, fun x hx => mem_rg.mp (lots_mem l h1 x hx)⟩
  have := lots_mem_len h1
  have e : (rg k).length = k := by unfold rg; simp
  omega
def rowA (n : Nat) (x : Int) (j : Nat) : List Arr := (rg j).filterMap fun y => if isArr n (x, y) = true then some (x, y) else none
def preA (n i : Nat) : List Arr := (rg i).flatMap fun x => rowA n x (2 * n)
theorem rowA_succ (n : Nat) (x : Int) (j : Nat) : rowA n x (j + 1) = rowA n x j ++ if isArr n (x, (j : Int)) = true then [(x, (j : Int))] else [] := by
  unfold rowA
  rw [rg_succ, List.filterMap_append]
  congr 1
  by_cases h : isArr n (x, (j : Int)) = true
  · simp [h]
  · simp [h]
theorem preA_succ (n i : Nat) : preA n (i + 1) = preA n i ++ rowA n (i : Int) (2 * n) := by
  unfold preA
  rw [rg_succ, List.flatMap_append]
  simp
/-- what a lot of numbers gives -/
def webF (n : Nat) (lot : List Int) : Option (List Arr) := if (orderBy n (pick (arrowsOf n) lot)).length = 2 * n then some (sortP (pick (arrowsOf n) lot)) else none
theorem webF_ok {n : Nat} (hn : n = 1 ∨ n = 2) {lot : List Int} (hl : lot ∈ allLots (arrowsOf n).length) (ho : (orderBy n (pick (arrowsOf n) lot)).length = 2 * n) : webOk n (sortP (pick (arrowsOf n) lot)) = true := by
  have h1 : sortP (pick (arrowsOf n) lot) ∈ websOf n := List.mem_filterMap.mpr ⟨lot, hl, if_pos ho⟩
  rw [webs_is hn] at h1
  exact List.all_eq_true.mp (webs_ok hn) _ h1
/-- all but the list at p -/
def But (p : Addr) (H H' : Hp) : Prop := ∀ b o, H b = some o → b ≠ p → H' b = some o
section
variable {K : PySem.W.Frag} {H H1 H2 : Hp} {p a : Addr} {xs : List V}
theorem But.refl (p : Addr) (H : Hp) : But p H H := fun _ _ e _ => e
theorem But.same (s : But p H H1) (t : L2.Same H1 H2) : But p H H2 := fun b o e n => t _ _ (s _ _ e n)
theorem But.trans (s : But p H H1) (t : But p H1 H2) : But p H H2 := fun b o e n => t _ _ (s _ _ e n) n
theorem But.upd (s : But p H H1) (o : HO) : But p H (upd H1 p o) := fun b u e n => by
  rw [upd_ne n]
  exact s _ _ e n
theorem But.sameT (s : But p H H1) (h : H p = some (.lst xs)) : SameT H H1 := fun b o e n _ => s _ _ e (ne_of e h (n xs))
theorem But.seqL {ys : List V} (s : But p H H1) (h : SqL K H a ys) (n : a ≠ p) : SqL K H1 a ys := by
  rcases h with (h | ⟨o, h⟩) | h
  · exact .inl (.inl (s _ _ h n))
  · exact .inl (.inr ⟨o, s _ _ h n⟩)
  · exact .inr h
theorem But.tabs {T : List (Addr × Str)} (s : But p H H1) (h : H p = some (.lst xs)) (t : LamX.Tabs T H) : LamX.Tabs T H1 := fun q hq => by
  obtain ⟨ps, h1, h2, h3⟩ := t q hq
  refine ⟨ps, s _ _ h1 (ne_of h1 h (by intro z; cases z)), h2, fun pos cv e => ?_⟩
  obtain ⟨c, e1, e2⟩ := h3 pos cv e
  exact ⟨c, e1, s _ _ e2 (ne_of e2 h (by intro z; cases z))⟩
end
/-- the webs of a list -/
def WebsAt (K : PySem.W.Frag) (C : Addr) (n : Nat) (H : Hp) (ws : List V) (ls : List (List Arr)) : Prop := Paired (fun w as => ∃ q, w = V.ref q ∧ WebAt K C H q n as) ws ls
theorem WebsAt.sameT {K : PySem.W.Frag} {C : Addr} {n : Nat} {H H' : Hp} {ws : List V} {ls : List (List Arr)} (s : SameT H H') (h : WebsAt K C n H ws ls) : WebsAt K C n H' ws ls :=
  pr_mono h fun _ _ ⟨q, e, r⟩ => ⟨q, e, r.sameT s⟩
def spWebsOf (K : PySem.W.Frag) (C Pt : Addr) : Sp := fun vs H Q _ => ∃ n : Nat, vs = [.int n] ∧ (n = 1 ∨ n = 2) ∧ LamX.Tabs [(Pt, lamQ)] H ∧
  ∀ H' p ws, LamX.ExtN H H' → LamX.Tabs [(Pt, lamQ)] H' → NewN H p → H' p = some (.lst ws) → WebsAt K C n H' ws (WL n) → Q (.ref p) H'
section
variable {P : Program} {w : World} {K : PySem.W.Frag} {mg : Str → Option Value} {base : Heap}
theorem scWebsOf : FnScope ["columns", "ends", "arrows", "found", "lot", "some", "one", "other", "at"] ["columns"] (defScope sWebsOf) := ⟨rfl, rfl, rfl, by decide +kernel, rfl, by decide +kernel, by decide +kernel⟩
set_option maxHeartbeats 16000000 in
theorem cl_websOf {C Pt : Addr} (F : Df K mg "webs_of" sWebsOf ["columns"]) (c1 : Cl P w K mg base 1 "order_by" (spOrder K)) (c3 : Cl P w K mg base 3 "is_arrow" (spArrow K)) (c4 : Cl P w K mg base 4 "all_lots" (spLots K Pt)) (c6 : Cl P w K mg base 6 "raw_web" (spRaw K C)) (B : Bl mg) :
    Cl P w K mg base 7 "webs_of" (spWebsOf K C Pt) := by
  refine F.cl scWebsOf (fun vs H Q E h => ?_) (fun f cdv A outer s H vs Q E hr h => ?_)
  · obtain ⟨n, rfl, _⟩ := h
    rfl
  · obtain ⟨n, rfl, hn, hT, k⟩ := h
    have hn4 : 1 ≤ n ∧ n ≤ 2 := by rcases hn with rfl | rfl <;> decide
    refine ⟨_, pss_cons (ps_set (i := 1) scWebsOf.nd rfl (Or.inr rfl) (pe_callTy cr_range1 (by rfl) B.range PyProof.Rows.boot_range (pa_cons (pe_op op_mul pe_int (pv 0)) pa_nil)))
      (pss_cons (ps_set (i := 2) scWebsOf.nd rfl (Or.inr rfl) (pe_lc2 (own := [("one", 6), ("other", 7)]) (vs1 := [7]) (g := gName 6) (tt := tYes) (g1 := gName 7) rfl scWebsOf.nd (pi_rngV (pv 1)) (blkOk_by (by kernel_rfl)) (by decide)
          (fun _ _ _ _ _ => pg_name (i := 6) scWebsOf.nd rfl (Or.inl rfl)) (fun _ _ _ _ _ => pts_nil) (fun _ _ _ _ _ => pi_rngV (pv 1)) (fun _ _ _ _ _ => pg_name (i := 7) scWebsOf.nd rfl (Or.inl rfl))
          (fun _ _ _ _ _ => pts_one (pt_val (pc c3 hr (by decide) (by rfl) (pa_cons (pv 0) (pa_cons (pe_tup (pa_cons (pv 6) (pa_cons (pv 7) pa_nil))) pa_nil)))))
          (fun _ _ _ _ _ => pe_tup (pa_cons (pv 6) (pa_cons (pv 7) pa_nil)))))
      (pss_cons (ps_set (i := 3) scWebsOf.nd rfl (Or.inl rfl) (pe_lst pa_nil))
      (pss_cons (ps_for PassesOwn.never rfl (pi_list (pc c4 hr (by decide) (by rfl) (pa_cons (pe_callB call_len (by rfl) B.len PySem.boot_len (pa_cons (pv 2) pa_nil)) pa_nil))) (pg_name (i := 4) scWebsOf.nd rfl (Or.inl rfl))
        (pss_cons (ps_setLc (i := 5) (own := [("at", 8)]) (g := gName 8) (tt := tYes) rfl scWebsOf.nd rfl rfl (sw_true rfl rfl rfl (by decide +kernel)) (pi_tup (pv 4)) (blkOk_by (by kernel_rfl))
            (fun _ _ _ _ _ => pg_name (i := 8) scWebsOf.nd rfl (Or.inl rfl)) (fun _ _ _ _ _ => pts_nil) (fun _ _ _ _ _ => pe_ix (ix_listK K rfl) (pv 2) (pv 8) (fun _ _ => rfl)))
        (pss_one (ps_if (pt_cmpR op_eq (pe_callB call_len (by rfl) B.len PySem.boot_len (pa_cons (pc c1 hr (by decide) (by rfl) (pa_cons (pv 0) (pa_cons (pv 5) pa_nil))) pa_nil)) (pe_op op_mul pe_int (pv 0)) (nomark _))
          (pss_one (ps_expr (pe_bm PySem.F.plainAttrs_list PySem.F.slot_list_append PySem.F.type_list_append mt_append (pv 3) (pa_cons (pc c6 hr (by decide) (by rfl) (pa_cons (pv 0) (pa_cons (pv 5) pa_nil))) pa_nil)))) pss_nil))))
      (pss_one (ps_ret (pv 3)))))), ?_⟩
    refine ⟨_, rfl, _, _, rfl, rfl, .inl ⟨by decide, by decide⟩, _, rfl, fun r hr1 => ?_⟩
    refine ⟨_, rfl, r, _, _, rfl, upd_same, by decide, by decide, by omega, by omega, ?_⟩
    rw [show ((2 * (n : Int)) - 0).toNat = 2 * n by omega]
    have s1 := same_new (o := .rng 0 (2 * (n : Int))) hr1
    have er : (upd H r (.rng 0 (2 * (n : Int)))) r = some (.rng 0 (2 * (n : Int))) := upd_same
    generalize upd H r (.rng 0 (2 * (n : Int))) = H1 at s1 er ⊢
    intro D hD
    refine ⟨fun i m H2 => m = 2 * n - i ∧ i ≤ 2 * n ∧ L2.Same H1 H2 ∧ ∃ ys, H2 D = some (.lst ys) ∧ DpAll K H2 ys ((preA n i).map encP) ∧ ys.length ≤ 8 * i,
      ⟨2 * n, by simp, Nat.zero_le _, same_new hD, [], upd_same, .nil, Nat.le_refl _⟩, ?_⟩
    rintro i m H2 ⟨rfl, hi, s2, ys, hy, hd, hl⟩
    by_cases hlt : i < 2 * n
    · refine .inr ⟨hlt, fun H' => i + 1 ≤ 2 * n ∧ L2.Same H1 H' ∧ ∃ ys, H' D = some (.lst ys) ∧ DpAll K H' ys ((preA n (i + 1)).map encP) ∧ ys.length ≤ 8 * (i + 1), fun H' p => ⟨2 * n - (i + 1), by omega, rfl, p⟩, ?_⟩
      rintro x H3 ⟨rfl, rfl⟩
      rw [Int.zero_add]
      refine ⟨rfl, ?_⟩
      refine ⟨_, rfl, r, _, _, rfl, s2 _ _ er, by decide, by decide, by omega, by omega, ?_⟩
      rw [show ((2 * (n : Int)) - 0).toNat = 2 * n by omega]
      refine ⟨fun j m H3 => m = 2 * n - j ∧ j ≤ 2 * n ∧ L2.Same H1 H3 ∧ ∃ ys, H3 D = some (.lst ys) ∧ DpAll K H3 ys ((preA n i ++ rowA n (i : Int) j).map encP) ∧ ys.length ≤ 8 * i + j,
        ⟨2 * n, by simp, Nat.zero_le _, s2, ys, hy, ?_, hl⟩, ?_⟩
      · show DpAll K H3 ys ((preA n i ++ []).map encP)
        rw [List.append_nil]
        exact hd
      rintro j m H4 ⟨rfl, hj, s4, ys4, hy4, hd4, hl4⟩
      by_cases hltj : j < 2 * n
      · refine .inr ⟨hltj, fun H' => j + 1 ≤ 2 * n ∧ L2.Same H1 H' ∧ ∃ ys, H' D = some (.lst ys) ∧ DpAll K H' ys ((preA n i ++ rowA n (i : Int) (j + 1)).map encP) ∧ ys.length ≤ 8 * i + (j + 1), fun H' p => ⟨2 * n - (j + 1), by omega, rfl, p⟩, ?_⟩
        rintro x H5 ⟨rfl, rfl⟩
        rw [Int.zero_add]
        refine ⟨rfl, ?_⟩
        refine ⟨_, rfl, _, rfl, _, rfl, by show 2 ≤ sizeLine; decide, fun t ht => ?_⟩
        refine ⟨n, t, ((i : Int), (j : Int)), rfl, by omega, SqT.of upd_same, fun H6 s6 => ⟨_, rfl, ?_⟩⟩
        have s56 := (same_new (o := .tup [V.int (i : Int), V.int (j : Int)]) ht).trans s6
        rw [rowA_succ]
        cases e : isArr n ((i : Int), (j : Int)) with
        | false =>
          refine iteF ⟨hltj, s4.trans s56, ys4, s56 _ _ hy4, ?_, by omega⟩
          rw [if_neg (by simp), List.append_nil]
          exact DpAll.same s56 hd4
        | true =>
          refine iteT ?_
          refine ⟨_, rfl, _, rfl, by show 2 ≤ sizeLine; decide, fun u hu => ?_⟩
          have s57 := s56.trans (same_new (o := .tup [V.int (i : Int), V.int (j : Int)]) hu)
          have hy7 := s57 _ _ hy4
          refine ⟨ys4, hy7, Nat.lt_of_lt_of_le (show ys4.length < 1000 by omega) (small (by decide)), hltj, same_at (s4.trans s57) hD, _, upd_same, ?_, by rw [List.length_append]; simp; omega⟩
          rw [if_pos rfl, ← List.append_assoc, List.map_append]
          have t7 := (sameT_of s57).trans (sameT_lst (o := .lst (ys4 ++ [V.ref u])) hy7)
          refine dp_append (DpAll.sameT t7 _ _ (noLs_map noL_P _) hd4) (.cons (.tup (SqT.of (xs := [V.int (i : Int), V.int (j : Int)]) ?_) (.cons (.int _) (.cons (.int _) .nil))) .nil)
          rw [upd_ne (ne_of (upd_same (a := u) (H := H6) (o := .tup [V.int (i : Int), V.int (j : Int)])) hy7 (by intro z; cases z))]
          exact upd_same
      · have ej : j = 2 * n := by omega
        subst ej
        refine .inl ⟨Nat.le_refl _, hlt, s4, ys4, hy4, ?_, by omega⟩
        rw [preA_succ]
        exact hd4
    have ei : i = 2 * n := by omega
    subst ei
    refine .inl ⟨Nat.le_refl _, ?_⟩
    have hda : DpAll K H2 ys ((arrowsOf n).map encP) := hd
    have hal := arrows_len hn
    have hyl : ys.length = (arrowsOf n).length := by rw [dp_len hda, List.length_map]
    refine ⟨small (by decide), fun Fd hFd => ?_⟩
    have s3 := same_new (o := .lst ([] : List V)) hFd
    refine ⟨_, rfl, _, ys.length, rfl, .inl ⟨ys, SqL.of (s3 _ _ hy), rfl⟩, (arrowsOf n).length, by rw [hyl]; rfl, by omega, tabs_same ((s1.trans s2).trans s3) hT, fun H4 p ls e4 t4 np hp hdl => ?_⟩
    have hFd4 : H4 Fd = some (.lst []) := e4 _ _ upd_same (fun ps z => by cases z)
    have hD4 : H4 D = some (.lst ys) := e4 _ _ (s3 _ _ hy) (fun ps z => by cases z)
    have hda4 : DpAll K H4 ys ((arrowsOf n).map encP) := DpAll.extN e4 _ _ (DpAll.same s3 hda)
    have npF : Fd ≠ p := np.ne upd_same (fun ps z => by cases z)
    have nDF : D ≠ Fd := ne_of_none hy hFd
    have hHF : H Fd = none := (s1.trans s2).free hFd
    have eH4 : LamX.ExtN H H4 := fun b o e m => e4 _ _ (((s1.trans s2).trans s3) _ _ e) m
    refine ⟨p, rfl, ⟨ls, SqL.of hp⟩, for_list (K := K) (a := p) (xs := ls) (fun i σ H5 => ∃ (ws : List V) (g4 g5 : Option V), σ = [some (.int n), some (.ref r), some (.ref D), some (.ref Fd), g4, g5, none, none, none] ∧ But Fd H4 H5 ∧ H5 Fd = some (.lst ws) ∧ ws.length ≤ i ∧ WebsAt K C n H5 ws (((allLots (arrowsOf n).length).take i).filterMap (webF n)))
      ⟨[], none, none, rfl, But.refl _ _, hFd4, Nat.le_refl _, .nil⟩ (fun i σ H5 _ ⟨_, _, _, _, b5, _⟩ => b5.seqL (SqL.of hp) npF.symm) ?_ ?_⟩
    · rintro i x σ H5 hi ⟨ws, g4, g5, rfl, b5, hF5, hl5, hw⟩
      have hlen : ls.length = (allLots (arrowsOf n).length).length := by rw [dp_len hdl, List.length_map]
      have hil : i < (allLots (arrowsOf n).length).length := by
        have q := (List.getElem?_eq_some_iff.mp hi).1
        omega
      have hli : (allLots (arrowsOf n).length)[i]? = some ((allLots (arrowsOf n).length)[i]'hil) := List.getElem?_eq_getElem hil
      have hmem := List.getElem_mem hil
      generalize (allLots (arrowsOf n).length)[i]'hil = lot at hli hmem
      have hlot := allLots_mem hmem
      have hi256 : i < 256 := by
        have q : (2 : Nat) ^ (arrowsOf n).length ≤ 2 ^ 8 := Nat.pow_le_pow_right (by decide) hal
        rw [allLots_len] at hil
        omega
      have t5 : SameT H4 H5 := b5.sameT hFd4
      obtain ⟨tl, rfl, htl⟩ := tup_int (Dp.sameT t5 _ _ (by show noLs (lot.map .int) = true; exact noLs_map (fun _ => rfl) lot) (pr_get (dp_pr hdl) hi hli))
      have hD5 : H5 D = some (.lst ys) := b5 _ _ hD4 nDF
      have hda5 : DpAll K H5 ys ((arrowsOf n).map encP) := DpAll.sameT t5 _ _ (noLs_map noL_P _) hda4
      have hlotl : lot.length ≤ 8 := Nat.le_trans hlot.1 hal
      -- some = [arrows[at] for at in lot]
      refine ⟨_, rfl, tl, rfl, ⟨_, htl⟩, fun D1 hD1 => ?_⟩
      refine lc_data (E := fun x (d : Int) => x = V.int d ∧ d ∈ lot) (ds := lot) (f := fun d => some ((arrowsOf n).getD d.toNat (0, 0))) (R := fun H y (a : Arr) => Dp K H y (encP a)) hD1 (src_tup htl) (pr_mem (pr_ints lot)) (small (by rw [List.length_map]; omega))
        (fun H3 H4 y z s r => Dp.sameT s _ _ (noL_P z) r) ?_ ?_
      · rintro x d H6 Nx ⟨rfl, hdm⟩ s6 skip done
        have hdr := hlot.2 d hdm
        have hdn : d.toNat < (arrowsOf n).length := by omega
        have hai : (arrowsOf n)[d.toNat]? = some ((arrowsOf n).getD d.toNat (0, 0)) := by
          rw [List.getElem?_eq_getElem hdn, List.getD_eq_getElem?_getD, List.getElem?_eq_getElem hdn]
          rfl
        obtain ⟨y0, hyi⟩ : ∃ y0, ys[d.toNat]? = some y0 := ⟨_, List.getElem?_eq_getElem (by omega)⟩
        have hat : atI ys d = some y0 := by
          have e1 : d = (d.toNat : Int) := by omega
          rw [e1]
          exact atI_nat hyi
        refine ⟨rfl, _, rfl, _, rfl, D, ys, d, _, rfl, rfl, SqL.of (s6 _ _ hD5), hat, ?_⟩
        exact done _ _ _ rfl (L2.Same.refl _) (pr_get (dp_pr (DpAll.same s6 hda5)) hyi hai)
      · intro H6 zs s6 hz hpz
        have ef : lot.filterMap (fun d => some ((arrowsOf n).getD d.toNat (0, 0))) = pick (arrowsOf n) lot := filterMap_some _ _
        rw [ef] at hpz
        have hzd := pr_dp hpz
        have hpl : (pick (arrowsOf n) lot).length ≤ 1000 := by
          unfold pick
          rw [List.length_map]
          omega
        refine ⟨_, rfl, _, rfl, n, D1, zs, _, rfl, by omega, .inl (SqL.of hz), hzd, hpl, fun H7 q s7 hq hq7 => ?_⟩
        refine ⟨_, (orderBy n (pick (arrowsOf n) lot)).length, rfl, .inl ⟨_, SqL.of hq7, by rw [List.length_map]⟩, _, rfl, _, _, rfl, rfl, .inl ⟨by decide, by decide⟩, rfl, _, rfl, ?_⟩
        have s57 := s6.trans s7
        have et : ((allLots (arrowsOf n).length).take (i + 1)).filterMap (webF n) = ((allLots (arrowsOf n).length).take i).filterMap (webF n) ++ [lot].filterMap (webF n) := by
          rw [List.take_add_one, hli, List.filterMap_append]
          rfl
        have b7 : But Fd H4 H7 := b5.same s57
        by_cases ho : (orderBy n (pick (arrowsOf n) lot)).length = 2 * n
        · have ew : [lot].filterMap (webF n) = [sortP (pick (arrowsOf n) lot)] := by
            unfold webF
            simp [ho]
          rw [decide_eq_true (by rw [ho]; simp)]
          refine iteT ?_
          refine ⟨_, rfl, .inl ⟨rfl, _, SqL.of (s57 _ _ hF5)⟩, _, rfl, _, rfl, n, D1, zs, _, rfl, hn4.1, by omega, SqL.of (s7 _ _ hz), DpAll.same s7 hzd, webF_ok hn hmem ho, hpl, fun H8 q8 s8 hq8 hw8 => ?_⟩
          have hF8 := (s57.trans s8) _ _ hF5
          refine ⟨Fd, ws, _, rfl, rfl, hF8, Nat.lt_of_lt_of_le (show ws.length < 1000 by omega) (small (by decide)), ?_⟩
          refine ⟨ws ++ [.ref q8], _, _, rfl, (b7.same s8).upd _, upd_same, by rw [List.length_append]; simp; omega, ?_⟩
          rw [et, ew]
          have t9 : SameT H8 (upd H8 Fd (.lst (ws ++ [V.ref q8]))) := sameT_lst hF8
          exact pr_snoc (hw.sameT ((sameT_of (s57.trans s8)).trans t9)) ⟨q8, rfl, hw8.sameT t9⟩
        · have ew : [lot].filterMap (webF n) = [] := by
            unfold webF
            simp [ho]
          rw [decide_eq_false (by intro z; apply ho; have := V.int.inj z; omega)]
          refine iteF ?_
          refine ⟨ws, _, _, rfl, b7, s57 _ _ hF5, by omega, ?_⟩
          rw [et, ew, List.append_nil]
          exact hw.sameT (sameT_of s57)
    · rintro σ H5 ⟨ws, g4, g5, rfl, b5, hF5, hl5, hw⟩
      have hlen : ls.length = (allLots (arrowsOf n).length).length := by rw [dp_len hdl, List.length_map]
      rw [hlen, List.take_length] at hw
      have e5 : LamX.ExtN H H5 := fun b o e m => b5 _ _ (eH4 _ _ e m) (ne_of_none e hHF)
      refine ⟨_, rfl, k H5 Fd ws e5 (b5.tabs hFd4 t4) (newN_none hHF) hF5 ?_⟩
      rw [← webs_is hn]
      exact hw
end
end K49
set_option Elab.async false
set_option autoImplicit false
set_option maxRecDepth 100000
set_option maxHeartbeats 4000000
/-! all_webs, _law_hand, _law_draw, _law_some, _law_shuffled -/
namespace K49
open PySem PySem.W L2
/-- a statement's reading cut by what holds behind it -/
def tCutS (t : TS) : TS := fun D σ H => ∃ I : L2.St → Hp → Prop, t { nx := I, rt := D.rt, bk := D.bk, ct := D.ct } σ H ∧ ∀ σ' H', I σ' H' → D.nx σ' H'
theorem ps_cut {X : Cx} {st : Stmt} {t : TS} (h : PS X st t) : PS X st (tCutS t) := by
  refine ⟨fun pins s σ H D I ⟨J, h1, h2⟩ => ?_⟩
  refine wpAny_mono (h.run pins s σ H _ I h1) (fun r s' q => ?_) fun _ _ z => z
  cases r with
  | next =>
    obtain ⟨σ', H', I', q⟩ := q
    exact ⟨σ', H', I', h2 _ _ q⟩
  | brk => exact q
  | cont => exact q
  | ret u => exact q
theorem cut_all (xs : List V) (h : xs.length ≤ 63) : cutV xs none (some 63) = xs := by
  simp [cutV, HT.sIx]
  rw [Nat.min_eq_right h, List.take_length]
theorem zb {x : Int} {m : Int} (h : 0 ≤ x.fmod m ∧ x.fmod m < m) (hm : m ≤ 2147483648) : -2 ^ 64 < x.fmod m ∧ x.fmod m < 2 ^ 64 := by
  omega
theorem at_ints {cs : List Int} {i : Int} (h0 : 0 ≤ i) (h1 : i < (cs.length : Int)) : ∃ d, d ∈ cs ∧ atI (cs.map V.int) i = some (.int d) := by
  have hn : i.toNat < cs.length := by omega
  refine ⟨cs[i.toNat], List.getElem_mem hn, ?_⟩
  have e1 : i = (i.toNat : Int) := by omega
  have e2 : (cs.map V.int)[i.toNat]? = some (.int cs[i.toNat]) := by
    rw [List.getElem?_map, List.getElem?_eq_getElem hn]
    rfl
  generalize cs[i.toNat] = d at e2
  rw [e1]
  exact atI_nat e2
theorem fmod_in (x : Int) {m : Int} (h : 0 < m) : 0 ≤ x.fmod m ∧ x.fmod m < m := by
  rw [Int.fmod_eq_emod_of_nonneg _ (Int.le_of_lt h)]
  exact ⟨Int.emod_nonneg _ (by omega), Int.emod_lt_of_pos _ h⟩
/-- the hand at h: cells, where it stands, three numbers -/
def HandV (H : Hp) (h c : Addr) : Prop := ∃ pos big st cnt : Int, H h = some (.lst [.ref c, .int pos, .int big, .int st, .int cnt]) ∧ 0 ≤ pos
structure HandAt (K : PySem.W.Frag) (H : Hp) (h c : Addr) : Prop where
  v : HandV H h c
  cs : ∃ cs : List Int, SqL K H c (cs.map V.int) ∧ cs.length ≤ 63
  ne : c ≠ h
theorem HandAt.of {K : PySem.W.Frag} {H H' : Hp} {h c : Addr} (x : HandAt K H h c) (b : But h H H') (v : HandV H' h c) : HandAt K H' h c := by
  obtain ⟨cs, hc, hl⟩ := x.cs
  exact ⟨v, ⟨cs, b.seqL hc x.ne, hl⟩, x.ne⟩
theorem HandV.same {H H' : Hp} {h c : Addr} (x : HandV H h c) (s : L2.Same H H') : HandV H' h c := by
  obtain ⟨pos, big, st, cnt, e, r⟩ := x
  exact ⟨pos, big, st, cnt, s _ _ e, r⟩
theorem HandV.upd {H : Hp} {h c p : Addr} {o : HO} (x : HandV H h c) (n : h ≠ p) : HandV (L2.upd H p o) h c := by
  obtain ⟨pos, big, st, cnt, e, r⟩ := x
  exact ⟨pos, big, st, cnt, by rw [upd_ne n]; exact e, r⟩
def spHand (K : PySem.W.Frag) : Sp := fun vs H Q _ => ∃ (a : Addr) (ns : List Int), vs = [.ref a] ∧ SqL K H a (ns.map V.int) ∧ ns.length ≤ 63 ∧ ∀ H' h c, L2.Same H H' → H h = none → HandAt K H' h c → Q (.ref h) H'
def spDraw (K : PySem.W.Frag) : Sp := fun vs H Q _ => ∃ (h c : Addr) (m : Int), vs = [.ref h, .int m] ∧ HandAt K H h c ∧ 0 < m ∧ m ≤ 1000 ∧ ∀ H' r, 0 ≤ r → r < m → But h H H' → HandAt K H' h c → Q (.int r) H'
section
variable {P : Program} {w : World} {K : PySem.W.Frag} {mg : Str → Option Value} {base : Heap}
theorem scAll : FnScope ["columns"] ["columns"] (defScope sAll) := ⟨rfl, rfl, rfl, by decide +kernel, rfl, by decide +kernel, by decide +kernel⟩
theorem cl_all {C Pt : Addr} (F : Df K mg "all_webs" sAll ["columns"]) (m2 : ∃ t, mg "MOST_COLUMNS_couldbe" = some (.int 2 t)) (c2 : Cl P w K mg base 2 "is_within" spWithin) (c7 : Cl P w K mg base 7 "webs_of" (spWebsOf K C Pt)) : Cl P w K mg base 8 "all_webs" (spWebsOf K C Pt) := by
  refine F.cl scAll (fun vs H Q E h => ?_) (fun f cdv A outer s H vs Q E hr h => ?_)
  · obtain ⟨n, rfl, _⟩ := h
    rfl
  · obtain ⟨n, rfl, hn, hT, k⟩ := h
    obtain ⟨t2, m2⟩ := m2
    have hn4 : 1 ≤ n ∧ n ≤ 2 := by rcases hn with rfl | rfl <;> decide
    refine ⟨_, pss_cons (ps_if (pt_not (pt_val (pc c2 hr (by decide) (by rfl) (pa_cons (pv 0) (pa_cons pe_int (pa_cons (pe_glob (v := .int 2) (by rfl) m2 ⟨_, rfl⟩) pa_nil)))))) (pss_one ps_never) pss_nil)
      (pss_one (ps_ret (pc c7 hr (by decide) (by rfl) (pa_cons (pv 0) pa_nil)))), ?_⟩
    refine ⟨_, rfl, n, 1, 2, rfl, _, rfl, ?_⟩
    rw [decide_eq_true (by omega)]
    refine iteF ?_
    exact ⟨_, rfl, n, rfl, hn, hT, k⟩
theorem scHand : FnScope ["_law_script", "_law_cells", "_law_cell"] ["_law_script"] (defScope sHand) := ⟨rfl, rfl, rfl, by decide +kernel, rfl, by decide +kernel, by decide +kernel⟩
theorem cl_hand (F : Df K mg "_law_hand" sHand ["_law_script"]) (B : Bl mg) : Cl P w K mg base 1 "_law_hand" (spHand K) := by
  refine F.cl scHand (fun vs H Q E h => ?_) (fun f cdv A outer s H vs Q E hr h => ?_)
  · obtain ⟨a, ns, rfl, _⟩ := h
    rfl
  · obtain ⟨a, ns, rfl, hs, hl, k⟩ := h
    refine ⟨_, pss_cons (ps_setLc (i := 1) (own := [("_law_cell", 2)]) (g := gName 2) (tt := tYes) rfl scHand.nd rfl rfl (sw_true rfl rfl rfl (by decide +kernel)) (pi_list (pe_slice sl_list (pv 0) po_none (po_some pe_int))) (blkOk_by (by kernel_rfl))
            (fun _ _ _ _ _ => pg_name (i := 2) scHand.nd rfl (Or.inl rfl)) (fun _ _ _ _ _ => pts_nil)
            (fun _ _ _ _ _ => pe_callB call_abs (by rfl) B.abs PyProof.Rows.boot_abs (pa_cons (pe_callTy call_int1 (by rfl) B.int PyProof.Rows.boot_int (pa_cons (pv 2) pa_nil)) pa_nil)))
      (pss_one (ps_ret (pe_lst (pa_cons (pv 1) (pa_cons pe_int (pa_cons pe_int (pa_cons (pe_op op_add pe_int (pe_callB call_len (by rfl) B.len PySem.boot_len (pa_cons (pv 1) pa_nil))) (pa_cons pe_int pa_nil)))))))), ?_⟩
    refine ⟨_, rfl, _, rfl, a, _, rfl, hs, fun p hp => ?_⟩
    have ecut : cutV (ns.map V.int) none (some 63) = ns.map V.int := cut_all _ (by rw [List.length_map]; exact hl)
    rw [ecut]
    refine ⟨p, rfl, ⟨_, SqL.of upd_same⟩, fun D hD => ?_⟩
    have s1 := same_new (o := .lst (ns.map V.int)) hp
    refine lc_data (E := fun x (d : Int) => x = V.int d) (ds := ns) (f := fun d => some (if d < 0 then -d else d)) (R := fun _ y (d : Int) => y = V.int d) hD (src_list (SqL.of upd_same)) (pr_ints ns) (small (by rw [List.length_map]; omega)) (fun _ _ _ _ _ r => r) ?_ ?_
    · rintro x d H6 Nx rfl s6 skip done
      refine ⟨rfl, ?_⟩
      exact ⟨_, rfl, .inl ⟨_, rfl, _, rfl, done _ _ _ rfl (L2.Same.refl _) rfl⟩⟩
    · intro H6 ys s6 hy hpz
      have e := pr_map hpz
      subst e
      refine ⟨_, rfl, _, rfl, _, _, rfl, .inl ⟨_, SqL.of hy, rfl⟩, _, _, rfl, rfl, by show 5 ≤ sizeLine; decide, fun l hl' => ?_⟩
      have s7 := same_new (o := .lst [V.ref D, .int 0, .int 0, .int (1 + ((ns.filterMap fun d => some (if d < 0 then -d else d)).map V.int).length), .int 0]) hl'
      refine k _ l D ((s1.trans s6).trans s7) ((s1.trans s6).free hl') ⟨⟨0, 0, _, 0, upd_same, Int.le_refl _⟩, ⟨_, SqL.same s7 (SqL.of hy), ?_⟩, ne_of_none hy hl'⟩
      rw [filterMap_some, List.length_map]
      exact hl
theorem scDraw : FnScope ["_law_hand_here", "_law_many", "_law_cell", "_law_digit", "_law_number"] ["_law_hand_here", "_law_many"] (defScope sDraw) := ⟨rfl, rfl, rfl, by decide +kernel, rfl, by decide +kernel, by decide +kernel⟩
set_option maxHeartbeats 16000000 in
theorem cl_draw (F : Df K mg "_law_draw" sDraw ["_law_hand_here", "_law_many"]) (B : Bl mg) : Cl P w K mg base 1 "_law_draw" (spDraw K) := by
  refine F.cl scDraw (fun vs H Q E h => ?_) (fun f cdv A outer s H vs Q E hr h => ?_)
  · obtain ⟨h, c, m, rfl, _⟩ := h
    rfl
  · obtain ⟨h, c, m, rfl, hx, hm, hm2, k⟩ := h
    obtain ⟨⟨pos, big, st, cnt, hh, hpos⟩, ⟨cs, hc, hcl⟩, hch⟩ := id hx
    refine ⟨_, pss_cons (ps_cut (ps_if (PW.pt (pw_and (pt_cmpR op_eq (pe_ix ix_list (pv 0) pe_int (fun _ _ => rfl)) pe_int (nomark _)) (pw_and1 (pt_cmpR op_lt (pe_ix ix_list (pv 0) pe_int (fun _ _ => rfl)) (pe_callB call_len (by rfl) B.len PySem.boot_len (pa_cons (pe_ix ix_list (pv 0) pe_int (fun _ _ => rfl)) pa_nil)) (nomark _)))))
        (pss_cons (ps_set (i := 2) scDraw.nd rfl (Or.inl rfl) (pe_ix ix_list (pe_ix ix_list (pv 0) pe_int (fun _ _ => rfl)) (pe_ix ix_list (pv 0) pe_int (fun _ _ => rfl)) (fun _ _ => rfl)))
        (pss_cons (ps_asg (pe_op op_add (pe_ix ix_list (pv 0) pe_int (fun _ _ => rfl)) pe_int) (pg_sub (pv 0) pe_int set_list))
        (pss_cons (ps_asg (pe_op op_modN (pe_callTy call_int1 (by rfl) B.int PyProof.Rows.boot_int (pa_cons (pe_op op_add (pe_op op_add (pe_op op_mul (pe_ix ix_list (pv 0) pe_int (fun _ _ => rfl)) pe_int) (pv 2)) pe_int) pa_nil)) pe_int) (pg_sub (pv 0) pe_int set_list))
        (pss_one (ps_if (pt_cmpR op_ge (pv 2) (pe_op op_pow pe_int pe_int) (nomark _)) (pss_one (ps_asg (pv 2) (pg_sub (pv 0) pe_int set_list))) pss_nil))))) pss_nil))
      (pss_cons (ps_if (pt_cmpR op_gt (pe_ix ix_list (pv 0) pe_int (fun _ _ => rfl)) pe_int (nomark _))
        (pss_cons (ps_set (i := 3) scDraw.nd rfl (Or.inl rfl) (pe_op op_modN (pe_callTy call_int1 (by rfl) B.int PyProof.Rows.boot_int (pa_cons (pe_ix ix_list (pv 0) pe_int (fun _ _ => rfl)) pa_nil)) (pv 1)))
        (pss_cons (ps_asg (pe_op op_fdivN (pe_ix ix_list (pv 0) pe_int (fun _ _ => rfl)) (pv 1)) (pg_sub (pv 0) pe_int set_list))
        (pss_one (ps_ret (pv 3))))) pss_nil)
      (pss_cons (ps_asg (pe_op op_add (pe_ix ix_list (pv 0) pe_int (fun _ _ => rfl)) pe_int) (pg_sub (pv 0) pe_int set_list))
      (pss_cons (ps_set (i := 4) scDraw.nd rfl (Or.inl rfl) (pe_op op_modN (pe_callTy call_int1 (by rfl) B.int PyProof.Rows.boot_int (pa_cons (pe_op op_mul (pe_callTy call_int1 (by rfl) B.int PyProof.Rows.boot_int (pa_cons (pe_op op_add (pe_ix ix_list (pv 0) pe_int (fun _ _ => rfl)) (pe_op op_mul pe_int (pe_ix ix_list (pv 0) pe_int (fun _ _ => rfl)))) pa_nil)) pe_int) pa_nil)) pe_int))
      (pss_cons (ps_set (i := 4) scDraw.nd rfl (Or.inl rfl) (pe_op op_modN (pe_callTy call_int1 (by rfl) B.int PyProof.Rows.boot_int (pa_cons (pe_op op_mul (pv 4) (pe_op op_add (pe_op op_fdivN (pv 4) pe_int) pe_int)) pa_nil)) pe_int))
      (pss_cons (ps_set (i := 4) scDraw.nd rfl (Or.inl rfl) (pe_op op_modN (pe_callTy call_int1 (by rfl) B.int PyProof.Rows.boot_int (pa_cons (pe_op op_mul (pv 4) (pe_op op_add (pe_op op_fdivN (pv 4) pe_int) pe_int)) pa_nil)) pe_int))
      (pss_one (ps_ret (pe_op op_modN (pe_callTy call_int1 (by rfl) B.int PyProof.Rows.boot_int (pa_cons (pe_op op_fdivN (pv 4) pe_int) pa_nil)) (pv 1))))))))), ?_⟩
    refine ⟨fun σ H' => ∃ (pos big st cnt : Int) (g2 : Option V), σ = [some (.ref h), some (.int m), g2, none, none] ∧ But h H H' ∧ H' h = some (.lst [.ref c, .int pos, .int big, .int st, .int cnt]) ∧ 0 ≤ pos, ?_, ?_⟩
    · refine ⟨_, rfl, h, _, _, _, rfl, rfl, SqL.of hh, rfl, rfl, _, rfl, ?_⟩
      by_cases hb : big = 0
      · rw [decide_eq_true (by rw [hb])]
        refine iteT ?_
        refine ⟨_, rfl, h, _, _, _, rfl, rfl, SqL.of hh, rfl, _, rfl, h, _, _, _, rfl, rfl, SqL.of hh, rfl, _, _, rfl, .inl ⟨_, hc, rfl⟩, _, _, rfl, rfl, _, rfl, ?_⟩
        by_cases hp : pos < (cs.length : Int)
        · rw [decide_eq_true (by rw [List.length_map]; exact hp)]
          refine iteT ?_
          obtain ⟨cell, _, hat⟩ := at_ints hpos hp
          refine ⟨_, rfl, h, _, _, _, rfl, rfl, SqL.of hh, rfl, _, rfl, h, _, _, _, rfl, rfl, SqL.of hh, rfl, c, _, pos, _, rfl, rfl, hc, hat, ?_⟩
          refine ⟨_, rfl, h, _, _, _, rfl, rfl, SqL.of hh, rfl, _, _, rfl, rfl, _, rfl, h, _, _, _, rfl, rfl, hh, rfl, ?_⟩
          have h1 : (upd H h (.lst [.ref c, .int (pos + 1), .int big, .int st, .int cnt])) h = some (.lst [.ref c, .int (pos + 1), .int big, .int st, .int cnt]) := upd_same
          have b1 : But h H (upd H h (.lst [.ref c, .int (pos + 1), .int big, .int st, .int cnt])) := (But.refl h H).upd _
          refine ⟨_, rfl, h, _, _, _, rfl, rfl, SqL.of h1, rfl, _, _, rfl, rfl, .inr ⟨by decide, by decide⟩, _, rfl, _, _, rfl, rfl, _, _, rfl, rfl, .inl ⟨_, rfl, _, _, rfl, rfl, (by show (2147483629 : Int) ≠ 0; decide), _, rfl, h, _, _, _, rfl, rfl, h1, rfl, ?_⟩⟩
          have h2 : (upd (upd H h (.lst [.ref c, .int (pos + 1), .int big, .int st, .int cnt])) h (.lst [.ref c, .int (pos + 1), .int big, .int (Int.fmod (st * 69621 + cell + 11) 2147483629), .int cnt])) h = some (.lst [.ref c, .int (pos + 1), .int big, .int (Int.fmod (st * 69621 + cell + 11) 2147483629), .int cnt]) := upd_same
          have b2 : But h H (upd (upd H h (.lst [.ref c, .int (pos + 1), .int big, .int st, .int cnt])) h (.lst [.ref c, .int (pos + 1), .int big, .int (Int.fmod (st * 69621 + cell + 11) 2147483629), .int cnt])) := b1.upd _
          refine ⟨_, rfl, _, _, rfl, rfl, ⟨by decide, by decide, by decide⟩, _, _, rfl, rfl, _, rfl, ?_⟩
          refine ite2 (fun _ => ?_) (fun _ => ?_)
          · exact ⟨_, rfl, _, rfl, h, _, _, _, rfl, rfl, h2, rfl, pos + 1, _, _, cnt, _, rfl, b2.upd _, upd_same, by omega⟩
          · exact ⟨pos + 1, big, _, cnt, _, rfl, b2, h2, by omega⟩
        · rw [decide_eq_false (by rw [List.length_map]; exact hp)]
          exact iteF ⟨pos, big, st, cnt, _, rfl, But.refl _ _, hh, hpos⟩
      · rw [decide_eq_false (fun z => hb (V.int.inj z))]
        exact iteF ⟨pos, big, st, cnt, _, rfl, But.refl _ _, hh, hpos⟩
    · rintro σ H1 ⟨pos, big, st, cnt, g2, rfl, b1, h1, hpos⟩
      have mk : ∀ (big cnt : Int) (H2 : Hp), But h H H2 → H2 h = some (.lst [.ref c, .int pos, .int big, .int st, .int cnt]) → HandAt K H2 h c := fun big cnt H2 b2 e2 => hx.of b2 ⟨pos, big, st, cnt, e2, hpos⟩
      refine ⟨_, rfl, h, _, _, _, rfl, rfl, SqL.of h1, rfl, _, _, rfl, rfl, _, rfl, ?_⟩
      by_cases hb : 0 < big
      · rw [decide_eq_true hb]
        refine iteT ?_
        refine ⟨_, rfl, h, _, _, _, rfl, rfl, SqL.of h1, rfl, .inl ⟨_, rfl, _, rfl, _, _, rfl, rfl, by omega, ?_⟩⟩
        refine ⟨_, rfl, h, _, _, _, rfl, rfl, SqL.of h1, rfl, _, rfl, _, _, rfl, rfl, ⟨by omega, by omega⟩, _, rfl, h, _, _, _, rfl, rfl, h1, rfl, ?_⟩
        refine ⟨_, rfl, k _ _ (fmod_in _ hm).1 (fmod_in _ hm).2 (b1.upd _) (mk _ _ _ (b1.upd _) upd_same)⟩
      · rw [decide_eq_false hb]
        refine iteF ?_
        refine ⟨_, rfl, h, _, _, _, rfl, rfl, SqL.of h1, rfl, _, _, rfl, rfl, _, rfl, h, _, _, _, rfl, rfl, h1, rfl, ?_⟩
        have h2 : (upd H1 h (.lst [.ref c, .int pos, .int big, .int st, .int (cnt + 1)])) h = some (.lst [.ref c, .int pos, .int big, .int st, .int (cnt + 1)]) := upd_same
        refine ⟨_, rfl, h, _, _, _, rfl, rfl, SqL.of h2, rfl, _, rfl, h, _, _, _, rfl, rfl, SqL.of h2, rfl, _, _, rfl, rfl, .inl ⟨by decide, by decide⟩, _, _, rfl, rfl, .inl ⟨_, rfl, _, _, rfl, rfl, .inr ⟨by decide, by decide⟩, .inl ⟨_, rfl, _, _, rfl, rfl, (by show (2147483647 : Int) ≠ 0; decide), ?_⟩⟩⟩
        refine ⟨_, rfl, _, rfl, _, _, rfl, rfl, (by show (1009 : Int) ≠ 0 ∧ Int.natAbs 1009 < 1073741824; decide), _, _, rfl, rfl, _, _, rfl, rfl, .inl (zb (fmod_in _ (by decide)) (by decide)), .inl ⟨_, rfl, _, _, rfl, rfl, (by show (2147483647 : Int) ≠ 0; decide), ?_⟩⟩
        refine ⟨_, rfl, _, rfl, _, _, rfl, rfl, (by show (2003 : Int) ≠ 0 ∧ Int.natAbs 2003 < 1073741824; decide), _, _, rfl, rfl, _, _, rfl, rfl, .inl (zb (fmod_in _ (by decide)) (by decide)), .inl ⟨_, rfl, _, _, rfl, rfl, (by show (2147483399 : Int) ≠ 0; decide), ?_⟩⟩
        refine ⟨_, rfl, _, _, rfl, rfl, (by show (16 : Int) ≠ 0 ∧ Int.natAbs 16 < 1073741824; decide), .inl ⟨_, rfl, _, rfl, _, _, rfl, rfl, by omega, ?_⟩⟩
        exact k _ _ (fmod_in _ hm).1 (fmod_in _ hm).2 (b1.upd _) (mk _ _ _ (b1.upd _) h2)
end
end K49
set_option Elab.async false
set_option autoImplicit false
set_option maxRecDepth 100000
set_option maxHeartbeats 4000000
/-! _law_some, _law_shuffled -/
namespace K49
open PySem PySem.W L2
theorem But.new {h p : Addr} {H H1 : Hp} {o : HO} (s : But h H H1) (n : H p = none) : But h H (L2.upd H1 p o) := fun b u e _ => by
  rw [upd_ne (ne_of_none e n)]
  exact s _ _ e ‹_›
theorem But.of_same {h : Addr} {H H1 : Hp} (s : L2.Same H H1) : But h H H1 := fun b u e _ => s b u e
theorem HandV.is {H : Hp} {h c : Addr} (x : HandV H h c) : ∃ xs, H h = some (.lst xs) := by
  obtain ⟨pos, big, st, cnt, e, _⟩ := x
  exact ⟨_, e⟩
theorem HandV.ne {H : Hp} {h c p : Addr} (x : HandV H h c) (n : H p = none) : h ≠ p := by
  obtain ⟨xs, e⟩ := x.is
  exact ne_of_none e n
theorem HandAt.same {K : PySem.W.Frag} {H H' : Hp} {h c : Addr} (x : HandAt K H h c) (s : L2.Same H H') : HandAt K H' h c := x.of (.of_same s) (x.v.same s)
theorem HandAt.new {K : PySem.W.Frag} {H0 H : Hp} {h c p : Addr} {o : HO} (x0 : HandAt K H0 h c) (b : But h H0 H) (n : H0 p = none) (x : HandAt K H h c) : HandAt K (L2.upd H p o) h c := x0.of (b.new n) (x.v.upd (x0.v.ne n))
theorem erase_perm : ∀ (l : List Int) (i : Nat) (d : Int), l[i]? = some d → (d :: l.eraseIdx i).Perm l
  | [], i, d, h => by simp at h
  | x :: l, 0, d, h => by
    simp at h
    subst h
    exact .refl _
  | x :: l, i + 1, d, h => by
    have h' : l[i]? = some d := by simpa using h
    exact (List.Perm.swap x d _).trans ((erase_perm l i d h').cons x)
theorem map_erase (l : List Int) (i : Nat) : (l.map V.int).eraseIdx i = (l.eraseIdx i).map V.int := by
  induction l generalizing i with
  | nil => rfl
  | cons x l ih =>
    cases i with
    | zero => rfl
    | succ i => simp [ih]
def spSome (K : PySem.W.Frag) : Sp := fun vs H Q _ => ∃ (h c t : Addr) (ns : List Int), vs = [.ref h, .ref t] ∧ HandAt K H h c ∧ SqL K H t (ns.map V.int) ∧ t ≠ h ∧ 0 < ns.length ∧ ns.length ≤ 1000 ∧
  ∀ H' d, d ∈ ns → But h H H' → HandAt K H' h c → Q (.int d) H'
def spShuf (K : PySem.W.Frag) : Sp := fun vs H Q _ => ∃ (h c t : Addr) (ns : List Int), vs = [.ref h, .ref t] ∧ HandAt K H h c ∧ SqL K H t (ns.map V.int) ∧ ns.length ≤ 1000 ∧
  ∀ H' p (ms : List Int), But h H H' → HandAt K H' h c → H p = none → H' p = some (.lst (ms.map V.int)) → ms.Perm ns → Q (.ref p) H'
section
variable {P : Program} {w : World} {K : PySem.W.Frag} {mg : Str → Option Value} {base : Heap}
theorem scSome : FnScope ["_law_hand_here", "_law_things"] ["_law_hand_here", "_law_things"] (defScope sSome) := ⟨rfl, rfl, rfl, by decide +kernel, rfl, by decide +kernel, by decide +kernel⟩
theorem cl_some (F : Df K mg "_law_some" sSome ["_law_hand_here", "_law_things"]) (cd : Cl P w K mg base 1 "_law_draw" (spDraw K)) (B : Bl mg) : Cl P w K mg base 2 "_law_some" (spSome K) := by
  refine F.cl scSome (fun vs H Q E h => ?_) (fun f cdv A outer s H vs Q E hr h => ?_)
  · obtain ⟨h, c, t, ns, rfl, _⟩ := h
    rfl
  · obtain ⟨h, c, t, ns, rfl, hx, ht, hne, h0, hl, k⟩ := h
    refine ⟨_, pss_one (ps_ret (pe_ix ix_list (pv 1) (pc cd hr (by decide) (by rfl) (pa_cons (pv 0) (pa_cons (pe_callB call_len (by rfl) B.len PySem.boot_len (pa_cons (pv 1) pa_nil)) pa_nil))) (fun _ _ => rfl))), ?_⟩
    refine ⟨_, rfl, _, rfl, _, rfl, _, _, rfl, .inl ⟨_, ht, rfl⟩, h, c, _, rfl, hx, by rw [List.length_map]; omega, by rw [List.length_map]; omega, fun H' r r0 r1 b1 x1 => ?_⟩
    rw [List.length_map] at r1
    obtain ⟨d, hd, hat⟩ := at_ints r0 r1
    exact ⟨t, _, r, _, rfl, rfl, b1.seqL ht hne, hat, k _ _ hd b1 x1⟩
theorem scShuf : FnScope ["_law_hand_here", "_law_things", "_law_pool", "_law_found"] ["_law_hand_here", "_law_things"] (defScope sShuf) := ⟨rfl, rfl, rfl, by decide +kernel, rfl, by decide +kernel, by decide +kernel⟩
theorem cl_shuf (F : Df K mg "_law_shuffled" sShuf ["_law_hand_here", "_law_things"]) (cd : Cl P w K mg base 1 "_law_draw" (spDraw K)) (B : Bl mg) : Cl P w K mg base 2 "_law_shuffled" (spShuf K) := by
  refine F.cl scShuf (fun vs H Q E h => ?_) (fun f cdv A outer s H vs Q E hr h => ?_)
  · obtain ⟨h, c, t, ns, rfl, _⟩ := h
    rfl
  · obtain ⟨h, c, t, ns, rfl, hx, ht, hl, k⟩ := h
    refine ⟨_, pss_cons (ps_set (i := 2) scShuf.nd rfl (Or.inl rfl) (pe_callTy call_list_of (by rfl) B.list PyProof.Rows.boot_list (pa_cons (pv 1) pa_nil)))
      (pss_cons (ps_set (i := 3) scShuf.nd rfl (Or.inl rfl) (pe_lst pa_nil))
      (pss_cons (ps_while PassesOwn.never (pt_cmpR op_gt (pe_callB call_len (by rfl) B.len PySem.boot_len (pa_cons (pv 2) pa_nil)) pe_int (nomark _))
        (pss_one (ps_expr (pe_bm PySem.F.plainAttrs_list PySem.F.slot_list_append PySem.F.type_list_append mt_append (pv 3) (pa_cons
          (pe_bm PySem.F.plainAttrs_list PySem.F.slot_list_pop PySem.F.type_list_pop mt_popAt (pv 2) (pa_cons (pc cd hr (by decide) (by rfl) (pa_cons (pv 0) (pa_cons (pe_callB call_len (by rfl) B.len PySem.boot_len (pa_cons (pv 2) pa_nil)) pa_nil))) pa_nil)) pa_nil)))))
      (pss_one (ps_ret (pv 3))))), ?_⟩
    refine ⟨_, rfl, t, _, rfl, .inl ht, fun Pl hPl => ⟨small (by decide), fun Fd hFd => ?_⟩⟩
    have hPF : Pl ≠ Fd := ne_of_none upd_same hFd
    have hFd0 : H Fd = none := by
      rw [upd_ne hPF.symm] at hFd
      exact hFd
    have hhP := hx.v.ne hPl
    have hhF := hx.v.ne hFd0
    have s1 := same_upd (o := .lst []) (same_new (o := .lst (ns.map V.int)) hPl) hFd
    refine ⟨fun m σ H2 => ∃ pool fs : List Int, σ = [some (.ref h), some (.ref t), some (.ref Pl), some (.ref Fd)] ∧ m = pool.length ∧ H2 Pl = some (.lst (pool.map V.int)) ∧ H2 Fd = some (.lst (fs.map V.int)) ∧ (pool ++ fs).Perm ns ∧ But h H H2 ∧ HandAt K H2 h c,
      ⟨ns.length, ns, [], rfl, rfl, by rw [upd_ne hPF]; exact upd_same, upd_same, by rw [List.append_nil], .of_same s1, hx.same s1⟩, ?_⟩
    rintro m σ H2 ⟨pool, fs, rfl, rfl, hP2, hF2, hp, b2, x2⟩
    refine ⟨_, rfl, _, _, rfl, .inl ⟨_, SqL.of hP2, rfl⟩, _, _, rfl, rfl, _, rfl, ?_⟩
    have hpl : pool.length + fs.length = ns.length := by
      rw [← List.length_append]
      exact hp.length_eq
    cases pool with
    | nil => exact iteF ⟨_, rfl, k H2 Fd fs b2 x2 hFd0 hF2 hp⟩
    | cons d0 pl =>
      generalize hpo : d0 :: pl = pool at *
      have hpos : 0 < pool.length := by rw [← hpo]; simp
      rw [decide_eq_true (by rw [List.length_map]; omega)]
      refine iteT ⟨fun σ' H' => ∃ pool' fs : List Int, σ' = [some (.ref h), some (.ref t), some (.ref Pl), some (.ref Fd)] ∧ pool'.length < pool.length ∧ H' Pl = some (.lst (pool'.map V.int)) ∧ H' Fd = some (.lst (fs.map V.int)) ∧ (pool' ++ fs).Perm ns ∧ But h H H' ∧ HandAt K H' h c, ?_, ?_⟩
      · rintro σ' H' ⟨pool', fs', e1, e2, r⟩
        exact ⟨pool'.length, e2, pool', fs', e1, rfl, r⟩
      · refine ⟨_, rfl, .inl ⟨rfl, _, SqL.of hF2⟩, _, rfl, .inl ⟨rfl, _, SqL.of hP2⟩, _, rfl, _, rfl, _, _, rfl, .inl ⟨_, SqL.of hP2, rfl⟩, h, c, _, rfl, x2, by rw [List.length_map]; omega, by rw [List.length_map]; omega, fun H3 r r0 r1 b3 x3 => ?_⟩
        rw [List.length_map] at r1
        have hP3 := b3 _ _ hP2 hhP.symm
        have hF3 := b3 _ _ hF2 hhF.symm
        have hrn : r.toNat < pool.length := by omega
        have hget : pool[r.toNat]? = some pool[r.toNat] := List.getElem?_eq_getElem hrn
        generalize pool[r.toNat] = d at hget
        have hsi : seqIndex? r (pool.map V.int).length = some r.toNat := by
          rw [List.length_map]
          unfold seqIndex?
          have e1 : ¬ r < 0 := by omega
          simp [e1, r0, r1]
        refine ⟨Pl, _, r, _, V.int d, rfl, rfl, hP3, by omega, by omega, hsi, by rw [List.getElem?_map, hget]; rfl, ?_⟩
        rw [map_erase]
        have hF4 : (upd H3 Pl (.lst ((pool.eraseIdx r.toNat).map V.int))) Fd = some (.lst (fs.map V.int)) := by rw [upd_ne hPF.symm]; exact hF3
        refine ⟨Fd, _, _, rfl, rfl, hF4, Nat.lt_of_lt_of_le (show (fs.map V.int).length < 1001 by rw [List.length_map]; omega) (small (by decide)), pool.eraseIdx r.toNat, fs ++ [d], rfl, ?_, by rw [upd_ne hPF]; exact upd_same, ?_, ?_, ((b2.trans b3).new hPl).new hFd0, ?_⟩
        · have := (erase_perm pool r.toNat d hget).length_eq
          rw [List.length_cons] at this
          omega
        · rw [upd_same, List.map_append]
          rfl
        · refine List.Perm.trans ?_ hp
          have e1 := erase_perm pool r.toNat d hget
          refine List.Perm.trans ?_ (e1.append_right fs)
          rw [← List.append_assoc]
          exact List.perm_append_singleton d _
        · have x4 := hx.new (o := .lst ((pool.eraseIdx r.toNat).map V.int)) (b2.trans b3) hPl x3
          exact hx.new ((b2.trans b3).new hPl) hFd0 x4
end
end K49
set_option Elab.async false
set_option autoImplicit false
set_option maxRecDepth 100000
set_option maxHeartbeats 4000000
/-! _law_lots, _law_parents, _law_has_ring -/
namespace K49
open PySem PySem.W L2
theorem lots_cons {α : Type} (l : List α) : ∃ tl, lotsOf l = [] :: tl := by
  suffices h : ∀ (l : List α) (tl : List (List α)), ∃ tl', l.foldl (fun acc x => acc ++ acc.map fun y => y ++ [x]) ([] :: tl) = [] :: tl' from h l []
  intro l
  induction l with
  | nil => exact fun tl => ⟨tl, rfl⟩
  | cons x l ih => exact fun tl => ih _
theorem depth_A (as : List Arr) : (encA as).depth ≤ 2 := by
  have := dep_P as
  simp [PyData.depth]
  omega
theorem alike_A (as bs : List Arr) : alike (encA as) (encA bs) = true := by
  show alike (.tuple (as.map encP)) (.tuple (bs.map encP)) = true
  rw [alike]
  exact alikeAll_P as bs
def spLLots (K : PySem.W.Frag) : Sp := fun vs H Q _ => ∃ (t : Addr) (xs : List V) (as : List Arr), vs = [.ref t] ∧ SqL K H t xs ∧ DpAll K H xs (as.map encP) ∧ as.length ≤ 10 ∧
  ∀ H' p ys, L2.Same H H' → H p = none → H' p = some (.lst ys) → DpAll K H' ys ((lawLots as).map encA) → Q (.ref p) H'
def spPar (K : PySem.W.Frag) : Sp := fun vs H Q _ => ∃ (t : Addr) (d : Int) (xs : List V) (as : List Arr), vs = [.ref t, .int d] ∧ SqT K H t xs ∧ DpAll K H xs (as.map encP) ∧ as.length ≤ 1000 ∧
  ∀ H' p, L2.Same H H' → H p = none → H' p = some (.lst ((parentsOf as d).map V.int)) → Q (.ref p) H'
def spRing (K : PySem.W.Frag) : Sp := fun vs H Q _ => ∃ (n : Nat) (t : Addr) (xs : List V) (as : List Arr), vs = [.int n, .ref t] ∧ n ≤ 4 ∧ SqT K H t xs ∧ DpAll K H xs (as.map encP) ∧ as.length ≤ 1000 ∧
  ∀ H', L2.Same H H' → Q (.bl (hasRing n as)) H'
theorem rg_len (n : Nat) : (rg n).length = n := by
  unfold rg
  simp
theorem rgL_eq (n : Nat) : L2.rgV 0 (n : Int) = (rg n).map V.int := by
  unfold L2.rgV rg
  rw [List.map_map]
  have e : ((n : Int) - 0).toNat = n := by omega
  rw [e]
  apply List.map_congr_left
  intro i _
  show V.int (0 + (i : Int)) = V.int (i : Int)
  rw [Int.zero_add]
section
variable {P : Program} {w : World} {K : PySem.W.Frag} {mg : Str → Option Value} {base : Heap}
theorem scLLots : FnScope ["_law_things", "_law_found", "_law_thing", "_law_lot"] ["_law_things"] (defScope sLLots) := ⟨rfl, rfl, rfl, by decide +kernel, rfl, by decide +kernel, by decide +kernel⟩
theorem cl_llots (F : Df K mg "_law_lots" sLLots ["_law_things"]) (B : Bl mg) : Cl P w K mg base 1 "_law_lots" (spLLots K) := by
  refine F.cl scLLots (fun vs H Q E h => ?_) (fun f cdv A outer s H vs Q E hr h => ?_)
  · obtain ⟨t, xs, as, rfl, _⟩ := h
    rfl
  · obtain ⟨t0, zs, as, rfl, hs0, hd0, hn, k⟩ := h
    have hzl : zs.length = as.length := by rw [dp_len hd0, List.length_map]
    refine ⟨_, pss_cons (ps_set (i := 1) scLLots.nd rfl (Or.inl rfl) (pe_lst (pa_cons (pe_tup pa_nil) pa_nil)))
      (pss_cons (ps_for PassesOwn.never rfl (pi_list (pv 0)) (pg_name (i := 2) scLLots.nd rfl (Or.inr rfl))
        (pss_one (ps_set (i := 1) scLLots.nd rfl (Or.inl rfl) (pe_op op_cat (pv 1)
          (pe_lc (own := [("_law_lot", 3)]) (g := gName 3) (tt := tYes) rfl scLLots.nd (pi_list (pv 1)) (blkOk_by (by kernel_rfl))
            (fun _ _ _ _ _ => pg_name (i := 3) scLLots.nd rfl (Or.inl rfl)) (fun _ _ _ _ _ => pts_nil)
            (fun _ _ _ _ _ => pe_op (op_catAK K rfl) (pv 3) (pe_tup (pa_cons (pv 2) pa_nil))))))))
      (pss_one (ps_ret (pe_callB (cr_sortedE (enc := encA) (d := 2) (room_sort hr (by decide))) (by rfl) B.sorted PyProof.Rows.boot_sorted (pa_cons (pv 1) pa_nil))))), ?_⟩
    refine ⟨by decide, fun t ht => ⟨small (by show 1 ≤ 1000000; decide), fun l hl => ?_⟩⟩
    have s1 := same_upd (o := .lst [V.ref t]) (same_new (o := .tup []) ht) hl
    have htl : t ≠ l := fun e => by
      rw [← e, upd_same] at hl
      cases hl
    refine ⟨_, rfl, t0, rfl, ⟨_, SqL.same s1 hs0⟩, ?_⟩
    refine for_list (K := K) (a := t0) (xs := zs) (fun i σ H2 => ∃ (Fa : Addr) (xs : List V) (g2 : Option V), σ = [some (.ref t0), some (.ref Fa), g2, none] ∧ L2.Same H H2 ∧ H2 Fa = some (.lst xs) ∧ DpAll K H2 xs ((lotsOf (as.take i)).map encA))
      ⟨l, [.ref t], none, rfl, s1, upd_same, ?_⟩ (fun i σ H2 _ ⟨_, _, _, _, s2, _⟩ => SqL.same s2 hs0) ?_ ?_
    · rw [List.take_zero]
      exact .cons (.tup (SqT.of (xs := []) (by rw [upd_ne htl]; exact upd_same)) .nil) .nil
    · rintro i y σ H2 hi ⟨Fa, xs, g2, rfl, s2, hx, hd⟩
      have hil : i < as.length := by
        have q := (List.getElem?_eq_some_iff.mp hi).1
        omega
      have hai : as[i]? = some (as[i]'hil) := List.getElem?_eq_getElem hil
      generalize as[i]'hil = ar at hai
      have hyd : Dp K H y (encP ar) := pr_get (dp_pr hd0) hi hai
      have etake : as.take (i + 1) = as.take i ++ [ar] := by
        rw [List.take_add_one, hai]
        rfl
      have hlt : (as.take i).length ≤ 9 := by
        rw [List.length_take]
        omega
      have hlen : xs.length ≤ 512 := by
        rw [dp_len hd, List.length_map, lots_len]
        exact Nat.pow_le_pow_right (by decide) hlt
      refine ⟨_, rfl, _, rfl, Fa, rfl, ⟨xs, SqL.of hx⟩, fun D hD => ?_⟩
      have hs2 := SqL.of (K := K) hx
      refine lc_data (E := fun x (d : List Arr) => Dp K H2 x (encA d) ∧ d ∈ lotsOf (as.take i)) (ds := lotsOf (as.take i)) (f := fun d => some (d ++ [ar])) (R := fun H y (d : List Arr) => Dp K H y (encA d)) hD (src_list hs2) (pr_mem (dp_pr hd))
        (small (by omega)) (fun H3 H4 y z s r => Dp.sameT s _ _ (noL_A z) r) ?_ ?_
      · rintro x d H3 Nx ⟨hxd, hdl⟩ s3 skip done
        have hxd3 := Dp.same s3 hxd
        cases hxd3 with
        | @tup a us _ ha hu =>
          refine ⟨rfl, ?_⟩
          refine ⟨_, rfl, _, rfl, by show 1 ≤ sizeLine; decide, fun b hb => ?_⟩
          have s4 := same_new (o := .tup [y]) hb
          refine cat_tup (SqT.same s4 ha) (DpAll.same s4 hu) (SqT.of (xs := [y]) upd_same) (Dp.same ((s2.trans s3).trans s4) hyd) ?_ fun H5 q s5 hq => done H5 _ _ rfl (s4.trans s5) ?_
          · have := lots_mem_len hdl
            rw [dp_len hu, List.length_map]
            omega
          · show Dp K H5 (.ref q) (.tuple ((d ++ [ar]).map encP))
            rw [List.map_append]
            exact hq
      · intro H3 ys s3 hy hp
        have ef : (lotsOf (as.take i)).filterMap (fun d => some (d ++ [ar])) = (lotsOf (as.take i)).map fun d => d ++ [ar] := filterMap_some _ _
        rw [ef] at hp
        have hyl : ys.length = (lotsOf (as.take i)).length := by
          rw [pr_len hp, List.length_map]
        have hxl : xs.length = (lotsOf (as.take i)).length := by rw [dp_len hd, List.length_map]
        refine ⟨Fa, D, xs, ys, rfl, rfl, s3 _ _ hx, hy, small (by omega), fun p hp' => ?_⟩
        have s4 := same_new (o := .lst (xs ++ ys)) hp'
        have s5 := s2.trans (s3.trans s4)
        refine ⟨p, xs ++ ys, _, rfl, s5, upd_same, ?_⟩
        rw [etake, lots_snoc, List.map_append]
        have hd2 := DpAll.same (s3.trans s4) hd
        refine dp_append hd2 (DpAll.same s4 ?_)
        exact pr_dp hp
    · rintro σ H2 ⟨Fa, xs, g2, rfl, s2, hx, hd⟩
      rw [hzl, List.take_length] at hd
      obtain ⟨tl, etl⟩ := lots_cons as
      rw [etl] at hd
      refine ⟨_, rfl, Fa, xs, [], tl, rfl, SqL.of hx, hd, AllAlike.of (enc := encA) alike_A, rfl, fun _ => ⟨_, rfl⟩, fun b _ => depth_A b, fun ys p dy ly hp => ?_⟩
      rw [← etl] at dy
      exact k _ p ys (same_upd s2 hp) (s2.free hp) upd_same (DpAll.same (same_new hp) dy)
theorem scPar : FnScope ["_law_arrows_here", "_law_thing", "_law_one", "_law_other"] ["_law_arrows_here", "_law_thing"] (defScope sPar) := ⟨rfl, rfl, rfl, by decide +kernel, rfl, by decide +kernel, by decide +kernel⟩
theorem cl_par (F : Df K mg "_law_parents" sPar ["_law_arrows_here", "_law_thing"]) : Cl P w K mg base 1 "_law_parents" (spPar K) := by
  refine F.cl scPar (fun vs H Q E h => ?_) (fun f cdv A outer s H vs Q E hr h => ?_)
  · obtain ⟨t, d, xs, as, rfl, _⟩ := h
    rfl
  · obtain ⟨t, d, xs, as, rfl, hs, hd, hl, k⟩ := h
    have hxl : xs.length = as.length := by rw [dp_len hd, List.length_map]
    refine ⟨_, pss_one (ps_ret (pe_lc (own := [("_law_one", 2), ("_law_other", 3)]) rfl scPar.nd (pi_tup (pv 0)) (blkOk_by (by kernel_rfl))
      (fun _ _ _ _ _ => pg_tupK K 2 rfl rfl (pgs_cons (pg_name (i := 2) scPar.nd rfl (Or.inl rfl)) (pgs_cons (pg_name (i := 3) scPar.nd rfl (Or.inl rfl)) pgs_nil)) rfl rfl)
      (fun _ _ _ _ _ => pts_one (pt_cmpR op_eq (pv 3) (pv 1) (nomark _))) (fun _ _ _ _ _ => pv 2))), ?_⟩
    refine ⟨_, rfl, t, rfl, ⟨_, hs⟩, fun D hD => ?_⟩
    refine lc_data (E := fun x a => Dp K H x (encP a)) (ds := as) (f := fun a => if a.2 = d then some a.1 else none) (R := fun _ y (z : Int) => y = V.int z) hD (src_tup hs) (dp_pr hd) (small (by omega)) (fun _ _ _ _ _ h => h) ?_ ?_
    · rintro x a H5 Nx5 hxa s5 skip5 done5
      obtain ⟨c, rfl, hc⟩ := tup_ints (ns := [a.1, a.2]) (Dp.same s5 hxa)
      refine ⟨c, _, rfl, hc, rfl, _, _, rfl, _, _, rfl, rfl, rfl, _, rfl, _, rfl, rfl, _, rfl, ?_⟩
      by_cases e : a.2 = d
      · rw [show decide (V.int a.2 = V.int d) = true by simp [e]]
        exact iteT ⟨_, rfl, done5 _ _ _ (if_pos e) (L2.Same.refl _) rfl⟩
      · rw [show decide (V.int a.2 = V.int d) = false by simp [e]]
        exact iteF (skip5 _ (if_neg e) (L2.Same.refl _))
    · intro H5 ys5 s5 hy5 hp5
      have e := pr_map hp5
      subst e
      exact k H5 D s5 hD hy5
theorem scRing : FnScope ["_law_columns", "_law_arrows_here", "_law_left", "_law_turn", "_law_thing", "_law_one"] ["_law_columns", "_law_arrows_here"] (defScope sRing) := ⟨rfl, rfl, rfl, by decide +kernel, rfl, by decide +kernel, by decide +kernel⟩
theorem ringStep_len (as : List Arr) (l : List Int) : (ringStep as l).length ≤ l.length := List.length_filterMap_le _ _
theorem ringLoop_succ (as : List Arr) : ∀ (i : Nat) (l : List Int), ringLoop as (i + 1) l = ringStep as (ringLoop as i l)
  | 0, l => rfl
  | i + 1, l => by
    show ringLoop as (i + 1) (ringStep as l) = ringStep as (ringLoop as i (ringStep as l))
    exact ringLoop_succ as i _
theorem ringLoop_len (as : List Arr) : ∀ (i : Nat) (l : List Int), (ringLoop as i l).length ≤ l.length
  | 0, l => Nat.le_refl _
  | i + 1, l => Nat.le_trans (ringLoop_len as i _) (ringStep_len as l)
theorem parents_len (as : List Arr) (t : Int) : (parentsOf as t).length ≤ as.length := List.length_filterMap_le _ _
theorem cl_ring (F : Df K mg "_law_has_ring" sRing ["_law_columns", "_law_arrows_here"]) (cp : Cl P w K mg base 1 "_law_parents" (spPar K)) (B : Bl mg) : Cl P w K mg base 2 "_law_has_ring" (spRing K) := by
  refine F.cl scRing (fun vs H Q E h => ?_) (fun f cdv A outer s H vs Q E hr h => ?_)
  · obtain ⟨n, t, xs, as, rfl, _⟩ := h
    rfl
  · obtain ⟨n, t, xs, as, rfl, hn, hs, hd, hl, k⟩ := h
    refine ⟨_, pss_cons (ps_set (i := 2) scRing.nd rfl (Or.inr rfl) (pe_listRg rfl (by rfl) B.list (prg_1 (by rfl) B.range (pe_op op_mul pe_int (pv 0)))))
      (pss_cons (ps_for PassesOwn.never rfl (pi_range1 (by rfl) B.range (pa_cons (pe_op op_mul pe_int (pv 0)) pa_nil)) (pg_name (i := 3) scRing.nd rfl (Or.inl rfl))
        (pss_one (ps_set (i := 2) scRing.nd rfl (Or.inr rfl) (pe_lc (own := [("_law_thing", 4)]) (g := gName 4) rfl scRing.nd (pi_list (pv 2)) (blkOk_by (by kernel_rfl))
          (fun _ _ _ _ _ => pg_name (i := 4) scRing.nd rfl (Or.inl rfl))
          (fun _ _ _ _ _ => pts_one (pt_val (pe_callB (cr_anyK K rfl rfl) (by rfl) B.any PyProof.Rows.boot_any (pa_cons
            (pe_lc (own := [("_law_one", 5)]) (g := gName 5) (tt := tYes) rfl scRing.nd (pi_listK K rfl (pc cp hr (by decide) (by rfl) (pa_cons (pv 1) (pa_cons (pv 4) pa_nil)))) (blkOk_by (by kernel_rfl))
              (fun _ _ _ _ _ => pg_name (i := 5) scRing.nd rfl (Or.inl rfl)) (fun _ _ _ _ _ => pts_nil)
              (fun _ _ _ _ _ => pe_cmpR (op_inK K rfl) (pv 5) (pv 2) rfl)) pa_nil))))
          (fun _ _ _ _ _ => pv 4)))))
      (pss_one (ps_ret (pe_cmpR op_gt (pe_callB call_len (by rfl) B.len PySem.boot_len (pa_cons (pv 2) pa_nil)) pe_int (nomark _))))), ?_⟩
    refine ⟨_, rfl, _, _, rfl, rfl, .inl ⟨by decide, by decide⟩, _, rfl, ⟨by decide, by decide, by omega, by omega, by omega⟩, fun q hq => ?_⟩
    have e2n : 2 * (n : Int) = ((2 * n : Nat) : Int) := by omega
    have eL : L2.rgV 0 (2 * (n : Int)) = (rg (2 * n)).map V.int := by rw [e2n]; exact rgL_eq _
    rw [eL]
    refine ⟨_, rfl, _, _, rfl, rfl, .inl ⟨by decide, by decide⟩, _, rfl, by omega, by omega, ?_⟩
    rw [show ((2 * (n : Int))).toNat = 2 * n by omega]
    refine for_range (lo := 0) (n := 2 * n) (fun i σ H2 => ∃ (L : Addr) (g3 : Option V), σ = [some (.int n), some (.ref t), some (.ref L), g3, none, none] ∧ L2.Same H H2 ∧ H2 L = some (.lst ((ringLoop as i (rg (2 * n))).map V.int)))
      ⟨q, none, rfl, same_new hq, upd_same⟩ ?_ ?_
    · rintro i σ H2 hi ⟨L, g3, rfl, s2, hL⟩
      have hll := ringLoop_len as i (rg (2 * n))
      rw [rg_len] at hll
      rw [ringLoop_succ]
      generalize ringLoop as i (rg (2 * n)) = left at hL hll
      refine ⟨_, rfl, L, rfl, ⟨_, SqL.of hL⟩, fun D hD => ?_⟩
      refine lc_data (E := fun x (d : Int) => x = V.int d) (ds := left) (f := fun t => if ((parentsOf as t).map fun o => decide (o ∈ left)).any id = true then some t else none) (R := fun _ y (z : Int) => y = V.int z) hD (src_list (SqL.of hL)) (pr_ints _)
        (by rw [List.length_map]; exact small (by omega)) (fun _ _ _ _ _ h => h) ?_ ?_
      · rintro x d H3 Nx rfl s3 skip done
        have s03 := s2.trans s3
        refine ⟨rfl, _, rfl, _, rfl, t, d, xs, as, rfl, SqT.same s03 hs, DpAll.same s03 hd, hl, fun H4 p s4 hp hp4 => ?_⟩
        refine ⟨p, rfl, ⟨_, SqL.of hp4⟩, fun D3 hD3 => ?_⟩
        have hpl := parents_len as d
        have hL4 := s4 _ _ (s3 _ _ hL)
        refine lc_data (E := fun x (d : Int) => x = V.int d) (ds := parentsOf as d) (f := fun o => some (decide (o ∈ left))) (R := fun _ y (z : Bool) => y = V.bl z) hD3 (src_list (SqL.of hp4)) (pr_ints _)
          (by rw [List.length_map]; exact small (by omega)) (fun _ _ _ _ _ h => h) ?_ ?_
        · rintro x o H5 Nx5 rfl s5 skip5 done5
          refine ⟨rfl, _, rfl, _, rfl, L, _, rfl, .inl (SqL.of (s5 _ _ hL4)), rfl, flat_ints _, ?_⟩
          show Puts D3 Nx5 H5 (.bl (inV (.int o) (left.map V.int)))
          rw [in_ints]
          exact done5 _ _ _ rfl (L2.Same.refl _) rfl
        · intro H5 ys5 s5 hy5 hp5
          have e := pr_map hp5
          subst e
          refine ⟨D3, _, rfl, SqL.of hy5, _, rfl, ?_⟩
          rw [filterMap_some (fun o => decide (o ∈ left))]
          show if ((parentsOf as d).map fun o => decide (o ∈ left)).any id = true then _ else _
          cases es : ((parentsOf as d).map fun o => decide (o ∈ left)).any id with
          | false => exact iteF (skip _ (by rw [es]; rfl) (s4.trans s5))
          | true => exact iteT ⟨_, rfl, done _ _ _ (by rw [es]; rfl) (s4.trans s5) rfl⟩
      · intro H3 ys s3 hy hp
        have e := pr_map hp
        subst e
        exact ⟨D, _, rfl, s2.trans s3, hy⟩
    · rintro σ H2 ⟨L, g3, rfl, s2, hL⟩
      refine ⟨_, rfl, _, _, rfl, .inl ⟨_, SqL.of hL, rfl⟩, _, _, rfl, rfl, ?_⟩
      have e : decide ((0 : Int) < (((ringLoop as (2 * n) (rg (2 * n))).map V.int).length : Nat)) = hasRing n as := by
        unfold hasRing
        rw [List.length_map]
        simp
      have := k H2 s2
      rw [← e] at this
      exact this
end
end K49
set_option Elab.async false
set_option autoImplicit false
set_option maxRecDepth 100000
set_option maxHeartbeats 4000000
/-! _law_every -/
namespace K49
open PySem PySem.W L2
def spEvery (K : PySem.W.Frag) : Sp := fun vs H Q _ => ∃ n : Nat, vs = [.int n] ∧ (n = 1 ∨ n = 2) ∧
  ∀ H' p ys, L2.Same H H' → H p = none → H' p = some (.lst ys) → DpAll K H' ys ((every n).map encA) → Q (.ref p) H'
def lawPre (n i : Nat) : List Arr := (rg i).foldl (fun acc x => acc ++ lawRow n x) []
theorem lawPre_succ (n i : Nat) : lawPre n (i + 1) = lawPre n i ++ lawRow n (i : Int) := by
  unfold lawPre
  rw [rg_succ, List.foldl_append]
  rfl
theorem lawArrows_len {n : Nat} (h : n = 1 ∨ n = 2) : (lawArrows n).length ≤ 10 := by
  rcases h with rfl | rfl <;> decide +kernel
theorem lawRow_len (n : Nat) (x : Int) : (lawRow n x).length ≤ 2 * n := by
  unfold lawRow
  refine Nat.le_trans (List.length_filterMap_le _ _) ?_
  rw [rg_len]
  exact Nat.le_refl _
theorem lawLots_perm (as : List Arr) : (lawLots as).Perm (lotsOf as) := List.mergeSort_perm _ _
theorem lawLots_len (as : List Arr) : (lawLots as).length = 2 ^ as.length := by
  rw [(lawLots_perm as).length_eq, lots_len]
theorem lawLots_mem {as l : List Arr} (h : l ∈ lawLots as) : l.length ≤ as.length := lots_mem_len ((lawLots_perm as).mem_iff.mp h)
theorem depth_NA (l : List Arr) : (encNA l).depth ≤ 3 := by
  have := depth_A l
  simp [PyData.depth, PyData.depthAll] at this ⊢
  omega
theorem alike_NA (as bs : List Arr) : alike (encNA as) (encNA bs) = true := by
  have := alikeAll_P as bs
  simp [alike, alikeAll, this]
theorem noL_NA (l : List Arr) : noL (encNA l) = true := by
  show (true && (noL (encA l) && true)) = true
  rw [noL_A]
  rfl
theorem But.toSame {p : Addr} {H H1 H2 : Hp} (s : L2.Same H H1) (b : But p H1 H2) (n : H p = none) : L2.Same H H2 := fun a o e => b _ _ (s _ _ e) (ne_of_none e n)
section
variable {P : Program} {w : World} {K : PySem.W.Frag} {mg : Str → Option Value} {base : Heap}
theorem scEvery : FnScope ["_law_columns", "_law_ends", "_law_arrows_here", "_law_one", "_law_found", "_law_other", "_law_lot", "_law_size"] ["_law_columns"] (defScope sEvery) := ⟨rfl, rfl, rfl, by decide +kernel, rfl, by decide +kernel, by decide +kernel⟩
set_option maxHeartbeats 16000000 in
theorem cl_every (F : Df K mg "_law_every" sEvery ["_law_columns"]) (cL : Cl P w K mg base 1 "_law_lots" (spLLots K)) (cR : Cl P w K mg base 2 "_law_has_ring" (spRing K)) (B : Bl mg) : Cl P w K mg base 3 "_law_every" (spEvery K) := by
  refine F.cl scEvery (fun vs H Q E h => ?_) (fun f cdv A outer s H vs Q E hr h => ?_)
  · obtain ⟨n, rfl, _⟩ := h
    rfl
  · obtain ⟨n, rfl, hn, k⟩ := h
    have hn4 : 1 ≤ n ∧ n ≤ 2 := by rcases hn with rfl | rfl <;> decide
    refine ⟨_, pss_cons (ps_par (i := 1) (j := 2) rfl scEvery.nd rfl rfl (by decide) rfl rfl (pa_cons (pe_listRg rfl (by rfl) B.list (prg_1 (by rfl) B.range (pe_op op_mul pe_int (pv 0)))) (pa_cons (pe_lst pa_nil) pa_nil)) (by rfl))
      (pss_cons (ps_for PassesOwn.never rfl (pi_list (pv 1)) (pg_name (i := 3) scEvery.nd rfl (Or.inr rfl))
        (pss_one (ps_expr (pe_bm PySem.F.plainAttrs_list PySem.F.slot_list_extend PySem.F.type_list_extend mt_extend (pv 2) (pa_cons
          (pe_lc (own := [("_law_other", 5)]) (g := gName 5) rfl scEvery.nd (pi_list (pv 1)) (blkOk_by (by kernel_rfl))
            (fun _ _ _ _ _ => pg_name (i := 5) scEvery.nd rfl (Or.inl rfl))
            (fun _ _ _ _ _ => pts_one (PW.pt (pw_and (pt_cmpR op_ne (pv 3) (pv 5) (nomark _)) (pw_and1 (PW.pt (pw_or (pt_cmpR op_lt (pv 3) (pv 0) (nomark _)) (pw_or1 (pt_cmpR op_ge (pv 5) (pv 0) (nomark _)))))))))
            (fun _ _ _ _ _ => pe_tup (pa_cons (pv 3) (pa_cons (pv 5) pa_nil)))) pa_nil)))))
      (pss_cons (ps_setLc (i := 4) (own := [("_law_lot", 6)]) (g := gName 6) (tt := tYes) rfl scEvery.nd rfl rfl (sw_true rfl rfl rfl (by decide +kernel)) (pi_list (pc cL hr (by decide) (by rfl) (pa_cons (pv 2) pa_nil))) (blkOk_by (by kernel_rfl))
          (fun _ _ _ _ _ => pg_name (i := 6) scEvery.nd rfl (Or.inl rfl)) (fun _ _ _ _ _ => pts_nil)
          (fun _ _ _ _ _ => pe_tup (pa_cons (pe_callB (call_lenK K rfl) (by rfl) B.len PySem.boot_len (pa_cons (pv 6) pa_nil)) (pa_cons (pv 6) pa_nil))))
      (pss_one (ps_ret (pe_lc (own := [("_law_size", 7), ("_law_lot", 6)]) rfl scEvery.nd (pi_list (pe_callB (cr_sortedD (enc := encNA) (d := 3) (room_sort hr (by decide))) (by rfl) B.sorted PyProof.Rows.boot_sorted (pa_cons (pv 4) pa_nil))) (blkOk_by (by kernel_rfl))
          (fun _ _ _ _ _ => pg_tupK K 2 rfl rfl (pgs_cons (pg_name (i := 7) scEvery.nd rfl (Or.inl rfl)) (pgs_cons (pg_name (i := 6) scEvery.nd rfl (Or.inl rfl)) pgs_nil)) rfl rfl)
          (fun _ _ _ _ _ => pts_one (pt_not (pt_val (pc cR hr (by decide) (by rfl) (pa_cons (pv 0) (pa_cons (pv 6) pa_nil))))))
          (fun _ _ _ _ _ => pv 6)))))), ?_⟩
    refine ⟨_, rfl, _, _, rfl, rfl, .inl ⟨by decide, by decide⟩, _, rfl, ⟨by decide, by decide, by omega, by omega, by omega⟩, fun L hL => ?_⟩
    have e2n : 2 * (n : Int) = ((2 * n : Nat) : Int) := by omega
    have eL : L2.rgV 0 (2 * (n : Int)) = (rg (2 * n)).map V.int := by rw [e2n]; exact rgL_eq _
    rw [eL]
    refine ⟨small (by decide), fun Ar hAr => ⟨_, _, rfl, ?_⟩⟩
    have s1 := same_upd (o := .lst []) (same_new (o := .lst ((rg (2 * n)).map V.int)) hL) hAr
    have hLA : L ≠ Ar := ne_of_none upd_same hAr
    have hAr0 : H Ar = none := by
      rw [upd_ne hLA.symm] at hAr
      exact hAr
    have hL1 : (upd (upd H L (.lst ((rg (2 * n)).map V.int))) Ar (.lst [])) L = some (.lst ((rg (2 * n)).map V.int)) := by
      rw [upd_ne hLA]
      exact upd_same
    have hA1 : (upd (upd H L (.lst ((rg (2 * n)).map V.int))) Ar (.lst [])) Ar = some (.lst []) := upd_same
    refine ⟨_, rfl, L, rfl, ⟨_, SqL.of hL1⟩, ?_⟩
    generalize (upd (upd H L (.lst ((rg (2 * n)).map V.int))) Ar (.lst [])) = H1 at s1 hL1 hA1 ⊢
    refine for_list (K := K) (a := L) (xs := (rg (2 * n)).map V.int) (fun i σ H2 => ∃ (xs : List V) (g3 : Option V), σ = [some (.int n), some (.ref L), some (.ref Ar), g3, none, none, none, none] ∧ But Ar H1 H2 ∧ H2 Ar = some (.lst xs) ∧ DpAll K H2 xs ((lawPre n i).map encP) ∧ xs.length ≤ 4 * i)
      ⟨[], none, rfl, But.refl _ _, hA1, .nil, Nat.le_refl _⟩ (fun i σ H2 _ ⟨_, _, _, b2, _⟩ => b2.seqL (SqL.of hL1) hLA) ?_ ?_
    · rintro i y σ H2 hi ⟨xs, g3, rfl, b2, hA2, hd2, hl2⟩
      have hil : i < 2 * n := by
        have q := (List.getElem?_eq_some_iff.mp hi).1
        rw [List.length_map, rg_len] at q
        exact q
      have ey : y = V.int (i : Int) := by
        unfold rg at hi
        rw [List.getElem?_map, List.getElem?_map, List.getElem?_range hil] at hi
        exact (Option.some.inj hi).symm
      subst ey
      have hL2 := b2 _ _ hL1 hLA
      refine ⟨_, rfl, .inl ⟨rfl, _, SqL.of hA2⟩, _, rfl, L, rfl, ⟨_, SqL.of hL2⟩, fun D hD => ?_⟩
      refine lc_data (E := fun x (d : Int) => x = V.int d) (ds := rg (2 * n)) (f := fun y => if (i : Int) ≠ y ∧ ((i : Int) < (n : Int) ∨ (n : Int) ≤ y) then some ((i : Int), y) else none) (R := fun H y (a : Arr) => Dp K H y (encP a)) hD (src_list (SqL.of hL2)) (pr_ints _)
        (small (by rw [List.length_map, rg_len]; omega)) (fun H3 H4 y z s r => Dp.sameT s _ _ (noL_P z) r) ?_ ?_
      · rintro x d H3 Nx rfl s3 skip done
        have put : ((i : Int) ≠ d ∧ ((i : Int) < (n : Int) ∨ (n : Int) ≤ d)) → _ := fun c => (fun t (ht : H3 t = none) => done (upd H3 t (.tup [V.int (i : Int), V.int d])) (.ref t) ((i : Int), d) (if_pos c) (same_new ht) (.tup (SqT.of (xs := [V.int (i : Int), V.int d]) upd_same) (.cons (.int _) (.cons (.int _) .nil))))
        refine ⟨rfl, _, rfl, _, rfl, rfl, _, rfl, ?_⟩
        by_cases e1 : (i : Int) = d
        · rw [decide_eq_true (by rw [e1])]
          exact iteF (skip _ (if_neg fun z => z.1 e1) (L2.Same.refl _))
        · rw [decide_eq_false (fun z => e1 (V.int.inj z))]
          refine iteT ?_
          refine ⟨_, rfl, _, rfl, _, _, rfl, rfl, _, rfl, ?_⟩
          by_cases e2 : (i : Int) < (n : Int)
          · rw [decide_eq_true e2]
            refine iteT ?_
            exact iteT ⟨_, rfl, _, rfl, by show 2 ≤ sizeLine; decide, fun t ht => put ⟨e1, .inl e2⟩ t ht⟩
          · rw [decide_eq_false e2]
            refine iteF ?_
            refine ⟨_, rfl, _, rfl, _, _, rfl, rfl, _, rfl, ?_⟩
            by_cases e3 : (n : Int) ≤ d
            · rw [decide_eq_true e3]
              exact iteT ⟨_, rfl, _, rfl, by show 2 ≤ sizeLine; decide, fun t ht => put ⟨e1, .inr e3⟩ t ht⟩
            · rw [decide_eq_false e3]
              exact iteF (skip _ (if_neg fun z => z.2.elim e2 e3) (L2.Same.refl _))
      · intro H3 ys s3 hy hp
        have hyl : ys.length ≤ 4 := by
          rw [pr_len hp]
          refine Nat.le_trans (lawRow_len n (i : Int)) ?_
          omega
        have hA3 := s3 _ _ hA2
        refine ⟨Ar, D, xs, ys, rfl, rfl, hA3, hy, small (by omega), ?_⟩
        have t4 : SameT H3 (upd H3 Ar (.lst (xs ++ ys))) := sameT_lst hA3
        refine ⟨xs ++ ys, _, rfl, (b2.same s3).upd _, upd_same, ?_, by rw [List.length_append]; omega⟩
        rw [lawPre_succ, List.map_append]
        exact dp_append (DpAll.sameT ((sameT_of s3).trans t4) _ _ (noLs_map noL_P _) hd2) (DpAll.sameT t4 _ _ (noLs_map noL_P _) (pr_dp hp))
    · rintro σ H2 ⟨xs, g3, rfl, b2, hA2, hd2, hl2⟩
      rw [List.length_map, rg_len] at hd2
      have hdA : DpAll K H2 xs ((lawArrows n).map encP) := hd2
      have s2 := But.toSame s1 b2 hAr0
      have hal := lawArrows_len hn
      refine ⟨_, rfl, Ar, xs, lawArrows n, rfl, SqL.of hA2, hdA, hal, fun H3 p ls s3 hp hp3 hd3 => ?_⟩
      refine ⟨p, rfl, ⟨_, SqL.of hp3⟩, fun D hD => ?_⟩
      have hll : ls.length = (lawLots (lawArrows n)).length := by rw [dp_len hd3, List.length_map]
      have hL1024 : (lawLots (lawArrows n)).length ≤ 1024 := by
        rw [lawLots_len]
        exact Nat.pow_le_pow_right (by decide) hal
      refine lc_data (E := fun x (d : List Arr) => Dp K H3 x (encA d) ∧ d ∈ lawLots (lawArrows n)) (ds := lawLots (lawArrows n)) (f := fun d => some d) (R := fun H y (d : List Arr) => Dp K H y (encNA d)) hD (src_list (SqL.of hp3)) (pr_mem (dp_pr hd3))
        (small (by omega)) (fun H5 H6 y z s r => Dp.sameT s _ _ (noL_NA z) r) ?_ ?_
      · rintro x d H4 Nx ⟨hxd, hdl⟩ s4 skip done
        have hxd4 := Dp.same s4 hxd
        cases id hxd4 with
        | @tup a us _ ha hu =>
          refine ⟨rfl, _, rfl, _, us.length, rfl, .inr ⟨_, ha, rfl⟩, _, rfl, by show 2 ≤ sizeLine; decide, fun t ht => ?_⟩
          have hul : us.length = d.length := by rw [dp_len hu, List.length_map]
          have s5 := same_new (o := .tup [V.int (us.length : Int), V.ref a]) ht
          refine done _ _ _ rfl s5 (.tup (SqT.of (xs := [V.int (us.length : Int), V.ref a]) upd_same) (.cons ?_ (.cons (Dp.same s5 hxd4) .nil)))
          rw [hul]
          exact .int _
      · intro H4 ys s4 hy hp4
        have ef : (lawLots (lawArrows n)).filterMap (fun d => some d) = lawLots (lawArrows n) := by
          rw [filterMap_some (fun d => d)]
          simp
        rw [ef] at hp4
        refine ⟨_, rfl, D, ys, lawLots (lawArrows n), rfl, SqL.of hy, pr_dp hp4, AllAlike.of (enc := encNA) alike_NA, Sortable.tuples fun _ => ⟨_, _, rfl⟩, fun b _ => depth_NA b, fun zs q dz lz hq => ?_⟩
        have s5 := same_new (o := .lst zs) hq
        refine ⟨q, rfl, ⟨_, SqL.of upd_same⟩, fun D2 hD2 => ?_⟩
        have hmem : ∀ l ∈ (lawLots (lawArrows n)).mergeSort (dataLe false encNA), l.length ≤ 10 := fun l hl => Nat.le_trans (lawLots_mem ((List.mergeSort_perm _ _).mem_iff.mp hl)) hal
        refine lc_data (E := fun x (d : List Arr) => Dp K (upd H4 q (.lst zs)) x (encNA d) ∧ d ∈ (lawLots (lawArrows n)).mergeSort (dataLe false encNA)) (ds := (lawLots (lawArrows n)).mergeSort (dataLe false encNA)) (f := fun l => if hasRing n l = true then none else some l) (R := fun H y (d : List Arr) => Dp K H y (encA d)) hD2 (src_list (SqL.of upd_same)) (pr_mem (dp_pr (DpAll.same s5 dz)))
          (small (by omega)) (fun H5 H6 y z s r => Dp.sameT s _ _ (noL_A z) r) ?_ ?_
        · rintro x d H6 Nx ⟨hxd, hdl⟩ s6 skip done
          have hxd6 := Dp.same s6 hxd
          cases hxd6 with
          | @tup a us _ ha hu =>
            cases hu with
            | @cons y1 _ us1 _ hu1 hu2 =>
              cases hu1
              cases hu2 with
              | @cons y2 _ us2 _ hu3 hu4 =>
                cases hu4
                refine ⟨a, _, rfl, ha, rfl, _, _, rfl, _, _, rfl, rfl, rfl, ?_⟩
                cases id hu3 with
                | @tup b vs _ hb hv =>
                  refine ⟨_, rfl, _, rfl, n, b, vs, d, rfl, by omega, hb, hv, Nat.le_trans (hmem d hdl) (by decide), fun H7 s7 => ⟨_, rfl, ?_⟩⟩
                  cases er : hasRing n d with
                  | true => exact iteF (skip _ (by rw [er]; rfl) s7)
                  | false => exact iteT ⟨_, rfl, done _ _ _ (by rw [er]; rfl) s7 (Dp.same s7 hu3)⟩
        · intro H6 us s6 hu hp6
          have s26 : L2.Same H2 H6 := (s3.trans s4).trans (s5.trans s6)
          refine k H6 D2 us (s2.trans s26) ?_ hu (pr_dp hp6)
          exact (((s2.trans s3).trans s4).trans s5).free hD2
end
end K49
set_option Elab.async false
set_option autoImplicit false
set_option maxRecDepth 100000
set_option maxHeartbeats 4000000
/-! _law_is -/
namespace K49
open PySem PySem.W L2
/-- data of depth d with ints at the ends -/
def shp : Nat → PyData → Prop
  | 0, dt => ∃ i, dt = .int i
  | d + 1, dt => ∃ ds : List PyData, (dt = .list ds ∨ dt = .tuple ds) ∧ ds.length ≤ 1000 ∧ ∀ e ∈ ds, shp d e
def spIs (K : PySem.W.Frag) (d : Nat) : Sp := fun vs H Q _ => ∃ (x y : V) (dt : PyData), vs = [x, y] ∧ Dp K H x dt ∧ Dp K H y dt ∧ shp d dt ∧ ∀ H', L2.Same H H' → Q (.bl true) H'
/-- a list or a tuple -/
structure SeqV (K : PySem.W.Frag) (H : Hp) (v : V) (xs : List V) (ty : String) : Prop where
  ex : ∃ a, v = .ref a ∧ ((ty = "list" ∧ SqL K H a xs) ∨ (ty = "tuple" ∧ SqT K H a xs))
section
variable {K : PySem.W.Frag} {H H' : Hp} {v : V} {xs : List V} {ty : String}
theorem SeqV.same (s : L2.Same H H') (h : SeqV K H v xs ty) : SeqV K H' v xs ty := by
  obtain ⟨a, e, h⟩ := h.ex
  exact ⟨a, e, h.imp (fun z => ⟨z.1, SqL.same s z.2⟩) fun z => ⟨z.1, SqT.same s z.2⟩⟩
theorem SeqV.tyx (h : SeqV K H v xs ty) : TyX K H v (.type ty) := by
  obtain ⟨a, rfl, ⟨rfl, h1⟩ | ⟨rfl, h1⟩⟩ := h.ex
  · exact tyx_list h1
  · exact tyx_tup h1
theorem SeqV.len (h : SeqV K H v xs ty) : LenV K v H xs.length := by
  obtain ⟨a, rfl, ⟨rfl, h1⟩ | ⟨rfl, h1⟩⟩ := h.ex
  · exact .inl ⟨_, h1, rfl⟩
  · exact .inr ⟨_, h1, rfl⟩
theorem SeqV.at (h : SeqV K H v xs ty) {i : Nat} {z : V} (e : xs[i]? = some z) {Q : VK} (q : Q z H) : rIx K v (.int (i : Int)) H Q := by
  obtain ⟨a, rfl, ⟨rfl, h1⟩ | ⟨rfl, h1⟩⟩ := h.ex
  · exact .inl ⟨a, xs, _, _, rfl, rfl, h1, atI_nat e, q⟩
  · exact .inr (.inl ⟨a, xs, _, _, rfl, rfl, h1, atI_nat e, q⟩)
end
theorem kits {K : PySem.W.Frag} {ty : String} (h : ty = "list" ∨ ty = "tuple") : ∃ b1 b2, PySem.W.kitOne K (.type ty) (.type "tuple") = some b1 ∧ PySem.W.kitOne K (.type ty) (.type "list") = some b2 ∧ PySem.W.kitAny K (.type ty) [.type "tuple", .type "list"] = some true := by
  rcases h with rfl | rfl
  · refine ⟨false, true, kit_ty (by decide +kernel), kit_ty (by decide +kernel), ?_⟩
    rw [PySem.W.kitAny.eq_2, PySem.W.kitAny.eq_2, kit_ty (r := false) (by decide +kernel), kit_ty (r := true) (by decide +kernel)]
  · refine ⟨true, false, kit_ty (by decide +kernel), kit_ty (by decide +kernel), ?_⟩
    rw [PySem.W.kitAny.eq_2, kit_ty (r := true) (by decide +kernel)]
theorem kit_int {K : PySem.W.Frag} : PySem.W.kitAny K (.type "int") [.type "tuple", .type "list"] = some false := by
  rw [PySem.W.kitAny.eq_2, PySem.W.kitAny.eq_2, PySem.W.kitAny.eq_1, kit_ty (r := false) (by decide +kernel), kit_ty (r := false) (by decide +kernel)]
theorem dp_seq {K : PySem.W.Frag} {H : Hp} {x y : V} {dt : PyData} {ds : List PyData} (h : dt = .list ds ∨ dt = .tuple ds) (dx : Dp K H x dt) (dy : Dp K H y dt) :
    ∃ ty xs ys, (ty = "list" ∨ ty = "tuple") ∧ SeqV K H x xs ty ∧ SeqV K H y ys ty ∧ DpAll K H xs ds ∧ DpAll K H ys ds := by
  rcases h with rfl | rfl
  · cases dx with
    | lst h1 h2 =>
      cases dy with
      | lst h3 h4 => exact ⟨"list", _, _, .inl rfl, ⟨_, rfl, .inl ⟨rfl, h1⟩⟩, ⟨_, rfl, .inl ⟨rfl, h3⟩⟩, h2, h4⟩
  · cases dx with
    | tup h1 h2 =>
      cases dy with
      | tup h3 h4 => exact ⟨"tuple", _, _, .inr rfl, ⟨_, rfl, .inr ⟨rfl, h1⟩⟩, ⟨_, rfl, .inr ⟨rfl, h3⟩⟩, h2, h4⟩
theorem dp_get {K : PySem.W.Frag} {H : Hp} : ∀ {xs : List V} {ds : List PyData}, DpAll K H xs ds → ∀ {i : Nat} {x : V} {d : PyData}, xs[i]? = some x → ds[i]? = some d → Dp K H x d
  | _, _, .nil, i, x, d, h, _ => by simp at h
  | _, _, .cons r t, 0, x, d, h1, h2 => by
    simp at h1 h2
    subst h1 h2
    exact r
  | _, _, .cons r t, i + 1, x, d, h1, h2 => dp_get t (by simpa using h1) (by simpa using h2)
theorem all_true (l : List Int) : (l.filterMap fun _ => some true).all id = true := by
  induction l with
  | nil => rfl
  | cons x l ih => simpa using ih
section
variable {P : Program} {w : World} {K : PySem.W.Frag} {mg : Str → Option Value} {base : Heap}
theorem scIs : FnScope ["_law_told", "_law_due", "_law_k", "_law_key"] ["_law_told", "_law_due"] (defScope sIs) := ⟨rfl, rfl, rfl, by decide +kernel, rfl, by decide +kernel, by decide +kernel⟩
theorem cl_is0 (F : Df K mg "_law_is" sIs ["_law_told", "_law_due"]) (B : Bl mg) : Cl P w K mg base 1 "_law_is" (spIs K 0) := by
  refine F.cl scIs (fun vs H Q E h => ?_) (fun f cdv A outer s H vs Q E hr h => ?_)
  · obtain ⟨x, y, dt, rfl, _⟩ := h
    rfl
  · obtain ⟨x, y, dt, rfl, dx, dy, ⟨i, rfl⟩, k⟩ := h
    cases dx
    cases dy
    refine ⟨_, pss_cons (ps_if (pt_val (pe_callB call_isiT (by rfl) B.isi PyProof.Rows.boot_isinstance (pa_cons (pv 1) (pa_cons (pe_tup (pa_cons (pe_bltn (v := .ty "tuple") (by rfl) B.tuple PyProof.Rows.boot_tuple rfl) (pa_cons (pe_bltn (v := .ty "list") (by rfl) B.list PyProof.Rows.boot_list rfl) pa_nil))) pa_nil)))) (pss_cons ps_never (pss_one ps_never)) pss_nil)
      (pss_cons (ps_if (pt_val (pe_callB call_isi (by rfl) B.isi PyProof.Rows.boot_isinstance (pa_cons (pv 1) (pa_cons (pe_bltn (v := .ty "dict") (by rfl) B.dict PyProof.Rows.boot_dict rfl) pa_nil)))) (pss_one ps_never) pss_nil)
      (pss_one (ps_ret (pe_and (pe_cmpR op_eq (pe_callB call_isi (by rfl) B.isi PyProof.Rows.boot_isinstance (pa_cons (pv 0) (pa_cons (pe_bltn (v := .ty "bool") (by rfl) B.bool PyProof.Rows.boot_bool rfl) pa_nil))) (pe_callB call_isi (by rfl) B.isi PyProof.Rows.boot_isinstance (pa_cons (pv 1) (pa_cons (pe_bltn (v := .ty "bool") (by rfl) B.bool PyProof.Rows.boot_bool rfl) pa_nil))) (nomark _))
        (pe_one (pe_cmpR op_eq (pv 0) (pv 1) (nomark _))))))), ?_⟩
    refine ⟨_, rfl, by show 2 ≤ sizeLine; decide, fun tp htp => ?_⟩
    refine ⟨_, tp, _, _, _, _, rfl, upd_same, .cons (.ty "tuple") (.cons (.ty "list") .nil), .base (.int i), kit_int, _, rfl, iteF ?_⟩
    refine ⟨_, rfl, _, _, _, _, _, rfl, .ty "dict", .base (.int i), kit_ty (r := false) (by decide +kernel), _, rfl, iteF ?_⟩
    refine ⟨_, rfl, _, _, _, _, _, rfl, .ty "bool", .base (.int i), kit_ty (r := false) (by decide +kernel), ?_⟩
    refine ⟨_, rfl, _, _, _, _, _, rfl, .ty "bool", .base (.int i), kit_ty (r := false) (by decide +kernel), rfl, _, rfl, ?_⟩
    rw [decide_eq_true rfl]
    refine iteT ⟨_, rfl, _, rfl, rfl, ?_⟩
    rw [decide_eq_true rfl]
    exact k _ (same_new htp)
theorem cl_isS {d : Nat} (F : Df K mg "_law_is" sIs ["_law_told", "_law_due"]) (cR : Cl P w K mg base (d + 1) "_law_is" (spIs K d)) (B : Bl mg) : Cl P w K mg base (d + 2) "_law_is" (spIs K (d + 1)) := by
  refine F.cl scIs (fun vs H Q E h => ?_) (fun f cdv A outer s H vs Q E hr h => ?_)
  · obtain ⟨x, y, dt, rfl, _⟩ := h
    rfl
  · obtain ⟨x, y, dt, rfl, dx, dy, ⟨ds, hds, hl, hsh⟩, k⟩ := h
    obtain ⟨ty, xs, ys, hty, vx, vy, ax, ay⟩ := dp_seq hds dx dy
    obtain ⟨b1, b2, k1, k2, k3⟩ := kits (K := K) hty
    refine ⟨_, pss_cons (ps_if (pt_val (pe_callB call_isiT (by rfl) B.isi PyProof.Rows.boot_isinstance (pa_cons (pv 1) (pa_cons (pe_tup (pa_cons (pe_bltn (v := .ty "tuple") (by rfl) B.tuple PyProof.Rows.boot_tuple rfl) (pa_cons (pe_bltn (v := .ty "list") (by rfl) B.list PyProof.Rows.boot_list rfl) pa_nil))) pa_nil))))
        (pss_cons (ps_if (PW.pt (pw_or
            (pt_cmpR op_ne (pe_callB call_isi (by rfl) B.isi PyProof.Rows.boot_isinstance (pa_cons (pv 0) (pa_cons (pe_bltn (v := .ty "tuple") (by rfl) B.tuple PyProof.Rows.boot_tuple rfl) pa_nil))) (pe_callB call_isi (by rfl) B.isi PyProof.Rows.boot_isinstance (pa_cons (pv 1) (pa_cons (pe_bltn (v := .ty "tuple") (by rfl) B.tuple PyProof.Rows.boot_tuple rfl) pa_nil))) (nomark _))
            (pw_or1 (pt_cmpR op_ne (pe_callB call_isi (by rfl) B.isi PyProof.Rows.boot_isinstance (pa_cons (pv 0) (pa_cons (pe_bltn (v := .ty "list") (by rfl) B.list PyProof.Rows.boot_list rfl) pa_nil))) (pe_callB call_isi (by rfl) B.isi PyProof.Rows.boot_isinstance (pa_cons (pv 1) (pa_cons (pe_bltn (v := .ty "list") (by rfl) B.list PyProof.Rows.boot_list rfl) pa_nil))) (nomark _))))) (pss_one ps_never) pss_nil)
          (pss_one (ps_ret (pe_and (pe_cmpR op_eq (pe_callB call_len (by rfl) B.len PySem.boot_len (pa_cons (pv 0) pa_nil)) (pe_callB call_len (by rfl) B.len PySem.boot_len (pa_cons (pv 1) pa_nil)) (nomark _))
            (pe_one (pe_callB (cr_all rfl) (by rfl) B.all PyProof.Rows.boot_all (pa_cons (pe_lc (own := [("_law_k", 2)]) (g := gName 2) (tt := tYes) rfl scIs.nd (pi_range1 (by rfl) B.range (pa_cons (pe_callB call_len (by rfl) B.len PySem.boot_len (pa_cons (pv 1) pa_nil)) pa_nil)) (blkOk_by (by kernel_rfl))
              (fun _ _ _ _ _ => pg_name (i := 2) scIs.nd rfl (Or.inl rfl)) (fun _ _ _ _ _ => pts_nil)
              (fun _ _ _ _ _ => pc cR hr (Nat.le_refl _) (by rfl) (pa_cons (pe_ix (ix_seqK K rfl) (pv 0) (pv 2) (fun _ _ => rfl)) (pa_cons (pe_ix (ix_seqK K rfl) (pv 1) (pv 2) (fun _ _ => rfl)) pa_nil)))) pa_nil))))))) pss_nil)
      (pss_cons ps_never (pss_one ps_never)), ?_⟩
    refine ⟨_, rfl, by show 2 ≤ sizeLine; decide, fun tp htp => ?_⟩
    have s1 := same_new (o := .tup [.ty "tuple", .ty "list"]) htp
    have hT : (upd H tp (.tup [.ty "tuple", .ty "list"])) tp = some (.tup [.ty "tuple", .ty "list"]) := upd_same
    generalize upd H tp (.tup [.ty "tuple", .ty "list"]) = H1 at s1 hT ⊢
    have vx1 := vx.same s1
    have vy1 := vy.same s1
    have xl : xs.length = ds.length := dp_len ax
    have yl : ys.length = ds.length := dp_len ay
    refine ⟨_, tp, _, _, _, _, rfl, hT, .cons (.ty "tuple") (.cons (.ty "list") .nil), vy1.tyx, k3, _, rfl, iteT ?_⟩
    refine ⟨_, rfl, _, _, _, _, _, rfl, .ty "tuple", vx1.tyx, k1, _, rfl, _, _, _, _, _, rfl, .ty "tuple", vy1.tyx, k1, rfl, _, rfl, ?_⟩
    rw [decide_eq_true rfl]
    refine iteF ?_
    refine ⟨_, rfl, _, _, _, _, _, rfl, .ty "list", vx1.tyx, k2, _, rfl, _, _, _, _, _, rfl, .ty "list", vy1.tyx, k2, rfl, _, rfl, ?_⟩
    rw [decide_eq_true rfl]
    refine iteF ?_
    refine ⟨_, rfl, _, _, rfl, vx1.len, _, rfl, _, _, rfl, vy1.len, rfl, _, rfl, ?_⟩
    rw [decide_eq_true (by rw [xl, yl])]
    refine iteT ⟨_, rfl, _, _, rfl, vy1.len, _, rfl, by omega, by omega, fun D hD => ?_⟩
    rw [Int.toNat_natCast, yl]
    refine lc_data (E := fun x (d : Int) => x = V.int d ∧ d ∈ rg ds.length) (ds := rg ds.length) (f := fun _ => some true) (R := fun _ y (z : Bool) => y = V.bl z) hD (src_range ds.length) (pr_mem (rgV_pr _)) (by rw [rgV_len]; exact small (by omega)) (fun _ _ _ _ _ h => h) ?_ ?_
    · rintro x e H3 Nx ⟨rfl, he⟩ s3 skip done
      have her := mem_rg.mp he
      obtain ⟨i, rfl⟩ : ∃ i : Nat, e = (i : Int) := ⟨e.toNat, by omega⟩
      have hi : i < ds.length := by omega
      have hxi : xs[i]? = some (xs[i]'(by omega)) := List.getElem?_eq_getElem (by omega)
      have hyi : ys[i]? = some (ys[i]'(by omega)) := List.getElem?_eq_getElem (by omega)
      have hdi : ds[i]? = some (ds[i]'hi) := List.getElem?_eq_getElem hi
      have s13 := s1.trans s3
      refine ⟨rfl, _, rfl, _, rfl, (vx1.same s3).at hxi ⟨_, rfl, _, rfl, (vy1.same s3).at hyi ?_⟩⟩
      exact ⟨_, _, _, rfl, Dp.same s13 (dp_get ax hxi hdi), Dp.same s13 (dp_get ay hyi hdi), hsh _ (List.getElem_mem hi), fun H4 s4 => done _ _ _ rfl s4 rfl⟩
    · intro H3 zs s3 hz hp
      have e := pr_map hp
      subst e
      refine ⟨D, _, rfl, SqL.of hz, ?_⟩
      rw [all_true]
      exact k H3 (s1.trans s3)
end
end K49
set_option Elab.async false
set_option autoImplicit false
set_option maxRecDepth 100000
set_option maxHeartbeats 4000000
/-! _law_arrows -/
namespace K49
open PySem PySem.W L2
theorem sub_lots {α : Type} {s l : List α} (h : s.Sublist l) : s ∈ lotsOf l := by
  suffices k : ∀ (l s t : List α) (acc : List (List α)), s.Sublist l → t ∈ acc → t ++ s ∈ l.foldl (fun acc x => acc ++ acc.map fun y => y ++ [x]) acc from by
    have := k l s [] [[]] h List.mem_cons_self
    exact this
  intro l
  induction l with
  | nil =>
    intro s t acc hs ht
    have e : s = [] := List.sublist_nil.mp hs
    subst e
    rw [List.append_nil]
    exact ht
  | cons x l ih =>
    intro s t acc hs ht
    rw [List.foldl_cons]
    cases hs with
    | cons _ h1 => exact ih s t _ h1 (List.mem_append_left _ ht)
    | @cons_cons s1 _ _ h1 =>
      have e : t ++ x :: s1 = (t ++ [x]) ++ s1 := by simp
      rw [e]
      exact ih s1 (t ++ [x]) _ h1 (List.mem_append_right _ (List.mem_map.mpr ⟨t, ht, rfl⟩))
/-- for i, x in enumerate(xs), xs a list: Pv by the turn, the slots, the heap -/
theorem for_enumL {K : PySem.W.Frag} {a : Addr} {xs : List V} {g : TG} {tb : TS} {D : Ends} {σ : L2.St} {H : Hp} (Pv : Nat → L2.St → Hp → Prop) (h0 : Pv 0 σ H) (hl : ∀ i σ H, i ≤ xs.length → Pv i σ H → SqL K H a xs)
    (hs : ∀ i x T σ H, xs[i]? = some x → Pv i σ H → H T = none → g (.ref T) σ (upd H T (.tup [.int (i : Nat), x])) fun σ2 H2 => tb { D with nx := Pv (i + 1), ct := Pv (i + 1), bk := D.nx } σ2 H2) (hd : ∀ σ H, Pv xs.length σ H → D.nx σ H) :
    ∃ W : Nat → Nat → L2.St → Hp → Prop, (∃ m, W 0 m σ H) ∧ ∀ i m σ H, W i m σ H →
      ((Ite K a).stop i H ∧ D.nx σ H) ∨ ((Ite K a).go i H ∧ ∃ N : L2.St → Hp → Prop, (∀ σ' H', N σ' H' → ∃ m', m' < m ∧ W (i + 1) m' σ' H') ∧ ∀ x H', (Ite K a).yld i H x H' → g x σ H' fun σ2 H2 => tb { D with nx := N, ct := N, bk := D.nx } σ2 H2) := by
  refine ⟨fun i m σ H => m = xs.length - i ∧ i ≤ xs.length ∧ Pv i σ H, ⟨xs.length, by simp, Nat.zero_le _, h0⟩, ?_⟩
  rintro i m σ H ⟨rfl, hi, p⟩
  have q := hl i σ H hi p
  by_cases hlt : i < xs.length
  · refine .inr ⟨⟨xs, xs[i], q, by simp [hlt]⟩, Pv (i + 1), fun σ' H' p' => ⟨xs.length - (i + 1), by omega, rfl, hlt, p'⟩, fun x H' y => ?_⟩
    obtain ⟨T, x', rfl, hT, rfl, hx⟩ := y
    exact hs i x' T σ H (hx xs q) p hT
  · have e : i = xs.length := by omega
    subst e
    exact .inl ⟨⟨xs, q, Nat.le_refl _⟩, hd σ H p⟩
theorem cut_from (xs : List V) (i : Nat) : cutV xs (some ((i : Int) + 1)) none = xs.drop (i + 1) := by
  have e1 : ¬ ((i : Int) + 1 < 0) := by omega
  have e2 : ((i : Int) + 1).toNat = i + 1 := by omega
  simp only [cutV, HT.sIx, if_neg e1, e2]
  by_cases h : i + 1 ≤ xs.length
  · rw [Nat.min_eq_left h]
    rw [List.take_of_length_le]
    rw [List.length_drop]
    exact Nat.le_refl _
  · rw [Nat.min_eq_right (by omega), List.drop_of_length_le (Nat.le_refl _), List.drop_of_length_le (show xs.length ≤ i + 1 by omega)]
    simp
def spLArr (K : PySem.W.Frag) : Sp := fun vs H Q _ => ∃ (h c : Addr) (n : Nat) (r : Int), vs = [.ref h, .int n, .int r] ∧ (n = 1 ∨ n = 2) ∧ HandAt K H h c ∧ 0 < r ∧ r ≤ 1000 ∧
  ∀ H' q (as : List Arr), But h H H' → HandAt K H' h c → Drawn n as → as.length ≤ 1000 → Dp K H' (.ref q) (encA (sortP as)) → Q (.ref q) H'
section
variable {P : Program} {w : World} {K : PySem.W.Frag} {mg : Str → Option Value} {base : Heap}
theorem scLArr : FnScope ["_law_hand_here", "_law_columns", "_law_rare", "_law_firsts", "_law_found", "_law_seconds", "_law_things", "_law_at", "_law_one", "_law_other", "_law_column"] ["_law_hand_here", "_law_columns", "_law_rare"] (defScope sLArr) := ⟨rfl, rfl, rfl, by decide +kernel, rfl, by decide +kernel, by decide +kernel⟩
set_option maxHeartbeats 16000000 in
theorem cl_larr (F : Df K mg "_law_arrows" sLArr ["_law_hand_here", "_law_columns", "_law_rare"]) (cd : Cl P w K mg base 1 "_law_draw" (spDraw K)) (cS : Cl P w K mg base 2 "_law_shuffled" (spShuf K)) (B : Bl mg) : Cl P w K mg base 3 "_law_arrows" (spLArr K) := by
  refine F.cl scLArr (fun vs H Q E h => ?_) (fun f cdv A outer s H vs Q E hr h => ?_)
  · obtain ⟨h, c, n, r, rfl, _⟩ := h
    rfl
  · obtain ⟨h, c, n, r, rfl, hn, hx, hr0, hr1, k⟩ := h
    have hn4 : 1 ≤ n ∧ n ≤ 2 := by rcases hn with rfl | rfl <;> decide
    refine ⟨_, pss_cons (ps_par (i := 3) (j := 4) rfl scLArr.nd rfl rfl (by decide) rfl rfl (pa_cons (pc cS hr (by decide) (by rfl) (pa_cons (pv 0) (pa_cons (pe_listRg rfl (by rfl) B.list (prg_1 (by rfl) B.range (pv 1))) pa_nil))) (pa_cons (pe_lst pa_nil) pa_nil)) (by rfl))
      (pss_cons (ps_setLc (i := 5) (own := [("_law_column", 10)]) (g := gName 10) (tt := tYes) rfl scLArr.nd rfl rfl (sw_true rfl rfl rfl (by decide +kernel)) (pi_list (pc cS hr (by decide) (by rfl) (pa_cons (pv 0) (pa_cons (pe_listRg rfl (by rfl) B.list (prg_1 (by rfl) B.range (pv 1))) pa_nil)))) (blkOk_by (by kernel_rfl))
          (fun _ _ _ _ _ => pg_name (i := 10) scLArr.nd rfl (Or.inl rfl)) (fun _ _ _ _ _ => pts_nil) (fun _ _ _ _ _ => pe_op op_add (pv 1) (pv 10)))
      (pss_cons (ps_set (i := 6) scLArr.nd rfl (Or.inl rfl) (pe_op op_cat (pv 3) (pv 5)))
      (pss_cons (ps_for PassesOwn.never rfl (pi_enum (by rfl) B.enumerate (pa_cons (pv 6) pa_nil)) (pg_tup rfl (pgs_cons (pg_name (i := 7) scLArr.nd rfl (Or.inl rfl)) (pgs_cons (pg_name (i := 8) scLArr.nd rfl (Or.inl rfl)) pgs_nil)))
        (pss_one (ps_for PassesOwn.never rfl (pi_list (pe_slice sl_list (pv 6) (po_some (pe_op op_add (pv 7) pe_int)) po_none)) (pg_name (i := 9) scLArr.nd rfl (Or.inl rfl))
          (pss_one (ps_if (pt_cmpR op_eq (pc cd hr (by decide) (by rfl) (pa_cons (pv 0) (pa_cons (pv 2) pa_nil))) pe_int (nomark _))
            (pss_one (ps_expr (pe_bm PySem.F.plainAttrs_list PySem.F.slot_list_append PySem.F.type_list_append mt_append (pv 4) (pa_cons (pe_tup (pa_cons (pv 8) (pa_cons (pv 9) pa_nil))) pa_nil)))) pss_nil)))))
      (pss_one (ps_ret (pe_tupleOf (by rfl) B.tuple (pe_callB (cr_sortedD (enc := encP) (d := 1) (room_sort hr (by decide))) (by rfl) B.sorted PyProof.Rows.boot_sorted (pa_cons (pv 4) pa_nil)))))))), ?_⟩
    -- firsts, found
    refine ⟨_, rfl, _, rfl, _, rfl, ⟨by decide, by decide, by omega, by omega, by omega⟩, fun q1 hq1 => ?_⟩
    rw [rgL_eq]
    have sA := same_new (o := .lst ((rg n).map V.int)) hq1
    refine ⟨h, c, q1, rg n, rfl, hx.same sA, SqL.of upd_same, by rw [rg_len]; omega, fun H2 p1 ms1 b2 x2 hp1 hm1 pm1 => ?_⟩
    have bA : But h H H2 := (But.of_same sA).trans b2
    have hp10 : H p1 = none := sA.free hp1
    refine ⟨small (by decide), fun Fd hFd => ⟨_, _, rfl, ?_⟩⟩
    have hFd0 : H Fd = none := by
      cases e : H Fd with
      | none => rfl
      | some o =>
        by_cases z : Fd = h
        · obtain ⟨ys, ey⟩ := x2.v.is
          rw [← z, hFd] at ey
          cases ey
        · rw [bA _ _ e z] at hFd
          cases hFd
    have hhF : h ≠ Fd := hx.v.ne hFd0
    have hhp1 : h ≠ p1 := hx.v.ne hp10
    have hp1F : p1 ≠ Fd := ne_of_none hm1 hFd
    have b3 : But h H (upd H2 Fd (.lst [])) := bA.new hFd0
    have x3 : HandAt K (upd H2 Fd (.lst [])) h c := hx.of b3 (x2.v.upd hhF)
    have m3 : (upd H2 Fd (.lst [])) p1 = some (.lst (ms1.map V.int)) := by
      rw [upd_ne hp1F]
      exact hm1
    have f3 : (upd H2 Fd (.lst [])) Fd = some (.lst []) := upd_same
    generalize upd H2 Fd (.lst []) = H3 at b3 x3 m3 f3 ⊢
    -- seconds
    refine ⟨_, rfl, _, rfl, _, rfl, ⟨by decide, by decide, by omega, by omega, by omega⟩, fun q2 hq2 => ?_⟩
    rw [rgL_eq]
    have sB := same_new (o := .lst ((rg n).map V.int)) hq2
    refine ⟨h, c, q2, rg n, rfl, x3.same sB, SqL.of upd_same, by rw [rg_len]; omega, fun H4 p2 ms2 b4 x4 hp2 hm2 pm2 => ?_⟩
    have bB : But h H3 H4 := (But.of_same sB).trans b4
    have b34 : But h H H4 := b3.trans bB
    have m4 := bB _ _ m3 hhp1.symm
    have f4 := bB _ _ f3 hhF.symm
    have l1 : ms1.length = n := by rw [pm1.length_eq, rg_len]
    have l2 : ms2.length = n := by rw [pm2.length_eq, rg_len]
    refine ⟨p2, rfl, ⟨_, SqL.of hm2⟩, fun D hD => ?_⟩
    refine lc_data (E := fun x (d : Int) => x = V.int d) (ds := ms2) (f := fun d => some ((n : Int) + d)) (R := fun _ y (d : Int) => y = V.int d) hD (src_list (SqL.of hm2)) (pr_ints ms2) (small (by rw [List.length_map]; omega)) (fun _ _ _ _ _ r => r) ?_ ?_
    · rintro x d H6 Nx rfl s6 skip done
      exact ⟨rfl, _, rfl, _, rfl, _, _, rfl, rfl, done _ _ _ rfl (L2.Same.refl _) rfl⟩
    intro H5 ys s5 hy5 hp5
    have e := pr_map hp5
    subst e
    rw [filterMap_some] at hy5
    -- things
    refine ⟨_, rfl, _, rfl, p1, D, _, _, rfl, rfl, s5 _ _ m4, hy5, small (by rw [List.length_map, List.length_map, List.length_map]; omega), fun Tg hTg => ?_⟩
    rw [← List.map_append]
    generalize hth : ms1 ++ ms2.map (fun d => (n : Int) + d) = th
    have hthl : th.length = 2 * n := by
      rw [← hth, List.length_append, List.length_map]
      omega
    have s6 := s5.trans (same_new (o := .lst (th.map V.int)) hTg)
    have b6 := b34.same s6
    have f6 := s6 _ _ f4
    have x6 := x4.same s6
    have t6 : (upd H5 Tg (.lst (th.map V.int))) Tg = some (.lst (th.map V.int)) := upd_same
    have hTh : Tg ≠ h := by
      obtain ⟨ys, ey⟩ := (x4.same s5).v.is
      exact (ne_of_none ey hTg).symm
    have hTF : Tg ≠ Fd := (ne_of_none (s5 _ _ f4) hTg).symm
    generalize upd H5 Tg (.lst (th.map V.int)) = H7 at s6 b6 f6 x6 t6 ⊢
    -- the loops
    refine ⟨_, rfl, Tg, _, rfl, SqL.of t6, for_enumL (K := K) (a := Tg) (xs := th.map V.int) (fun i σ G => ∃ (xs : List V) (fs : List Arr) (g7 g8 g9 : Option V), σ = [some (.ref h), some (.int n), some (.int r), some (.ref p1), some (.ref Fd), some (.ref D), some (.ref Tg), g7, g8, g9, none] ∧
        But h H G ∧ HandAt K G h c ∧ G Tg = some (.lst (th.map V.int)) ∧ G Fd = some (.lst xs) ∧ DpAll K G xs (fs.map encP) ∧ (∀ rs, rs.Sublist (pairsOf (th.drop i)) → (fs ++ rs).Sublist (pairsOf th)) ∧ fs.length ≤ 8 * i)
      ⟨[], [], none, none, none, rfl, b6, x6, t6, f6, .nil, fun rs hrs => hrs, Nat.le_refl _⟩ (fun i σ G _ ⟨_, _, _, _, _, _, _, _, tg, _⟩ => SqL.of tg) ?_ ?_⟩
    · rintro i x T σ G hi ⟨xs, fs, g7, g8, g9, rfl, bG, xG, tG, fG, dG, inv, lG⟩ hT
      have hil : i < th.length := by
        have q := (List.getElem?_eq_some_iff.mp hi).1
        rw [List.length_map] at q
        exact q
      obtain ⟨d, hd, rfl⟩ : ∃ d, th[i]? = some d ∧ x = V.int d := by
        rw [List.getElem?_map, List.getElem?_eq_getElem hil] at hi
        exact ⟨th[i], List.getElem?_eq_getElem hil, (Option.some.inj hi).symm⟩
      have edrop : th.drop i = d :: th.drop (i + 1) := by
        have := List.drop_eq_getElem_cons hil
        rw [this]
        congr 1
        rw [List.getElem?_eq_getElem hil] at hd
        exact Option.some.inj hd
      rw [edrop] at inv
      have sT := same_new (o := .tup [V.int (i : Nat), V.int d]) hT
      refine ⟨T, _, rfl, SqT.of upd_same, rfl, _, _, rfl, _, _, rfl, rfl, ?_⟩
      refine ⟨_, rfl, _, rfl, _, _, rfl, rfl, _, rfl, Tg, _, rfl, SqL.of (sT _ _ tG), fun S0 hS0 => ?_⟩
      rw [cut_from, ← List.map_drop]
      have s7 := sT.trans (same_new (o := .lst ((th.drop (i + 1)).map V.int)) hS0)
      have hSh : S0 ≠ h := by
        obtain ⟨ys, ey⟩ := (xG.same sT).v.is
        exact (ne_of_none ey hS0).symm
      have hSF : S0 ≠ Fd := (ne_of_none (sT _ _ fG) hS0).symm
      have hST : Tg ≠ S0 := ne_of_none (sT _ _ tG) hS0
      refine ⟨S0, rfl, ⟨_, SqL.of upd_same⟩, ?_⟩
      have hSl : (th.drop (i + 1)).length ≤ 4 := by
        rw [List.length_drop]
        omega
      have bG' := bG.same s7
      have xG' := xG.same s7
      have tG' := s7 _ _ tG
      have fG' := s7 _ _ fG
      have dG' := DpAll.same s7 dG
      have sG' : (upd (upd G T (.tup [V.int (i : Nat), V.int d])) S0 (.lst ((th.drop (i + 1)).map V.int))) S0 = some (.lst ((th.drop (i + 1)).map V.int)) := upd_same
      generalize (upd (upd G T (.tup [V.int (i : Nat), V.int d])) S0 (.lst ((th.drop (i + 1)).map V.int))) = G1 at bG' xG' tG' fG' dG' sG' ⊢
      refine for_list (K := K) (a := S0) (xs := (th.drop (i + 1)).map V.int) (fun j σ G2 => ∃ (xs : List V) (fs : List Arr) (g9 : Option V), σ = [some (.ref h), some (.int n), some (.int r), some (.ref p1), some (.ref Fd), some (.ref D), some (.ref Tg), some (.int (i : Nat)), some (.int d), g9, none] ∧
          But h H G2 ∧ HandAt K G2 h c ∧ G2 Tg = some (.lst (th.map V.int)) ∧ G2 Fd = some (.lst xs) ∧ DpAll K G2 xs (fs.map encP) ∧ G2 S0 = some (.lst ((th.drop (i + 1)).map V.int)) ∧
          (∀ rs, rs.Sublist ((((th.drop (i + 1)).drop j).map fun y => (d, y)) ++ pairsOf (th.drop (i + 1))) → (fs ++ rs).Sublist (pairsOf th)) ∧ fs.length ≤ 8 * i + j)
        ⟨xs, fs, g9, rfl, bG', xG', tG', fG', dG', sG', fun rs hrs => inv rs hrs, lG⟩ (fun j σ G2 _ ⟨_, _, _, _, _, _, _, _, _, sg, _⟩ => SqL.of sg) ?_ ?_
      · rintro j y σ G2 hj ⟨xs, fs, g9, rfl, b2', x2', tg, fg, dg, sg, inv2, lg⟩
        have hjl : j < (th.drop (i + 1)).length := by
          have q := (List.getElem?_eq_some_iff.mp hj).1
          rw [List.length_map] at q
          exact q
        obtain ⟨e, he, rfl⟩ : ∃ e, (th.drop (i + 1))[j]? = some e ∧ y = V.int e := by
          rw [List.getElem?_map, List.getElem?_eq_getElem hjl] at hj
          exact ⟨(th.drop (i + 1))[j], List.getElem?_eq_getElem hjl, (Option.some.inj hj).symm⟩
        have edrop2 : (th.drop (i + 1)).drop j = e :: (th.drop (i + 1)).drop (j + 1) := by
          rw [List.drop_eq_getElem_cons hjl]
          congr 1
          rw [List.getElem?_eq_getElem hjl] at he
          exact Option.some.inj he
        rw [edrop2] at inv2
        refine ⟨_, rfl, _, rfl, h, c, r, rfl, x2', hr0, hr1, fun G3 u hu0 hu1 b3' x3' => ?_⟩
        have tg3 := b3' _ _ tg hTh
        have fg3 := b3' _ _ fg hhF.symm
        have sg3 := b3' _ _ sg hSh
        obtain ⟨hys, ehy⟩ := x2'.v.is
        have dg3 := DpAll.sameT (b3'.sameT ehy) _ _ (noLs_map noL_P _) dg
        refine ⟨rfl, _, rfl, ?_⟩
        refine ite2 (fun _ => ?_) (fun _ => ?_)
        · refine ⟨_, rfl, .inl ⟨rfl, _, SqL.of fg3⟩, _, rfl, _, rfl, by show 2 ≤ sizeLine; decide, fun t ht => ?_⟩
          have s8 := same_new (o := .tup [V.int d, V.int e]) ht
          have fg4 := s8 _ _ fg3
          have hxl : xs.length = fs.length := by rw [dp_len dg, List.length_map]
          refine ⟨Fd, xs, _, rfl, rfl, fg4, Nat.lt_of_lt_of_le (show xs.length < 1000 by omega) (small (by decide)), ?_⟩
          have b8 := ((b2'.trans b3').same s8).new (o := .lst (xs ++ [V.ref t])) hFd0
          have t9 : SameT (upd G3 t (.tup [V.int d, V.int e])) (upd (upd G3 t (.tup [V.int d, V.int e])) Fd (.lst (xs ++ [V.ref t]))) := sameT_lst fg4
          refine ⟨xs ++ [.ref t], fs ++ [(d, e)], _, rfl, b8, hx.of b8 ((x3'.same s8).v.upd hhF), by rw [upd_ne hTF]; exact s8 _ _ tg3, upd_same, ?_, by rw [upd_ne hSF]; exact s8 _ _ sg3, ?_, by rw [List.length_append]; simp; omega⟩
          · rw [List.map_append]
            refine dp_append (DpAll.sameT ((sameT_of s8).trans t9) _ _ (noLs_map noL_P _) dg3) (.cons (Dp.sameT t9 _ _ (noL_P (d, e)) ?_) .nil)
            exact .tup (SqT.of (xs := [V.int d, V.int e]) upd_same) (.cons (.int _) (.cons (.int _) .nil))
          · intro rs hrs
            have := inv2 ((d, e) :: rs) (hrs.cons_cons _)
            rw [List.append_assoc]
            exact this
        · exact ⟨xs, fs, _, rfl, b2'.trans b3', x3', tg3, fg3, dg3, sg3, fun rs hrs => inv2 rs (hrs.cons _), by omega⟩
      · rintro σ G2 ⟨xs, fs, g9, rfl, b2', x2', tg, fg, dg, sg, inv2, lg⟩
        refine ⟨xs, fs, _, _, _, rfl, b2', x2', tg, fg, dg, fun rs hrs => inv2 rs ?_, ?_⟩
        · rw [List.length_map, List.drop_length]
          exact hrs
        · rw [List.length_map] at lg
          omega
    · rintro σ G ⟨xs, fs, g7, g8, g9, rfl, bG, xG, tG, fG, dG, inv, lG⟩
      rw [List.length_map] at inv lG
      have hsub := inv [] (List.nil_sublist _)
      rw [List.append_nil, ← hth] at hsub
      have dr : Drawn n fs := drawn_of hn pm1 pm2 (sub_lots hsub)
      refine ⟨_, rfl, Fd, xs, fs, rfl, SqL.of fG, dG, alike_all_P fs, Sortable.tuples fun _ => ⟨_, _, rfl⟩, fun b _ => depth_P b, fun zs p dz lz hp => ?_⟩
      refine .inl ⟨p, zs, rfl, SqL.of upd_same, fun q hq => ?_⟩
      have s1 := (same_new (o := .lst zs) hp).trans (same_new (o := .tup zs) hq)
      exact k _ q fs (bG.same s1) (xG.same s1) dr (by omega) (.tup (SqT.of upd_same) (DpAll.same s1 dz))
end
end K49
set_option Elab.async false
set_option autoImplicit false
set_option maxRecDepth 100000
set_option maxHeartbeats 4000000
/-! law -/
namespace K49
open PySem PySem.W L2
section
variable {X : Cx} {e : Expr} {te : TE}
theorem call_isiK (K : PySem.W.Frag) (h : X.K = K) : CallR X (.builtin "isinstance") (rIsi K) := by subst h; exact call_isi
theorem pe_fldK (K : PySem.W.Frag) (h : X.K = K) {f : Str} {pos : Pos} (he : PE X e te) (hb : attributeBase e f X.env (eval e X.env) = eval e X.env) : PE X (e.Attribute f pos) (tFld K te f) := by subst h; exact pe_fld he hb
end
/-- all but tables and what stands at h -/
def ButN (h : Addr) (H H' : Hp) : Prop := ∀ b o, H b = some o → (∀ ps, o ≠ .tbl ps) → b ≠ h → H' b = some o
section
variable {K : PySem.W.Frag} {h p a c : Addr} {H H1 H2 : Hp} {xs : List V}
theorem ButN.refl (h : Addr) (H : Hp) : ButN h H H := fun _ _ e _ _ => e
theorem ButN.extN (s : ButN h H H1) (t : LamX.ExtN H1 H2) : ButN h H H2 := fun b o e n m => t _ _ (s _ _ e n m) n
theorem ButN.same (s : ButN h H H1) (t : L2.Same H1 H2) : ButN h H H2 := fun b o e n m => t _ _ (s _ _ e n m)
theorem ButN.but (s : ButN h H H1) (t : But h H1 H2) : ButN h H H2 := fun b o e n m => t _ _ (s _ _ e n m) m
theorem ButN.upd (s : ButN h H H1) (n : NewN H p) (o : HO) : ButN h H (L2.upd H1 p o) := fun b u e m k => by
  rw [upd_ne (n.ne e m)]
  exact s _ _ e m k
theorem ButN.seqL (s : ButN h H H1) (x : SqL K H a xs) (n : a ≠ h) : SqL K H1 a xs := by
  rcases x with (x | ⟨o, x⟩) | x
  · exact .inl (.inl (s _ _ x (fun ps z => by cases z) n))
  · exact .inl (.inr ⟨o, s _ _ x (fun ps z => by cases z) n⟩)
  · exact .inr x
theorem HandAt.ofN (x : HandAt K H h c) (b : ButN h H H1) (v : HandV H1 h c) : HandAt K H1 h c := by
  obtain ⟨cs, hc, hl⟩ := x.cs
  exact ⟨v, ⟨cs, b.seqL hc x.ne, hl⟩, x.ne⟩
theorem HandV.extN (x : HandV H h c) (s : LamX.ExtN H H1) : HandV H1 h c := by
  obtain ⟨pos, big, st, cnt, e, r⟩ := x
  exact ⟨pos, big, st, cnt, s _ _ e (fun ps z => by cases z), r⟩
end
theorem true_all {α : Type} (l : List α) : (l.filterMap fun _ => some true).all id = true := by
  induction l with
  | nil => rfl
  | cons x l ih => simpa using ih
theorem count_len {S : List Arr} : ∀ l : List (List Arr), (l.filterMap fun a => if a = S then some a else none).length = l.count S
  | [] => rfl
  | a :: l => by
    have ih := count_len (S := S) l
    by_cases e : a = S
    · rw [List.filterMap_cons, if_pos e, List.count_cons, if_pos (by simp [e])]
      simp [ih]
    · rw [List.filterMap_cons, if_neg e, List.count_cons, if_neg (by simp [e])]
      simpa using ih
theorem lay_A : ∀ ls : List (List Arr), PyData.canLayAll0 (ls.map encA) = true
  | [] => by simp [PyData.canLayAll0]
  | a :: ls => by
    show PyData.canLayAll0 (encA a :: ls.map encA) = true
    simp [PyData.canLayAll0, PyData.canLay0, lay_P a, lay_A ls]
theorem dep_A : ∀ ls : List (List Arr), PyData.depthAll (ls.map encA) ≤ 2
  | [] => by simp [PyData.depthAll]
  | a :: ls => by
    show PyData.depthAll (encA a :: ls.map encA) ≤ 2
    have h1 := dep_A ls
    have h2 := dep_P a
    simp [PyData.depthAll, PyData.depth]
    omega
abbrev encL (ls : List (List Arr)) : PyData := .list (ls.map encA)
theorem lay_L (ls : List (List Arr)) : (encL ls).canLay0 = true := by
  rw [PyData.canLay0]
  exact lay_A ls
theorem shaped_L (ls : List (List Arr)) : SeqAt.shaped (encL ls) = true := by
  have h2 := dep_A ls
  unfold SeqAt.shaped
  rw [lay_L]
  simp [PyData.depth]
  omega
theorem shp_webs {n : Nat} (hn : n = 1 ∨ n = 2) : shp 3 (encL (WL n)) := by
  refine ⟨_, .inl rfl, by rw [List.length_map]; have := webs_len hn; omega, fun e he => ?_⟩
  obtain ⟨a, ha, rfl⟩ := List.mem_map.mp he
  have hal : a.length ≤ 8 := by
    have q : (WL n).all (fun a => decide (a.length ≤ 8)) = true := by rcases hn with rfl | rfl <;> decide +kernel
    exact of_decide_eq_true (List.all_eq_true.mp q a ha)
  refine ⟨_, .inr rfl, by rw [List.length_map]; omega, fun e he => ?_⟩
  obtain ⟨b, hb, rfl⟩ := List.mem_map.mp he
  refine ⟨_, .inr rfl, by show 2 ≤ 1000; decide, fun e he => ?_⟩
  rcases List.mem_cons.mp he with rfl | he
  · exact ⟨_, rfl⟩
  · rw [List.mem_singleton.mp he]
    exact ⟨_, rfl⟩
def spLaw (K : PySem.W.Frag) (Pt : Addr) : Sp := fun vs H Q _ => ∃ (a : Addr) (ns : List Int), vs = [.ref a] ∧ SqL K H a (ns.map V.int) ∧ ns.length ≤ 63 ∧ LamX.Tabs [(Pt, lamQ)] H ∧ ∀ H', Q (.bl true) H'
section
variable {P : Program} {w : World} {K : PySem.W.Frag} {mg : Str → Option Value} {base : Heap}
theorem scLaw : FnScope ["_law_script", "_law_hand_here", "_law_columns", "_law_told", "_law_due", "_law_web", "_law_turn", "_law_at", "_law_one"] ["_law_script"] (defScope sLaw) := ⟨rfl, rfl, rfl, by decide +kernel, rfl, by decide +kernel, by decide +kernel⟩
set_option maxHeartbeats 16000000 in
theorem ok_law {fL : Addr} {fdL : FuncData} {C fI fE Pt : Addr} {fdI fdE : FuncData} (F : Fun K "law" "law" sLaw fL fdL) (T : TxtW K mg C fI fE fdI fdE) (GI : FnOk P w K mg base CX0 4 fI fdI ["self", "columns", "arrows"] (spWebI K C)) (GE : FnOk P w K mg base CX0 1 fE fdE ["self", "other"] (spWebE K C))
    (cH : Cl P w K mg base 1 "_law_hand" (spHand K)) (cS : Cl P w K mg base 2 "_law_shuffled" (spShuf K)) (cA : Cl P w K mg base 8 "all_webs" (spWebsOf K C Pt)) (cE : Cl P w K mg base 3 "_law_every" (spEvery K)) (cI : Cl P w K mg base 4 "_law_is" (spIs K 3))
    (cR : Cl P w K mg base 3 "_law_arrows" (spLArr K)) (cO : Cl P w K mg base 2 "_law_some" (spSome K)) (cD : Cl P w K mg base 1 "_law_draw" (spDraw K)) (B : Bl mg) : FnOk P w K mg base CX0 9 fL fdL ["_law_script"] (spLaw K Pt) := by
  refine F.ok scLaw (fun vs H Q E h => ?_) (fun cdv A outer s H vs Q E hr h => ?_)
  · obtain ⟨a, ns, rfl, _⟩ := h
    rfl
  · obtain ⟨a, ns, rfl, hs, hl, hT, k⟩ := h
    refine ⟨_, pss_cons (ps_set (i := 1) scLaw.nd rfl (Or.inl rfl) (pc cH hr (by decide) (by rfl) (pa_cons (pv 0) pa_nil)))
      (pss_cons (ps_for PassesOwn.never rfl (pi_list (pc cS hr (by decide) (by rfl) (pa_cons (pv 1) (pa_cons (pe_lst (pa_cons pe_int (pa_cons pe_int pa_nil))) pa_nil)))) (pg_name (i := 2) scLaw.nd rfl (Or.inr rfl))
        (pss_cons (ps_par (i := 3) (j := 4) rfl scLaw.nd rfl rfl (by decide) rfl rfl (pa_cons (pc cA hr (by decide) (by rfl) (pa_cons (pv 2) pa_nil)) (pa_cons (pc cE hr (by decide) (by rfl) (pa_cons (pv 2) pa_nil)) pa_nil)) (by rfl))
        (pss_cons (ps_if (PW.pt (pw_or (pt_not (pt_val (pe_callB call_isi (by rfl) B.isi PyProof.Rows.boot_isinstance (pa_cons (pv 3) (pa_cons (pe_bltn (v := .ty "list") (by rfl) B.list PyProof.Rows.boot_list rfl) pa_nil)))))
            (pw_or1 (pt_not (pt_val (pe_callB (cr_all rfl) (by rfl) B.all PyProof.Rows.boot_all (pa_cons
              (pe_lc (own := [("_law_web", 5)]) (g := gName 5) (tt := tYes) rfl scLaw.nd (pi_list (pv 3)) (blkOk_by (by kernel_rfl))
                (fun _ _ _ _ _ => pg_name (i := 5) scLaw.nd rfl (Or.inl rfl)) (fun _ _ _ _ _ => pts_nil)
                (fun _ _ _ _ _ => pe_and (pe_callB (call_isiK K rfl) (by rfl) B.isi PyProof.Rows.boot_isinstance (pa_cons (pv 5) (pa_cons (pe_glob (v := .ref C) (by rfl) T.mgC rfl) pa_nil)))
                  (pe_one (pe_cmpR op_eq (pe_fldK K rfl (pv 5) rfl) (pv 2) (nomark _))))) pa_nil))))))) (pss_one ps_never) pss_nil)
        (pss_cons (ps_if (pt_not (pt_val (pc cI hr (by decide) (by rfl) (pa_cons
              (pe_lc (own := [("_law_web", 5)]) (g := gName 5) (tt := tYes) rfl scLaw.nd (pi_list (pv 3)) (blkOk_by (by kernel_rfl))
                (fun _ _ _ _ _ => pg_name (i := 5) scLaw.nd rfl (Or.inl rfl)) (fun _ _ _ _ _ => pts_nil) (fun _ _ _ _ _ => pe_fldK K rfl (pv 5) rfl)) (pa_cons (pv 4) pa_nil))))) (pss_one ps_never) pss_nil)
        (pss_cons (ps_for PassesOwn.never rfl (pi_range1 (by rfl) B.range (pa_cons pe_int pa_nil)) (pg_name (i := 6) scLaw.nd rfl (Or.inl rfl))
          (pss_cons (ps_set (i := 5) scLaw.nd rfl (Or.inr rfl) (pe_make T.mkW GI (hr.mono (by decide)) (by rfl) T.mgC T.bI .nil pass0 (pa_cons (pv 2) (pa_cons
              (pc cR hr (by decide) (by rfl) (pa_cons (pv 1) (pa_cons (pv 2) (pa_cons (pc cO hr (by decide) (by rfl) (pa_cons (pv 1) (pa_cons (pe_lst (pa_cons pe_int (pa_cons pe_int (pa_cons pe_int pa_nil)))) pa_nil))) pa_nil)))) pa_nil))))
          (pss_one (ps_if (pt_cmpR op_ne (pe_callB call_len (by rfl) B.len PySem.boot_len (pa_cons
              (pe_lc (own := [("_law_one", 8)]) (g := gName 8) rfl scLaw.nd (pi_list (pv 3)) (blkOk_by (by kernel_rfl))
                (fun _ _ _ _ _ => pg_name (i := 8) scLaw.nd rfl (Or.inl rfl))
                (fun _ _ _ _ _ => pts_one (pt_cmpR (op_eqOwn (C := C) GE (hr.mono (by decide)) T.qE T.iE T.bE pass0) (pv 8) (pv 5) (nomark _)))
                (fun _ _ _ _ _ => pv 8)) pa_nil)) pe_int (nomark _)) (pss_one ps_never) pss_nil))))
        (pss_cons (ps_set (i := 7) scLaw.nd rfl (Or.inl rfl) (pc cD hr (by decide) (by rfl) (pa_cons (pv 1) (pa_cons (pe_callB call_len (by rfl) B.len PySem.boot_len (pa_cons (pv 3) pa_nil)) pa_nil))))
        (pss_cons (ps_asg pe_non (pg_sub (pv 3) (pv 7) set_list))
        (pss_cons (ps_expr (pe_bm PySem.F.plainAttrs_list PySem.F.slot_list_append PySem.F.type_list_append mt_append (pv 3) (pa_cons pe_non pa_nil)))
        (pss_one (ps_if (pt_cmpR (op_neD hr.units)
              (pe_lc (own := [("_law_web", 5)]) (g := gName 5) (tt := tYes) rfl scLaw.nd (pi_list (pc cA hr (by decide) (by rfl) (pa_cons (pv 2) pa_nil))) (blkOk_by (by kernel_rfl))
                (fun _ _ _ _ _ => pg_name (i := 5) scLaw.nd rfl (Or.inl rfl)) (fun _ _ _ _ _ => pts_nil) (fun _ _ _ _ _ => pe_fldK K rfl (pv 5) rfl)) (pv 4) (nomark _)) (pss_one ps_never) pss_nil))))))))))
      (pss_one (ps_ret pe_bl))), ?_⟩
    refine ⟨_, rfl, a, ns, rfl, hs, hl, fun H1 h c s1 hh x1 => ?_⟩
    refine ⟨_, rfl, small (by decide), fun l12 hl12 => ?_⟩
    have s2 := same_new (o := .lst [V.int 1, V.int 2]) hl12
    refine ⟨h, c, l12, [1, 2], rfl, x1.same s2, SqL.of upd_same, by decide, fun H3 p ms b3 x3 hp hm pm => ?_⟩
    have hph : p ≠ h := ((x1.same s2).v.ne hp).symm
    obtain ⟨hys2, ehy2⟩ := (x1.same s2).v.is
    have hT3 : LamX.Tabs [(Pt, lamQ)] H3 := b3.tabs ehy2 (tabs_same (s1.trans s2) hT)
    refine ⟨p, rfl, ⟨_, SqL.of hm⟩, for_list (K := K) (a := p) (xs := ms.map V.int) (fun i σ G => ∃ g2 g3 g4 g5 g6 g7 g8 : Option V, σ = [some (.ref a), some (.ref h), g2, g3, g4, g5, g6, g7, none] ∧ LamX.Tabs [(Pt, lamQ)] G ∧ HandAt K G h c ∧ G p = some (.lst (ms.map V.int)))
      ⟨none, none, none, none, none, none, none, rfl, hT3, x3, hm⟩ (fun i σ G _ ⟨_, _, _, _, _, _, _, _, _, _, hp⟩ => SqL.of hp) ?_ (fun σ G ⟨_, _, _, _, _, _, _, e, _⟩ => by subst e; exact k G)⟩
    rintro i y σ G0 hi ⟨g2, g3, g4, g5, g6, g7, g8, rfl, hT0, x0, hp0⟩
    obtain ⟨n, hn, rfl⟩ : ∃ n : Nat, (n = 1 ∨ n = 2) ∧ y = V.int (n : Int) := by
      have hmem : y ∈ ms.map V.int := List.mem_of_getElem? hi
      obtain ⟨d, hd, rfl⟩ := List.mem_map.mp hmem
      have hd2 := pm.mem_iff.mp hd
      rcases List.mem_cons.mp hd2 with rfl | hd2
      · exact ⟨1, .inl rfl, rfl⟩
      · rw [List.mem_singleton.mp hd2]
        exact ⟨2, .inr rfl, rfl⟩
    have hn4 : 1 ≤ n ∧ n ≤ 2 := by rcases hn with rfl | rfl <;> decide
    have hwl := webs_len hn
    -- told, due
    refine ⟨_, rfl, n, rfl, hn, hT0, fun G1 Tw ws e1 hT1 nT hTw1 hw1 => ?_⟩
    refine ⟨_, rfl, n, rfl, hn, fun G2 Du ys s2' hDu hDu2 hd2 => ⟨_, _, rfl, ?_⟩⟩
    rw [every_is hn] at hd2
    obtain ⟨hys0, ehy0⟩ := x0.v.is
    have hTwh : Tw ≠ h := (nT.ne ehy0 (fun ps z => by cases z)).symm
    have v1 := x0.v.extN e1
    have hDuh : Du ≠ h := (v1.ne hDu).symm
    have hTw2 := s2' _ _ hTw1
    have hDT : Du ≠ Tw := (ne_of_none hTw1 hDu).symm
    have hw2 : WebsAt K C n G2 ws (WL n) := hw1.sameT (sameT_of s2')
    have hT2 := tabs_same s2' hT1
    have bN2 : ButN h G0 G2 := ((ButN.refl h G0).extN e1).same s2'
    have v2 := v1.same s2'
    have hwsl : ws.length = (WL n).length := pr_len hw2
    -- not isinstance(told, list) or not all([..])
    refine ⟨_, rfl, _, _, _, _, _, rfl, .ty "list", tyx_list (K := K) (SqL.of hTw2), kit_ty (r := true) (by decide +kernel), _, rfl, iteF ?_⟩
    refine ⟨_, rfl, Tw, rfl, ⟨_, SqL.of hTw2⟩, fun D1 hD1 => ?_⟩
    refine lc_data (E := fun w as => ∃ q, w = V.ref q ∧ WebAt K C G2 q n as) (ds := WL n) (f := fun _ => some true) (R := fun _ y (b : Bool) => y = V.bl b) hD1 (src_list (SqL.of hTw2)) hw2 (small (by omega)) (fun _ _ _ _ _ r => r) ?_ ?_
    · rintro w as G3 Nx ⟨q, rfl, hq⟩ s3 skip done
      obtain ⟨dx, t, hq1, hq2⟩ := hq.sameT (sameT_of s3)
      refine ⟨rfl, _, rfl, _, _, _, _, _, rfl, .own C, tyx_ins hq1 T.cl T.isi, kit_self, _, rfl, iteT ?_⟩
      refine ⟨_, rfl, q, C, dx, _, _, rfl, hq1, T.cl, T.nC, wf_cols _ _, _, rfl, rfl, ?_⟩
      rw [decide_eq_true rfl]
      exact done _ _ _ rfl (L2.Same.refl _) rfl
    intro G3 zs s3 hz hpz
    have e := pr_map hpz
    subst e
    refine ⟨D1, _, rfl, SqL.of hz, ?_⟩
    rw [true_all]
    refine ⟨_, rfl, iteF ?_⟩
    have hTw3 := s3 _ _ hTw2
    have hw3 := hw2.sameT (sameT_of s3)
    have hDu3 := s3 _ _ hDu2
    have hd3 := DpAll.same s3 hd2
    -- not _law_is([..], due)
    refine ⟨_, rfl, Tw, rfl, ⟨_, SqL.of hTw3⟩, fun D2 hD2 => ?_⟩
    refine lc_data (E := fun w as => ∃ q, w = V.ref q ∧ WebAt K C G3 q n as) (ds := WL n) (f := fun as => some as) (R := fun H y (as : List Arr) => Dp K H y (encA as)) hD2 (src_list (SqL.of hTw3)) hw3 (small (by omega)) (fun H5 H6 y z s r => Dp.sameT s _ _ (noL_A z) r) ?_ ?_
    · rintro w as G4 Nx ⟨q, rfl, hq⟩ s4 skip done
      obtain ⟨dx, t, hq1, hq2⟩ := hq.sameT (sameT_of s4)
      exact ⟨rfl, _, rfl, q, C, dx, _, _, rfl, hq1, T.cl, T.nA, wf_arrs _ _, done _ _ _ rfl (L2.Same.refl _) hq2⟩
    intro G4 us s4 hu hpu
    have efm : (WL n).filterMap (fun as => some as) = WL n := by
      rw [filterMap_some (fun d => d)]
      simp
    rw [efm] at hpu
    have hDu4 := s4 _ _ hDu3
    have hd4 := DpAll.same s4 hd3
    refine ⟨_, rfl, _, _, encL (WL n), rfl, .lst (SqL.of hu) (pr_dp hpu), .lst (SqL.of hDu4) hd4, shp_webs hn, fun G5 s5 => ⟨_, rfl, iteF ?_⟩⟩
    have s25 : L2.Same G2 G5 := (s3.trans s4).trans s5
    have hT5 := tabs_same s25 hT2
    have bN5 := bN2.same s25
    have v5 := v2.same s25
    have hTw5 := s25 _ _ hTw2
    have hw5 := hw2.sameT (sameT_of s25)
    have hDu5 := s25 _ _ hDu2
    have hd5 := DpAll.same s25 hd2
    -- three drawn webs
    refine ⟨_, rfl, by decide, by decide, for_range (lo := 0) (n := 3) (fun i σ G => ∃ g5 g6 : Option V, σ = [some (.ref a), some (.ref h), some (.int n), some (.ref Tw), some (.ref Du), g5, g6, g7, none] ∧ LamX.Tabs [(Pt, lamQ)] G ∧ ButN h G0 G ∧ HandV G h c ∧ G Tw = some (.lst ws) ∧ WebsAt K C n G ws (WL n) ∧ G Du = some (.lst ys) ∧ DpAll K G ys ((WL n).map encA))
      ⟨g5, g6, rfl, hT5, bN5, v5, hTw5, hw5, hDu5, hd5⟩ ?_ ?_⟩
    · rintro i σ G hi ⟨g5, g6, rfl, hT6, bN6, v6, hTw6, hw6, hDu6, hd6⟩
      have x6 : HandAt K G h c := x0.ofN bN6 v6
      obtain ⟨hys6, ehy6⟩ := v6.is
      refine ⟨_, rfl, _, rfl, _, rfl, _, rfl, small (by decide), fun l3 hl3 => ?_⟩
      have s7 := same_new (o := .lst [V.int 1, V.int 2, V.int 3]) hl3
      refine ⟨h, c, l3, [1, 2, 3], rfl, x6.same s7, SqL.of upd_same, (x6.v.ne hl3).symm, by decide, by decide, fun G7 d hd b7 x7 => ?_⟩
      have hd13 : 0 < d ∧ d ≤ 1000 := by
        rcases List.mem_cons.mp hd with rfl | hd
        · decide
        · rcases List.mem_cons.mp hd with rfl | hd
          · decide
          · rw [List.mem_singleton.mp hd]
            decide
      refine ⟨h, c, n, d, rfl, hn, x7, hd13.1, hd13.2, fun G8 q as b8 x8 dr hal hq => ?_⟩
      intro x dx hx hdx ne
      have s9 : L2.Same G8 (upd (upd G8 dx (.own x)) x (.ins C dx [])) := same_upd (same_new hdx) (by rw [upd_ne ne.symm]; exact hx)
      cases id hq with
      | @tup _ us _ hqs hqd =>
        refine ⟨x, dx, n, q, us, sortP as, rfl, hn4.1, by omega, upd_same, SqT.same s9 hqs, DpAll.same s9 hqd, by rw [dr.srt]; exact dr.ok, by rw [sortP_len]; exact hal, fun G9 kp hx9 => ⟨rfl, ?_⟩⟩
        have s89 : L2.Same G8 G9 := fun b o e => kp _ _ (s9 _ _ e) (ne_of_none e hx)
        have hwx : WebAt K C G9 x n (sortP as) := ⟨dx, q, hx9, Dp.same s89 hq⟩
        have b9 : But h G G9 := ((But.of_same s7).trans (b7.trans b8)).same s89
        have t9 := b9.sameT ehy6
        have hT9 := b9.tabs ehy6 hT6
        have bN9 := bN6.but b9
        have v9 := x8.v.same s89
        have hTw9 := b9 _ _ hTw6 hTwh
        have hw9 := hw6.sameT t9
        have hDu9 := b9 _ _ hDu6 hDuh
        have hd9 := DpAll.sameT t9 _ _ (noLs_map noL_A _) hd6
        refine ⟨_, rfl, Tw, rfl, ⟨_, SqL.of hTw9⟩, fun D hD => ?_⟩
        refine lc_data (E := fun w as => ∃ q, w = V.ref q ∧ WebAt K C G9 q n as) (ds := WL n) (f := fun a => if a = sortP as then some a else none) (R := fun _ _ _ => True) hD (src_list (SqL.of hTw9)) hw9 (small (by omega)) (fun _ _ _ _ _ r => r) ?_ ?_
        · rintro w as' G10 Nx ⟨q', rfl, hq'⟩ s10 skip done
          have hq10 := hq'.sameT (sameT_of s10)
          have hx10 := hwx.sameT (sameT_of s10)
          obtain ⟨dq, tq, hq1, _⟩ := id hq10
          obtain ⟨dx', tx, hx1, _⟩ := id hx10
          refine ⟨rfl, _, rfl, _, rfl, q', x, _, _, _, _, rfl, rfl, hq1, hx1, q', x, n, n, as', sortP as, rfl, hq10, hx10, fun G11 s11 => ⟨⟨_, rfl⟩, _, rfl, ?_⟩⟩
          by_cases e : as' = sortP as
          · rw [decide_eq_true ⟨rfl, e⟩]
            exact iteT ⟨_, rfl, done _ _ _ (if_pos e) s11 trivial⟩
          · rw [decide_eq_false (fun z => e z.2)]
            exact iteF (skip _ (if_neg e) s11)
        · intro G10 zs s10 hz hpz
          have hzl : zs.length = 1 := by
            rw [pr_len hpz, count_len, dr.srt]
            exact dr.once
          refine ⟨_, zs.length, rfl, .inl ⟨_, SqL.of hz, rfl⟩, rfl, _, rfl, ?_⟩
          rw [hzl]
          refine iteF ?_
          exact ⟨_, _, rfl, tabs_same s10 hT9, bN9.same s10, v9.same s10, s10 _ _ hTw9, hw9.sameT (sameT_of s10), s10 _ _ hDu9, DpAll.same s10 hd9⟩
    · rintro σ G ⟨g5, g6, rfl, hT6, bN6, v6, hTw6, hw6, hDu6, hd6⟩
      have x6 : HandAt K G h c := x0.ofN bN6 v6
      obtain ⟨hys6, ehy6⟩ := v6.is
      refine ⟨_, rfl, _, rfl, _, ws.length, rfl, .inl ⟨_, SqL.of hTw6, rfl⟩, h, c, _, rfl, x6, by omega, by omega, fun G7 r r0 r1 b7 x7 => ?_⟩
      have hTw7 := b7 _ _ hTw6 hTwh
      have hDu7 := b7 _ _ hDu6 hDuh
      have t7 := b7.sameT ehy6
      have hd7 := DpAll.sameT t7 _ _ (noLs_map noL_A _) hd6
      have hT7 := b7.tabs ehy6 hT6
      have hix : ixN ws.length r = some r.toNat := by
        unfold ixN
        rw [if_pos r0, if_pos r1]
      refine ⟨_, rfl, _, rfl, Tw, ws, r, r.toNat, rfl, rfl, hTw7, hix, ?_⟩
      have hTw8 : (upd G7 Tw (.lst (ws.set r.toNat .non))) Tw = some (.lst (ws.set r.toNat .non)) := upd_same
      have t8 : SameT G7 (upd G7 Tw (.lst (ws.set r.toNat .non))) := sameT_lst hTw7
      have hT8 : LamX.Tabs [(Pt, lamQ)] (upd G7 Tw (.lst (ws.set r.toNat .non))) := tabs_lst hTw7 hT7
      have bN8 := (bN6.but b7).upd nT (.lst (ws.set r.toNat .non))
      have v8 := x7.v.upd (o := .lst (ws.set r.toNat .non)) hTwh.symm
      have hDu8 : (upd G7 Tw (.lst (ws.set r.toNat .non))) Du = some (.lst ys) := by rw [upd_ne hDT]; exact hDu7
      have hd8 := DpAll.sameT t8 _ _ (noLs_map noL_A _) hd7
      generalize upd G7 Tw (.lst (ws.set r.toNat .non)) = G8 at hTw8 t8 hT8 bN8 v8 hDu8 hd8 ⊢
      refine ⟨_, rfl, .inl ⟨rfl, _, SqL.of hTw8⟩, Tw, _, _, rfl, rfl, hTw8, Nat.lt_of_lt_of_le (show (ws.set r.toNat .non).length < 1000 by rw [List.length_set]; omega) (small (by decide)), ?_⟩
      have t9 : SameT G8 (upd G8 Tw (.lst (ws.set r.toNat .non ++ [.non]))) := sameT_lst hTw8
      have hT9 : LamX.Tabs [(Pt, lamQ)] (upd G8 Tw (.lst (ws.set r.toNat .non ++ [.non]))) := tabs_lst hTw8 hT8
      have bN9 := bN8.upd nT (.lst (ws.set r.toNat .non ++ [.non]))
      have v9 := v8.upd (o := .lst (ws.set r.toNat .non ++ [.non])) hTwh.symm
      have hDu9 : (upd G8 Tw (.lst (ws.set r.toNat .non ++ [.non]))) Du = some (.lst ys) := by rw [upd_ne hDT]; exact hDu8
      have hd9 := DpAll.sameT t9 _ _ (noLs_map noL_A _) hd8
      generalize upd G8 Tw (.lst (ws.set r.toNat .non ++ [.non])) = G9 at t9 hT9 bN9 v9 hDu9 hd9 ⊢
      refine ⟨_, rfl, n, rfl, hn, hT9, fun G10 Tw2 ws2 e10 hT10 nT2 hTw10 hw10 => ?_⟩
      refine ⟨Tw2, rfl, ⟨_, SqL.of hTw10⟩, fun D hD => ?_⟩
      refine lc_data (E := fun w as => ∃ q, w = V.ref q ∧ WebAt K C G10 q n as) (ds := WL n) (f := fun as => some as) (R := fun H y (as : List Arr) => Dp K H y (encA as)) hD (src_list (SqL.of hTw10)) hw10 (small (by have := pr_len hw10; omega)) (fun H5 H6 y z s r => Dp.sameT s _ _ (noL_A z) r) ?_ ?_
      · rintro w as G11 Nx ⟨q, rfl, hq⟩ s11 skip done
        obtain ⟨dx, t, hq1, hq2⟩ := hq.sameT (sameT_of s11)
        exact ⟨rfl, _, rfl, q, C, dx, _, _, rfl, hq1, T.cl, T.nA, wf_arrs _ _, done _ _ _ rfl (L2.Same.refl _) hq2⟩
      · intro G11 us2 s11 hu2 hpu2
        rw [efm] at hpu2
        have hDu11 := s11 _ _ (e10 _ _ hDu9 (fun ps z => by cases z))
        have hd11 := DpAll.same s11 (DpAll.extN e10 _ _ hd9)
        refine ⟨_, rfl, encL (WL n), encL (WL n), .lst (SqL.of hu2) (pr_dp hpu2), .lst (SqL.of hDu11) hd11, shaped_L _, shaped_L _, _, rfl, ?_⟩
        rw [SeqAt.eqv_refl _ (lay_L _)]
        refine iteF ?_
        have bN11 := (bN9.extN e10).same s11
        exact ⟨_, _, _, _, _, _, none, rfl, tabs_same s11 hT10, x0.ofN bN11 ((v9.extN e10).same s11), bN11 _ _ hp0 (fun ps z => by cases z) hph⟩
end
end K49
set_option Elab.async false
set_option autoImplicit false
set_option maxRecDepth 100000
set_option maxHeartbeats 4000000
/-! the end: what the top has left, and the law's head -/
namespace K49
open PySem PySem.W L2
theorem df_mk {K : PySem.W.Frag} {h : Heap} {mg : Str → Option Value} {x : Str} {st : Stmt} {ps : List Str} {f : Addr} {oc kV dc pm cd ct : Value} {od an : Option Addr} {sl : Array (Option Value)} (X : K.In h) (G : h.Ns mainGlobals mg)
    (a : PySem.W.nsIn K mainGlobals x = some (some (.ref f))) (l : K.lookup f = some ⟨oc, od, .func (PySem.W.fnOf x x (defArgs st) (defBody st) (defScope st) .none kV dc pm an cd ct), sl⟩) (c : PySem.W.codeIn K cd x = true) (k : PySem.W.keepIn K (.ref f) = true)
    (hb : ∀ (kV doc pm : Value) (an : Option Addr) (cdv ct : Value) (us : List Value), us.length = ps.length → bindArgs (PySem.W.fnOf x x (defArgs st) (defBody st) (defScope st) .none kV doc pm an cdv ct) { pos := us } = pure (ps.zip us)) : Df K mg x st ps :=
  ⟨f, _, fun_mk l c k, PySem.W.mg_of X G a, (fun_mk l c k).binds hb⟩
theorem dfc_mk {K : PySem.W.Frag} {h : Heap} {mg : Str → Option Value} {x : Str} {st : Stmt} {ps : List Str} {f cc : Addr} {oc kV dc pm ct : Value} {od an : Option Addr} {sl : Array (Option Value)} (X : K.In h) (G : h.Ns mainGlobals mg)
    (a : PySem.W.nsIn K mainGlobals x = some (some (.ref f))) (l : K.lookup f = some ⟨oc, od, .func (PySem.W.fnOf x x (defArgs st) (defBody st) (defScope st) .none kV dc pm an (.ref cc) ct), sl⟩) (c : PySem.W.codeIn K (.ref cc) x = true) (k : PySem.W.keepIn K (.ref f) = true)
    (hb : ∀ (kV doc pm : Value) (an : Option Addr) (cdv ct : Value) (us : List Value), us.length = ps.length → bindArgs (PySem.W.fnOf x x (defArgs st) (defBody st) (defScope st) .none kV doc pm an cdv ct) { pos := us } = pure (ps.zip us)) : DfC K mg x st ps cc :=
  ⟨f, oc, kV, dc, pm, ct, od, an, sl, l, c, k, PySem.W.mg_of X G a, (fun_mk l c k).binds hb⟩
theorem tabs_start {H : Hp} {Pt : Addr} (h : H Pt = some (.tbl #[])) : LamX.Tabs [(Pt, lamQ)] H := fun p hp => by
  rw [List.mem_singleton.mp hp]
  exact ⟨#[], h, by first | trivial | exact True.intro | simp [TriplesOk] | constructor, fun pos cv e => by cases e⟩
set_option maxHeartbeats 16000000 in
theorem all_mk {l : PySem.W.OpenLaw} {w : World} {K : PySem.W.Frag} {h : Heap} {mg : Str → Option Value} {fa C cc Pt : Addr} {t2 t4 : Tok} (X : K.In h) (G : h.Ns mainGlobals mg) (hfa : mg "law" = some (.ref fa)) (hP : h.get? Pt = some { cls := .none, data := .fields #[] })
    {f1 f2 f3 f4 f5 f6 f7 f8 f9 f10 f11 f12 f13 f14 f15 f16 f17 f18 f19 f20 f21 f22 : Addr} {od1 an1 od2 an2 od3 an3 od4 an4 od5 an5 od6 an6 od7 an7 od8 an8 od9 an9 od10 an10 od11 an11 od12 an12 od13 an13 od14 an14 od15 an15 od16 an16 od17 an17 od18 an18 od19 an19 od20 an20 od21 an21 od22 an22 : Option Addr} {sl1 sl2 sl3 sl4 sl5 sl6 sl7 sl8 sl9 sl10 sl11 sl12 sl13 sl14 sl15 sl16 sl17 sl18 sl19 sl20 sl21 sl22 : Array (Option Value)} {oc1 kV1 dc1 pm1 ct1 oc2 kV2 dc2 pm2 ct2 oc3 kV3 dc3 pm3 ct3 oc4 kV4 dc4 pm4 ct4 oc5 kV5 dc5 pm5 ct5 oc6 kV6 dc6 pm6 ct6 oc7 kV7 dc7 pm7 ct7 oc8 kV8 dc8 pm8 ct8 oc9 kV9 dc9 pm9 ct9 oc10 kV10 dc10 pm10 ct10 oc11 kV11 dc11 pm11 ct11 oc12 kV12 dc12 pm12 ct12 oc13 kV13 dc13 pm13 ct13 oc14 kV14 dc14 pm14 ct14 oc15 kV15 dc15 pm15 ct15 oc16 kV16 dc16 pm16 ct16 oc17 kV17 dc17 pm17 ct17 oc18 kV18 dc18 pm18 ct18 oc19 kV19 dc19 pm19 ct19 oc20 kV20 dc20 pm20 ct20 oc21 kV21 dc21 pm21 ct21 oc22 kV22 dc22 pm22 ct22 : Value} {cd1 cd2 cd3 cd5 cd6 cd7 cd8 cd9 cd10 cd11 cd12 cd13 cd14 cd15 cd16 cd17 cd18 cd19 cd20 cd21 cd22 : Value}
    (eP : K.lookup Pt = none) (eH : PySem.W.codeHdIn K cc Pt = true)
    (a1 : PySem.W.nsIn K mainGlobals "is_integer" = some (some (.ref f1))) (l1 : K.lookup f1 = some ⟨oc1, od1, .func (PySem.W.fnOf "is_integer" "is_integer" (defArgs sInt) (defBody sInt) (defScope sInt) .none kV1 dc1 pm1 an1 cd1 ct1), sl1⟩) (c1 : PySem.W.codeIn K cd1 "is_integer" = true) (k1 : PySem.W.keepIn K (.ref f1) = true)
    (a2 : PySem.W.nsIn K mainGlobals "is_within" = some (some (.ref f2))) (l2 : K.lookup f2 = some ⟨oc2, od2, .func (PySem.W.fnOf "is_within" "is_within" (defArgs sWithin) (defBody sWithin) (defScope sWithin) .none kV2 dc2 pm2 an2 cd2 ct2), sl2⟩) (c2 : PySem.W.codeIn K cd2 "is_within" = true) (k2 : PySem.W.keepIn K (.ref f2) = true)
    (a3 : PySem.W.nsIn K mainGlobals "is_pair" = some (some (.ref f3))) (l3 : K.lookup f3 = some ⟨oc3, od3, .func (PySem.W.fnOf "is_pair" "is_pair" (defArgs sPair) (defBody sPair) (defScope sPair) .none kV3 dc3 pm3 an3 cd3 ct3), sl3⟩) (c3 : PySem.W.codeIn K cd3 "is_pair" = true) (k3 : PySem.W.keepIn K (.ref f3) = true)
    (a4 : PySem.W.nsIn K mainGlobals "all_lots" = some (some (.ref f4))) (l4 : K.lookup f4 = some ⟨oc4, od4, .func (PySem.W.fnOf "all_lots" "all_lots" (defArgs sLots) (defBody sLots) (defScope sLots) .none kV4 dc4 pm4 an4 (.ref cc) ct4), sl4⟩) (c4 : PySem.W.codeIn K (.ref cc) "all_lots" = true) (k4 : PySem.W.keepIn K (.ref f4) = true)
    (a5 : PySem.W.nsIn K mainGlobals "is_arrow" = some (some (.ref f5))) (l5 : K.lookup f5 = some ⟨oc5, od5, .func (PySem.W.fnOf "is_arrow" "is_arrow" (defArgs sArrow) (defBody sArrow) (defScope sArrow) .none kV5 dc5 pm5 an5 cd5 ct5), sl5⟩) (c5 : PySem.W.codeIn K cd5 "is_arrow" = true) (k5 : PySem.W.keepIn K (.ref f5) = true)
    (a6 : PySem.W.nsIn K mainGlobals "order_by" = some (some (.ref f6))) (l6 : K.lookup f6 = some ⟨oc6, od6, .func (PySem.W.fnOf "order_by" "order_by" (defArgs sOrder) (defBody sOrder) (defScope sOrder) .none kV6 dc6 pm6 an6 cd6 ct6), sl6⟩) (c6 : PySem.W.codeIn K cd6 "order_by" = true) (k6 : PySem.W.keepIn K (.ref f6) = true)
    (a7 : PySem.W.nsIn K mainGlobals "raw_web" = some (some (.ref f7))) (l7 : K.lookup f7 = some ⟨oc7, od7, .func (PySem.W.fnOf "raw_web" "raw_web" (defArgs sRaw) (defBody sRaw) (defScope sRaw) .none kV7 dc7 pm7 an7 cd7 ct7), sl7⟩) (c7 : PySem.W.codeIn K cd7 "raw_web" = true) (k7 : PySem.W.keepIn K (.ref f7) = true)
    (a8 : PySem.W.nsIn K mainGlobals "webs_of" = some (some (.ref f8))) (l8 : K.lookup f8 = some ⟨oc8, od8, .func (PySem.W.fnOf "webs_of" "webs_of" (defArgs sWebsOf) (defBody sWebsOf) (defScope sWebsOf) .none kV8 dc8 pm8 an8 cd8 ct8), sl8⟩) (c8 : PySem.W.codeIn K cd8 "webs_of" = true) (k8 : PySem.W.keepIn K (.ref f8) = true)
    (a9 : PySem.W.nsIn K mainGlobals "all_webs" = some (some (.ref f9))) (l9 : K.lookup f9 = some ⟨oc9, od9, .func (PySem.W.fnOf "all_webs" "all_webs" (defArgs sAll) (defBody sAll) (defScope sAll) .none kV9 dc9 pm9 an9 cd9 ct9), sl9⟩) (c9 : PySem.W.codeIn K cd9 "all_webs" = true) (k9 : PySem.W.keepIn K (.ref f9) = true)
    (a10 : PySem.W.nsIn K mainGlobals "_law_hand" = some (some (.ref f10))) (l10 : K.lookup f10 = some ⟨oc10, od10, .func (PySem.W.fnOf "_law_hand" "_law_hand" (defArgs sHand) (defBody sHand) (defScope sHand) .none kV10 dc10 pm10 an10 cd10 ct10), sl10⟩) (c10 : PySem.W.codeIn K cd10 "_law_hand" = true) (k10 : PySem.W.keepIn K (.ref f10) = true)
    (a11 : PySem.W.nsIn K mainGlobals "_law_draw" = some (some (.ref f11))) (l11 : K.lookup f11 = some ⟨oc11, od11, .func (PySem.W.fnOf "_law_draw" "_law_draw" (defArgs sDraw) (defBody sDraw) (defScope sDraw) .none kV11 dc11 pm11 an11 cd11 ct11), sl11⟩) (c11 : PySem.W.codeIn K cd11 "_law_draw" = true) (k11 : PySem.W.keepIn K (.ref f11) = true)
    (a12 : PySem.W.nsIn K mainGlobals "_law_some" = some (some (.ref f12))) (l12 : K.lookup f12 = some ⟨oc12, od12, .func (PySem.W.fnOf "_law_some" "_law_some" (defArgs sSome) (defBody sSome) (defScope sSome) .none kV12 dc12 pm12 an12 cd12 ct12), sl12⟩) (c12 : PySem.W.codeIn K cd12 "_law_some" = true) (k12 : PySem.W.keepIn K (.ref f12) = true)
    (a13 : PySem.W.nsIn K mainGlobals "_law_shuffled" = some (some (.ref f13))) (l13 : K.lookup f13 = some ⟨oc13, od13, .func (PySem.W.fnOf "_law_shuffled" "_law_shuffled" (defArgs sShuf) (defBody sShuf) (defScope sShuf) .none kV13 dc13 pm13 an13 cd13 ct13), sl13⟩) (c13 : PySem.W.codeIn K cd13 "_law_shuffled" = true) (k13 : PySem.W.keepIn K (.ref f13) = true)
    (a14 : PySem.W.nsIn K mainGlobals "_law_is" = some (some (.ref f14))) (l14 : K.lookup f14 = some ⟨oc14, od14, .func (PySem.W.fnOf "_law_is" "_law_is" (defArgs sIs) (defBody sIs) (defScope sIs) .none kV14 dc14 pm14 an14 cd14 ct14), sl14⟩) (c14 : PySem.W.codeIn K cd14 "_law_is" = true) (k14 : PySem.W.keepIn K (.ref f14) = true)
    (a15 : PySem.W.nsIn K mainGlobals "_law_lots" = some (some (.ref f15))) (l15 : K.lookup f15 = some ⟨oc15, od15, .func (PySem.W.fnOf "_law_lots" "_law_lots" (defArgs sLLots) (defBody sLLots) (defScope sLLots) .none kV15 dc15 pm15 an15 cd15 ct15), sl15⟩) (c15 : PySem.W.codeIn K cd15 "_law_lots" = true) (k15 : PySem.W.keepIn K (.ref f15) = true)
    (a16 : PySem.W.nsIn K mainGlobals "_law_arrows" = some (some (.ref f16))) (l16 : K.lookup f16 = some ⟨oc16, od16, .func (PySem.W.fnOf "_law_arrows" "_law_arrows" (defArgs sLArr) (defBody sLArr) (defScope sLArr) .none kV16 dc16 pm16 an16 cd16 ct16), sl16⟩) (c16 : PySem.W.codeIn K cd16 "_law_arrows" = true) (k16 : PySem.W.keepIn K (.ref f16) = true)
    (a17 : PySem.W.nsIn K mainGlobals "_law_parents" = some (some (.ref f17))) (l17 : K.lookup f17 = some ⟨oc17, od17, .func (PySem.W.fnOf "_law_parents" "_law_parents" (defArgs sPar) (defBody sPar) (defScope sPar) .none kV17 dc17 pm17 an17 cd17 ct17), sl17⟩) (c17 : PySem.W.codeIn K cd17 "_law_parents" = true) (k17 : PySem.W.keepIn K (.ref f17) = true)
    (a18 : PySem.W.nsIn K mainGlobals "_law_has_ring" = some (some (.ref f18))) (l18 : K.lookup f18 = some ⟨oc18, od18, .func (PySem.W.fnOf "_law_has_ring" "_law_has_ring" (defArgs sRing) (defBody sRing) (defScope sRing) .none kV18 dc18 pm18 an18 cd18 ct18), sl18⟩) (c18 : PySem.W.codeIn K cd18 "_law_has_ring" = true) (k18 : PySem.W.keepIn K (.ref f18) = true)
    (a19 : PySem.W.nsIn K mainGlobals "_law_every" = some (some (.ref f19))) (l19 : K.lookup f19 = some ⟨oc19, od19, .func (PySem.W.fnOf "_law_every" "_law_every" (defArgs sEvery) (defBody sEvery) (defScope sEvery) .none kV19 dc19 pm19 an19 cd19 ct19), sl19⟩) (c19 : PySem.W.codeIn K cd19 "_law_every" = true) (k19 : PySem.W.keepIn K (.ref f19) = true)
    (a20 : PySem.W.nsIn K mainGlobals "law" = some (some (.ref f20)))
    (l20 : K.lookup f20 = some ⟨oc20, od20, .func (PySem.W.fnOf "law" "law" (defArgs sLaw) (defBody sLaw) (defScope sLaw) .none kV20 dc20 pm20 an20 cd20 ct20), sl20⟩) (c20 : PySem.W.codeIn K cd20 "law" = true) (k20 : PySem.W.keepIn K (.ref f20) = true)
    (aC : PySem.W.nsIn K mainGlobals "Web" = some (some (.ref C)))
    (a21 : PySem.W.findIn K (.ref C) "__init__" = some (some (.ref f21))) (i21 : PySem.W.isFn K (.ref f21) = true)
    (l21 : K.lookup f21 = some ⟨oc21, od21, .func (PySem.W.fnOf "__init__" "Web.__init__" (defArgs sWebI) (defBody sWebI) (defScope sWebI) .none kV21 dc21 pm21 an21 cd21 ct21), sl21⟩) (c21 : PySem.W.codeIn K cd21 "Web.__init__" = true) (k21 : PySem.W.keepIn K (.ref f21) = true)
    (a22 : PySem.W.findIn K (.ref C) "__eq__" = some (some (.ref f22))) (i22 : PySem.W.isFn K (.ref f22) = true)
    (l22 : K.lookup f22 = some ⟨oc22, od22, .func (PySem.W.fnOf "__eq__" "Web.__eq__" (defArgs sWebE) (defBody sWebE) (defScope sWebE) .none kV22 dc22 pm22 an22 cd22 ct22), sl22⟩) (c22 : PySem.W.codeIn K cd22 "Web.__eq__" = true) (k22 : PySem.W.keepIn K (.ref f22) = true)
    (pg : PySem.W.plainGet K C Str.empty = true) (hd : PySem.W.hasDictIn K C = true) (po : PySem.W.plainOver K C = true) (sa : PySem.W.findIn K (.ref C) "__setattr__" = some (some (.builtin "object.__setattr__"))) (mk : PySem.W.makesIn K C = true) (kc : PySem.W.keepIn K (.ref C) = true)
    (nC : PySem.W.findIn K (.ref C) "columns" = some none) (nA : PySem.W.findIn K (.ref C) "arrows" = some none)
    (ic : PySem.W.findIn K (.ref C) "__class__" = some (some (.builtin "object.__class__"))) (ig : PySem.W.specialIn K (.builtin "object.__class__") "__get__" = some (some (.builtin "getset_descriptor.__get__"))) (it : PySem.W.takesIn K (.builtin "object.__class__") = some true) (im : PySem.W.mroIn K C (.type "object") = some true)
    (m4 : PySem.W.nsIn K mainGlobals "MOST_COLUMNS_webs" = some (some (.int 4 t4))) (m2 : PySem.W.nsIn K mainGlobals "MOST_COLUMNS_couldbe" = some (some (.int 2 t2)))
    (z0 : PySem.W.nsIn K mainGlobals "isinstance" = some none) (z1 : PySem.W.nsIn K mainGlobals "int" = some none) (z2 : PySem.W.nsIn K mainGlobals "bool" = some none) (z3 : PySem.W.nsIn K mainGlobals "tuple" = some none) (z4 : PySem.W.nsIn K mainGlobals "list" = some none) (z5 : PySem.W.nsIn K mainGlobals "dict" = some none) (z6 : PySem.W.nsIn K mainGlobals "len" = some none) (z7 : PySem.W.nsIn K mainGlobals "all" = some none) (z8 : PySem.W.nsIn K mainGlobals "any" = some none) (z9 : PySem.W.nsIn K mainGlobals "abs" = some none) (z10 : PySem.W.nsIn K mainGlobals "range" = some none) (z11 : PySem.W.nsIn K mainGlobals "sorted" = some none) (z12 : PySem.W.nsIn K mainGlobals "enumerate" = some none)
    : LamX.LawAtS l w K CX0 9 63 "_law_script" mg fa h := by
  have e := hfa.symm.trans (PySem.W.mg_of X G a20)
  cases e
  have B : Bl mg := ⟨PySem.W.mg_none_of X G z0, PySem.W.mg_none_of X G z1, PySem.W.mg_none_of X G z2, PySem.W.mg_none_of X G z3, PySem.W.mg_none_of X G z4, PySem.W.mg_none_of X G z5, PySem.W.mg_none_of X G z6, PySem.W.mg_none_of X G z7, PySem.W.mg_none_of X G z8, PySem.W.mg_none_of X G z9, PySem.W.mg_none_of X G z10, PySem.W.mg_none_of X G z11, PySem.W.mg_none_of X G z12⟩
  have dInt : Df K mg "is_integer" sInt ["thing"] := df_mk X G a1 l1 c1 k1 (fun _ _ _ _ _ _ us hl => match us, hl with | [_], _ => rfl)
  have dWithin : Df K mg "is_within" sWithin ["thing", "least", "most"] := df_mk X G a2 l2 c2 k2 (fun _ _ _ _ _ _ us hl => match us, hl with | [_, _, _], _ => rfl)
  have dPair : Df K mg "is_pair" sPair ["thing"] := df_mk X G a3 l3 c3 k3 (fun _ _ _ _ _ _ us hl => match us, hl with | [_], _ => rfl)
  have dLots : DfC K mg "all_lots" sLots ["many"] cc := dfc_mk X G a4 l4 c4 k4 (fun _ _ _ _ _ _ us hl => match us, hl with | [_], _ => rfl)
  have dArrow : Df K mg "is_arrow" sArrow ["columns", "thing"] := df_mk X G a5 l5 c5 k5 (fun _ _ _ _ _ _ us hl => match us, hl with | [_, _], _ => rfl)
  have dOrder : Df K mg "order_by" sOrder ["columns", "arrows"] := df_mk X G a6 l6 c6 k6 (fun _ _ _ _ _ _ us hl => match us, hl with | [_, _], _ => rfl)
  have dRaw : Df K mg "raw_web" sRaw ["columns", "arrows"] := df_mk X G a7 l7 c7 k7 (fun _ _ _ _ _ _ us hl => match us, hl with | [_, _], _ => rfl)
  have dWebsOf : Df K mg "webs_of" sWebsOf ["columns"] := df_mk X G a8 l8 c8 k8 (fun _ _ _ _ _ _ us hl => match us, hl with | [_], _ => rfl)
  have dAll : Df K mg "all_webs" sAll ["columns"] := df_mk X G a9 l9 c9 k9 (fun _ _ _ _ _ _ us hl => match us, hl with | [_], _ => rfl)
  have dHand : Df K mg "_law_hand" sHand ["_law_script"] := df_mk X G a10 l10 c10 k10 (fun _ _ _ _ _ _ us hl => match us, hl with | [_], _ => rfl)
  have dDraw : Df K mg "_law_draw" sDraw ["_law_hand_here", "_law_many"] := df_mk X G a11 l11 c11 k11 (fun _ _ _ _ _ _ us hl => match us, hl with | [_, _], _ => rfl)
  have dSome : Df K mg "_law_some" sSome ["_law_hand_here", "_law_things"] := df_mk X G a12 l12 c12 k12 (fun _ _ _ _ _ _ us hl => match us, hl with | [_, _], _ => rfl)
  have dShuf : Df K mg "_law_shuffled" sShuf ["_law_hand_here", "_law_things"] := df_mk X G a13 l13 c13 k13 (fun _ _ _ _ _ _ us hl => match us, hl with | [_, _], _ => rfl)
  have dIs : Df K mg "_law_is" sIs ["_law_told", "_law_due"] := df_mk X G a14 l14 c14 k14 (fun _ _ _ _ _ _ us hl => match us, hl with | [_, _], _ => rfl)
  have dLLots : Df K mg "_law_lots" sLLots ["_law_things"] := df_mk X G a15 l15 c15 k15 (fun _ _ _ _ _ _ us hl => match us, hl with | [_], _ => rfl)
  have dLArr : Df K mg "_law_arrows" sLArr ["_law_hand_here", "_law_columns", "_law_rare"] := df_mk X G a16 l16 c16 k16 (fun _ _ _ _ _ _ us hl => match us, hl with | [_, _, _], _ => rfl)
  have dPar : Df K mg "_law_parents" sPar ["_law_arrows_here", "_law_thing"] := df_mk X G a17 l17 c17 k17 (fun _ _ _ _ _ _ us hl => match us, hl with | [_, _], _ => rfl)
  have dRing : Df K mg "_law_has_ring" sRing ["_law_columns", "_law_arrows_here"] := df_mk X G a18 l18 c18 k18 (fun _ _ _ _ _ _ us hl => match us, hl with | [_, _], _ => rfl)
  have dEvery : Df K mg "_law_every" sEvery ["_law_columns"] := df_mk X G a19 l19 c19 k19 (fun _ _ _ _ _ _ us hl => match us, hl with | [_], _ => rfl)
  have F20 := fun_mk (st := sLaw) l20 c20 k20
  have F21 := fun_mk (st := sWebI) l21 c21 k21
  have F22 := fun_mk (st := sWebE) l22 c22 k22
  have b21 := F21.binds (ps := ["self", "columns", "arrows"]) (fun _ _ _ _ _ _ us hl => match us, hl with | [_, _, _], _ => rfl)
  have b22 := F22.binds (ps := ["self", "other"]) (fun _ _ _ _ _ _ us hl => match us, hl with | [_, _], _ => rfl)
  have T : TxtW K mg C f21 f22 _ _ := ⟨⟨pg, hd, po, sa⟩, nC, nA, PySem.W.mg_of X G aC, ⟨mk, a21, i21, kc⟩, F21, b21, F22, b22, a22, i22, ⟨ic, ig, it, im⟩, ⟨t4, PySem.W.mg_of X G m4⟩⟩
  have n2 : ∃ t, mg "MOST_COLUMNS_couldbe" = some (.int 2 t) := ⟨t2, PySem.W.mg_of X G m2⟩
  refine ⟨PySem.W.fnOf "law" "law" (defArgs sLaw) (defBody sLaw) (defScope sLaw) .none kV20 dc20 pm20 an20 cd20 ct20, [(cc, Pt)], spLaw K Pt, fun p hp => by rw [List.mem_singleton.mp hp]; exact hP, fun p hp => by rw [List.mem_singleton.mp hp]; exact eP, fun p hp => by rw [List.mem_singleton.mp hp]; exact PySem.W.codeHd_of_K X eH, fun s u => .of_eq rfl, fun H a ns hl _ ht hS => ⟨a, ns, rfl, hS, hl, tabs_start (ht (cc, Pt) (List.mem_singleton.mpr rfl)), fun _ => rfl⟩, fun base KB GB tb => ?_⟩
  have TB : LamX.TabB base mg cc Pt := tb (cc, Pt) (List.mem_singleton.mpr rfl)
  have P1 : Cl l.prog w K mg base 1 "is_integer" spInt := cl_int dInt B
  have P2 : Cl l.prog w K mg base 2 "is_within" spWithin := cl_within dWithin P1
  have P3 : Cl l.prog w K mg base 1 "is_pair" (spPair K) := cl_pair dPair B
  have P4 : Cl l.prog w K mg base 4 "all_lots" (spLots K Pt) := cl_lots dLots TB B
  have P5 : Cl l.prog w K mg base 3 "is_arrow" (spArrow K) := cl_arrow dArrow P2 P3 B
  have P6 : Cl l.prog w K mg base 1 "order_by" (spOrder K) := cl_order dOrder B
  have GI := ok_webI (P := l.prog) (w := w) (base := base) T P6 P2 P5 B
  have GE := ok_webE (P := l.prog) (w := w) (base := base) T B
  have P7 : Cl l.prog w K mg base 6 "raw_web" (spRaw K C) := cl_raw dRaw T GI B
  have P8 : Cl l.prog w K mg base 7 "webs_of" (spWebsOf K C Pt) := cl_websOf dWebsOf P6 P5 P4 P7 B
  have P9 : Cl l.prog w K mg base 8 "all_webs" (spWebsOf K C Pt) := cl_all dAll n2 P2 P8
  have P10 : Cl l.prog w K mg base 1 "_law_hand" (spHand K) := cl_hand dHand B
  have P11 : Cl l.prog w K mg base 1 "_law_draw" (spDraw K) := cl_draw dDraw B
  have P12 : Cl l.prog w K mg base 2 "_law_some" (spSome K) := cl_some dSome P11 B
  have P13 : Cl l.prog w K mg base 2 "_law_shuffled" (spShuf K) := cl_shuf dShuf P11 B
  have P14 : Cl l.prog w K mg base 4 "_law_is" (spIs K 3) := cl_isS dIs (cl_isS dIs (cl_isS dIs (cl_is0 dIs B) B) B) B
  have P15 : Cl l.prog w K mg base 1 "_law_lots" (spLLots K) := cl_llots dLLots B
  have P16 : Cl l.prog w K mg base 3 "_law_arrows" (spLArr K) := cl_larr dLArr P11 P13 B
  have P17 : Cl l.prog w K mg base 1 "_law_parents" (spPar K) := cl_par dPar
  have P18 : Cl l.prog w K mg base 2 "_law_has_ring" (spRing K) := cl_ring dRing P17 B
  have P19 : Cl l.prog w K mg base 3 "_law_every" (spEvery K) := cl_every dEvery P15 P18 B
  exact ok_law F20 T GI GE P10 P13 P9 P19 P14 P16 P12 P11 B
end K49
set_option Elab.async false
set_option autoImplicit false
set_option maxRecDepth 100000
set_option maxHeartbeats 4000000
open PySem PySem.W PyProof.Rows in
set_option maxRecDepth 100000 in
set_option maxHeartbeats 0 in
theorem PySem.Challenge.cw_calmblanks_k49_whole_all_webs_holds : PySem.Challenge.rw_calmblanks_k49_whole_all_webs.Holds := by
  w_on; o_law; k_head; (case hw => w_witness2)
  k_fill
  refine LamX.walk_ofTs (l := PySem.Challenge.rw_calmblanks_k49_whole_all_webs) (n := 63) (k := 9) (x := "_law_script") (CX := fun _ => L2.CX0) rfl (by decide) rfl ⟨rfl, by decide, by decide⟩ (fun w h Y => PySem.W.km_in_of Y) ?F (fun _ _ _ _ _ z => z)
  case F =>
    intro w mg fa h Y KX G hmg
    refine' K49.all_mk KX G hmg (PySem.W.km_tabs_of Y 37 (by decide)) ?eP ?eH ?a1 ?l1 ?c1 ?k1 ?a2 ?l2 ?c2 ?k2 ?a3 ?l3 ?c3 ?k3 ?a4 ?l4 ?c4 ?k4 ?a5 ?l5 ?c5 ?k5 ?a6 ?l6 ?c6 ?k6 ?a7 ?l7 ?c7 ?k7 ?a8 ?l8 ?c8 ?k8 ?a9 ?l9 ?c9 ?k9 ?a10 ?l10 ?c10 ?k10 ?a11 ?l11 ?c11 ?k11 ?a12 ?l12 ?c12 ?k12 ?a13 ?l13 ?c13 ?k13 ?a14 ?l14 ?c14 ?k14 ?a15 ?l15 ?c15 ?k15 ?a16 ?l16 ?c16 ?k16 ?a17 ?l17 ?c17 ?k17 ?a18 ?l18 ?c18 ?k18 ?a19 ?l19 ?c19 ?k19 ?a20 ?l20 ?c20 ?k20 ?aC ?a21 ?i21 ?l21 ?c21 ?k21 ?a22 ?i22 ?l22 ?c22 ?k22 ?pg ?hd ?po ?sa ?mk ?kc ?nC ?nA ?ic ?ig ?it ?im ?m4 ?m2 ?z0 ?z1 ?z2 ?z3 ?z4 ?z5 ?z6 ?z7 ?z8 ?z9 ?z10 ?z11 ?z12
    (case a1 => k_is); (case l1 => k_is); (case c1 => k_is); (case k1 => k_is); (case a2 => k_is); (case l2 => k_is)
    (case c2 => k_is); (case k2 => k_is); (case a3 => k_is); (case l3 => k_is); (case c3 => k_is); (case k3 => k_is)
    (case a4 => k_is); (case l4 => k_is); (case c4 => k_is); (case k4 => k_is); (case a5 => k_is); (case l5 => k_is)
    (case c5 => k_is); (case k5 => k_is); (case a6 => k_is); (case l6 => k_is); (case c6 => k_is); (case k6 => k_is)
    (case a7 => k_is); (case l7 => k_is); (case c7 => k_is); (case k7 => k_is); (case a8 => k_is); (case l8 => k_is)
    (case c8 => k_is); (case k8 => k_is); (case a9 => k_is); (case l9 => k_is); (case c9 => k_is); (case k9 => k_is)
    (case a10 => k_is); (case l10 => k_is); (case c10 => k_is); (case k10 => k_is); (case a11 => k_is); (case l11 => k_is)
    (case c11 => k_is); (case k11 => k_is); (case a12 => k_is); (case l12 => k_is); (case c12 => k_is); (case k12 => k_is)
    (case a13 => k_is); (case l13 => k_is); (case c13 => k_is); (case k13 => k_is); (case a14 => k_is); (case l14 => k_is)
    (case c14 => k_is); (case k14 => k_is); (case a15 => k_is); (case l15 => k_is); (case c15 => k_is); (case k15 => k_is)
    (case a16 => k_is); (case l16 => k_is); (case c16 => k_is); (case k16 => k_is); (case a17 => k_is); (case l17 => k_is)
    (case c17 => k_is); (case k17 => k_is); (case a18 => k_is); (case l18 => k_is); (case c18 => k_is); (case k18 => k_is)
    (case a19 => k_is); (case l19 => k_is); (case c19 => k_is); (case k19 => k_is); (case a20 => k_is); (case l20 => k_is)
    (case c20 => k_is); (case k20 => k_is); (case aC => k_is); (case a21 => k_is); (case i21 => k_is); (case l21 => k_is)
    (case c21 => k_is); (case k21 => k_is); (case a22 => k_is); (case i22 => k_is); (case l22 => k_is); (case c22 => k_is)
    (case k22 => k_is); (case pg => k_is); (case hd => k_is); (case po => k_is); (case sa => k_is); (case mk => k_is)
    (case kc => k_is); (case nC => k_is); (case nA => k_is); (case ic => k_is); (case ig => k_is); (case it => k_is)
    (case im => k_is); (case m4 => k_is); (case m2 => k_is); (case z0 => k_is); (case z1 => k_is); (case z2 => k_is)
    (case z3 => k_is); (case z4 => k_is); (case z5 => k_is); (case z6 => k_is); (case z7 => k_is); (case z8 => k_is)
    (case z9 => k_is); (case z10 => k_is); (case z11 => k_is); (case z12 => k_is); (case eP => kernel_rfl); (case eH => kernel_rfl)
