import PyProof.Rows.All
import HandS.ForExc
import HandS.ForMost
import HandS.IsInst
import HandS.TupAny
import HandS.TryMany
import HandS.Style
import HandS.Conv
import HandS.SortInts
import HandS.Rev
import HandS.Iter
import HandS.Zip
import HandS.SetFor
import KE.DataCmp
import KE.DataMinMax
import KE.SortData
import HandS.Records
import HandS.TupLen
import HandS.Flow
import HandS.Small
import PySem.Challenge.RW_everytower_k68_all_the_work
set_option Elab.async false
set_option linter.all false
set_option maxRecDepth 100000
/-! Q1: plain data, codes, the evaluator. -/
namespace Q1
open PySem

abbrev D := PyData
/-- a value of the evaluator: frozen data, or a list (dict) that one name alone holds -/
inductive M where
  | p (d : D)
  | ol (xs : List D)
  | od (t : Bool) (kvs : List (D × D))
def M.toD : M → D
  | .p d => d
  | .ol xs => .list xs
  | .od _ kvs => .dict kvs
def M.isOwn : M → Bool
  | .p _ => false
  | _ => true
abbrev En := List (Option M)
inductive Res (α : Type) where
  | ok (a : α) (e : En)
  | exc (c : Nat) (e : En)
  | bad
def Res.bind {α β : Type} (r : Res α) (f : α → En → Res β) : Res β :=
  match r with
  | .ok a e => f a e
  | .exc c e => .exc c e
  | .bad => .bad
inductive Fl where
  | nx | bk | ct
  | rt (m : M)

/-- slot i -/
def look : En → Nat → Option M
  | [], _ => none
  | x :: _, 0 => x
  | _ :: xs, i + 1 => look xs i
def put : En → Nat → Option M → En
  | [], _, _ => []
  | _ :: xs, 0, m => m :: xs
  | x :: xs, i + 1, m => x :: put xs i m
def kills : En → List Nat → En
  | e, [] => e
  | e, i :: is => kills (put e i none) is

inductive Bop where | add | sub | mul | div | mod | pow | band | bor | shl | shr
inductive Cop where | eq | ne | lt | le | gt | ge | is | isn | inn | notin
inductive Bi where
  | min2d | len | abs | min2 | max2 | minl | maxl | list | tuple | sorted | sum | str | int
  | isInt | isBool | isStr | isList | isTuple | isDict | rangeL1 | rangeL2
inductive Mt where
  | index | count | join | split | upper | get1 | get2

mutual
inductive Ex where
  | var (i : Nat)
  | rf (i : Nat)
  | lit (d : D)
  | glob (x : Str) (d : D)
  | bin (op : Bop) (a b : Ex)
  | neg (a : Ex)
  | tv (t : Tx)
  | ifx (t : Tx) (a b : Ex)
  | call (f : Nat) (as : Exs)
  | bi (b : Bi) (as : Exs)
  | met (m : Mt) (o : Ex) (as : Exs)
  | ix (a i : Ex)
  | dget (d k : Ex)
  | dgm1 (d k : Ex)
  | dgm2 (d k x : Ex)
  | sl (a : Ex) (lo hi : Ox)
  | rev (a : Ex)
  | tup (es : Exs)
  | lst (es : Exs)
  | rep (es : Exs) (b : Ex)
  | rep2 (a b : Ex)
  | rgl (es : Exs)
  | rgt (es : Exs)
  | pop (i : Nat)
  | popi (i : Nat) (k : Ex)
  | lset (a : Ex)
  | sset (a : Ex)
  | dict0 (t : Bool)
  | comp (own : List Nat) (g : Tg) (it : Itx) (c : Tx) (e : Ex)
inductive Exs where
  | nil
  | cons (e : Ex) (es : Exs)
inductive Ox where
  | none
  | some (e : Ex)
inductive Tx where
  | yes
  | val (e : Ex)
  | tru (e : Ex)
  | cmp (op : Cop) (a b : Ex)
  | din (neg : Bool) (k d : Ex)
  | chain (op op2 : Cop) (a b c : Ex)
  | and (a b : Tx)
  | or (a b : Tx)
  | one (a : Tx)
  | not (a : Tx)
inductive Itx where
  | seq (e : Ex)
  | range (es : Exs)
  | chars (e : Ex)
  | rev (e : Ex)
inductive Tg where
  | name (i : Nat)
  | tup (is : List Nat)
end

mutual
inductive Sm where
  | set (i : Nat) (own : Bool) (e : Ex)
  | aug (i : Nat) (op : Bop) (e : Ex)
  | unp (is : List Nat) (e : Ex)
  | par (i j : Nat) (a b : Ex)
  | emp3 (i j l : Nat)
  | par3 (i j l : Nat) (a b c : Ex)
  | emp2 (i j : Nat)
  | ext (i : Nat) (e : Ex)
  | app (i : Nat) (e : Ex)
  | setix (i : Nat) (a e : Ex)
  | swp (i : Nat) (as es : Exs)
  | dput (i : Nat) (k e : Ex)
  | expr (e : Ex)
  | ret (own : Bool) (e : Ex)
  | retN
  | ite (t : Tx) (a b : Sms)
  | loop (g : Tg) (it : Itx) (body : Sms)
  | loopv (fuel : Nat) (g : Tg) (i : Nat) (body : Sms)
  | whil (fuel : Nat) (t : Tx) (body : Sms)
  | raise (k : Nat)
  | tryx (body : Sms) (k : Nat) (h : Sms)
  | tryy (body : Sms) (k : Nat) (h : Sms) (k2 : Nat) (h2 : Sms)
  | brk
  | cnt
  | pass
inductive Sms where
  | nil
  | cons (s : Sm) (r : Sms)
  | kill (is : List Nat) (r : Sms)
end
end Q1

/-! QS: sorted() of tuples of which the first is empty. -/
namespace Q1
open PySem PySem.Calls PyProof.Rows PySem.W PySem.SeqAt
/-- the first is the empty tuple, all are tuples -/
def Sort0 (ds : List PyData) : Prop := (∃ r, ds = .tuple [] :: r) ∧ ∀ d, d ∈ ds → ∃ xs, d = .tuple xs
def Sort2 (ds : List PyData) : Prop := PySem.W.Sortable ds ∨ Sort0 ds
section
variable {prog : Program} {w : World} {A : Around} {s : Shared}
theorem call_tuple_lt {E : Value → Shared → Prop} {Q : Value → Shared → Prop} {l b : Addr} {items items2 : Array Value} {e r : Nat → Bool} (hl : s.heap.IsTuple l items) (hb : s.heap.IsTuple b items2)
    (he : ∀ j (h1 : j < items.size) (h2 : j < items2.size), EqAt A.in1 s items[j] items2[j] (e j)) (hr : ∀ j (h1 : j < items.size) (h2 : j < items2.size), e j = false → RcLt A.in1 s items[j] items2[j] (r j))
    (h : Q (.bool (firstLt e r (decide (items.size < items2.size)) (List.range (min items.size items2.size)))) s) : wpAny (model prog w) A (call (.builtin "tuple.__lt__") [.ref l, .ref b]) Q E s := by
  obtain ⟨⟨cls, dd, data, sl⟩, ho, hc, n, hd⟩ := id hl
  obtain ⟨⟨cls2, dd2, data2, sl2⟩, ho2, hc2, n2, hd2⟩ := id hb
  simp only at hc hd hc2 hd2
  subst hc hd hc2 hd2
  exact call_meets F.slot_tuple_lt ⟨_, ho, rfl⟩ F.entry_tuple_lt (F.args_tuple_lt_2 _ _) (tuple_ltAt l b items items2 n n2 dd dd2 sl sl2 e r) ⟨ho, ho2, he, hr, h⟩
theorem oneLt_tup {E : Value → Shared → Prop} {xs ys : List PyData} {a b : Value} {as bs : List Addr} {Q : Bool → Shared → Prop} (ra : Reads s.heap a (.tuple xs) as) (rb : Reads s.heap b (.tuple ys) bs) (h : alike (.tuple xs) (.tuple ys) = true)
    (hu : A.units + min (PyData.tuple xs).depth (PyData.tuple ys).depth < cLine) (hq : Q (dataLt (.tuple xs) (.tuple ys)) s) : wpAny (model prog w) A (oneLt' true a b) Q E s := by
  have hal : alikeAll xs ys = true := by simpa [alike] using h
  cases ra with
  | @tuple l o vs n _ as₁ h1 h2 h3 h4 =>
    cases rb with
    | @tuple l' o' vs' n' _ bs₁ k1 k2 k3 k4 =>
      have n1 : vs.size = xs.length := by simpa using ReadsAll.length _ _ _ h4
      have n2 : vs'.size = ys.length := by simpa using ReadsAll.length _ _ _ k4
      rw [dataLt_tuple, ← firstLt_toks xs ys hal, ← n1, ← n2] at hq
      rw [oneLt'_eq]
      simp only [if_true]
      refine wpAny_bind (wpAny_cRoomFor (room_here hu) ?_)
      refine wpAny_bind (wpAny_callSpecialIfBound?_slot (T := "tuple") ⟨_, h1, h2⟩ F.slot_tuple_lt (call_tuple_lt (e := pairEq xs ys) (r := fun j => dataLt (xs.getD j .none) (ys.getD j .none)) ⟨_, h1, h2, _, h3⟩ ⟨_, k1, k2, _, k3⟩ (fun j j1 j2 => ?_) (fun j j1 j2 hj => ?_) ?_))
      · have := eqAt_alikeAll xs ys A.in1 s vs.toList vs'.toList _ _ h4 k4 hal (room_in hu) j (by simpa using j1) (by simpa using j2)
        simpa using this
      · have := rcLt_alikeAll xs ys A.in1 s vs.toList vs'.toList _ _ h4 k4 hal (room_in hu) j (by simpa using j1) (by simpa using j2) hj
        simpa using this
      · exact wpAny_truthy_bool hq
/-- the first of each -/
theorem firsts_opt {M : Model} {E : Value → Shared → Prop} : ∀ (vs : List Value) (ds : List PyData) {Q : List (Option Value) → Shared → Prop}, EachIs (fun v d => ∃ as, Reads s.heap v d as) vs ds → (∀ d, d ∈ ds → ∃ xs, d = .tuple xs) → (∀ fs : List (Option Value), (∀ r, ds = .tuple [] :: r → ∃ g, fs = none :: g) → fs.length = vs.length → Q fs s) → wpAny M A (vs.mapM firstOfTuple') Q E s
  | [], _, _, .nil, _, h => by
    rw [List.mapM_nil]
    exact wpAny_pure (h [] (fun r hr => by cases hr) rfl)
  | v :: vs, d :: ds, Q, .cons ⟨as, r⟩ t, hd, h => by
    obtain ⟨xs, rfl⟩ := hd d List.mem_cons_self
    cases r with
    | @tuple a o its n _ as₁ h1 h2 h3 h4 =>
      rw [List.mapM_cons]
      refine wpAny_bind ?_
      rw [kas_first_eq]
      refine wpAny_bind (Looks.here (show Looks M s.heap (typeOf (.ref a)) o.cls from (Looks.ld h1).andThen .now) ?_)
      rw [h2, if_neg (by first | decide | simp)]
      refine wpAny_bind (listItems_at h1 h3 (wpAny_pure ?_))
      refine wpAny_bind (firsts_opt vs ds (Q := fun bs s' => wpAny M A (pure (its[0]? :: bs)) Q E s') t (fun d hd' => hd d (List.mem_cons_of_mem _ hd')) fun fs _ hl => wpAny_pure (h _ (fun r hr => ?_) (by simp [hl])))
      injection hr with hr _
      injection hr with hr
      subst hr
      have : its.size = 0 := by simpa using ReadsAll.length _ _ _ h4
      exact ⟨fs, by rw [show its[0]? = none by simp [this]]⟩
/-- which order is taken -/
theorem kind0 {E : Value → Shared → Prop} {vs : List Value} {ds : List PyData} {Q : SortKind → Shared → Prop} (e : EachIs (fun v d => ∃ as, Reads s.heap v d as) vs ds) (h0 : Sort0 ds) (hq : Q oneType' s) : wpAny (model prog w) A (keyKind' vs.toArray) Q E s := by
  obtain ⟨⟨r, rfl⟩, hd⟩ := h0
  cases e with
  | @cons v₁ _ rest _ hv t =>
    rw [keyKind'_eq, List.mapM_toArray, map_eq_pure_bind]
    refine wpAny_bind (wpAny_bind (firsts_opt (v₁ :: rest) _ (.cons hv t) hd fun fs hf _ => wpAny_pure ?_))
    obtain ⟨g, rfl⟩ := hf r rfl
    rw [if_neg (by simp), if_neg (by simp)]
    rw [oneTypeOnly'_eq, List.mapM_toArray, map_eq_pure_bind]
    refine wpAny_bind (wpAny_bind (wpAny_bind (kas_mapM (r := Value.type "tuple") _ (fun v hv' Q' hq => ?_) (wpAny_pure ?_))))
    · obtain ⟨d, hd', as, r'⟩ := (EachIs.cons hv t).left v hv'
      obtain ⟨xs, rfl⟩ := hd d hd'
      exact (show Looks _ _ (typeOf v) (Value.type "tuple") from looks_reads r').here hq
    · have hall : ((List.map (fun _ => Value.type "tuple") (v₁ :: rest)).toArray.all fun x => x == Value.type "tuple") = true := by
        simp only [List.all_toArray, List.all_map, List.all_eq_true]
        intro _ _
        exact beq_self_eq_true _
      have h0 : (List.map (fun _ => Value.type "tuple") (v₁ :: rest)).toArray[0]? = some (Value.type "tuple") := by simp
      rw [h0]
      simp only [hall, if_true]
      exact wpAny_pure (wpAny_pure hq)
theorem SortsAt0 {vs : List Value} {ds : List PyData} (e : EachIs (fun v d => ∃ as, Reads s.heap v d as) vs ds) (hal : AllAlike ds) (hk : Sort2 ds) (hu : ∀ d, d ∈ ds → A.units + d.depth < cLine) : SortsAt prog w A s (dataKind s.heap ds) vs := by
  rcases hk with hk | hk
  · exact SortsAt.data e hal hk hu
  have room : ∀ {d d' : PyData}, d ∈ ds → A.units + min d.depth d'.depth < cLine := fun {d d'} hd => Nat.lt_of_le_of_lt (Nat.add_le_add_left (Nat.min_le_left _ _) _) (hu d hd)
  refine ⟨fun v hv => ?_, oneType', ?_, fun h2 E Q hq => kind0 e hk hq⟩
  · obtain ⟨d, hd, as, r⟩ := e.left v hv
    exact ⟨_, dataKind_some hal hd r⟩
  · intro E x y a b Q ha hb hq
    obtain ⟨d, as, hd, ra, rfl⟩ := dataKind_inv ha
    obtain ⟨d', as', hd', rb, rfl⟩ := dataKind_inv hb
    rw [keyLt'_oneType]
    have hdd := hal d hd d' hd'
    have hroom := room (d' := d') hd
    obtain ⟨xs, rfl⟩ := hk.2 d hd
    obtain ⟨ys, rfl⟩ := hk.2 d' hd'
    exact oneLt_tup ra rb hdd hroom hq
theorem sorted_data2 {E : Value → Shared → Prop} {β : Type} {vs : List Value} {bs : List β} {enc : β → PyData} {R : Value → β → Prop} {l : Addr} {Q : Value → Shared → Prop} (hl : s.heap.IsList l vs.toArray) (e : EachIs R vs bs) (er : EachIs (fun v b => ∃ as, Reads s.heap v (enc b) as) vs bs) (hal : AllAlike (bs.map enc)) (hk : Sort2 (bs.map enc)) (hL : bs.length ≤ sizeLine)
    (hu : ∀ b, b ∈ bs → A.units + 2 + (enc b).depth < cLine) (h : ∀ out, out.length = bs.length → EachIs R out (bs.mergeSort (dataLe false enc)) → Q (.ref (s.heap.objs.size + 1)) { s with heap := sortedAll s.heap vs (List.toArray out) }) :
    wpAny (model prog w) A (call (.builtin "sorted") [.ref l]) Q E s := by
  have er' : EachIs (fun v b => ∃ as, Reads (sortingHeap (copyHeap s.heap vs) (s.heap.objs.size + 1) vs) v (enc b) as) vs bs := er.mono fun _ _ ⟨as, r⟩ => ⟨as, PyProof.Rows.Reads.keeps (fun _ _ => sorting_copy_old) r⟩
  exact sorted_vals hl (SortsAt0 (s := { s with heap := sortingHeap (copyHeap s.heap vs) (s.heap.objs.size + 1) vs }) (each_map (R := fun v d => ∃ as, Reads (sortingHeap (copyHeap s.heap vs) (s.heap.objs.size + 1) vs) v d as) enc er') hal hk (bound_map hu)) (by rw [e.length]; exact hL)
    (h _ (by rw [sortVals_length false rfl]; exact e.length) (sortVals_data false e er' hal))
end
end Q1

/-! QT: set() of a list of ints, with what sorted() wants of it. -/
namespace Q1
open PySem PySem.Spec PyProof.Rows L2
section
variable {P : Program} {w : World} {A : Around} {E : Value → Shared → Prop} {s : Shared}
/-- a set just made -/
abbrev newSet (w : World) : Obj := { cls := .type "set", dict := none, data := .set #[] 0 (.fresh 0 0 (!w.params.followText "set-order")) }
/-- what is left behind -/
def SetMade (w : World) (h h' : Heap) (ns : List Int) : Prop := (∃ c, SetR w h' h.objs.size (fun j => decide (j ∈ ns)) c ∧ c ≤ ns.length) ∧ ∀ b o, h.get? b = some o → h'.get? b = some o
set_option maxHeartbeats 3200000 in
/-- the set takes what stands in the list -/
theorem set_fill {l : Addr} {items : Array Value} (ns : List Int) {R : PySem.Fin → Shared → Prop} (hh : A.handled = none) (hl : s.heap.IsList l items) (hi : IntsAre items.toList ns) (hb : ns.length + 1 < scanBound)
    (hR : ∀ h' tk, SetMade w s.heap h' ns → R (.done (.ret .none)) { s with heap := h', toks := tk }) :
    wpAny (model P w) A (Builtin.«set.__init__» ⟨[.ref s.heap.objs.size, .ref l], []⟩) R E { s with heap := s.heap.push (newSet w) } := by
  have hn : items.size = ns.length := by rw [← Array.length_toList]; exact IntsAre.length hi
  obtain ⟨⟨lc, ld, lx, lsl⟩, ho, hc, k, hx⟩ := hl
  simp only at hc hx
  subst hc hx
  have hlt := Heap.lt_size ho
  have hl1 : (s.heap.push (newSet w)).IsList l items := ⟨_, Heap.get?_push_of_some _ ho, rfl, k, rfl⟩
  have hz : (s.heap.push (newSet w)).objs.size = s.heap.objs.size + 1 := Heap.size_push ..
  have n1 := F.sub_list_set
  have n2 := F.sub_list_frozenset
  have n3 : (Value.type "list" == Value.type "dict") = false := by decide
  have at_ : ∀ (i : Nat) (v : Value), items[i]? = some v → ∃ m t, ns[i]? = some m ∧ v = .int m t := fun i v hv => by
    have hi' : i < ns.length := by rw [← hn]; exact (Array.getElem?_eq_some_iff.mp hv).1
    obtain ⟨t, e⟩ := IntsAre.int_at hi i v (by rw [Array.getElem?_toList]; exact hv)
    exact ⟨ns[i], t, List.getElem?_eq_getElem hi', by rw [e, List.getD_eq_getElem?_getD, List.getElem?_eq_getElem hi']; rfl⟩
  unfold Builtin.«set.__init__» noKeywords Builtin.Frozenset.updateFrom
  generalize hPI : pyIter = PI
  wp_walk
  subst hPI
  refine wpAny_pyIter_list hl1 (wpAny_bind (wpAny_runValue ?_))
  have hne : l ≠ (s.heap.push (newSet w)).objs.size := by rw [hz]; exact Nat.ne_of_lt (Nat.lt_succ_of_lt hlt)
  have hS : (s.heap.push (newSet w)).get? s.heap.objs.size = some (newSet w) := Heap.get?_push_size _ rfl
  refine set_update_ints ((Walks.list (by simp [hh]) _ l hne items).toS) s.heap.objs.size (by rw [hz]; simp only [List.mem_cons, List.not_mem_nil, or_false, not_or]; exact ⟨Nat.ne_of_lt (Nat.lt_succ_self _), Nat.ne_of_gt hlt⟩) ns hn hb at_ (items.size - 0) 0 _ (by omega) (Nat.zero_le _) ⟨⟨_, Heap.get?_push_size _ rfl, rfl, rfl⟩, hl1.push _⟩ ⟨0, Nat.le_refl 0, setR_new_at (Heap.get?_push_of_some _ hS)⟩ fun s' c hm hc hSR => ?_
  obtain ⟨h', g2, d', tk', os'⟩ := s'
  obtain ⟨rfl, rfl, rfl⟩ : g2 = s.gens ∧ d' = s.drawn ∧ os' = s.os := ⟨hm.gens, hm.drawn, hm.os⟩
  show wpAny _ _ _ _ _ _
  refine wpAny_pure ?_
  show wpAny _ _ (ret Value.none) _ _ _
  refine wpAny_pure (hR h' tk' ⟨⟨c, hSR, by omega⟩, fun b o e => ?_⟩)
  have hb0 := Heap.lt_size e
  exact hm.heap b o (by rw [hz]; simp only [List.mem_cons, List.not_mem_nil, or_false, not_or]; exact ⟨Nat.ne_of_lt hb0, Nat.ne_of_lt (Nat.lt_succ_of_lt hb0)⟩) (Heap.get?_push_of_some _ (Heap.get?_push_of_some _ e))
set_option maxHeartbeats 3200000 in
/-- set(l) -/
theorem set_of_list {l : Addr} {items : Array Value} (ns : List Int) {Q : Value → Shared → Prop} (hh : A.handled = none) (hl : s.heap.IsList l items) (hi : IntsAre items.toList ns) (hb : ns.length + 1 < scanBound)
    (h : ∀ h' tk, SetMade w s.heap h' ns → Q (.ref s.heap.objs.size) { s with heap := h', toks := tk }) : wpAny (model P w) A (call (.type "set") [.ref l]) Q E s := by
  obtain ⟨c, tl, m1⟩ := F.called_set.mro
  have m2 := F.called_set.made
  have m3 := F.called_set.sub
  have m4 := F.called_set.notType
  have m5 := F.called_set.canCreate
  have m6 := F.typeCall_set_1 (.ref l)
  refine wpAny_call (codeAny_of_tree ?_)
  show wpAny _ _ (callAny (.type "set") _) _ _ _
  refine wpAny_pure ⟨Code.quiet_builtin _ (by decide +kernel), codeAny_builtin F.entry_type_call ?_⟩
  rw [Around.under_plain (weight_type_call_type "set" [.ref l] []) rfl]
  repeat (any_goals (first | assumption | wp_step))
  refine codeAny_mono (code_set_led1 (.ref l) (E := E) (Q₁ := fun v t => v = .ref s.heap.objs.size ∧ t = { s with heap := s.heap.push (newSet w) }) ⟨rfl, rfl⟩) fun r t hr => ?_
  match r, hr with
  | .error e, hr => exact hr
  | .ok (.ret v), hr =>
    obtain ⟨rfl, rfl⟩ := hr
    have hT : Shared.TypeIs { s with heap := s.heap.push (newSet w) } (.ref s.heap.objs.size) "set" := ⟨_, Heap.get?_push_size _ rfl, rfl⟩
    have i1 := F.called_set.init.lookup
    have i2 := F.called_set.init.bind (.ref s.heap.objs.size)
    repeat (any_goals (first | assumption | wp_step))
    refine codeAny_mono (codeAny_call_builtin (R := wants (fun r t => r = .none ∧ ∃ h' tk, t = { s with heap := h', toks := tk } ∧ SetMade w s.heap h' ns) E) F.called_set.init.plain F.entry_set_init (check_set_init_1 hT ?_)) fun r t hr => ?_
    · exact set_fill ns (by simp [hh]) hl hi hb fun h' tk hm => ⟨rfl, h', tk, rfl, hm⟩
    · match r, hr with
      | .error e, hr => exact hr
      | .ok (.ret v), hr =>
        obtain ⟨rfl, h', tk, rfl, hm⟩ := hr
        repeat (any_goals (first | assumption | wp_step))
        exact h _ _ hm
end
end Q1

/-! Q2: the evaluator. -/
namespace Q1
open PySem
noncomputable section

/-! ### operations on data -/
def okEq (d : D) : Bool := d.canLay0 && decide (d.depth ≤ 60)
def binO : Bop → D → D → Option M
  | .add, .int i, .int j => some (.p (.int (i + j)))
  | .add, .str x, .str y => @ite _ (x.length + y.length ≤ sizeLine) (Classical.propDecidable _) (some (.p (.str (x ++ y)))) none
  | .add, .list xs, .list ys => @ite _ (xs.length + ys.length ≤ sizeLine) (Classical.propDecidable _) (some (.ol (xs ++ ys))) none
  | .add, .tuple xs, .tuple ys => @ite _ (xs.length + ys.length ≤ sizeLine) (Classical.propDecidable _) (some (.p (.tuple (xs ++ ys)))) none
  | .sub, .int i, .int j => some (.p (.int (i - j)))
  | .mul, .int i, .int j => @ite _ ((-(2 ^ 64) < i ∧ i < 2 ^ 64) ∨ (-(2 ^ 64) < j ∧ j < 2 ^ 64)) (Classical.propDecidable _) (some (.p (.int (i * j)))) none
  | .div, .int i, .int j => @ite _ (0 < j ∧ j < 1073741824) (Classical.propDecidable _) (some (.p (.int (i / j)))) none
  | .mod, .int i, .int j => @ite _ (0 < j) (Classical.propDecidable _) (some (.p (.int (i % j)))) none
  | .pow, .int i, .int j => @ite _ (0 ≤ j ∧ j ≤ 1000000 ∧ i.natAbs < 2 ^ 64) (Classical.propDecidable _) (some (.p (.int (i ^ j.toNat)))) none
  | .mul, .list xs, .int k => @ite _ ((-(2 ^ 63) ≤ k ∧ k < 2 ^ 63) ∧ xs.length * k.toNat ≤ sizeLine) (Classical.propDecidable _) (some (.ol (List.replicate k.toNat xs).flatten)) none
  | _, _, _ => none
def eqO : D → D → Option Bool
  | .int i, .int j => some (decide (i = j))
  | .str x, .str y => some (decide (x = y))
  | .bool a, .bool b => some (decide (a = b))
  | a, b => if okEq a && okEq b then some (PyData.eqv a b) else none
def inO (d : D) : D → Option Bool
  | .list xs => if okEq (.list xs) && okEq d then some (xs.any fun y => PyData.eqv y d) else none
  | .tuple xs => if okEq (.tuple xs) && okEq d then some (xs.any fun y => PyData.eqv y d) else none
  | _ => none
def isNon : D → Bool
  | .none => true
  | _ => false
/-- order of data -/
def ordO (a b : D) (r : Bool) : Option Bool := @ite _ (PySem.W.alike a b = true ∧ isNon a = false ∧ okEq a = true ∧ okEq b = true) (Classical.propDecidable _) (some r) none
def cmpO : Cop → D → D → Option Bool
  | .eq, a, b => eqO a b
  | .ne, a, b => (eqO a b).map not
  | .lt, .int i, .int j => some (decide (i < j))
  | .le, .int i, .int j => some (decide (i ≤ j))
  | .gt, .int i, .int j => some (decide (j < i))
  | .ge, .int i, .int j => some (decide (j ≤ i))
  | .lt, a, b => ordO a b (PySem.W.dataLt a b)
  | .gt, a, b => ordO a b (PySem.W.dataLt b a)
  | .le, a, b => ordO a b (!PySem.W.dataLt b a)
  | .ge, a, b => ordO a b (!PySem.W.dataLt a b)
  | .is, a, .none => some (isNon a)
  | .isn, a, .none => some (!isNon a)
  | .inn, a, b => inO a b
  | .notin, a, b => (inO a b).map not
  | _, _, _ => none
/-- truth of a value -/
def truO : D → Option Bool
  | .none => some false
  | .bool b => some b
  | .int i => some (decide (i ≠ 0))
  | .str x => @ite _ (x.length ≤ sizeLine) (Classical.propDecidable _) (some (decide (x.length ≠ 0))) none
  | .list xs => some (decide (xs.length ≠ 0))
  | .tuple xs => some (decide (xs.length ≠ 0))
  | .dict _ => none
def isTy (t : Bi) : D → Bool
  | .none => false
  | .bool _ => (match t with | .isInt => true | .isBool => true | _ => false)
  | .int _ => (match t with | .isInt => true | _ => false)
  | .str _ => (match t with | .isStr => true | _ => false)
  | .list _ => (match t with | .isList => true | _ => false)
  | .tuple _ => (match t with | .isTuple => true | _ => false)
  | .dict _ => (match t with | .isDict => true | _ => false)
/-- lo, lo + 1, .. : n of them -/
def ups (lo : Int) : Nat → List D
  | 0 => []
  | n + 1 => .int lo :: ups (lo + 1) n
def minD (xs : List Int) : Option Int := match xs with | [] => none | x :: r => some (r.foldl (fun a b => if b < a then b else a) x)
def maxD (xs : List Int) : Option Int := match xs with | [] => none | x :: r => some (r.foldl (fun a b => if a < b then b else a) x)
/-- a list of ints, if it is one -/
def intsOf : List D → Option (List Int)
  | [] => some []
  | .int i :: r => (intsOf r).map (i :: ·)
  | _ :: _ => none
/-- sorted, least, greatest of data -/
def srtO (xs : List D) : Option M := @ite _ ((PySem.W.AllAlike xs ∧ Sort2 xs) ∧ PyData.canLayAll0 xs = true ∧ PyData.depthAll xs ≤ 60 ∧ xs.length ≤ sizeLine) (Classical.propDecidable _) (some (.ol (xs.mergeSort (PySem.W.dataLe false id)))) none
def mnO : List D → Option M
  | [] => none
  | x :: xs => @ite _ (PySem.W.AlikeAll (x :: xs) ∧ PyData.canLayAll0 (x :: xs) = true ∧ PyData.depthAll (x :: xs) ≤ 60) (Classical.propDecidable _) (some (.p (PySem.W.minD x xs))) none
def mxO : List D → Option M
  | [] => none
  | x :: xs => @ite _ (PySem.W.AlikeAll (x :: xs) ∧ PyData.canLayAll0 (x :: xs) = true ∧ PyData.depthAll (x :: xs) ≤ 60) (Classical.propDecidable _) (some (.p (PySem.W.maxD x xs))) none
def intsE (o : Option (List Int)) (f : List Int → Option M) (g : Option M) : Option M := match o with
  | some ns => f ns
  | none => g
/-- the keys of a dict, in order -/
def sdO (kvs : List (D × D)) : Option M := (intsOf (kvs.map (·.1))).bind fun ns => @ite _ (ns.length < 64) (Classical.propDecidable _) (some (.ol ((ns.mergeSort fun a b => decide (a ≤ b)).map .int))) none
def biO : Bi → List D → Option M
  | .len, [.list xs] => some (.p (.int xs.length))
  | .len, [.tuple xs] => some (.p (.int xs.length))
  | .len, [.str x] => @ite _ (x.length ≤ sizeLine) (Classical.propDecidable _) (some (.p (.int x.length))) none
  | .len, [.dict kvs] => some (.p (.int kvs.length))
  | .abs, [.int i] => some (.p (.int (if i < 0 then -i else i)))
  | .min2, [.int i, .int j] => some (.p (.int (if j < i then j else i)))
  | .max2, [.int i, .int j] => some (.p (.int (if j > i then j else i)))
  | .list, [.list xs] => some (.ol xs)
  | .list, [.tuple xs] => some (.ol xs)
  | .tuple, [.list xs] => some (.p (.tuple xs))
  | .tuple, [.tuple xs] => some (.p (.tuple xs))
  | .int, [.int i] => some (.p (.int i))
  | .int, [.bool b] => some (.p (.int (if b then 1 else 0)))
  | .sorted, [.list xs] => intsE (intsOf xs) (fun ns => some (.ol ((ns.mergeSort fun a b => decide (a ≤ b)).map .int))) (srtO xs)
  | .minl, [.list xs] => intsE (intsOf xs) (fun ns => (minD ns).map fun i => .p (.int i)) (mnO xs)
  | .maxl, [.list xs] => intsE (intsOf xs) (fun ns => (maxD ns).map fun i => .p (.int i)) (mxO xs)
  | .sum, [.list xs] => (intsOf xs).map fun ns => .p (.int ns.sum)
  | .isInt, [d] => some (.p (.bool (isTy .isInt d)))
  | .isBool, [d] => some (.p (.bool (isTy .isBool d)))
  | .isStr, [d] => some (.p (.bool (isTy .isStr d)))
  | .isList, [d] => some (.p (.bool (isTy .isList d)))
  | .isTuple, [d] => some (.p (.bool (isTy .isTuple d)))
  | .isDict, [d] => some (.p (.bool (isTy .isDict d)))
  | .str, [.int i] => @ite _ (i.natAbs.log2 < 1920) (Classical.propDecidable _) (some (.p (.str (toString i)))) none
  | .min2d, [a, b] => mnO [a, b]
  | .minl, [.tuple xs] => mnO xs
  | .maxl, [.tuple xs] => mxO xs
  | .sorted, [.dict (kv :: kvs)] => sdO (kv :: kvs)
  | _, _ => none
/-- a list of texts, if it is one -/
def strsOf : List D → Option (List Str)
  | [] => some []
  | .str i :: r => (strsOf r).map (i :: ·)
  | _ :: _ => none
def metO : Mt → D → List D → Option M
  | .index, .list xs, [.int k] => (intsOf xs).bind fun ns => (ns.findIdx? (· == k)).map fun n => .p (.int (n : Nat))
  | .count, .list xs, [.int k] => (intsOf xs).map fun ns => .p (.int (ns.count k : Nat))
  | .join, .str a, [.list ys] => (strsOf ys).bind fun zs => @ite _ ((zs.map (·.length)).sum + zs.length * a.length ≤ 16777216) (Classical.propDecidable _) (some (.p (.str (Txt.join a zs)))) none
  | .split, .str a, [.str b] => @ite _ (b.length ≠ 0 ∧ a.length + 2 ≤ sizeLine) (Classical.propDecidable _) (some (.ol ((Txt.split a b).map .str))) none
  | .count, .list xs, [d] => if okEq (.list xs) && okEq d then some (.p (.int (xs.countP (fun y => PyData.eqv y d) : Nat))) else none
  | _, _, _ => none
def isListD : D → Bool
  | .list _ => true
  | _ => false
/-- what a method is called on -/
def recvOk : Mt → D → Bool
  | .index, .list _ => true
  | .count, .list _ => true
  | .join, .str _ => true
  | .split, .str _ => true
  | _, _ => false
/-- each once, as they are met -/
def ddi (ns : List Int) : List Int := ns.foldl (fun s k => if s.any (· == k) then s else s ++ [k]) []
/-- len(set(..)) -/
def lsetO : D → Option M
  | .list xs => (intsOf xs).bind fun ns => @ite _ (ns.length ≤ 4000) (Classical.propDecidable _) (some (.p (.int ((ddi ns).length : Nat)))) none
  | _ => none
/-- in order, each once -/
def insU (x : Int) : List Int → List Int
  | [] => [x]
  | y :: l => if x < y then x :: y :: l else if x = y then y :: l else y :: insU x l
def srtU (ns : List Int) : List Int := ns.foldr insU []
/-- sorted(set(..)) -/
def ssetO : D → Option M
  | .list xs => (intsOf xs).bind fun ns => @ite _ (ns.length < 64) (Classical.propDecidable _) (some (.ol ((srtU ns).map .int))) none
  | _ => none
/-- lo, lo + c, .. : n of them -/
def upsC (lo c : Int) : Nat → List D
  | 0 => []
  | n + 1 => .int lo :: upsC (lo + c) c n
/-- how many in range(i, j, c) -/
def rngN (i j c : Int) : Nat := (if c > 0 then (if i < j then (j - i - 1) / c + 1 else 0) else (if i > j then (i - j - 1) / (-c) + 1 else 0) : Int).toNat
def ixO : D → D → Option D
  | .list xs, .int i => L2.atI xs i
  | .tuple xs, .int i => L2.atI xs i
  | .str z, .int i => @ite _ (z.length ≤ sizeLine) (Classical.propDecidable _) ((L2.atI z.cps.toList i).map fun c => .str ⟨#[c]⟩) none
  | _, _ => none
def cutD (xs : List D) (lo hi : Option Int) : List D := (xs.drop (HT.sIx xs.length 0 lo)).take (HT.sIx xs.length xs.length hi - HT.sIx xs.length 0 lo)
def slO : D → Option Int → Option Int → Option M
  | .list xs, lo, hi => some (.ol (cutD xs lo hi))
  | .tuple xs, lo, hi => some (.p (.tuple (cutD xs lo hi)))
  | .str z, lo, hi => @ite _ (z.length ≤ sizeLine) (Classical.propDecidable _) (some (.p (.str (L2.cutS z lo hi)))) none
  | _, _, _ => none

def revO : D → Option M
  | .list xs => some (.ol xs.reverse)
  | _ => none
/-- a key: an int, a text, a tuple of such -/
def isKey : D → Bool
  | .int _ => true
  | .str _ => true
  | _ => false
/-- a key of a dict of this kind (true: tuples) -/
def keyKind : Bool → D → Bool
  | false, d => isKey d
  | true, .tuple xs => xs.all isKey
  | true, _ => false
def keyOk : D → Bool
  | .int _ => true
  | .str _ => true
  | .tuple xs => xs.all isKey
  | _ => false
mutual
def beqD : D → D → Bool
  | .none, .none => true
  | .bool a, .bool b => a == b
  | .int a, .int b => a == b
  | .str a, .str b => a == b
  | .list xs, .list ys => beqDs xs ys
  | .tuple xs, .tuple ys => beqDs xs ys
  | _, _ => false
def beqDs : List D → List D → Bool
  | [], [] => true
  | x :: xs, y :: ys => beqD x y && beqDs xs ys
  | _, _ => false
end
def dlook (kvs : List (D × D)) (k : D) : Option D := (kvs.find? fun kv => beqD kv.1 k).map (·.2)
/-- what stands in a dict at a key -/
def dgetO : M → D → Option (Option D)
  | .od t kvs, k => if keyKind t k then some (dlook kvs k) else none
  | .p (.dict ((k0, v0) :: kvs)), k => if isKey k0 && isKey k || keyKind true k0 && keyKind true k then some (dlook ((k0, v0) :: kvs) k) else none
  | _, _ => none
/-! ### the evaluator -/
structure PC where
  call : Nat → List M → Res M
  sub : Nat → Nat → Option Bool
inductive Opd where
  | val (d : D)
  | late (i : Nat)
def opd (a : Ex) (r : En → Res M) (env : En) : Res Opd :=
  match a with
  | .rf i => match look env i with
    | some _ => .ok (.late i) env
    | none => .bad
  | _ => (r env).bind fun m e => .ok (.val m.toD) e
def fetch (env : En) : Opd → Option D
  | .val d => some d
  | .late i => (look env i).map M.toD
def fetchM (env : En) : Opd → Option M
  | .val d => some (.p d)
  | .late i => look env i
def isDictM : Option M → Bool
  | some (.od _ _) => true
  | some (.p (.dict _)) => true
  | _ => false
def fetchs (env : En) : List Opd → Option (List D)
  | [] => some []
  | o :: os => (fetch env o).bind fun d => (fetchs env os).map (d :: ·)
def fetchMs (env : En) : List Opd → Option (List M)
  | [] => some []
  | o :: os => (fetchM env o).bind fun d => (fetchMs env os).map (d :: ·)
/-- the operands as frozen data -/
def vals : List Opd → Option (List D)
  | [] => some []
  | .val d :: os => (vals os).map (d :: ·)
  | .late _ :: _ => none
/-- what a built-in takes: min of two data takes frozen ones alone -/
def opsOf : Bi → En → List Opd → Option (List D)
  | .min2d, _, os => vals os
  | _, env, os => fetchs env os
def ofO {α : Type} (o : Option α) (env : En) : Res α := match o with | some m => .ok m env | none => .bad
/-- behind a call: what was handed over by its name -/
def outs (env : En) : List Opd → En → En
  | [], _ => env
  | .val _ :: os, r => outs env os r.tail
  | .late i :: os, r => outs (match look env i with | some (.p _) => env | _ => put env i (r.headD none)) os r.tail
/-- no slot is handed over twice -/
def lates : List Opd → List Nat
  | [] => []
  | .val _ :: os => lates os
  | .late i :: os => i :: lates os
def dup : List Nat → Bool
  | [] => false
  | x :: xs => xs.contains x || dup xs
def plainAt (env : En) (is : List Nat) : Bool := is.all fun i => match look env i with | some (.p _) => true | none => true | _ => false
def restore (env old : En) : List Nat → En
  | [] => env
  | i :: is => restore (put env i (look old i)) old is
def consO : Option D → List D → List D
  | some y, ys => y :: ys
  | none, ys => ys
def compL (f : D → En → Res (Option D)) : List D → En → Res (List D)
  | [], env => .ok [] env
  | x :: xs, env => (f x env).bind fun o e1 => (compL f xs e1).bind fun ys e2 => .ok (consO o ys) e2
def puts (env : En) : List Nat → List D → Option En
  | [], [] => some env
  | i :: is, d :: ds => puts (put env i (some (.p d))) is ds
  | _, _ => none
def setTg (env : En) : Tg → D → Option En
  | .name i, d => some (put env i (some (.p d)))
  | .tup is, .tuple ds => puts env is ds
  | .tup _, _ => none
def tgSlots : Tg → List Nat
  | .name i => [i]
  | .tup is => is
/-- one turn of a comprehension -/
def compT (own : List Nat) (g : Tg) (ft : En → Res Bool) (fe : En → Res M) : D → En → Res (Option D) := fun x e0 => match setTg (kills e0 own) g x with
  | some e2 => (ft e2).bind fun b e3 => if b then (fe e3).bind fun m e4 => .ok (some m.toD) e4 else .ok none e3
  | none => .bad
/-- one turn of a loop -/
def loopT (pr : List Nat) (g : Tg) (fb : En → Res Fl) : D → En → Res Fl := fun x e0 => match setTg e0 g x with
  | some e2 => if (tgSlots g).any pr.contains then .bad else fb e2
  | none => .bad
def itO : D → Option (List D)
  | .list xs => some xs
  | .tuple xs => some xs
  | _ => none
def noExc {α : Type} (r : Res α) : Res α := match r with | .exc _ _ => .bad | r => r
def rangeO : List D → Option (List D)
  | [.int j] => @ite _ (j ≤ 16777216 ∧ -(2 ^ 62) ≤ j) (Classical.propDecidable _) (some (ups 0 j.toNat)) none
  | [.int i, .int j] => @ite _ ((-(2 ^ 62) ≤ i ∧ i < 2 ^ 62 ∧ -(2 ^ 62) ≤ j ∧ j < 2 ^ 62) ∧ j - i ≤ 16777216) (Classical.propDecidable _) (some (ups i (j - i).toNat)) none
  | [.int i, .int j, .int c] => @ite _ ((-(2 ^ 40) ≤ i ∧ i < 2 ^ 40 ∧ -(2 ^ 40) ≤ j ∧ j < 2 ^ 40) ∧ (c ≠ 0 ∧ -(2 ^ 20) < c ∧ c < 2 ^ 20) ∧ rngN i j c ≤ 16777216) (Classical.propDecidable _) (some (upsC i c (rngN i j c))) none
  | _ => none
def charsO : D → Option (List D)
  | .str z => @ite _ (z.length ≤ sizeLine) (Classical.propDecidable _) (some (z.cps.toList.map fun c => .str ⟨#[c]⟩)) none
  | _ => none

/-- x.pop(k) -/
def popO : Option M → D → Option (D × List D)
  | some (.ol xs), .int k => @ite _ (-(2 ^ 63) ≤ k ∧ k < 2 ^ 63) (Classical.propDecidable _) ((L2.ixN xs.length k).bind fun n => (xs[n]?).map fun d => (d, xs.eraseIdx n)) none
  | _, _ => none

mutual
def evX (C : PC) : Ex → En → Res M
  | .var i, env => match look env i with
    | some (.p d) => .ok (.p d) env
    | some m => .ok (.p m.toD) (put env i (some (.p m.toD)))
    | none => .bad
  | .rf i, env => match look env i with
    | some (.p d) => .ok (.p d) env
    | some m => .ok m (put env i none)
    | none => .bad
  | .lit d, env => .ok (.p d) env
  | .glob _ d, env => .ok (.p d) env
  | .bin op a b, env => (opd a (evX C a) env).bind fun x e1 => (opd b (evX C b) e1).bind fun y e2 =>
      ofO ((fetch e2 x).bind fun dx => (fetch e2 y).bind fun dy => binO op dx dy) e2
  | .neg a, env => (evX C a env).bind fun m e1 => match m.toD with
    | .int i => .ok (.p (.int (-i))) e1
    | _ => .bad
  | .tv t, env => (evT C t env).bind fun b e1 => .ok (.p (.bool b)) e1
  | .ifx t a b, env => (evT C t env).bind fun c e1 => if c then evX C a e1 else evX C b e1
  | .call f as, env => (evOs C as env).bind fun os e1 => match fetchMs e1 os with
    | some ms => if dup (lates os) then .bad else match C.call f ms with
      | .ok m r => .ok m (outs e1 os r)
      | .exc c r => .exc c (outs e1 os r)
      | .bad => .bad
    | none => .bad
  | .bi b as, env => (evOs C as env).bind fun os e1 => ofO ((opsOf b e1 os).bind (biO b)) e1
  | .met m o as, env => (evX C o env).bind fun x e1 => if recvOk m x.toD then (evOs C as e1).bind fun os e2 => ofO ((fetchs e2 os).bind (metO m x.toD)) e2 else .bad
  | .rgl es, env => (evOs C es env).bind fun os e1 => ofO (((fetchs e1 os).bind rangeO).map M.ol) e1
  | .rgt es, env => (evOs C es env).bind fun os e1 => ofO (((fetchs e1 os).bind rangeO).map fun xs => .p (.tuple xs)) e1
  | .pop i, env => match look env i with
    | some (.ol xs) => (match xs[xs.length - 1]? with
      | some d => .ok (.p d) (put env i (some (.ol xs.dropLast)))
      | none => .bad)
    | _ => .bad
  | .popi i k, env => match look env i with
    | some (.ol _) => (evX C k env).bind fun m e1 => (ofO (popO (look e1 i) m.toD) e1).bind fun r e2 => .ok (.p r.1) (put e2 i (some (.ol r.2)))
    | _ => .bad
  | .lset a, env => (evX C a env).bind fun m e1 => ofO (lsetO m.toD) e1
  | .sset a, env => (evX C a env).bind fun m e1 => ofO (ssetO m.toD) e1
  | .ix a i, env => (opd a (evX C a) env).bind fun x e1 => (opd i (evX C i) e1).bind fun y e2 =>
      ofO ((fetch e2 x).bind fun dx => (fetch e2 y).bind fun dy => (ixO dx dy).map M.p) e2
  | .dget d k, env => (opd d (evX C d) env).bind fun x e1 => (opd k (evX C k) e1).bind fun y e2 =>
      ofO ((fetchM e2 x).bind fun dm => (fetch e2 y).bind fun dk => (dgetO dm dk).bind fun r => r.map M.p) e2
  | .dgm1 d k, env => (opd d (evX C d) env).bind fun x e1 => if isDictM (fetchM e1 x) then (opd k (evX C k) e1).bind fun y e2 =>
      ofO ((fetchM e2 x).bind fun dm => (fetch e2 y).bind fun dk => (dgetO dm dk).map fun r => .p (r.getD .none)) e2 else .bad
  | .dgm2 d k z, env => (opd d (evX C d) env).bind fun x e1 => if isDictM (fetchM e1 x) then (opd k (evX C k) e1).bind fun y e2 => (evX C z e2).bind fun zm e3 =>
      ofO ((fetchM e3 x).bind fun dm => (fetch e3 y).bind fun dk => (dgetO dm dk).map fun r => .p (r.getD zm.toD)) e3 else .bad
  | .sl a lo hi, env => (opd a (evX C a) env).bind fun x e1 => (evO C lo e1).bind fun l e2 => (evO C hi e2).bind fun h e3 =>
      ofO ((fetch e3 x).bind fun dx => slO dx l h) e3
  | .rev a, env => (evX C a env).bind fun m e1 => ofO (revO m.toD) e1
  | .tup es, env => (evOs C es env).bind fun os e1 => ofO ((vals os).bind fun ds => @ite _ (ds.length ≤ sizeLine) (Classical.propDecidable _) (some (.p (.tuple ds))) none) e1
  | .lst es, env => (evOs C es env).bind fun os e1 => ofO ((vals os).bind fun ds => @ite _ (ds.length ≤ sizeLine) (Classical.propDecidable _) (some (.ol ds)) none) e1
  | .rep es b, env => (evOs C es env).bind fun os e1 => (ofO ((vals os).bind fun ds => @ite _ (ds.length ≤ sizeLine) (Classical.propDecidable _) (some ds) none) e1).bind fun ds e2 => (evX C b e2).bind fun m e3 => ofO (match m.toD with
      | .int k => @ite _ ((-(2 ^ 63) ≤ k ∧ k < 2 ^ 63) ∧ ds.length * k.toNat ≤ sizeLine) (Classical.propDecidable _) (some (.ol (List.replicate k.toNat ds).flatten)) none
      | _ => none) e3
  | .rep2 a b, env => (evX C a env).bind fun m0 e1 => match m0 with
    | .ol ds => (evX C b e1).bind fun m e2 => ofO (match m.toD with
      | .int k => @ite _ ((-(2 ^ 63) ≤ k ∧ k < 2 ^ 63) ∧ ds.length * k.toNat ≤ sizeLine) (Classical.propDecidable _) (some (.ol (List.replicate k.toNat ds).flatten)) none
      | _ => none) e2
    | _ => .bad
  | .dict0 t, env => .ok (.od t []) env
  | .comp own g it c e, env => (evI C it env).bind fun xs e1 => if plainAt e1 own then
      (noExc (compL (compT own g (evT C c) (evX C e)) xs e1)).bind fun ys e5 => .ok (.ol ys) (restore e5 e1 own)
    else .bad
def evOs (C : PC) : Exs → En → Res (List Opd)
  | .nil, env => .ok [] env
  | .cons e es, env => (opd e (evX C e) env).bind fun o e1 => (evOs C es e1).bind fun os e2 => .ok (o :: os) e2
def evO (C : PC) : Ox → En → Res (Option Int)
  | .none, env => .ok none env
  | .some e, env => (evX C e env).bind fun m e1 => match m.toD with
    | .int i => .ok (some i) e1
    | _ => .bad
def evT (C : PC) : Tx → En → Res Bool
  | .yes, env => .ok true env
  | .val e, env => (evX C e env).bind fun m e1 => match m.toD with
    | .bool b => .ok b e1
    | _ => .bad
  | .tru e, env => (opd e (evX C e) env).bind fun o e1 => ofO ((fetch e1 o).bind truO) e1
  | .cmp op a b, env => (opd a (evX C a) env).bind fun x e1 => (opd b (evX C b) e1).bind fun y e2 =>
      ofO ((fetch e2 x).bind fun dx => (fetch e2 y).bind fun dy => cmpO op dx dy) e2
  | .din neg k d, env => (opd k (evX C k) env).bind fun x e1 => (opd d (evX C d) e1).bind fun y e2 =>
      ofO ((fetch e2 x).bind fun dk => (fetchM e2 y).bind fun dm => (dgetO dm dk).map fun r => if neg then !r.isSome else r.isSome) e2
  | .chain op op2 a b c, env => (evX C a env).bind fun x e1 => (evX C b e1).bind fun y e2 => (ofO (cmpO op x.toD y.toD) e2).bind fun r e3 =>
      if r then (evX C c e3).bind fun z e4 => ofO (cmpO op2 y.toD z.toD) e4 else .ok false e3
  | .and a b, env => (evT C a env).bind fun r e1 => if r then evT C b e1 else .ok false e1
  | .or a b, env => (evT C a env).bind fun r e1 => if r then .ok true e1 else evT C b e1
  | .one a, env => evT C a env
  | .not a, env => (evT C a env).bind fun r e1 => .ok (!r) e1
def evI (C : PC) : Itx → En → Res (List D)
  | .seq e, env => (evX C e env).bind fun m e1 => ofO (itO m.toD) e1
  | .range es, env => (evOs C es env).bind fun os e1 => ofO ((fetchs e1 os).bind rangeO) e1
  | .chars e, env => (evX C e env).bind fun m e1 => ofO (charsO m.toD) e1
  | .rev e, env => (evX C e env).bind fun m e1 => ofO ((itO m.toD).bind fun xs => @ite _ (xs.length ≤ sizeLine) (Classical.propDecidable _) (some xs.reverse) none) e1
end
def dputD (kvs : List (D × D)) (k v : D) : List (D × D) :=
  if kvs.any (fun kv => beqD kv.1 k) then kvs.map (fun kv => if beqD kv.1 k then (kv.1, v) else kv) else kvs ++ [(k, v)]

def augO : Bop → Int → D → Option Int
  | .add, a, .int b => some (a + b)
  | .sub, a, .int b => some (a - b)
  | _, _, _ => none
def setO : Option M → D → D → Option M
  | some (.ol xs), .int k, d => (L2.ixN xs.length k).map fun n => .ol (xs.set n d)
  | _, _, _ => none
def dputO : Option M → D → D → Option M
  | some (.od t kvs), k, d => @ite _ (kvs.length < sizeLine ∧ keyKind t k) (Classical.propDecidable _) (some (.od t (dputD kvs k d))) none
  | _, _, _ => none
def exsLen : Exs → Nat
  | .nil => 0
  | .cons _ r => exsLen r + 1
/-- x[a], x[b], .. = .. -/
def swpL (ev : Ex → En → Res M) (i : Nat) : Exs → List D → En → Res Fl
  | .nil, [], env => .ok .nx env
  | .cons a as, d :: ds, env => match look env i with
    | some (.ol _) => (ev a env).bind fun j e2 => (ofO (setO (look e2 i) j.toD d) e2).bind fun r e3 => swpL ev i as ds (put e3 i (some r))
    | _ => .bad
  | _, _, _ => .bad
def forL (body : D → En → Res Fl) : List D → En → Res Fl
  | [], env => .ok .nx env
  | x :: xs, env => match body x env with
    | .ok .nx e => forL body xs e
    | .ok .ct e => forL body xs e
    | .ok .bk e => .ok .nx e
    | r => r
def forV (body : D → En → Res Fl) (i : Nat) : Nat → Nat → En → Res Fl
  | 0, _, _ => .bad
  | n + 1, k, env => match look env i with
    | some m => match m.toD with
      | .list xs => match xs[k]? with
        | none => .ok .nx env
        | some x => match body x env with
          | .ok .nx e => forV body i n (k + 1) e
          | .ok .ct e => forV body i n (k + 1) e
          | .ok .bk e => .ok .nx e
          | r => r
      | _ => .bad
    | none => .bad
def whileL (t : En → Res Bool) (body : En → Res Fl) : Nat → En → Res Fl
  | 0, _ => .bad
  | n + 1, env => (t env).bind fun b e1 => if b then (match body e1 with
      | .ok .nx e => whileL t body n e
      | .ok .ct e => whileL t body n e
      | .ok .bk e => .ok .nx e
      | r => r) else .ok .nx e1
def retM (own : Bool) (m : M) : M := if own then m else .p m.toD
mutual
def evS (C : PC) (pr : List Nat) : Sm → En → Res Fl
  | .set i own e, env => (evX C e env).bind fun m e1 => if pr.contains i then .bad else .ok .nx (put e1 i (some (retM own m)))
  | .aug i op e, env => if pr.contains i then .bad else match look env i with
    | some (.p (.int a)) => (evX C e env).bind fun m e1 => (ofO (augO op a m.toD) e1).bind fun r e2 => .ok .nx (put e2 i (some (.p (.int r))))
    | _ => .bad
  | .unp is e, env => (evX C e env).bind fun m e1 => if is.any pr.contains then .bad else match m.toD with
    | .tuple ds => (match puts e1 is ds with | some e2 => .ok .nx e2 | none => .bad)
    | _ => .bad
  | .par i j a b, env => (evX C a env).bind fun x e1 => (evX C b e1).bind fun y e2 => if pr.contains i || pr.contains j || i == j then .bad else
      .ok .nx (put (put e2 i (some (.p x.toD))) j (some (.p y.toD)))
  | .emp3 i j l, env => if pr.contains i || pr.contains j || pr.contains l || i == j || i == l || j == l then .bad else
      .ok .nx (put (put (put env i (some (.ol []))) j (some (.ol []))) l (some (.ol [])))
  | .emp2 i j, env => if pr.contains i || pr.contains j || i == j then .bad else .ok .nx (put (put env i (some (.ol []))) j (some (.ol [])))
  | .par3 i j l a b c, env => (evX C a env).bind fun x e1 => (evX C b e1).bind fun y e2 => (evX C c e2).bind fun z e3 => if pr.contains i || pr.contains j || pr.contains l || i == j || i == l || j == l then .bad else
      .ok .nx (put (put (put e3 i (some (.p x.toD))) j (some (.p y.toD))) l (some (.p z.toD)))
  | .ext i e, env => match look env i with
    | some (.ol _) => (evX C e env).bind fun m e1 => (match m, look e1 i with
      | .ol zs, some (.ol xs) => @ite _ (xs.length + zs.length ≤ sizeLine) (Classical.propDecidable _) (.ok .nx (put e1 i (some (.ol (xs ++ zs))))) .bad
      | _, _ => .bad)
    | _ => .bad
  | .app i e, env => match look env i with
    | some (.ol _) => (evX C e env).bind fun m e1 => (match look e1 i with
      | some (.ol xs) => @ite _ (xs.length < sizeLine) (Classical.propDecidable _) (.ok .nx (put e1 i (some (.ol (xs ++ [m.toD]))))) .bad
      | _ => .bad)
    | _ => .bad
  | .setix i a e, env => (evX C e env).bind fun m e1 => match look e1 i with
    | some (.ol _) => (evX C a e1).bind fun j e2 => (ofO (setO (look e2 i) j.toD m.toD) e2).bind fun r e3 => .ok .nx (put e3 i (some r))
    | _ => .bad
  | .swp i as es, env => (evOs C es env).bind fun os e1 => (ofO ((vals os).bind fun ds => @ite _ (ds.length ≤ sizeLine ∧ ds.length = exsLen as) (Classical.propDecidable _) (some ds) none) e1).bind fun ds e2 => swpL (evX C) i as ds e2
  | .dput i k e, env => (evX C e env).bind fun m e1 => match look e1 i with
    | some (.od _ _) => (evX C k e1).bind fun j e2 => (ofO (dputO (look e2 i) j.toD m.toD) e2).bind fun r e3 => .ok .nx (put e3 i (some r))
    | _ => .bad
  | .expr e, env => (evX C e env).bind fun _ e1 => .ok .nx e1
  | .ret own e, env => (evX C e env).bind fun m e1 => .ok (.rt (retM own m)) e1
  | .retN, env => .ok (.rt (.p .none)) env
  | .ite t a b, env => (evT C t env).bind fun c e1 => if c then evSs C pr a e1 else evSs C pr b e1
  | .loop g it body, env => (evI C it env).bind fun xs e1 => forL (loopT pr g (evSs C pr body)) xs e1
  | .loopv n g i body, env => if pr.contains i then .bad else forV (loopT (i :: pr) g (evSs C (i :: pr) body)) i n 0 env
  | .whil n t body, env => whileL (evT C t) (evSs C pr body) n env
  | .raise k, env => .exc k env
  | .tryx body k h, env => match evSs C pr body env with
    | .exc c e => (match C.sub c k with
      | some true => noExc (evSs C pr h e)
      | some false => .exc c e
      | none => .bad)
    | r => r
  | .tryy body k h k2 h2, env => match evSs C pr body env with
    | .exc c e => (match C.sub c k with
      | some true => noExc (evSs C pr h e)
      | some false => (match C.sub c k2 with
        | some true => noExc (evSs C pr h2 e)
        | some false => .exc c e
        | none => .bad)
      | none => .bad)
    | r => r
  | .brk, env => .ok .bk env
  | .cnt, env => .ok .ct env
  | .pass, env => .ok .nx env
def evSs (C : PC) (pr : List Nat) : Sms → En → Res Fl
  | .nil, env => .ok .nx env
  | .cons s r, env => match evS C pr s env with
    | .ok .nx e => evSs C pr r e
    | q => q
  | .kill is r, env => if is.any pr.contains then .bad else evSs C pr r (kills env is)
end

/-! ### the program -/
structure FD where
  slots : Nat
  pars : Nat
  body : Sms
abbrev Pg := Nat → Option FD
/-- which parameters come by their names (own lists) -/
def byRef : Nat → List M → List Nat
  | _, [] => []
  | k, m :: ms => if m.isOwn then k :: byRef (k + 1) ms else byRef (k + 1) ms
def run (P : Pg) (sub : Nat → Nat → Option Bool) : Nat → Nat → List M → Res M
  | 0, _, _ => .bad
  | k + 1, f, as => match P f with
    | none => .bad
    | some d => if as.length = d.pars then
        match evSs ⟨run P sub k, sub⟩ (byRef 0 as) d.body (as.map some ++ List.replicate (d.slots - d.pars) none) with
        | .ok (.rt m) e => .ok m (e.take d.pars)
        | .ok .nx e => .ok (.p .none) (e.take d.pars)
        | .exc c e => .exc c (e.take d.pars)
        | _ => .bad
      else .bad
end
end Q1

/-! Q3: how data lies in the heap. -/
namespace Q1
open PySem PySem.Spec PyProof.Rows L2

abbrev St := L2.St
def keyD : Key → D
  | .inl i => .int i
  | .inr x => .str x
section
variable (K : PySem.W.Frag)
mutual
def Rep (F : Hp) : D → V → Prop
  | .none, v => v = .non
  | .bool b, v => v = .bl b
  | .int i, v => v = .int i
  | .str x, v => v = .str x
  | .list ds, v => ∃ a vs, v = .ref a ∧ SqL K F a vs ∧ Reps F ds vs
  | .tuple ds, v => ∃ a vs, v = .ref a ∧ F a = some (.tup vs) ∧ Reps F ds vs
  | .dict kvs, v => ∃ a, v = .ref a ∧ ((∃ ks, F a = some (.dK ks) ∧ RepKv F kvs ks) ∨ ∃ ks, F a = some (.dT ks) ∧ RepTv F kvs ks)
def Reps (F : Hp) : List D → List V → Prop
  | [], vs => vs = []
  | d :: ds, vs => ∃ v r, vs = v :: r ∧ Rep F d v ∧ Reps F ds r
def RepKv (F : Hp) : List (D × D) → List (Key × V) → Prop
  | [], ks => ks = []
  | (k, d) :: r, ks => ∃ key v r', ks = (key, v) :: r' ∧ k = keyD key ∧ Rep F d v ∧ RepKv F r r'
def RepTv (F : Hp) : List (D × D) → List (List Key × V) → Prop
  | [], ks => ks = []
  | (k, d) :: r, ks => ∃ key v r', ks = (key, v) :: r' ∧ k = .tuple (key.map keyD) ∧ Rep F d v ∧ RepTv F r r'
end
end

/-- one abstract heap within another -/
def Ext (F H : Hp) : Prop := ∀ a o, F a = some o → H a = some o
theorem Ext.refl {F : Hp} : Ext F F := fun _ _ e => e
theorem Ext.trans {F G H : Hp} (a : Ext F G) (b : Ext G H) : Ext F H := fun x o e => b x o (a x o e)
theorem Ext.upd {H : Hp} {p : Addr} {o : HO} (h : H p = none) : Ext H (upd H p o) := fun a x e => by
  rw [upd_ne (ne_of_none e h)]; exact e
theorem Ext.upd2 {F H : Hp} {p : Addr} {o : HO} (x : Ext F H) : Ext (L2.upd F p o) (L2.upd H p o) := fun a y e => by
  by_cases h : a = p
  · subst h; rw [upd_same] at e ⊢; exact e
  · rw [upd_ne h] at e ⊢; exact x a y e
theorem Ext.no {F H : Hp} (x : Ext F H) {p : Addr} (h : H p = none) : F p = none := by
  cases e : F p with
  | none => rfl
  | some o => rw [x p o e] at h; cases h
section
variable {K : PySem.W.Frag} {F F' H : Hp} {a : Addr} {u : HO}
theorem Rd.ext (x : Ext F F') (r : Rd F a u) : Rd F' a u := by
  rcases r with r | ⟨o, r⟩
  · exact .inl (x _ _ r)
  · exact .inr ⟨o, x _ _ r⟩
theorem SqL.ext {xs : List V} (x : Ext F F') (r : SqL K F a xs) : SqL K F' a xs := by
  rcases r with r | r
  · exact .inl (Rd.ext x r)
  · exact .inr r
theorem SqT.ext {xs : List V} (x : Ext F F') (r : SqT K F a xs) : SqT K F' a xs := by
  rcases r with r | r
  · exact .inl (Rd.ext x r)
  · exact .inr r
mutual
theorem Rep.ext (x : Ext F F') : ∀ {d : D} {v : V}, Rep K F d v → Rep K F' d v
  | .none, _, h => h
  | .bool _, _, h => h
  | .int _, _, h => h
  | .str _, _, h => h
  | .list _, _, ⟨a, vs, e, s, r⟩ => ⟨a, vs, e, SqL.ext x s, Reps.ext x r⟩
  | .tuple _, _, ⟨a, vs, e, s, r⟩ => ⟨a, vs, e, x _ _ s, Reps.ext x r⟩
  | .dict _, _, ⟨a, e, .inl ⟨ks, s, r⟩⟩ => ⟨a, e, .inl ⟨ks, x _ _ s, RepKv.ext x r⟩⟩
  | .dict _, _, ⟨a, e, .inr ⟨ks, s, r⟩⟩ => ⟨a, e, .inr ⟨ks, x _ _ s, RepTv.ext x r⟩⟩
theorem Reps.ext (x : Ext F F') : ∀ {ds : List D} {vs : List V}, Reps K F ds vs → Reps K F' ds vs
  | [], _, h => h
  | _ :: _, _, ⟨v, r, e, h, t⟩ => ⟨v, r, e, Rep.ext x h, Reps.ext x t⟩
theorem RepKv.ext (x : Ext F F') : ∀ {kvs : List (D × D)} {ks : List (Key × V)}, RepKv K F kvs ks → RepKv K F' kvs ks
  | [], _, h => h
  | (_, _) :: _, _, ⟨k, v, r, e, ek, h, t⟩ => ⟨k, v, r, e, ek, Rep.ext x h, RepKv.ext x t⟩
theorem RepTv.ext (x : Ext F F') : ∀ {kvs : List (D × D)} {ks : List (List Key × V)}, RepTv K F kvs ks → RepTv K F' kvs ks
  | [], _, h => h
  | (_, _) :: _, _, ⟨k, v, r, e, ek, h, t⟩ => ⟨k, v, r, e, ek, Rep.ext x h, RepTv.ext x t⟩
end
/-! lists of data -/
theorem Reps.nil : Reps K F [] [] := rfl
theorem Reps.cons {d : D} {v : V} {ds : List D} {vs : List V} (h : Rep K F d v) (t : Reps K F ds vs) : Reps K F (d :: ds) (v :: vs) := ⟨v, vs, rfl, h, t⟩
theorem Reps.length : ∀ {ds : List D} {vs : List V}, Reps K F ds vs → ds.length = vs.length
  | [], _, h => by have e := h; subst e; rfl
  | _ :: _, _, ⟨_, _, e, _, t⟩ => by rw [e]; exact congrArg (· + 1) (Reps.length t)
theorem Reps.get : ∀ {ds : List D} {vs : List V} {i : Nat} {d : D}, Reps K F ds vs → ds[i]? = some d → ∃ v, vs[i]? = some v ∧ Rep K F d v
  | [], _, _, _, _, e => by simp at e
  | _ :: _, _, 0, _, ⟨v, r, e, h, _⟩, q => by
    simp at q; subst q; subst e; exact ⟨v, rfl, h⟩
  | _ :: ds, _, i + 1, d, ⟨v, r, e, _, t⟩, q => by
    subst e
    obtain ⟨w, h1, h2⟩ := Reps.get (i := i) t (by simpa using q)
    exact ⟨w, by simpa using h1, h2⟩
theorem Reps.getV : ∀ {ds : List D} {vs : List V} {i : Nat} {v : V}, Reps K F ds vs → vs[i]? = some v → ∃ d, ds[i]? = some d ∧ Rep K F d v
  | [], _, _, _, h, e => by have e' := h; subst e'; simp at e
  | _ :: _, _, 0, _, ⟨v, r, e, h, _⟩, q => by
    subst e; simp at q; subst q; exact ⟨_, rfl, h⟩
  | _ :: ds, _, i + 1, v', ⟨v, r, e, _, t⟩, q => by
    subst e
    obtain ⟨w, h1, h2⟩ := Reps.getV (i := i) t (by simpa using q)
    exact ⟨w, by simpa using h1, h2⟩
theorem Reps.append : ∀ {ds es : List D} {vs us : List V}, Reps K F ds vs → Reps K F es us → Reps K F (ds ++ es) (vs ++ us)
  | [], _, _, _, h, t => by have e := h; subst e; exact t
  | _ :: _, _, _, _, ⟨v, r, e, h, q⟩, t => by subst e; exact ⟨v, r ++ _, rfl, h, Reps.append q t⟩
theorem Reps.reverse : ∀ {ds : List D} {vs : List V}, Reps K F ds vs → Reps K F ds.reverse vs.reverse
  | [], _, h => by have e := h; subst e; exact rfl
  | _ :: _, _, ⟨v, r, e, h, q⟩ => by
    subst e
    simp only [List.reverse_cons]
    exact Reps.append (Reps.reverse q) (Reps.cons h Reps.nil)
theorem Reps.take : ∀ {ds : List D} {vs : List V} (n : Nat), Reps K F ds vs → Reps K F (ds.take n) (vs.take n)
  | _, _, 0, _ => by simp only [List.take_zero]; exact rfl
  | [], _, _ + 1, h => by have e := h; subst e; exact rfl
  | _ :: _, _, n + 1, ⟨v, r, e, h, q⟩ => by subst e; exact ⟨v, r.take n, rfl, h, Reps.take n q⟩
theorem Reps.drop : ∀ {ds : List D} {vs : List V} (n : Nat), Reps K F ds vs → Reps K F (ds.drop n) (vs.drop n)
  | _, _, 0, h => h
  | [], _, _ + 1, h => by have e := h; subst e; exact rfl
  | _ :: _, _, n + 1, ⟨v, r, e, h, q⟩ => by subst e; exact Reps.drop n q
theorem Reps.set : ∀ {ds : List D} {vs : List V} (n : Nat) {d : D} {v : V}, Reps K F ds vs → Rep K F d v → Reps K F (ds.set n d) (vs.set n v)
  | [], _, _, _, _, h, _ => by have e := h; subst e; exact rfl
  | _ :: _, _, 0, _, _, ⟨v, r, e, h, q⟩, g => by subst e; exact ⟨_, r, rfl, g, q⟩
  | _ :: _, _, n + 1, _, _, ⟨v, r, e, h, q⟩, g => by subst e; exact ⟨v, r.set n _, rfl, h, Reps.set n q g⟩
theorem Reps.flat : ∀ {n : Nat} {ds : List D} {vs : List V}, Reps K F ds vs → Reps K F (List.replicate n ds).flatten (List.replicate n vs).flatten
  | 0, _, _, _ => rfl
  | n + 1, _, _, h => by
    rw [List.replicate_succ, List.replicate_succ, List.flatten_cons, List.flatten_cons]
    exact Reps.append h (Reps.flat h)
theorem Reps.snoc {ds : List D} {vs : List V} {d : D} {v : V} (h : Reps K F ds vs) (g : Rep K F d v) : Reps K F (ds ++ [d]) (vs ++ [v]) := h.append (Reps.cons g rfl)

/-! an operand: its own object as it stands in H, what it holds frozen in F -/
variable (K F H) in
def RepO : D → V → Prop
  | .list ds, v => ∃ a vs, v = .ref a ∧ SqL K H a vs ∧ Reps K F ds vs
  | .dict kvs, v => ∃ a, v = .ref a ∧ ((∃ ks, H a = some (.dK ks) ∧ RepKv K F kvs ks) ∨ ∃ ks, H a = some (.dT ks) ∧ RepTv K F kvs ks)
  | d, v => Rep K F d v
theorem Rep.o (x : Ext F H) : ∀ {d : D} {v : V}, Rep K F d v → RepO K F H d v
  | .none, _, h => h
  | .bool _, _, h => h
  | .int _, _, h => h
  | .str _, _, h => h
  | .list _, _, ⟨a, vs, e, s, r⟩ => ⟨a, vs, e, SqL.ext x s, r⟩
  | .tuple _, _, h => h
  | .dict _, _, ⟨a, e, .inl ⟨ks, s, r⟩⟩ => ⟨a, e, .inl ⟨ks, x _ _ s, r⟩⟩
  | .dict _, _, ⟨a, e, .inr ⟨ks, s, r⟩⟩ => ⟨a, e, .inr ⟨ks, x _ _ s, r⟩⟩
theorem RepO.full (x : Ext F H) : ∀ {d : D} {v : V}, RepO K F H d v → Rep K H d v
  | .none, _, h => h
  | .bool _, _, h => h
  | .int _, _, h => h
  | .str _, _, h => h
  | .list _, _, ⟨a, vs, e, s, r⟩ => ⟨a, vs, e, s, Reps.ext x r⟩
  | .tuple _, _, h => Rep.ext x h
  | .dict _, _, ⟨a, e, .inl ⟨ks, s, r⟩⟩ => ⟨a, e, .inl ⟨ks, s, RepKv.ext x r⟩⟩
  | .dict _, _, ⟨a, e, .inr ⟨ks, s, r⟩⟩ => ⟨a, e, .inr ⟨ks, s, RepTv.ext x r⟩⟩

variable (K F H) in
def RepM : M → V → Prop
  | .p d, v => Rep K F d v
  | .ol xs, v => ∃ a vs, v = .ref a ∧ H a = some (.lst vs) ∧ Reps K F xs vs ∧ F a = none
  | .od t kvs, v => ∃ a, v = .ref a ∧ ((t = false ∧ ∃ ks, H a = some (.dK ks) ∧ RepKv K F kvs ks) ∨ (t = true ∧ ∃ ks, H a = some (.dT ks) ∧ RepTv K F kvs ks)) ∧ F a = none
theorem RepM.o (x : Ext F H) : ∀ {m : M} {v : V}, RepM K F H m v → RepO K F H m.toD v
  | .p _, _, h => Rep.o x h
  | .ol _, _, ⟨a, vs, e, s, r, _⟩ => ⟨a, vs, e, SqL.of s, r⟩
  | .od _ _, _, ⟨a, e, .inl ⟨_, ks, s, r⟩, _⟩ => ⟨a, e, .inl ⟨ks, s, r⟩⟩
  | .od _ _, _, ⟨a, e, .inr ⟨_, ks, s, r⟩, _⟩ => ⟨a, e, .inr ⟨ks, s, r⟩⟩
theorem RepM.at {m : M} {v : V} (h : RepM K F H m v) (o : m.isOwn = true) : ∃ a u, v = .ref a ∧ H a = some u ∧ F a = none ∧ Mut (some u) := by
  cases m with
  | p d => cases o
  | ol xs => obtain ⟨a, vs, e, s, _, n⟩ := h; exact ⟨a, _, e, s, n, trivial⟩
  | od t kvs =>
    obtain ⟨a, e, s | s, n⟩ := h
    · obtain ⟨_, ks, s, _⟩ := s; exact ⟨a, _, e, s, n, trivial⟩
    · obtain ⟨_, ks, s, _⟩ := s; exact ⟨a, _, e, s, n, trivial⟩
/-- frozen as it stands -/
theorem RepM.freeze {m : M} {a : Addr} {u : HO} (h : RepM K F H m (.ref a)) (o : m.isOwn = true) (hu : H a = some u) : Rep K (upd F a u) m.toD (.ref a) := by
  cases m with
  | p d => cases o
  | ol xs =>
    obtain ⟨b, vs, e, s, r, nf⟩ := h
    cases e
    rw [hu] at s; cases s
    exact ⟨a, vs, rfl, SqL.of upd_same, Reps.ext (Ext.upd nf) r⟩
  | od t kvs =>
    obtain ⟨b, e, s | s, nf⟩ := h
    · obtain ⟨_, ks, s, r⟩ := s
      cases e
      rw [hu] at s; cases s
      exact ⟨a, rfl, .inl ⟨ks, upd_same, RepKv.ext (Ext.upd nf) r⟩⟩
    · obtain ⟨_, ks, s, r⟩ := s
      cases e
      rw [hu] at s; cases s
      exact ⟨a, rfl, .inr ⟨ks, upd_same, RepTv.ext (Ext.upd nf) r⟩⟩
/-- the heap changed elsewhere, more is frozen -/
theorem RepM.move {F' H' : Hp} {m : M} {v : V} (h : RepM K F H m v) (x : Ext F F') (k : ∀ a, m.isOwn = true → v = .ref a → H' a = H a ∧ F' a = none) : RepM K F' H' m v := by
  cases m with
  | p d => exact Rep.ext x h
  | ol xs =>
    obtain ⟨a, vs, e, s, r, n⟩ := h
    obtain ⟨k1, k2⟩ := k a rfl e
    exact ⟨a, vs, e, k1.trans s, Reps.ext x r, k2⟩
  | od t kvs =>
    obtain ⟨a, e, s, n⟩ := h
    obtain ⟨k1, k2⟩ := k a rfl e
    refine ⟨a, e, ?_, k2⟩
    rcases s with ⟨et, ks, s, r⟩ | ⟨et, ks, s, r⟩
    · exact .inl ⟨et, ks, k1.trans s, RepKv.ext x r⟩
    · exact .inr ⟨et, ks, k1.trans s, RepTv.ext x r⟩
end

/-! ### slots -/
theorem look_put_same : ∀ {e : En} {i : Nat} {m : Option M}, i < e.length → look (put e i m) i = m
  | [], _, _, h => absurd h (Nat.not_lt_zero _)
  | _ :: _, 0, _, _ => rfl
  | _ :: e, i + 1, m, h => look_put_same (e := e) (i := i) (Nat.lt_of_succ_lt_succ h)
theorem look_put_ne : ∀ {e : En} {i j : Nat} {m : Option M}, j ≠ i → look (put e i m) j = look e j
  | [], _, _, _, _ => rfl
  | _ :: _, 0, 0, _, h => absurd rfl h
  | _ :: _, 0, _ + 1, _, _ => rfl
  | _ :: _, _ + 1, 0, _, _ => rfl
  | _ :: e, i + 1, j + 1, m, h => look_put_ne (e := e) (i := i) (j := j) fun q => h (congrArg (· + 1) q)
theorem put_length : ∀ {e : En} {i : Nat} {m : Option M}, (put e i m).length = e.length
  | [], _, _ => rfl
  | _ :: _, 0, _ => rfl
  | _ :: e, i + 1, m => congrArg (· + 1) (put_length (e := e) (i := i))
theorem look_lt : ∀ {e : En} {i : Nat} {m : M}, look e i = some m → i < e.length
  | [], _, _, h => by cases h
  | _ :: _, 0, _, _ => Nat.succ_pos _
  | _ :: e, i + 1, m, h => Nat.succ_lt_succ (look_lt (e := e) h)
theorem look_put {e : En} {i j : Nat} {m : Option M} {x : M} (h : look (put e i m) j = some x) : (j = i ∧ m = some x ∧ i < e.length) ∨ (j ≠ i ∧ look e j = some x) := by
  by_cases q : j = i
  · subst q
    have l := look_lt h
    rw [put_length] at l
    rw [look_put_same l] at h
    exact .inl ⟨rfl, h, l⟩
  · rw [look_put_ne q] at h
    exact .inr ⟨q, h⟩
end Q1

/-! Q4: a state of the evaluator over a state of the machine. -/
namespace Q1
open PySem PySem.Spec PyProof.Rows L2

/-- the entry of a def: what was frozen, the heap, the lists that were handed over -/
structure Gh where
  F : Hp
  H : Hp
  I : Addr → Prop
structure Sim (K : PySem.W.Frag) (G : Gh) (pv : List (Nat × V)) (F : Hp) (env : En) (σ : St) (H : Hp) : Prop where
  fh : Ext F H
  f0 : Ext G.F F
  fn : ∀ a, F a ≠ none → G.F a ≠ none ∨ G.H a = none ∨ G.I a
  fr : ∀ a o, G.H a = some o → ¬ G.I a → H a = some o
  rep : ∀ i m, look env i = some m → ∃ v, σ[i]? = some (some v) ∧ RepM K F H m v
  dis : ∀ i j m m' v, i ≠ j → look env i = some m → look env j = some m' → m.isOwn = true → m'.isOwn = true → σ[i]? = some (some v) → σ[j]? = some (some v) → False
  new : ∀ i m a, look env i = some m → m.isOwn = true → σ[i]? = some (some (.ref a)) → G.I a ∨ G.H a = none
  prot : ∀ q ∈ pv, σ[q.1]? = some (some q.2)
  len : env.length = σ.length
section
variable {K : PySem.W.Frag} {G : Gh} {pv : List (Nat × V)} {F F' H H' : Hp} {env : En} {σ : St} {p : Addr} {o : HO}
theorem Sim.own (S : Sim K G pv F env σ H) {i : Nat} {m : M} (h : look env i = some m) (ow : m.isOwn = true) : ∃ a u, σ[i]? = some (some (.ref a)) ∧ H a = some u ∧ F a = none ∧ RepM K F H m (.ref a) ∧ (G.I a ∨ G.H a = none) ∧ Mut (some u) := by
  obtain ⟨v, e, r⟩ := S.rep i m h
  obtain ⟨a, u, e2, hu, hf, hm⟩ := r.at ow
  subst e2
  exact ⟨a, u, e, hu, hf, r, S.new i m a h ow e, hm⟩
theorem Sim.newH (S : Sim K G pv F env σ H) {p : Addr} (h : H p = none) : G.I p ∨ G.H p = none := by
  cases e : G.H p with
  | none => exact .inr rfl
  | some o =>
    refine .inl (Classical.byContradiction fun n => ?_)
    have := S.fr p o e n
    rw [h] at this; cases this
/-- the heap and the frozen part move where no own list stands -/
theorem Sim.move (S : Sim K G pv F env σ H) (x : Ext F F') (fh : Ext F' H') (fn : ∀ a, F' a ≠ none → F a ≠ none ∨ G.H a = none ∨ G.I a) (hh : ∀ a o, H a = some o → H' a = some o)
    (nw : ∀ i m a, look env i = some m → m.isOwn = true → σ[i]? = some (some (.ref a)) → F' a = none) : Sim K G pv F' env σ H' where
  fh := fh
  f0 := S.f0.trans x
  fn := fun a h => by
    rcases fn a h with q | q
    · exact S.fn a q
    · exact .inr q
  fr := fun a o e n => hh a o (S.fr a o e n)
  rep := fun i m h => by
    obtain ⟨v, e, r⟩ := S.rep i m h
    refine ⟨v, e, r.move x fun a ow ev => ?_⟩
    subst ev
    obtain ⟨b, u, e2, hu, _⟩ := S.own h ow
    have eb : b = a := by
      have q : some (some (V.ref b)) = some (some (V.ref a)) := e2.symm.trans e
      injection q with q; injection q with q; injection q
    subst eb
    exact ⟨by rw [hu]; exact hh _ _ hu, nw i m b h ow e⟩
  dis := S.dis
  new := S.new
  prot := S.prot
  len := S.len
/-- a new object -/
theorem Sim.laid (S : Sim K G pv F env σ H) (hp : H p = none) : Sim K G pv F env σ (upd H p o) :=
  S.move Ext.refl (S.fh.trans (Ext.upd hp)) (fun a h => .inl h) (fun a u e => Ext.upd hp a u e) fun i m a h ow e => by
    obtain ⟨b, u, e2, _, hf, _⟩ := S.own h ow
    rw [e] at e2; cases e2; exact hf
/-- .. frozen at once -/
theorem Sim.laidF (S : Sim K G pv F env σ H) (hp : H p = none) : Sim K G pv (upd F p o) env σ (upd H p o) :=
  S.move (Ext.upd (S.fh.no hp)) S.fh.upd2 (fun a h => by
    by_cases q : a = p
    · subst q
      rcases S.newH hp with z | z
      · exact .inr (.inr z)
      · exact .inr (.inl z)
    · rw [upd_ne q] at h; exact .inl h) (fun a u e => Ext.upd hp a u e) fun i m a h ow e => by
    obtain ⟨b, u, e2, hu, hf, _⟩ := S.own h ow
    rw [e] at e2; cases e2
    rw [upd_ne (ne_of_none hu hp)]; exact hf
/-- an object that no slot owns is frozen -/
theorem Sim.freezeAt {u : HO} (S : Sim K G pv F env σ H) (hu : H p = some u) (hf : F p = none) (hn : G.I p ∨ G.H p = none) (no : ∀ i m, look env i = some m → m.isOwn = true → σ[i]? = some (some (.ref p)) → False) : Sim K G pv (upd F p u) env σ H :=
  S.move (Ext.upd hf) (fun a o e => by
    by_cases q : a = p
    · subst q; rw [upd_same] at e; rw [hu]; exact e
    · rw [upd_ne q] at e; exact S.fh a o e) (fun a h => by
    by_cases q : a = p
    · subst q
      rcases hn with z | z
      · exact .inr (.inr z)
      · exact .inr (.inl z)
    · rw [upd_ne q] at h; exact .inl h) (fun a u e => e) fun i m a h ow e => by
    obtain ⟨b, w, e2, hw, hf2, _⟩ := S.own h ow
    rw [e] at e2; cases e2
    rw [upd_ne (fun q => no i m h ow (by rw [← q]; exact e))]; exact hf2
/-- a slot forgotten -/
theorem Sim.forget (S : Sim K G pv F env σ H) (i : Nat) : Sim K G pv F (put env i none) σ H where
  fh := S.fh
  f0 := S.f0
  fn := S.fn
  fr := S.fr
  rep := fun j m h => by
    rcases look_put h with ⟨_, q, _⟩ | ⟨_, q⟩
    · cases q
    · exact S.rep j m q
  dis := fun j k m m' v hjk h1 h2 o1 o2 e1 e2 => by
    rcases look_put h1 with ⟨_, q, _⟩ | ⟨_, q1⟩
    · cases q
    rcases look_put h2 with ⟨_, q, _⟩ | ⟨_, q2⟩
    · cases q
    exact S.dis j k m m' v hjk q1 q2 o1 o2 e1 e2
  new := fun j m a h ow e => by
    rcases look_put h with ⟨_, q, _⟩ | ⟨_, q⟩
    · cases q
    · exact S.new j m a q ow e
  prot := S.prot
  len := by rw [put_length]; exact S.len
theorem Sim.kills (S : Sim K G pv F env σ H) : ∀ (is : List Nat), Sim K G pv F (Q1.kills env is) σ H := fun is => by
  induction is generalizing env with
  | nil => exact S
  | cons i is ih => exact ih (S.forget i)
/-- what is fresh: no slot owns it -/
def Fresh (G : Gh) (env : En) (σ : St) (v : V) : Prop :=
  (∀ i m, look env i = some m → m.isOwn = true → σ[i]? = some (some v) → False) ∧ ∀ a, v = .ref a → G.I a ∨ G.H a = none
/-- a value stored -/
theorem Sim.store {i : Nat} {m : M} {v : V} (S : Sim K G pv F env σ H) (r : RepM K F H m v) (fr : m.isOwn = true → Fresh G env σ v) (hi : i < σ.length) (np : ∀ q ∈ pv, q.1 ≠ i) : Sim K G pv F (put env i (some m)) (σ.set i (some v)) H where
  fh := S.fh
  f0 := S.f0
  fn := S.fn
  fr := S.fr
  rep := fun j m' h => by
    rcases look_put h with ⟨rfl, q, _⟩ | ⟨n, q⟩
    · cases q
      exact ⟨v, List.getElem?_set_self hi, r⟩
    · obtain ⟨w, e, r'⟩ := S.rep j m' q
      exact ⟨w, by rw [List.getElem?_set_ne (Ne.symm n)]; exact e, r'⟩
  dis := fun j k m1 m2 w hjk h1 h2 o1 o2 e1 e2 => by
    rcases look_put h1 with ⟨rfl, q1, _⟩ | ⟨n1, q1⟩
    · cases q1
      rw [List.getElem?_set_self hi] at e1; cases e1
      rcases look_put h2 with ⟨rfl, _, _⟩ | ⟨n2, q2⟩
      · exact hjk rfl
      · rw [List.getElem?_set_ne (Ne.symm n2)] at e2
        exact (fr o1).1 k m2 q2 o2 e2
    · rw [List.getElem?_set_ne (Ne.symm n1)] at e1
      rcases look_put h2 with ⟨rfl, q2, _⟩ | ⟨n2, q2⟩
      · cases q2
        rw [List.getElem?_set_self hi] at e2; cases e2
        exact (fr o2).1 j m1 q1 o1 e1
      · rw [List.getElem?_set_ne (Ne.symm n2)] at e2
        exact S.dis j k m1 m2 w hjk q1 q2 o1 o2 e1 e2
  new := fun j m' a h ow e => by
    rcases look_put h with ⟨rfl, q, _⟩ | ⟨n, q⟩
    · cases q
      rw [List.getElem?_set_self hi] at e; cases e
      exact (fr ow).2 a rfl
    · rw [List.getElem?_set_ne (Ne.symm n)] at e
      exact S.new j m' a q ow e
  prot := fun q hq => by
    rw [List.getElem?_set_ne (Ne.symm (np q hq))]; exact S.prot q hq
  len := by rw [put_length, List.length_set]; exact S.len
/-- an own list (dict) is written -/
theorem Sim.write {i : Nat} {m m' : M} {a : Addr} {u : HO} (S : Sim K G pv F env σ H) (h : look env i = some m) (ow : m.isOwn = true) (e : σ[i]? = some (some (.ref a))) (r : RepM K F (upd H a u) m' (.ref a)) : Sim K G pv F (put env i (some m')) σ (upd H a u) where
  fh := by
    obtain ⟨b, w, e2, hw, hf, _⟩ := S.own h ow
    rw [e] at e2; cases e2
    intro c o ec
    rw [upd_ne (fun q => by rw [q, hf] at ec; cases ec)]
    exact S.fh c o ec
  f0 := S.f0
  fn := S.fn
  fr := fun c o ec n => by
    rcases S.new i m a h ow e with z | z
    · rw [upd_ne (fun q => n (by rw [q]; exact z))]; exact S.fr c o ec n
    · rw [upd_ne (ne_of_none ec z)]; exact S.fr c o ec n
  rep := fun j m2 hj => by
    rcases look_put hj with ⟨rfl, q, _⟩ | ⟨n, q⟩
    · cases q; exact ⟨_, e, r⟩
    · obtain ⟨v, ev, rv⟩ := S.rep j m2 q
      refine ⟨v, ev, rv.move Ext.refl fun b ob eb => ?_⟩
      subst eb
      have nb : b ≠ a := fun z => S.dis j i m2 m (.ref b) n q h ob ow ev (by rw [z]; exact e)
      obtain ⟨c, w, e2, _, hf, _⟩ := S.own q ob
      rw [ev] at e2; cases e2
      exact ⟨upd_ne nb, hf⟩
  dis := fun j k m1 m2 w hjk h1 h2 o1 o2 e1 e2 => by
    rcases look_put h1 with ⟨rfl, q1, _⟩ | ⟨n1, q1⟩
    · rcases look_put h2 with ⟨rfl, _, _⟩ | ⟨n2, q2⟩
      · exact hjk rfl
      · exact S.dis j k m m2 w hjk h q2 ow o2 e1 e2
    · rcases look_put h2 with ⟨rfl, q2, _⟩ | ⟨n2, q2⟩
      · exact S.dis j k m1 m w hjk q1 h o1 ow e1 e2
      · exact S.dis j k m1 m2 w hjk q1 q2 o1 o2 e1 e2
  new := fun j m2 b hj oj ej => by
    rcases look_put hj with ⟨rfl, _, _⟩ | ⟨n, q⟩
    · exact S.new j m b h ow ej
    · exact S.new j m2 b q oj ej
  prot := S.prot
  len := by rw [put_length]; exact S.len
/-- a slot's own list is frozen where it stands -/
theorem Sim.freeze {i : Nat} {m : M} {a : Addr} {u : HO} (S : Sim K G pv F env σ H) (h : look env i = some m) (ow : m.isOwn = true) (e : σ[i]? = some (some (.ref a))) (hu : H a = some u) :
    Sim K G pv (upd F a u) (put env i (some (.p m.toD))) σ H := by
  obtain ⟨b, w, e2, hw, hf, r, hn, _⟩ := S.own h ow
  rw [e] at e2; cases e2
  rw [hu] at hw; cases hw
  have S1 := (S.forget i).freezeAt (p := a) hu hf hn fun j m2 hj oj ej => by
    rcases look_put hj with ⟨_, q, _⟩ | ⟨n, q⟩
    · cases q
    · exact S.dis j i m2 m _ n q h oj ow ej e
  refine ⟨S1.fh, S1.f0, S1.fn, S1.fr, fun j m2 hj => ?_, fun j k m1 m2 w hjk h1 h2 o1 o2 e1 e2 => ?_, fun j m2 b hj oj ej => ?_, S1.prot, by rw [put_length]; exact S.len⟩
  · rcases look_put hj with ⟨rfl, q, _⟩ | ⟨n, q⟩
    · cases q
      exact ⟨_, e, r.freeze ow hu⟩
    · exact S1.rep j m2 (by rw [look_put_ne n]; exact q)
  · rcases look_put h1 with ⟨rfl, q1, _⟩ | ⟨n1, q1⟩
    · cases q1; cases o1
    rcases look_put h2 with ⟨rfl, q2, _⟩ | ⟨n2, q2⟩
    · cases q2; cases o2
    exact S.dis j k m1 m2 w hjk q1 q2 o1 o2 e1 e2
  · rcases look_put hj with ⟨rfl, q, _⟩ | ⟨n, q⟩
    · cases q; cases oj
    · exact S.new j m2 b q oj ej
end

/-! ### what is wanted behind an expression -/
/-- the program's text: names, what a class of errors is -/
structure Ev where
  K : PySem.W.Frag
  G : Gh
  C : PC
  cls : Nat → Value
def WK := Nat → St → Hp → Prop
section
variable (T : Ev) (pv : List (Nat × V)) (W : WX) (σ : St) (F : Hp)
/-- behind an expression that makes m -/
def PM (m : M) (env : En) (Q : VK) : Prop :=
  ∀ v F' H', Sim T.K T.G pv F' env σ H' → Ext F F' → RepM T.K F' H' m v → (m.isOwn = true → Fresh T.G env σ v) → Q v H'
def PX (c : Nat) (env : En) : Prop := ∀ F' H', Sim T.K T.G pv F' env σ H' → Ext F F' → W (T.cls c) none σ H'
/-- behind a piece of code -/
def Post {α : Type} (r : Res α) (P : α → En → Prop) : Prop :=
  match r with
  | .ok a env => P a env
  | .exc c env => PX T pv W σ F c env
  | .bad => False
/-- an operand's value -/
def RepOp (F' : Hp) (o : Opd) (v : V) : Prop := match o with | .val d => Rep T.K F' d v | .late i => σ[i]? = some (some v)
def RepOs (F' : Hp) : List Opd → List V → Prop
  | [], vs => vs = []
  | o :: os, vs => ∃ v r, vs = v :: r ∧ RepOp T σ F' o v ∧ RepOs F' os r
abbrev PostX (r : Res M) (Q : VK) : Prop := Post T pv W σ F r fun m env => PM T pv σ F m env Q
abbrev PostO (r : Res Opd) (Q : VK) : Prop := Post T pv W σ F r fun o env => ∀ v F' H', Sim T.K T.G pv F' env σ H' → Ext F F' → RepOp T σ F' o v → Q v H'
abbrev PostOs (r : Res (List Opd)) (Q : List V → Hp → Prop) : Prop := Post T pv W σ F r fun os env => ∀ vs F' H', Sim T.K T.G pv F' env σ H' → Ext F F' → RepOs T σ F' os vs → Q vs H'
/-- a plain result -/
abbrev PostT {β : Type} (r : Res β) (Q : β → Hp → Prop) : Prop := Post T pv W σ F r fun b env => ∀ F' H', Sim T.K T.G pv F' env σ H' → Ext F F' → Q b H'
end
/-- the readings -/
abbrev Ev.at (T : Ev) (G : Gh) : Ev := { T with G := G }
def tX (T : Ev) (W : WX) (f : En → Res M) : TE := fun σ H Q => ∃ G pv F env, Sim T.K G pv F env σ H ∧ PostX (T.at G) pv W σ F (f env) Q
def tO (T : Ev) (W : WX) (f : En → Res Opd) : TE := fun σ H Q => ∃ G pv F env, Sim T.K G pv F env σ H ∧ PostO (T.at G) pv W σ F (f env) Q
def tOs (T : Ev) (W : WX) (f : En → Res (List Opd)) : TA := fun σ H Q => ∃ G pv F env, Sim T.K G pv F env σ H ∧ PostOs (T.at G) pv W σ F (f env) Q
def tT (T : Ev) (W : WX) {β : Type} (f : En → Res β) : St → Hp → (β → Hp → Prop) → Prop := fun σ H Q => ∃ G pv F env, Sim T.K G pv F env σ H ∧ PostT (T.at G) pv W σ F (f env) Q
theorem PE.imp {X : Cx} {e : Expr} {t t' : TE} (h : PE X e t) (i : ∀ σ H Q, t' σ H Q → t σ H Q) : PE X e t' := ⟨fun pins s σ H Q I q => h.run pins s σ H Q I (i σ H Q q)⟩
theorem PT.imp {X : Cx} {e : Expr} {t t' : TT} (h : PT X e t) (i : ∀ σ H Q, t' σ H Q → t σ H Q) : PT X e t' := ⟨fun pins s σ H Q I q => h.run pins s σ H Q I (i σ H Q q)⟩
theorem PW.imp {X : Cx} {e : Expr} {t t' : TT} (h : PW X e t) (i : ∀ σ H Q, t' σ H Q → t σ H Q) : PW X e t' := ⟨fun wh pins s σ H Q I q => h.run wh pins s σ H Q I (i σ H Q q)⟩
theorem PA.imp {X : Cx} {es : List Expr} {t t' : TA} (h : PA X es t) (i : ∀ σ H Q, t' σ H Q → t σ H Q) : PA X es t' := ⟨fun pos pins s σ H Q I q => h.run pos pins s σ H Q I (i σ H Q q)⟩
theorem PS.imp {X : Cx} {e : Stmt} {t t' : TS} (h : PS X e t) (i : ∀ D σ H, t' D σ H → t D σ H) : PS X e t' := ⟨fun pins s σ H D I q => h.run pins s σ H D I (i D σ H q)⟩
theorem PSs.imp {X : Cx} {e : List Stmt} {t t' : TS} (h : PSs X e t) (i : ∀ D σ H, t' D σ H → t D σ H) : PSs X e t' := ⟨fun pins s σ H D I q => h.run pins s σ H D I (i D σ H q)⟩
section
variable {T : Ev} {pv : List (Nat × V)} {W : WX} {σ : St} {F F1 : Hp}
theorem PX.ext {c : Nat} {env : En} (h : PX T pv W σ F c env) (x : Ext F F1) : PX T pv W σ F1 c env := fun F' H' S y => h F' H' S (x.trans y)
theorem PM.ext {m : M} {env : En} {Q : VK} (h : PM T pv σ F m env Q) (x : Ext F F1) : PM T pv σ F1 m env Q := fun v F' H' S y => h v F' H' S (x.trans y)
theorem Post.imp {α : Type} {r : Res α} {P P' : α → En → Prop} (h : Post T pv W σ F r P) (x : Ext F F1) (i : ∀ a e, P a e → P' a e) : Post T pv W σ F1 r P' := by
  cases r with
  | ok a env => exact i _ _ h
  | exc c env => exact PX.ext h x
  | bad => exact h
theorem Post.bind {α β : Type} {r : Res α} {f : α → En → Res β} {P : β → En → Prop} (h : Post T pv W σ F (r.bind f) P) : Post T pv W σ F r fun a e => Post T pv W σ F (f a e) P := by
  cases r with
  | ok a env => exact h
  | exc c env => exact h
  | bad => exact h
theorem PostX.ext {r : Res M} {Q : VK} (h : PostX T pv W σ F r Q) (x : Ext F F1) : PostX T pv W σ F1 r Q := Post.imp h x fun _ _ q => PM.ext q x
theorem PostO.ext {r : Res Opd} {Q : VK} (h : PostO T pv W σ F r Q) (x : Ext F F1) : PostO T pv W σ F1 r Q := Post.imp h x fun _ _ q v F' H' S y => q v F' H' S (x.trans y)
theorem PostOs.ext {r : Res (List Opd)} {Q : List V → Hp → Prop} (h : PostOs T pv W σ F r Q) (x : Ext F F1) : PostOs T pv W σ F1 r Q := Post.imp h x fun _ _ q v F' H' S y => q v F' H' S (x.trans y)
theorem PostT.ext {β : Type} {r : Res β} {Q : β → Hp → Prop} (h : PostT T pv W σ F r Q) (x : Ext F F1) : PostT T pv W σ F1 r Q := Post.imp h x fun _ _ q F' H' S y => q F' H' S (x.trans y)
theorem RepOp.ext {F' F1 : Hp} (x : Ext F' F1) {o : Opd} {v : V} (h : RepOp T σ F' o v) : RepOp T σ F1 o v := by
  cases o with
  | val d => exact Rep.ext x h
  | late i => exact h
theorem RepOs.ext {F' F1 : Hp} (x : Ext F' F1) : ∀ {os : List Opd} {vs : List V}, RepOs T σ F' os vs → RepOs T σ F1 os vs
  | [], _, h => h
  | _ :: _, _, ⟨v, r, e, h, t⟩ => ⟨v, r, e, RepOp.ext x h, RepOs.ext x t⟩
/-- the result frozen -/
theorem PM.frozen {m : M} {env : En} {Q : VK} (h : ∀ v F' H', Sim T.K T.G pv F' env σ H' → Ext F F' → Rep T.K F' m.toD v → Q v H') : PM T pv σ F m env Q := fun v F' H' S x r fr => by
  cases e : m.isOwn with
  | false =>
    cases m with
    | p d => exact h v F' H' S x r
    | ol xs => cases e
    | od t kvs => cases e
  | true =>
    obtain ⟨a, u, rfl, hu, hf, _⟩ := r.at e
    obtain ⟨f1, f2⟩ := fr e
    exact h _ _ _ (S.freezeAt hu hf (f2 a rfl) fun i m' h1 h2 h3 => f1 i m' h1 h2 h3) (x.trans (Ext.upd hf)) (r.freeze e hu)
/-- what stands at an operand -/
theorem fetch_rep {env : En} {H : Hp} {o : Opd} {v : V} {d : D} (S : Sim T.K T.G pv F env σ H) (r : RepOp T σ F o v) (e : fetch env o = some d) : RepO T.K F H d v := by
  cases o with
  | val d' => cases e; exact Rep.o S.fh r
  | late i =>
    obtain ⟨m, h1, rfl⟩ := Option.map_eq_some_iff.mp e
    obtain ⟨w, h2, h3⟩ := S.rep i m h1
    have q : some (some w) = some (some v) := h2.symm.trans r
    cases q
    exact h3.o S.fh
end
end Q1

/-! Q5: the operations on data are the machine's. -/
namespace PySem
open Builtin
theorem int_rmul_listW (a : Int) (t : Tok) (l : Addr) (items : Array Value) (n : Nat) (sl : Array (Option Value)) :
    Meets (Builtin.«int.__rmul__» ⟨[.int a t, .ref l], []⟩) (fun _ R s => s.heap.get? l = some { cls := .type "list", dict := none, data := .seq items n, slots := sl } ∧ R (.ok (.ret Value.notImplemented)) s) :=
  .of_wp fun prog w A R s h => by obtain ⟨hp, g, d, tk, os⟩ := s; obtain ⟨hl, h⟩ := h; wp_walk; exact ⟨_, rfl, h⟩
theorem list_mul_intW (l : Addr) (items : Array Value) (n : Nat) (sl : Array (Option Value)) (x : Int) (u : Tok) (hc0 : ¬(!Builtin.List.listFitsIndex x) = true) (hc1 : ¬items.size * x.toNat > (2 ^ 63 - 1) / 8) (hc2 : ¬Builtin.List.listTooLong (items.size * x.toNat) = true) :
    Meets (Builtin.«list.__mul__» ⟨[.ref l, .int x u], []⟩) (fun _ R s => s.heap.get? l = some { cls := .type "list", dict := none, data := .seq items n, slots := sl } ∧ R (.ok (.ret (Value.ref s.heap.objs.size))) { s with heap := s.heap.push { cls := Value.type "list", data := Data.seq (List.foldl (fun x1 x2 => x1 ++ x2) #[] (List.replicate (if items.isEmpty = true then 0 else x.toNat) items)) }, toks := s.toks }) :=
  .of_wp fun prog w A R s h => by
    obtain ⟨hp, g, d, tk, os⟩ := s; obtain ⟨hl, h⟩ := h
    have hsz := AutoListH.joined_fits hc2
    wp_walk; refine wpAny_ite_false (decide_eq_false (Nat.not_lt.mpr hsz)) ?_; wp_walk; exact ⟨_, rfl, h⟩
end PySem
namespace Q1
open PySem PySem.Spec PyProof.Rows L2 PySem.SeqAt

/-- what is wanted behind an operation that makes m -/
def PN (K : PySem.W.Frag) (F H : Hp) (m : M) (Q : VK) : Prop :=
  match m with
  | .p d => ∀ v F' H', ((F' = F ∧ H' = H) ∨ ∃ p o, H p = none ∧ F' = upd F p o ∧ H' = upd H p o) → Rep K F' d v → Q v H'
  | .ol xs => ∀ p vs, H p = none → Reps K F xs vs → Q (.ref p) (upd H p (.lst vs))
  | .od t kvs => ∀ p u, H p = none → ((t = false ∧ ∃ ks, u = HO.dK ks ∧ RepKv K F kvs ks) ∨ (t = true ∧ ∃ ks, u = HO.dT ks ∧ RepTv K F kvs ks)) → Q (.ref p) (upd H p u)
theorem PN.of {T : Ev} {pv : List (Nat × V)} {σ : St} {F F1 H : Hp} {m : M} {env : En} {Q : VK} (S : Sim T.K T.G pv F env σ H) (x : Ext F1 F) (h : PM T pv σ F1 m env Q) : PN T.K F H m Q := by
  have fr : ∀ {p : Addr} {u : HO}, H p = none → Fresh T.G env σ (.ref p) := fun {p u} hp => And.intro (fun i m' h1 h2 h3 => by
    obtain ⟨b, w, e2, hw, _⟩ := S.own h1 h2
    rw [h3] at e2; cases e2
    rw [hp] at hw; cases hw) (fun a e => by cases e; exact S.newH hp)
  cases m with
  | p d =>
    rintro v F' H' (⟨rfl, rfl⟩ | ⟨p, o, hp, rfl, rfl⟩) r
    · exact h v _ _ S x r (fun z => by cases z)
    · exact h v _ _ (S.laidF hp) (x.trans (Ext.upd (S.fh.no hp))) r (fun z => by cases z)
  | ol xs =>
    intro p vs hp r
    exact h _ _ _ (S.laid hp) x ⟨p, vs, rfl, upd_same, r, S.fh.no hp⟩ fun _ => fr (u := .lst vs) hp
  | od t kvs =>
    intro p u hp r
    refine h _ _ _ (S.laid hp) x ⟨p, rfl, ?_, S.fh.no hp⟩ fun _ => fr (u := u) hp
    rcases r with ⟨et, ks, rfl, r⟩ | ⟨et, ks, rfl, r⟩
    · exact .inl ⟨et, ks, upd_same, r⟩
    · exact .inr ⟨et, ks, upd_same, r⟩
section
variable {K : PySem.W.Frag} {F H : Hp} {Q : VK}
theorem PN.val {d : D} {v : V} (h : PN K F H (.p d) Q) (r : Rep K F d v) : Q v H := h v F H (.inl ⟨rfl, rfl⟩) r
theorem PN.tup {ds : List D} {vs : List V} {p : Addr} (h : PN K F H (.p (.tuple ds)) Q) (r : Reps K F ds vs) (hp : H p = none) (x : Ext F H) : Q (.ref p) (upd H p (.tup vs)) :=
  h _ _ _ (.inr ⟨p, _, hp, rfl, rfl⟩) ⟨p, vs, rfl, upd_same, Reps.ext (Ext.upd (x.no hp)) r⟩
end

/-! ### data read in the machine's heap -/
section
variable {X : Cx} {pins : List (Addr × Obj)} {σ : St} {H : Hp} {s : Shared}
mutual
theorem reads_of (I : Inv X pins σ H s) : ∀ {d : D} {v : V} {u : Value}, Rep X.K H d v → d.canLay0 = true → RelV v u → ∃ as, Reads s.heap u d as
  | .none, _, _, h, _, r => by cases (show _ = V.non from h); cases (show _ = Value.none from r); exact ⟨_, .none⟩
  | .bool b, _, _, h, _, r => by cases (show _ = V.bl b from h); cases (show _ = Value.bool b from r); exact ⟨_, .bool b⟩
  | .int i, _, _, h, _, r => by cases (show _ = V.int i from h); obtain ⟨t, e⟩ := (show ∃ t, _ = Value.int i t from r); cases e; exact ⟨_, .int i t⟩
  | .str x, _, _, h, _, r => by cases (show _ = V.str x from h); obtain ⟨t, e⟩ := (show ∃ t, _ = Value.str x t from r); cases e; exact ⟨_, .str x t⟩
  | .list ds, _, _, ⟨a, vs, e, sq, q⟩, hc, r => by
    subst e
    cases (show _ = Value.ref a from r)
    obtain ⟨its, rv, ⟨o, n, e1, e2, _, e3⟩, _⟩ := I.list sq
    obtain ⟨as, ra⟩ := readsAll_of I (ds := ds) q (by simpa only [PyData.canLay0] using hc) rv
    exact ⟨_, .list e1 e2 e3 ra⟩
  | .tuple ds, _, _, ⟨a, vs, e, sq, q⟩, hc, r => by
    subst e
    cases (show _ = Value.ref a from r)
    obtain ⟨its, rv, ⟨o, e1, e2, n, e3⟩, _⟩ := I.tuple (SqT.of sq)
    obtain ⟨as, ra⟩ := readsAll_of I (ds := ds) q (by simpa only [PyData.canLay0] using hc) rv
    exact ⟨_, .tuple e1 e2 e3 ra⟩
  | .dict _, _, _, _, hc, _ => by simp [PyData.canLay0] at hc
theorem readsAll_of (I : Inv X pins σ H s) : ∀ {ds : List D} {vs : List V} {us : List Value}, Reps X.K H ds vs → PyData.canLayAll0 ds = true → Vals vs us → ∃ as, ReadsAll s.heap us ds as
  | [], _, _, h, _, r => by have e := h; subst e; cases r; exact ⟨_, .nil⟩
  | d :: ds, _, _, ⟨v, vs, e, h, t⟩, hc, r => by
    subst e
    have hc' : d.canLay0 = true ∧ PyData.canLayAll0 ds = true := by simpa [PyData.canLayAll0] using hc
    cases r with
    | cons r1 r2 =>
      obtain ⟨as, ra⟩ := reads_of I h hc'.1 r1
      obtain ⟨bs, rb⟩ := readsAll_of I t hc'.2 r2
      exact ⟨_, .cons ra rb⟩
end
theorem okEq_lay {d : D} (h : okEq d = true) : d.canLay0 = true ∧ d.depth ≤ 60 := by
  unfold okEq at h
  simpa using h
end

section
variable {X : Cx}
/-- two operands, an operation -/
def rOp (K : PySem.W.Frag) (f : D → D → Option M) : R2 := fun x y H Q => ∃ F dx dy m, Ext F H ∧ RepO K F H dx x ∧ RepO K F H dy y ∧ f dx dy = some m ∧ PN K F H m Q
def rCo (K : PySem.W.Frag) (f : D → D → Option Bool) : R2 := fun x y H Q => ∃ F dx dy b, Ext F H ∧ RepO K F H dx x ∧ RepO K F H dy y ∧ f dx dy = some b ∧ Q (.bl b) H
theorem op_cat2 : OpR X (binaryOp .Add) (fun x y H Q => ∃ a b xs ys, x = .ref a ∧ y = .ref b ∧ SqL X.K H a xs ∧ SqL X.K H b ys ∧ xs.length + ys.length ≤ sizeLine ∧ ∀ p, H p = none → Q (.ref p) (upd H p (.lst (xs ++ ys)))) := by
  intro pins s σ H x y v u Q I rx ry h
  obtain ⟨l, b, xs, zs, rfl, rfl, hH, hB, hz, q⟩ := h
  cases rx
  cases ry
  obtain ⟨its, r, ⟨⟨c1, d1, t1, s1⟩, n, e, h1, h2, h3⟩, _⟩ := I.list hH
  obtain ⟨its2, r2, ⟨⟨c2, d2, t2, s2⟩, n2, e2, k1, k2, k3⟩, _⟩ := I.list hB
  simp only at h1 h2 h3 k1 k2 k3
  subst h1 h2 h3 k1 k2 k3
  have ea : its.toArray ++ its2.toArray = (its ++ its2).toArray := by simp
  refine concat_meets ⟨_, e, rfl⟩ ⟨_, e2, rfl⟩ noFill_list_add seq_list_add PySem.F.slot_list_add PySem.F.entry_list_add (PySem.F.args_list_add_2 _ _) (list_addW l b its.toArray its2.toArray n n2 none none s1 s2 (by rw [List.size_toArray, List.size_toArray, ← r.length, ← r2.length]; exact hz)) ⟨e, e2, ?_⟩
  rw [ea]
  exact ⟨.ref _, _, I.lnew (t' := s.toks) (r.append r2) (by rw [List.length_append]; exact hz), rfl, q _ I.fresh⟩
theorem op_repL : OpR X (binaryOp .Mult) (fun x y H Q => ∃ l k xs, x = .ref l ∧ y = .int k ∧ SqL X.K H l xs ∧ -(2 ^ 63) ≤ k ∧ k < 2 ^ 63 ∧ xs.length * k.toNat ≤ sizeLine ∧
  ∀ p, H p = none → Q (.ref p) (upd H p (.lst (List.replicate k.toNat xs).flatten))) := by
  intro pins s σ H x y v u Q I rx ry h
  obtain ⟨l, k, xs, rfl, rfl, hH, h1, h2, hz, q⟩ := h
  cases rx
  obtain ⟨t, rfl⟩ := ry
  obtain ⟨its, r, ⟨⟨c1, d1, t1, s1⟩, n, e, e1, e2, e3⟩, z⟩ := I.list hH
  simp only at e1 e2 e3
  subst e1 e2 e3
  have hl := r.length
  have hlen : its.toArray.size * k.toNat ≤ sizeLine := by rw [List.size_toArray, ← hl]; exact hz
  have hcap : ¬ its.toArray.size * k.toNat > (2 ^ 63 - 1) / 8 := by
    have : (sizeLine : Nat) ≤ (2 ^ 63 - 1) / 8 := by decide
    omega
  have hfit : ¬ (!Builtin.List.listFitsIndex k) = true := by
    rw [fitsIndex_both h1 h2]
    exact Bool.false_ne_true
  have hlong : ¬ Builtin.List.listTooLong (its.toArray.size * k.toNat) = true := by
    rw [notLongL hlen]
    exact Bool.false_ne_true
  have hnew : List.foldl (fun x1 x2 => x1 ++ x2) #[] (List.replicate (if its.toArray.isEmpty = true then 0 else k.toNat) its.toArray) = (List.replicate k.toNat its).flatten.toArray := by
    have f0 : ∀ m : Nat, List.foldl (fun x1 x2 => x1 ++ x2) #[] (List.replicate m its.toArray) = (List.replicate m its).flatten.toArray := fun m => by
      have := foldl_rep its m []
      rw [List.nil_append] at this
      exact this
    rw [f0]
    cases its with
    | nil => simp
    | cons a r' => rw [if_neg (by simp)]
  refine wpAny_binaryOp_repeat_ref (T := "list") (U := "int") (by decide) ⟨_, e, rfl⟩ (fun s' => typeIs_int s' k t) noFill_list_mul F.fills_int_mul F.slot_int_rmul repeat_list F.slot_int_index.lookup
    (call_meets F.slot_int_rmul (typeIs_int s k t) F.entry_int_rmul (F.args_int_rmul_2 _ _) (int_rmul_listW k t l its.toArray n s1)
      ⟨e, rfl, ⟨_, e, rfl⟩, call_meets F.slot_list_mul ⟨_, e, rfl⟩ F.entry_list_mul (F.args_list_mul_2 _ _) (list_mul_intW l its.toArray n s1 k t hfit hcap hlong) ⟨e, ?_⟩⟩)
  rw [hnew]
  exact ⟨.ref _, _, I.lnew (t' := s.toks) (r.rep k.toNat) (by rw [PyProof.Rows.lm_len_rep_flat, Nat.mul_comm]; exact hz), rfl, q _ I.fresh⟩
def opA : Bop → Operator
  | .add => .Add | .sub => .Sub | .mul => .Mult | .div => .FloorDiv | .mod => .Mod | .pow => .Pow | .band => .BitAnd | .bor => .BitOr | .shl => .LShift | .shr => .RShift
theorem op_bin (op : Bop) : OpR X (binaryOp (opA op)) (rOp X.K (binO op)) := by
  intro pins s σ H x y v u Q I rx ry h
  obtain ⟨F, dx, dy, m, fh, hx, hy, e, q⟩ := h
  unfold binO at e
  split at e <;> try (cases e; done)
  · cases e; cases (show x = _ from hx); cases (show y = _ from hy)
    exact op_add pins s σ H _ _ v u Q I rx ry ⟨_, _, rfl, rfl, q.val rfl⟩
  · split at e
    · cases e; cases (show x = _ from hx); cases (show y = _ from hy)
      exact op_add_str pins s σ H _ _ v u Q I rx ry ⟨_, _, rfl, rfl, by assumption, q.val rfl⟩
    · cases e
  · split at e
    · rename_i hz
      cases e
      obtain ⟨a, vs, rfl, sa, ra⟩ := hx
      obtain ⟨b, us, rfl, sb, rb⟩ := hy
      exact op_cat2 pins s σ H _ _ v u Q I rx ry ⟨a, b, vs, us, rfl, rfl, sa, sb, by rw [← ra.length, ← rb.length]; exact hz, fun p hp => q p _ hp (ra.append rb)⟩
    · cases e
  · split at e
    · rename_i hz
      cases e
      obtain ⟨a, vs, rfl, sa, ra⟩ := hx
      obtain ⟨b, us, rfl, sb, rb⟩ := hy
      refine op_catA pins s σ H _ _ v u Q I rx ry ⟨a, b, vs, us, rfl, rfl, SqT.of (fh _ _ sa), SqT.of (fh _ _ sb), by rw [← ra.length, ← rb.length]; exact hz, fun e => ?_, fun _ e => ?_, fun _ _ p hp => q.tup (ra.append rb) hp fh⟩
      · subst e
        exact q.val ⟨b, us, rfl, sb, ra.append rb⟩
      · subst e
        exact q.val ⟨a, vs, rfl, sa, by have := ra.append rb; rwa [List.append_nil] at this⟩
    · cases e
  · cases e; cases (show x = _ from hx); cases (show y = _ from hy)
    exact op_sub pins s σ H _ _ v u Q I rx ry ⟨_, _, rfl, rfl, q.val rfl⟩
  · split at e
    · cases e; cases (show x = _ from hx); cases (show y = _ from hy)
      exact op_mul pins s σ H _ _ v u Q I rx ry ⟨_, _, rfl, rfl, by assumption, q.val rfl⟩
    · cases e
  · split at e
    · cases e; cases (show x = _ from hx); cases (show y = _ from hy)
      exact op_fdiv pins s σ H _ _ v u Q I rx ry ⟨_, _, rfl, rfl, by assumption, q.val rfl⟩
    · cases e
  · split at e
    · cases e; cases (show x = _ from hx); cases (show y = _ from hy)
      exact op_mod pins s σ H _ _ v u Q I rx ry ⟨_, _, rfl, rfl, by assumption, q.val rfl⟩
    · cases e
  · split at e
    · cases e; cases (show x = _ from hx); cases (show y = _ from hy)
      exact op_pow pins s σ H _ _ v u Q I rx ry ⟨_, _, rfl, rfl, by assumption, q.val rfl⟩
    · cases e
  · split at e
    · rename_i hz
      cases e
      obtain ⟨a, vs, rfl, sa, ra⟩ := hx
      cases (show y = _ from hy)
      exact op_repL pins s σ H _ _ v u Q I rx ry ⟨a, _, vs, rfl, rfl, sa, hz.1.1, hz.1.2, by rw [← ra.length]; exact hz.2, fun p hp => q p _ hp (Reps.flat ra)⟩
    · cases e
end
end Q1
namespace Q1
open PySem PySem.Spec PyProof.Rows L2 PySem.SeqAt
section
variable {X : Cx}
theorem eqO_shape {a b : D} {r : Bool} (h : eqO a b = some r) : (∃ i j, a = .int i ∧ b = .int j ∧ r = decide (i = j)) ∨ (∃ i j, a = .str i ∧ b = .str j ∧ r = decide (i = j)) ∨ (∃ i j, a = .bool i ∧ b = .bool j ∧ r = decide (i = j)) ∨
    (okEq a = true ∧ okEq b = true ∧ r = PyData.eqv a b) := by
  unfold eqO at h
  split at h
  · cases h; exact .inl ⟨_, _, rfl, rfl, rfl⟩
  · cases h; exact .inr (.inl ⟨_, _, rfl, rfl, rfl⟩)
  · cases h; exact .inr (.inr (.inl ⟨_, _, rfl, rfl, rfl⟩))
  · split at h
    · rename_i q
      cases h
      rw [Bool.and_eq_true] at q
      exact .inr (.inr (.inr ⟨q.1, q.2, rfl⟩))
    · cases h
theorem cmp_eq (hu : X.A.units + 65 < cLine) : OpR X (compareOp .Eq) (rCo X.K eqO) := by
  intro pins s σ H x y v u Q I rx ry h
  obtain ⟨F, dx, dy, r, fh, hx, hy, e, q⟩ := h
  rcases eqO_shape e with ⟨i, j, rfl, rfl, rfl⟩ | ⟨i, j, rfl, rfl, rfl⟩ | ⟨i, j, rfl, rfl, rfl⟩ | ⟨h1, h2, rfl⟩
  · cases (show x = _ from hx); cases (show y = _ from hy)
    exact op_eq pins s σ H _ _ v u Q I rx ry ⟨rfl, by simpa using q⟩
  · cases (show x = _ from hx); cases (show y = _ from hy)
    exact op_eq pins s σ H _ _ v u Q I rx ry ⟨rfl, by simpa using q⟩
  · cases (show x = _ from hx); cases (show y = _ from hy)
    exact op_eq pins s σ H _ _ v u Q I rx ry ⟨rfl, by simpa using q⟩
  · obtain ⟨c1, p1⟩ := okEq_lay h1
    obtain ⟨c2, p2⟩ := okEq_lay h2
    obtain ⟨as, ra⟩ := reads_of I (hx.full fh) c1 rx
    obtain ⟨bs, rb⟩ := reads_of I (hy.full fh) c2 ry
    exact compareEq_reads ra rb c1 c2 (by omega) ⟨.bl _, H, I, rfl, q⟩
theorem cmp_ne (hu : X.A.units + 65 < cLine) : OpR X (compareOp .NotEq) (rCo X.K fun a b => (eqO a b).map not) := by
  intro pins s σ H x y v u Q I rx ry h
  obtain ⟨F, dx, dy, r, fh, hx, hy, e, q⟩ := h
  obtain ⟨r', e0, rfl⟩ := Option.map_eq_some_iff.mp e
  rcases eqO_shape e0 with ⟨i, j, rfl, rfl, rfl⟩ | ⟨i, j, rfl, rfl, rfl⟩ | ⟨i, j, rfl, rfl, rfl⟩ | ⟨h1, h2, rfl⟩
  · cases (show x = _ from hx); cases (show y = _ from hy)
    exact op_ne pins s σ H _ _ v u Q I rx ry ⟨rfl, by simpa using q⟩
  · cases (show x = _ from hx); cases (show y = _ from hy)
    exact op_ne pins s σ H _ _ v u Q I rx ry ⟨rfl, by simpa using q⟩
  · cases (show x = _ from hx); cases (show y = _ from hy)
    exact op_ne pins s σ H _ _ v u Q I rx ry ⟨rfl, by simpa using q⟩
  · obtain ⟨c1, p1⟩ := okEq_lay h1
    obtain ⟨c2, p2⟩ := okEq_lay h2
    obtain ⟨as, ra⟩ := reads_of I (hx.full fh) c1 rx
    obtain ⟨bs, rb⟩ := reads_of I (hy.full fh) c2 ry
    exact compareNe_reads ra rb c1 c2 (by omega) ⟨.bl _, H, I, rfl, q⟩
theorem inO_shape {d b : D} {r : Bool} (h : inO d b = some r) : ∃ xs, (b = .list xs ∨ b = .tuple xs) ∧ okEq b = true ∧ okEq d = true ∧ r = xs.any fun y => PyData.eqv y d := by
  unfold inO at h
  split at h
  · split at h
    · rename_i q
      cases h
      rw [Bool.and_eq_true] at q
      exact ⟨_, .inl rfl, q.1, q.2, rfl⟩
    · cases h
  · split at h
    · rename_i q
      cases h
      rw [Bool.and_eq_true] at q
      exact ⟨_, .inr rfl, q.1, q.2, rfl⟩
    · cases h
  · cases h
theorem depthAll_list {xs : List D} (h : (PyData.list xs).depth ≤ 60) : PyData.depthAll xs ≤ 60 := by
  simp only [PyData.depth] at h; omega
theorem depthAll_tuple {xs : List D} (h : (PyData.tuple xs).depth ≤ 60) : PyData.depthAll xs ≤ 60 := by
  simp only [PyData.depth] at h; omega
theorem cmp_in (hu : X.A.units + 65 < cLine) : OpR X (compareOp .In) (rCo X.K inO) := by
  intro pins s σ H x y v u Q I rx ry h
  obtain ⟨F, dx, dy, r, fh, hx, hy, e, q⟩ := h
  obtain ⟨xs, hb, h1, h2, rfl⟩ := inO_shape e
  obtain ⟨c1, p1⟩ := okEq_lay h1
  obtain ⟨c2, p2⟩ := okEq_lay h2
  obtain ⟨as, ra⟩ := reads_of I (hx.full fh) c2 rx
  obtain ⟨bs, rb⟩ := reads_of I (hy.full fh) c1 ry
  rcases hb with rfl | rfl
  · have p3 := depthAll_list p1
    exact in_list_reads rb ra (by simpa only [PyData.canLay0] using c1) c2 (by omega) ⟨.bl _, H, I, rfl, q⟩
  · have p3 := depthAll_tuple p1
    exact in_tuple_reads rb ra (by simpa only [PyData.canLay0] using c1) c2 (by omega) ⟨.bl _, H, I, rfl, q⟩
theorem cmp_notin (hu : X.A.units + 65 < cLine) : OpR X (compareOp .NotIn) (rCo X.K fun a b => (inO a b).map not) := by
  intro pins s σ H x y v u Q I rx ry h
  obtain ⟨F, dx, dy, r, fh, hx, hy, e, q⟩ := h
  obtain ⟨r', e0, rfl⟩ := Option.map_eq_some_iff.mp e
  obtain ⟨xs, hb, h1, h2, rfl⟩ := inO_shape e0
  obtain ⟨c1, p1⟩ := okEq_lay h1
  obtain ⟨c2, p2⟩ := okEq_lay h2
  obtain ⟨as, ra⟩ := reads_of I (hx.full fh) c2 rx
  obtain ⟨bs, rb⟩ := reads_of I (hy.full fh) c1 ry
  rcases hb with rfl | rfl
  · have p3 := depthAll_list p1
    exact notIn_list_reads rb ra (by simpa only [PyData.canLay0] using c1) c2 (by omega) ⟨.bl _, H, I, rfl, q⟩
  · have p3 := depthAll_tuple p1
    exact notIn_tuple_reads rb ra (by simpa only [PyData.canLay0] using c1) c2 (by omega) ⟨.bl _, H, I, rfl, q⟩
def opC : Cop → CmpOp
  | .eq => .Eq | .ne => .NotEq | .lt => .Lt | .le => .LtE | .gt => .Gt | .ge => .GtE | .is => .Is | .isn => .IsNot | .inn => .In | .notin => .NotIn
theorem RepO.non_iff {K : PySem.W.Frag} {F H : Hp} {d : D} {v : V} (h : RepO K F H d v) : decide (v = .non) = isNon d := by
  cases d with
  | none => cases (show v = _ from h); rfl
  | bool b => cases (show v = _ from h); rfl
  | int b => cases (show v = _ from h); rfl
  | str b => cases (show v = _ from h); rfl
  | list b => obtain ⟨_, _, rfl, _⟩ := h; rfl
  | tuple b => obtain ⟨_, _, rfl, _⟩ := h; rfl
  | dict b => obtain ⟨_, rfl, _⟩ := h; rfl
theorem ordO_is {a b : D} {r m : Bool} (e : ordO a b r = some m) : PySem.W.alike a b = true ∧ a ≠ .none ∧ (okEq a = true ∧ okEq b = true) ∧ m = r := by
  unfold ordO at e
  split at e
  · rename_i h
    cases e
    exact ⟨h.1, (fun z => by rw [z] at h; cases h.2.1), h.2.2, rfl⟩
  · cases e
theorem cmp_ord (hu : X.A.units + 65 < cLine) (op : Cop) (hop : op = .lt ∨ op = .le ∨ op = .gt ∨ op = .ge) {pins : List (Addr × Obj)} {σ : St} {H : Hp} {s : Shared} {x y : V} {v u : Value} {Q : VK} (I : Inv X pins σ H s) (rx : RelV x v) (ry : RelV y u) {F : Hp} {dx dy : D} {m r : Bool} (fh : Ext F H) (hx : RepO X.K F H dx x) (hy : RepO X.K F H dy y) (e : ordO dx dy r = some m) (q : Q (.bl m) H)
    (hr : r = match op with | .lt => PySem.W.dataLt dx dy | .gt => PySem.W.dataLt dy dx | .le => !PySem.W.dataLt dy dx | _ => !PySem.W.dataLt dx dy) :
    wpAny (model X.prog X.w) X.A (compareOp (opC op) v u) (fun v s' => ∃ z H', Inv X pins σ H' s' ∧ RelV z v ∧ Q z H') X.xe s := by
  obtain ⟨h1, h2, ⟨h3, h4⟩, rfl⟩ := ordO_is e
  obtain ⟨c1, p1⟩ := okEq_lay h3
  obtain ⟨c2, p2⟩ := okEq_lay h4
  obtain ⟨as, ra⟩ := reads_of I (hx.full fh) c1 rx
  obtain ⟨bs, rb⟩ := reads_of I (hy.full fh) c2 ry
  have hd : X.A.units + min dx.depth dy.depth < cLine := by omega
  rcases hop with rfl | rfl | rfl | rfl
  · exact PySem.W.lt_data ra rb h1 h2 hd ⟨.bl _, H, I, rfl, by have z : m = (PySem.W.dataLt dx dy) := hr; rw [← z]; exact q⟩
  · exact PySem.W.le_data ra rb h1 h2 hd ⟨.bl _, H, I, rfl, by have z : m = (!PySem.W.dataLt dy dx) := hr; rw [← z]; exact q⟩
  · exact PySem.W.gt_data ra rb h1 h2 hd ⟨.bl _, H, I, rfl, by have z : m = (PySem.W.dataLt dy dx) := hr; rw [← z]; exact q⟩
  · exact PySem.W.ge_data ra rb h1 h2 hd ⟨.bl _, H, I, rfl, by have z : m = (!PySem.W.dataLt dx dy) := hr; rw [← z]; exact q⟩
theorem op_cmp (hu : X.A.units + 65 < cLine) (op : Cop) : OpR X (compareOp (opC op)) (rCo X.K (cmpO op)) := by
  cases op with
  | eq => exact cmp_eq hu
  | ne => exact cmp_ne hu
  | inn => exact cmp_in hu
  | notin => exact cmp_notin hu
  | lt =>
    intro pins s σ H x y v u Q I rx ry h
    obtain ⟨F, dx, dy, m, fh, hx, hy, e, q⟩ := h
    unfold cmpO at e
    split at e <;> try (cases e; done)
    all_goals (try (rename_i z _ _; cases z; done))
    all_goals first
      | (cases e; cases (show x = _ from hx); cases (show y = _ from hy); exact op_lt pins s σ H _ _ v u Q I rx ry ⟨_, _, rfl, rfl, q⟩)
      | exact cmp_ord hu .lt (by simp) I rx ry fh hx hy e q rfl
      | contradiction
  | le =>
    intro pins s σ H x y v u Q I rx ry h
    obtain ⟨F, dx, dy, m, fh, hx, hy, e, q⟩ := h
    unfold cmpO at e
    split at e <;> try (cases e; done)
    all_goals first
      | (cases e; cases (show x = _ from hx); cases (show y = _ from hy); exact op_le pins s σ H _ _ v u Q I rx ry ⟨_, _, rfl, rfl, q⟩)
      | exact cmp_ord hu .le (by simp) I rx ry fh hx hy e q rfl
      | contradiction
  | gt =>
    intro pins s σ H x y v u Q I rx ry h
    obtain ⟨F, dx, dy, m, fh, hx, hy, e, q⟩ := h
    unfold cmpO at e
    split at e <;> try (cases e; done)
    all_goals first
      | (cases e; cases (show x = _ from hx); cases (show y = _ from hy); exact op_gt pins s σ H _ _ v u Q I rx ry ⟨_, _, rfl, rfl, q⟩)
      | exact cmp_ord hu .gt (by simp) I rx ry fh hx hy e q rfl
      | contradiction
  | ge =>
    intro pins s σ H x y v u Q I rx ry h
    obtain ⟨F, dx, dy, m, fh, hx, hy, e, q⟩ := h
    unfold cmpO at e
    split at e <;> try (cases e; done)
    all_goals first
      | (cases e; cases (show x = _ from hx); cases (show y = _ from hy); exact op_ge pins s σ H _ _ v u Q I rx ry ⟨_, _, rfl, rfl, q⟩)
      | exact cmp_ord hu .ge (by simp) I rx ry fh hx hy e q rfl
      | contradiction
  | is =>
    intro pins s σ H x y v u Q I rx ry h
    obtain ⟨F, dx, dy, m, fh, hx, hy, e, q⟩ := h
    unfold cmpO at e
    split at e <;> try (cases e; done)
    all_goals first
      | (have hm := hx.non_iff; cases e; cases (show y = _ from hy); exact op_isN pins s σ H _ _ v u Q I rx ry ⟨rfl, by rw [hm]; exact q⟩)
      | contradiction
  | isn =>
    intro pins s σ H x y v u Q I rx ry h
    obtain ⟨F, dx, dy, m, fh, hx, hy, e, q⟩ := h
    unfold cmpO at e
    split at e <;> try (cases e; done)
    all_goals first
      | (have hm := hx.non_iff; cases e; cases (show y = _ from hy); exact op_notN pins s σ H _ _ v u Q I rx ry ⟨rfl, by rw [hm]; exact q⟩)
      | contradiction
end
end Q1

/-! Q6: built-ins, subscripts, slices, truth. -/
namespace Q1
open PySem PySem.Spec PyProof.Rows L2 PySem.SeqAt
variable {X : Cx}
theorem truV_of {F H : Hp} {d : D} {b : Bool} {x : V} (fh : Ext F H) (hd : RepO X.K F H d x) (e : truO d = some b) : TruV X.K x H b := by
  cases d with
  | none => cases (show x = _ from hd); cases e; rfl
  | bool y => cases (show x = _ from hd); cases e; rfl
  | int y => cases (show x = _ from hd); cases e; show decide (y ≠ 0) = (y != 0); simp [bne, Bool.beq_eq_decide_eq]
  | str y =>
    cases (show x = _ from hd)
    unfold truO at e
    dsimp only at e
    split at e
    · cases e
      refine ⟨by assumption, ?_⟩
      rw [bne, Bool.beq_eq_decide_eq]
      simp
    · cases e
  | list ds =>
    obtain ⟨a, vs, rfl, sq, r⟩ := hd
    cases e
    refine .inl ⟨vs, sq, ?_⟩
    rw [r.length]
    cases vs <;> simp
  | tuple ds =>
    obtain ⟨a, vs, rfl, sq, r⟩ := hd
    cases e
    refine .inr (.inl ⟨vs, SqT.of (fh _ _ sq), ?_⟩)
    rw [r.length]
    cases vs <;> simp
  | dict ds => cases e
theorem tru_o : TruR X (fun x H Q => ∃ F d b, Ext F H ∧ RepO X.K F H d x ∧ truO d = some b ∧ Q b H) := by
  intro pins s σ H x v Q I rx h
  obtain ⟨F, d, b, fh, hd, e, q⟩ := h
  exact tru_ok pins s σ H x v Q I rx ⟨b, truV_of fh hd e, q⟩
theorem atI_rep {K : PySem.W.Frag} {F : Hp} {ds : List D} {vs : List V} {i : Int} {d : D} (r : Reps K F ds vs) (h : atI ds i = some d) : ∃ v, atI vs i = some v ∧ Rep K F d v := by
  unfold atI at h ⊢
  rw [← r.length]
  obtain ⟨j, h1, h2⟩ := Option.bind_eq_some_iff.mp h
  obtain ⟨v, h3, h4⟩ := r.get h2
  exact ⟨v, by rw [h1]; exact h3, h4⟩
theorem ix_o : IxR X (fun x y H Q => ∃ F dx dy d, Ext F H ∧ RepO X.K F H dx x ∧ RepO X.K F H dy y ∧ ixO dx dy = some d ∧ ∀ v, Rep X.K F d v → Q v H) := by
  intro val slc pins s σ H x y v u Q I rx ry h hs
  obtain ⟨F, dx, dy, d, fh, hx, hy, e, q⟩ := h
  unfold ixO at e
  split at e
  · obtain ⟨a, vs, rfl, sq, r⟩ := hx
    cases (show y = _ from hy)
    obtain ⟨z, h1, h2⟩ := atI_rep r e
    exact ix_list val slc pins s σ H _ _ v u Q I rx ry ⟨a, vs, _, z, rfl, rfl, sq, h1, q z h2⟩ hs
  · obtain ⟨a, vs, rfl, sq, r⟩ := hx
    cases (show y = _ from hy)
    obtain ⟨z, h1, h2⟩ := atI_rep r e
    exact ix_tup val slc pins s σ H _ _ v u Q I rx ry ⟨a, vs, _, z, rfl, rfl, SqT.of (fh _ _ sq), h1, q z h2⟩ hs
  · split at e
    · obtain ⟨c, h1, rfl⟩ := Option.map_eq_some_iff.mp e
      cases (show x = _ from hx)
      cases (show y = _ from hy)
      exact ix_str val slc pins s σ H _ _ v u Q I rx ry ⟨_, _, c, rfl, rfl, by assumption, h1, q _ rfl⟩ hs
    · cases e
  · cases e
theorem cut_rep {K : PySem.W.Frag} {F : Hp} {ds : List D} {vs : List V} {lo hi : Option Int} (r : Reps K F ds vs) : Reps K F (cutD ds lo hi) (cutV vs lo hi) := by
  unfold cutD cutV
  rw [r.length]
  exact (r.drop _).take _
theorem sl_o : SlR X (fun x lo hi H Q => ∃ F dx m, Ext F H ∧ RepO X.K F H dx x ∧ slO dx lo hi = some m ∧ PN X.K F H m Q) := by
  intro pins s σ H x v vl vu lo hi sl Q I rx hs pl pu h
  obtain ⟨F, dx, m, fh, hx, e, q⟩ := h
  unfold slO at e
  split at e
  · obtain ⟨a, vs, rfl, sq, r⟩ := hx
    cases e
    exact sl_list pins s σ H _ v vl vu lo hi sl Q I rx hs pl pu ⟨a, vs, rfl, sq, fun p hp => q p _ hp (cut_rep r)⟩
  · obtain ⟨a, vs, rfl, sq, r⟩ := hx
    cases e
    refine sl_tupA pins s σ H _ v vl vu lo hi sl Q I rx hs pl pu ⟨a, vs, rfl, SqT.of (fh _ _ sq), fun ⟨h1, h2⟩ => ?_, fun _ p hp => q.tup (cut_rep r) hp fh⟩
    refine q.val ⟨a, vs, rfl, sq, ?_⟩
    have hc := cut_rep (lo := lo) (hi := hi) r
    have e2 : cutV vs lo hi = vs := by
      unfold cutV
      rw [h1, h2]
      simp
    rw [e2] at hc
    exact hc
  · split at e
    · cases e
      cases (show x = _ from hx)
      exact sl_str pins s σ H _ v vl vu lo hi sl Q I rx hs pl pu ⟨_, rfl, by assumption, q.val rfl⟩
    · cases e
  · cases e
/-- operands -/
def ROs (K : PySem.W.Frag) (F H : Hp) : List D → List V → Prop
  | [], vs => vs = []
  | d :: ds, vs => ∃ v r, vs = v :: r ∧ RepO K F H d v ∧ ROs K F H ds r
theorem ROs.one {K : PySem.W.Frag} {F H : Hp} {d : D} {vs : List V} (h : ROs K F H [d] vs) : ∃ v, vs = [v] ∧ RepO K F H d v := by
  obtain ⟨v, r, rfl, h1, h2⟩ := h
  have e := (show r = [] from h2)
  subst e
  exact ⟨v, rfl, h1⟩
theorem ROs.two {K : PySem.W.Frag} {F H : Hp} {d e : D} {vs : List V} (h : ROs K F H [d, e] vs) : ∃ v u, vs = [v, u] ∧ RepO K F H d v ∧ RepO K F H e u := by
  obtain ⟨v, r, rfl, h1, h2⟩ := h
  obtain ⟨u, rfl, h3⟩ := h2.one
  exact ⟨v, u, rfl, h1, h3⟩
def rBi (K : PySem.W.Frag) (b : Bi) : List V → Hp → VK → Prop := fun vs H Q => ∃ F ds m, Ext F H ∧ ROs K F H ds vs ∧ biO b ds = some m ∧ PN K F H m Q
theorem RepKv.len {K : PySem.W.Frag} {F : Hp} : ∀ {kvs : List (D × D)} {ks : List (Key × V)}, RepKv K F kvs ks → kvs.length = ks.length
  | [], ks, h => by rw [show ks = [] from h]; rfl
  | (_, _) :: _, _, ⟨_, _, _, e, _, _, t⟩ => by rw [e]; exact congrArg (· + 1) (RepKv.len t)
theorem RepTv.len {K : PySem.W.Frag} {F : Hp} : ∀ {kvs : List (D × D)} {ks : List (List Key × V)}, RepTv K F kvs ks → kvs.length = ks.length
  | [], ks, h => by rw [show ks = [] from h]; rfl
  | (_, _) :: _, _, ⟨_, _, _, e, _, _, t⟩ => by rw [e]; exact congrArg (· + 1) (RepTv.len t)
theorem bi_len : CallR X (.builtin "len") (rBi X.K .len) := by
  intro pins s σ H xs us Q I r h
  obtain ⟨F, ds, m, fh, hd, e, q⟩ := h
  unfold biO at e
  split at e <;> try contradiction
  · obtain ⟨v, rfl, a, vs, rfl, sq, rr⟩ := hd.one
    cases e
    exact call_len_seq pins s σ H _ us Q I r ⟨a, vs, rfl, .inl sq, by rw [← rr.length]; exact q.val rfl⟩
  · obtain ⟨v, rfl, a, vs, rfl, sq, rr⟩ := hd.one
    cases e
    exact call_len_seq pins s σ H _ us Q I r ⟨a, vs, rfl, .inr (SqT.of (fh _ _ sq)), by rw [← rr.length]; exact q.val rfl⟩
  · split at e
    · obtain ⟨v, rfl, hv⟩ := hd.one
      cases (show v = _ from hv)
      cases e
      exact call_len_str pins s σ H _ us Q I r ⟨_, rfl, by assumption, q.val rfl⟩
    · cases e
  · obtain ⟨v, rfl, a, rfl, hh⟩ := hd.one
    cases e
    rcases hh with ⟨ks, hk, rr⟩ | ⟨ks, hk, rr⟩
    · obtain ⟨u, rfl, rx⟩ := vals1 r
      obtain rfl : u = .ref a := rx
      have hq := q.val rfl
      rw [rr.len] at hq
      exact d_len I (.inl hk) fun t s' I' => ⟨.int ks.length, H, I', ⟨t, rfl⟩, hq⟩
    · exact call_len_dT pins s σ H _ us Q I r ⟨a, ks, rfl, hk, by rw [← rr.len]; exact q.val rfl⟩
theorem bi_abs : CallR X (.builtin "abs") (rBi X.K .abs) := by
  intro pins s σ H xs us Q I r h
  obtain ⟨F, ds, m, fh, hd, e, q⟩ := h
  unfold biO at e
  split at e <;> try contradiction
  obtain ⟨v, rfl, hv⟩ := hd.one
  cases (show v = _ from hv)
  cases e
  exact call_abs pins s σ H _ us Q I r ⟨_, rfl, q.val rfl⟩
theorem bi_min2 (hc : X.calm = true) : CallR X (.builtin "min") (rBi X.K .min2) := by
  intro pins s σ H xs us Q I r h
  obtain ⟨F, ds, m, fh, hd, e, q⟩ := h
  unfold biO at e
  split at e <;> try contradiction
  obtain ⟨v, u, rfl, hv, hu⟩ := hd.two
  cases (show v = _ from hv); cases (show u = _ from hu)
  cases e
  exact call_min2 hc pins s σ H _ us Q I r ⟨_, _, rfl, q.val rfl⟩
theorem bi_max2 (hc : X.calm = true) : CallR X (.builtin "max") (rBi X.K .max2) := by
  intro pins s σ H xs us Q I r h
  obtain ⟨F, ds, m, fh, hd, e, q⟩ := h
  unfold biO at e
  split at e <;> try contradiction
  obtain ⟨v, u, rfl, hv, hu⟩ := hd.two
  cases (show v = _ from hv); cases (show u = _ from hu)
  cases e
  exact call_max2 hc pins s σ H _ us Q I r ⟨_, _, rfl, q.val rfl⟩
theorem bi_list : CallR X (.type "list") (rBi X.K .list) := by
  intro pins s σ H xs us Q I r h
  obtain ⟨F, ds, m, fh, hd, e, q⟩ := h
  unfold biO at e
  split at e <;> try contradiction
  · obtain ⟨v, rfl, a, vs, rfl, sq, rr⟩ := hd.one
    cases e
    exact call_list_of pins s σ H _ us Q I r ⟨a, vs, rfl, .inl sq, fun p hp => q p _ hp rr⟩
  · obtain ⟨v, rfl, a, vs, rfl, sq, rr⟩ := hd.one
    cases e
    exact call_list_of pins s σ H _ us Q I r ⟨a, vs, rfl, .inr (SqT.of (fh _ _ sq)), fun p hp => q p _ hp rr⟩
theorem bi_tuple : CallR X (.type "tuple") (rBi X.K .tuple) := by
  intro pins s σ H xs us Q I r h
  obtain ⟨F, ds, m, fh, hd, e, q⟩ := h
  unfold biO at e
  split at e <;> try contradiction
  · obtain ⟨v, rfl, a, vs, rfl, sq, rr⟩ := hd.one
    cases e
    exact call_tuple_of pins s σ H _ us Q I r ⟨a, vs, rfl, .inl ⟨sq, fun p hp => q.tup rr hp fh⟩⟩
  · obtain ⟨v, rfl, a, vs, rfl, sq, rr⟩ := hd.one
    cases e
    exact call_tuple_of pins s σ H _ us Q I r ⟨a, vs, rfl, .inr ⟨SqT.of (fh _ _ sq), q.val ⟨a, vs, rfl, sq, rr⟩⟩⟩
theorem intsOf_is : ∀ {xs : List D} {ns : List Int}, intsOf xs = some ns → xs = ns.map .int
  | [], _, h => by cases h; rfl
  | .int i :: r, ns, h => by
    obtain ⟨ms, e, rfl⟩ := Option.map_eq_some_iff.mp h
    rw [intsOf_is e]; rfl
  | .none :: _, _, h => by cases h
  | .bool _ :: _, _, h => by cases h
  | .str _ :: _, _, h => by cases h
  | .list _ :: _, _, h => by cases h
  | .tuple _ :: _, _, h => by cases h
  | .dict _ :: _, _, h => by cases h
theorem reps_int_inv {K : PySem.W.Frag} {F : Hp} : ∀ {ns : List Int} {vs : List V}, Reps K F (ns.map .int) vs → vs = ns.map V.int
  | [], _, h => h
  | n :: ns, vs, ⟨v, r, e, h, t⟩ => by
    have e1 : v = .int n := h
    rw [e, e1, reps_int_inv t]; rfl
theorem reps_int_of {K : PySem.W.Frag} {F : Hp} : ∀ (ns : List Int), Reps K F (ns.map .int) (ns.map V.int)
  | [] => rfl
  | n :: ns => ⟨_, _, rfl, rfl, reps_int_of ns⟩
theorem sorted_uniq : ∀ {l l' : List Int}, l.Perm l' → l.Pairwise (· ≤ ·) → l'.Pairwise (· ≤ ·) → l = l' := fun p a b => p.eq_of_pairwise (fun x y _ _ h1 h2 => Int.le_antisymm h1 h2) a b
theorem mergeSort_le (ns : List Int) : (ns.mergeSort fun a b => decide (a ≤ b)).Pairwise (· ≤ ·) := by
  have := List.pairwise_mergeSort (le := fun a b : Int => decide (a ≤ b)) (fun a b c h1 h2 => by simp at *; omega) (fun a b => by simp; omega) ns
  simpa using this
theorem fold_min : ∀ (r : List Int) (x : Int), (r.foldl (fun a b => if b < a then b else a) x ∈ x :: r) ∧ ∀ y ∈ x :: r, r.foldl (fun a b => if b < a then b else a) x ≤ y
  | [], x => by simp
  | z :: r, x => by
    obtain ⟨h1, h2⟩ := fold_min r (if z < x then z else x)
    rw [List.foldl_cons]
    refine ⟨?_, fun y hy => ?_⟩
    · rcases List.mem_cons.mp h1 with q | q
      · rw [q]; split <;> simp
      · exact List.mem_cons_of_mem _ (List.mem_cons_of_mem _ q)
    · rcases List.mem_cons.mp hy with q | q
      · have := h2 _ List.mem_cons_self
        rw [q]; refine Int.le_trans this ?_; split <;> omega
      · rcases List.mem_cons.mp q with q | q
        · have := h2 _ List.mem_cons_self
          rw [q]; refine Int.le_trans this ?_; split <;> omega
        · exact h2 y (List.mem_cons_of_mem _ q)
theorem fold_max : ∀ (r : List Int) (x : Int), (r.foldl (fun a b => if a < b then b else a) x ∈ x :: r) ∧ ∀ y ∈ x :: r, y ≤ r.foldl (fun a b => if a < b then b else a) x
  | [], x => by simp
  | z :: r, x => by
    obtain ⟨h1, h2⟩ := fold_max r (if x < z then z else x)
    rw [List.foldl_cons]
    refine ⟨?_, fun y hy => ?_⟩
    · rcases List.mem_cons.mp h1 with q | q
      · rw [q]; split <;> simp
      · exact List.mem_cons_of_mem _ (List.mem_cons_of_mem _ q)
    · rcases List.mem_cons.mp hy with q | q
      · have := h2 _ List.mem_cons_self
        rw [q]; refine Int.le_trans ?_ this; split <;> omega
      · rcases List.mem_cons.mp q with q | q
        · have := h2 _ List.mem_cons_self
          rw [q]; refine Int.le_trans ?_ this; split <;> omega
        · exact h2 y (List.mem_cons_of_mem _ q)
theorem Vals.getL : ∀ {vs : List V} {us : List Value}, Vals vs us → ∀ (i : Nat) (u : Value), us[i]? = some u → ∃ v, vs[i]? = some v ∧ RelV v u
  | [], _, .nil, i, u, h => by simp at h
  | v :: vs, _, .cons r t, 0, u, h => by simp at h; subst h; exact ⟨v, rfl, r⟩
  | v :: vs, _, .cons r t, i + 1, u, h => by
    obtain ⟨w, h1, h2⟩ := Vals.getL t i u (by simpa using h)
    exact ⟨w, by simpa using h1, h2⟩
theorem layAll_mem : ∀ {ds : List D} {d : D}, PyData.canLayAll0 ds = true → d ∈ ds → d.canLay0 = true
  | x :: ds, d, h, hm => by
    simp only [PyData.canLayAll0, Bool.and_eq_true] at h
    rcases List.mem_cons.mp hm with q | q
    · rw [q]; exact h.1
    · exact layAll_mem h.2 q
theorem depthAll_mem : ∀ {ds : List D} {d : D}, d ∈ ds → d.depth ≤ PyData.depthAll ds
  | x :: ds, d, hm => by
    simp only [PyData.depthAll]
    rcases List.mem_cons.mp hm with q | q
    · rw [q]; exact Nat.le_max_left _ _
    · exact Nat.le_trans (depthAll_mem q) (Nat.le_max_right _ _)
section
variable {pins : List (Addr × Obj)} {σ : St} {H : Hp} {s : Shared}
/-- one of some items, whose data it has -/
theorem the_item (I : Inv X pins σ H s) {F : Hp} (fh : Ext F H) {ds : List D} {vs : List V} {its : List Value} (rr : Reps X.K F ds vs) (rv : Vals vs its) (hl : PyData.canLayAll0 ds = true) {i : Nat} {v : Value} (hv : its[i]? = some v) {h' : Heap} (hk : ∀ b o, s.heap.get? b = some o → h'.get? b = some o) {d : D} {bs : List Addr} (rd : Reads h' v d bs) :
    ∃ x, RelV x v ∧ Rep X.K F d x := by
  obtain ⟨x, hx, r⟩ := Vals.getL rv i v hv
  obtain ⟨d0, h1, h2⟩ := rr.getV hx
  have hm := List.mem_of_getElem? h1
  obtain ⟨as, ra⟩ := reads_of I (Rep.ext fh h2) (layAll_mem hl hm) r
  have e : d0 = d := Reads.unique _ _ _ _ _ (layAll_mem hl hm) (PySem.W.reads_keeps hk ra) rd
  subst e
  exact ⟨x, r, h2⟩
theorem each_of (I : Inv X pins σ H s) {F : Hp} (fh : Ext F H) : ∀ {ds : List D} {vs : List V} {its : List Value}, Reps X.K F ds vs → Vals vs its → PyData.canLayAll0 ds = true →
    PySem.W.EachIs (fun (v : Value) (b : D × V) => RelV b.2 v) its (ds.zip vs) ∧ PySem.W.EachIs (fun (v : Value) (b : D × V) => ∃ as, Reads s.heap v b.1 as) its (ds.zip vs) ∧ (∀ p ∈ ds.zip vs, Rep X.K F p.1 p.2) ∧ (ds.zip vs).map Prod.fst = ds
  | [], vs, its, h, rv, _ => by
    have e := h
    subst e
    cases rv
    exact ⟨.nil, .nil, (fun p hp => by cases hp), rfl⟩
  | d :: ds, vs, its, ⟨v, vr, e, h, t⟩, rv, hl => by
    subst e
    cases rv with
    | cons r rt =>
      simp only [PyData.canLayAll0, Bool.and_eq_true] at hl
      obtain ⟨h1, h2, h3, h4⟩ := each_of I fh t rt hl.2
      obtain ⟨as, ra⟩ := reads_of I (Rep.ext fh h) hl.1 r
      refine ⟨.cons r h1, .cons ⟨as, ra⟩ h2, fun p hp => ?_, by rw [List.zip_cons_cons, List.map_cons, h4]⟩
      rcases List.mem_cons.mp hp with q | q
      · rw [q]; exact h
      · exact h3 p q
end
theorem vals_each : ∀ {out : List Value} {S : List (D × V)}, PySem.W.EachIs (fun (v : Value) (b : D × V) => RelV b.2 v) out S → Vals (S.map Prod.snd) out
  | _, _, .nil => .nil
  | _, _, .cons r t => .cons r (vals_each t)
theorem reps_pairs {K : PySem.W.Frag} {F : Hp} : ∀ {S : List (D × V)}, (∀ p ∈ S, Rep K F p.1 p.2) → Reps K F (S.map Prod.fst) (S.map Prod.snd)
  | [], _ => rfl
  | p :: S, h => ⟨p.2, S.map Prod.snd, rfl, h p List.mem_cons_self, reps_pairs fun q hq => h q (List.mem_cons_of_mem _ hq)⟩
theorem kv_ints {K : PySem.W.Frag} {F : Hp} : ∀ {kvs : List (D × D)} {ks : List (Key × V)} {ns : List Int}, RepKv K F kvs ks → intsOf (kvs.map (·.1)) = some ns → ks.map (·.1) = ns.map Sum.inl
  | [], _, _, h, e => by
    cases (show _ = _ from h)
    cases e
    rfl
  | (k, d) :: r, _, ns, ⟨key, v, r', rfl, hk, _, h⟩, e => by
    cases key with
    | inl i =>
      cases (show k = .int i from hk)
      obtain ⟨ms, e1, rfl⟩ := Option.map_eq_some_iff.mp (show (intsOf (r.map (·.1))).map (i :: ·) = some ns from e)
      rw [List.map_cons, kv_ints h e1]
      rfl
    | inr x =>
      cases (show k = .str x from hk)
      cases e
theorem bi_sorted (hu : X.A.units + 65 < cLine) (hc : X.calm = true) : CallR X (.builtin "sorted") (rBi X.K .sorted) := by
  intro pins s σ H xs us Q I r h
  obtain ⟨F, ds, m, fh, hd, e, q⟩ := h
  unfold biO at e
  split at e <;> try contradiction
  · obtain ⟨v, rfl, a, vs, rfl, sq, rr⟩ := hd.one
    rename_i ds hq
    unfold intsE at e
    split at e
    · rename_i ns e1
      cases e
      have e2 := intsOf_is e1
      rw [e2] at rr
      have e3 := reps_int_inv rr
      subst e3
      refine cr_sortedI pins s σ H _ us Q I r ⟨a, ns, rfl, sq, fun ns' p hp hs hn => q p _ hn ?_⟩
      rw [sorted_uniq (hp.trans (List.mergeSort_perm ns _).symm) hs (mergeSort_le ns)]
      exact reps_int_of _
    · unfold srtO at e
      split at e
      · rename_i hh
        cases e
        obtain ⟨⟨h1, h2⟩, h3, h4, h5⟩ := hh
        obtain ⟨its, rv, hl, hz⟩ := I.list sq
        rw [Vals.ref1 r]
        obtain ⟨g1, g2, g3, g4⟩ := each_of I fh rr rv h3
        have hlen : (ds.zip vs).length = ds.length := by rw [← List.length_map (f := Prod.fst), g4]
        refine sorted_data2 (β := D × V) (enc := Prod.fst) (R := fun v b => RelV b.2 v) (bs := ds.zip vs) hl.isList g1 g2 (by rw [g4]; exact h1) (by rw [g4]; exact h2) (by rw [hlen]; exact h5) (fun b hb => ?_) fun out ho he => ?_
        · have : b.1 ∈ ds := by rw [← g4]; exact List.mem_map_of_mem hb
          have := depthAll_mem this
          omega
        · obtain ⟨ep, he'⟩ := PyProof.Rows.sortedAll_at s.heap its out.toArray
          have pm := List.mergeSort_perm (ds.zip vs) (PySem.W.dataLe false Prod.fst)
          have hvv := vals_each he
          have hsz : (((ds.zip vs).mergeSort (PySem.W.dataLe false Prod.fst)).map Prod.snd).length ≤ sizeLine := by
            rw [List.length_map, pm.length_eq, hlen]; exact h5
          have hrr := reps_pairs (K := X.K) (F := F) (S := (ds.zip vs).mergeSort (PySem.W.dataLe false Prod.fst)) fun p hp => g3 p (pm.mem_iff.mp hp)
          have hms : ((ds.zip vs).mergeSort (PySem.W.dataLe false Prod.fst)).map Prod.fst = ds.mergeSort (PySem.W.dataLe false id) := by
            have t := PySem.W.sort_maps (r := PySem.W.dataLe false Prod.fst) (s := PySem.W.dataLe false id) Prod.fst (l := ds.zip vs) (fun a _ b _ => rfl)
            rw [t, g4]
          rw [hms] at hrr
          exact ⟨.ref _, upd H (s.heap.objs.size + 1) (.lst (((ds.zip vs).mergeSort (PySem.W.dataLe false Prod.fst)).map Prod.snd)), I.laid (t' := s.toks) (fun _ _ => PyProof.Rows.sortedAll_old) (Nat.le_succ _) ⟨hsz, out, ep, hvv, he'⟩, rfl, q _ _ (I.hok.fresh (Nat.le_succ _)) hrr⟩
      · cases e
  · obtain ⟨v, rfl, a, rfl, hh⟩ := hd.one
    obtain ⟨ns, e1, e⟩ := Option.bind_eq_some_iff.mp e
    split at e
    · rename_i h64
      cases e
      rcases hh with ⟨ks, hk, rr⟩ | ⟨ks, hk, rr⟩
      · refine call_sortedDI hc pins s σ H _ us Q I r ⟨a, ks, ns, rfl, .inl hk, kv_ints rr e1, h64, fun ys p hp hs hn => q p _ hn ?_⟩
        rw [sorted_uniq (hp.trans (List.mergeSort_perm ns _).symm) hs (mergeSort_le ns)]
        exact reps_int_of _
      · rename_i kv kvs _
        obtain ⟨k0, d0⟩ := kv
        obtain ⟨key, v0, r', rfl, hk0, _⟩ := rr
        cases (show k0 = _ from hk0)
        cases e1
    · cases e
/-- min(a, b) over anything that is walked -/
theorem call_min2_walkH {prog : Program} {w : World} {A : Around} {E : Value → Shared → Prop} {s : Shared} {a b : Value} {Q : Value → Shared → Prop}
    (h : wpAny (model prog w) A.in1 (pyIter (.ref s.heap.objs.size)) (fun it s₂ => ∃ I fp wr G n P St H bt, it = .ref I ∧ WalksS prog w A.in1 I fp wr G n P St ∧ St 0 s₂ ∧ (∀ b ∈ fp, b < s₂.heap.objs.size) ∧ 0 < n ∧
      (∀ b o, H.get? b = some o → b ∉ wr) ∧ (∀ b o, H.get? b = some o → s₂.heap.get? b = some o) ∧ CmpIn prog w A.in1 .Lt H P bt ∧ ∀ v s', P (argBest bt (n - 1)) v → Moved wr G s₂ s' → Q v s') E
      { s with heap := s.heap.push { cls := .type "tuple", data := .seq #[a, b] } }) :
    wpAny (model prog w) A (call (.builtin "min") [a, b]) Q E s := by
  have hname : (toString "min" ++ toString ".loop" : String) = "min.loop" := by decide
  refine call_function_tree F.kind_min F.plain_min F.entry_min (F.args_min2 _ _) ?_
  show wpAny _ A.in1 (Builtin.Builtins.bindParams "min" ["key", "default"] 0 ⟨[], []⟩ >>= _) _ _ s
  refine wpAny_bind (wpAny_of_eq (show Builtin.Builtins.bindParams "min" ["key", "default"] 0 ⟨[], []⟩ = pure [none, none] from rfl) ?_)
  show wpAny _ A.in1 (newTuple [a, b] >>= _) _ _ s
  refine wpAny_bind (wpAny_newObj_type ?_)
  refine wpAny_bind (wpAny_mono h (fun it s₂ h₂ => ?_) fun _ _ e => e)
  obtain ⟨I, fp, wr, G, n, P, St, H, bt, rfl, W, hst, hfp, hn, hw, hkeep, hcmp, hQ⟩ := h₂
  refine wpAny_bind (wpAny_newObj_type ?_)
  have hSf : s₂.heap.objs.size ∉ fp := fun hm => Nat.lt_irrefl _ (hfp _ hm)
  rw [hname]
  refine wpAny_pure ⟨plainId_quiet F.plain_min_loop _, codeAny_min_loop_firstH W H hw bt hcmp s₂.heap.objs.size hSf (fresh_in hkeep) _ hn (fun b o e => Heap.get?_push_of_some _ (hkeep b o e)) (W.frame 0 s₂ _ s₂.toks hst (Nat.le_refl _) fun b _ o e => Heap.get?_push_of_some _ e) (Heap.get?_push_size _ rfl) fun v s' hP hm => ?_⟩
  exact hQ v s' hP (Moved.drop_new (tk := s₂.toks) hm (Nat.le_refl _))
theorem min2_data {prog : Program} {w : World} {A : Around} {E : Value → Shared → Prop} {s : Shared} {a b : Value} {x y : D} {as : List Addr} {Q : Value → Shared → Prop} (hh : A.handled = none) (hr : ReadsAll s.heap [a, b] [x, y] as) (ha : PySem.W.AlikeAll [x, y]) (hu : A.units + 1 + PyData.depthAll [x, y] < cLine)
    (h : ∀ (i : Nat) v h' tk bs, [a, b][i]? = some v → Reads h' v (PySem.W.minD x [y]) bs → (∀ b o, s.heap.get? b = some o → h'.get? b = some o) → Q v { s with heap := h', toks := tk }) :
    wpAny (model prog w) A (call (.builtin "min") [a, b]) Q E s := by
  have hT : (s.heap.push { cls := .type "tuple", data := .seq #[a, b] }).IsTuple s.heap.objs.size #[a, b] := ⟨_, Heap.get?_push_size _ rfl, rfl, 0, rfl⟩
  have hk0 : ∀ b' o, s.heap.get? b' = some o → (s.heap.push { cls := .type "tuple", data := .seq #[a, b] }).get? b' = some o := fun b' o e => Heap.get?_push_of_some _ e
  have hr' : ReadsAll (s.heap.push { cls := .type "tuple", data := .seq #[a, b] }) [a, b] [x, y] as := ReadsAll.keeps hk0 hr
  refine call_min2_walkH (PySem.W.iter_tupleW (s := { s with heap := s.heap.push { cls := .type "tuple", data := .seq #[a, b] } }) (A := A.in1) hh hT fun s₂ e W st hfp hw hk => ?_)
  refine ⟨_, _, _, _, _, _, _, s.heap.push { cls := .type "tuple", data := .seq #[a, b] }, _, rfl, W, st, hfp, Nat.succ_pos _, hw, hk, PySem.W.cmpIn_lt (s := { s with heap := s.heap.push { cls := .type "tuple", data := .seq #[a, b] } }) (A := A.in1) (vs := #[a, b]) hr' ha (by show A.units + 1 + _ < _; exact hu), fun v s' hP m => ?_⟩
  obtain ⟨h', tk, rfl, hk'⟩ := PySem.W.moved_old e rfl m
  obtain ⟨bs, r, _, _, _⟩ := PySem.W.readsAll_atA (vs := #[a, b]) hr' _ v hP
  have e2 := (PySem.W.argBest_fold PySem.W.dataLt PyData.none x [y] 1 (Nat.le_refl _)).2
  exact h _ v h' tk bs (by simpa using hP) (PySem.W.reads_keeps hk' (by unfold PySem.W.minD; rw [show [y] = [y].take 1 from rfl, ← e2]; exact r)) fun b' o eb => hk' b' o (hk0 b' o eb)
def rBiF (K : PySem.W.Frag) (b : Bi) : List V → Hp → VK → Prop := fun vs H Q => ∃ F ds m, Ext F H ∧ Reps K F ds vs ∧ biO b ds = some m ∧ PN K F H m Q
theorem Reps.os {K : PySem.W.Frag} {F H : Hp} (x : Ext F H) : ∀ {ds : List D} {vs : List V}, Reps K F ds vs → ROs K F H ds vs
  | [], _, h => h
  | _ :: _, _, ⟨v, r, e, h, t⟩ => ⟨v, r, e, Rep.o x h, Reps.os x t⟩
theorem bi_min2d (hu : X.A.units + 65 < cLine) (hc : X.calm = true) : CallR X (.builtin "min") (rBiF X.K .min2d) := by
  intro pins s σ H xs us Q I r h
  obtain ⟨F, ds, m, fh, hd, e, q⟩ := h
  unfold biO at e
  split at e <;> try contradiction
  rename_i d1 d2 hq0
  simp only [mnO] at e
  split at e
  · rename_i hh
    cases e
    obtain ⟨h1, h3, h4⟩ := hh
    obtain ⟨as, ra⟩ := readsAll_of I (Reps.ext fh hd) h3 r
    obtain ⟨v1, r0, rfl, hv1, v2, r2, e2, hv2, e3⟩ := hd
    cases (show r2 = [] from e3)
    subst e2
    obtain ⟨u1, u2, rfl, g1, g2⟩ := vals2 r
    refine min2_data (I.ok.hd hc) ra h1 (by omega) fun i v h' tk bs hv rd hk => ?_
    obtain ⟨x, g1, g2⟩ := the_item I fh (ds := [d1, d2]) ⟨v1, _, rfl, hv1, v2, _, rfl, hv2, rfl⟩ r h3 hv hk rd
    exact ⟨x, H, I.kept hk, g1, q _ F H (.inl ⟨rfl, rfl⟩) g2⟩
  · cases e
theorem bi_minl (hu : X.A.units + 65 < cLine) (hc : X.calm = true) : CallR X (.builtin "min") (rBi X.K .minl) := by
  intro pins s σ H xs us Q I r h
  obtain ⟨F, ds, m, fh, hd, e, q⟩ := h
  unfold biO at e
  split at e <;> try contradiction
  · obtain ⟨v, rfl, a, vs, rfl, sq, rr⟩ := hd.one
    rename_i ds hq
    unfold intsE at e
    split at e
    · rename_i ns e1
      obtain ⟨i, e4, rfl⟩ := Option.map_eq_some_iff.mp e
      have e2 := intsOf_is e1
      rw [e2] at rr
      have e3 := reps_int_inv rr
      subst e3
      cases ns with
      | nil => cases e4
      | cons x ns =>
        cases e4
        obtain ⟨m1, m2⟩ := fold_min ns x
        refine cr_min hc pins s σ H _ us Q I r ⟨a, x :: ns, rfl, sq, by simp, fun m h1 h2 => ?_⟩
        have : m = ns.foldl (fun a b => if b < a then b else a) x := Int.le_antisymm (h2 _ m1) (m2 _ h1)
        rw [this]
        exact q.val rfl
    · cases ds with
      | nil => cases e
      | cons d ds =>
        simp only [mnO] at e
        split at e
        · rename_i hh
          cases e
          obtain ⟨h1, h3, h4⟩ := hh
          obtain ⟨its, rv, hl, hz⟩ := I.list sq
          rw [Vals.ref1 r]
          obtain ⟨as, ra⟩ := readsAll_of I (Reps.ext fh rr) h3 rv
          refine PySem.W.min_list_data (I.ok.hd hc) hl.isList ra h1 (by omega) fun i v h' tk bs hv rd hk => ?_
          obtain ⟨x, g1, g2⟩ := the_item I fh rr rv h3 (by simpa using hv) hk rd
          exact ⟨x, H, I.kept hk, g1, q _ F H (.inl ⟨rfl, rfl⟩) g2⟩
        · cases e
  · obtain ⟨v, rfl, a, vs, rfl, sq, rr⟩ := hd.one
    rename_i ds hq
    cases ds with
    | nil => cases e
    | cons d ds =>
      simp only [mnO] at e
      split at e
      · rename_i hh
        cases e
        obtain ⟨h1, h3, h4⟩ := hh
        obtain ⟨its, rv, hl, hz⟩ := I.tuple (SqT.of (fh _ _ sq))
        rw [Vals.ref1 r]
        obtain ⟨as, ra⟩ := readsAll_of I (Reps.ext fh rr) h3 rv
        refine PySem.W.min_tuple_data (I.ok.hd hc) hl ra h1 (by omega) fun i v h' tk bs hv rd hk => ?_
        obtain ⟨x, g1, g2⟩ := the_item I fh rr rv h3 (by simpa using hv) hk rd
        exact ⟨x, H, I.kept hk, g1, q _ F H (.inl ⟨rfl, rfl⟩) g2⟩
      · cases e
theorem bi_maxl (hu : X.A.units + 65 < cLine) (hc : X.calm = true) : CallR X (.builtin "max") (rBi X.K .maxl) := by
  intro pins s σ H xs us Q I r h
  obtain ⟨F, ds, m, fh, hd, e, q⟩ := h
  unfold biO at e
  split at e <;> try contradiction
  · obtain ⟨v, rfl, a, vs, rfl, sq, rr⟩ := hd.one
    rename_i ds hq
    unfold intsE at e
    split at e
    · rename_i ns e1
      obtain ⟨i, e4, rfl⟩ := Option.map_eq_some_iff.mp e
      have e2 := intsOf_is e1
      rw [e2] at rr
      have e3 := reps_int_inv rr
      subst e3
      cases ns with
      | nil => cases e4
      | cons x ns =>
        cases e4
        obtain ⟨m1, m2⟩ := fold_max ns x
        refine cr_max hc pins s σ H _ us Q I r ⟨a, x :: ns, rfl, sq, by simp, fun m h1 h2 => ?_⟩
        have : m = ns.foldl (fun a b => if a < b then b else a) x := Int.le_antisymm (m2 _ h1) (h2 _ m1)
        rw [this]
        exact q.val rfl
    · cases ds with
      | nil => cases e
      | cons d ds =>
        simp only [mxO] at e
        split at e
        · rename_i hh
          cases e
          obtain ⟨h1, h3, h4⟩ := hh
          obtain ⟨its, rv, hl, hz⟩ := I.list sq
          rw [Vals.ref1 r]
          obtain ⟨as, ra⟩ := readsAll_of I (Reps.ext fh rr) h3 rv
          refine PySem.W.max_list_data (I.ok.hd hc) hl.isList ra h1 (by omega) fun i v h' tk bs hv rd hk => ?_
          obtain ⟨x, g1, g2⟩ := the_item I fh rr rv h3 (by simpa using hv) hk rd
          exact ⟨x, H, I.kept hk, g1, q _ F H (.inl ⟨rfl, rfl⟩) g2⟩
        · cases e
  · obtain ⟨v, rfl, a, vs, rfl, sq, rr⟩ := hd.one
    rename_i ds hq
    cases ds with
    | nil => cases e
    | cons d ds =>
      simp only [mxO] at e
      split at e
      · rename_i hh
        cases e
        obtain ⟨h1, h3, h4⟩ := hh
        obtain ⟨its, rv, hl, hz⟩ := I.tuple (SqT.of (fh _ _ sq))
        rw [Vals.ref1 r]
        obtain ⟨as, ra⟩ := readsAll_of I (Reps.ext fh rr) h3 rv
        refine PySem.W.max_tuple_data (I.ok.hd hc) hl ra h1 (by omega) fun i v h' tk bs hv rd hk => ?_
        obtain ⟨x, g1, g2⟩ := the_item I fh rr rv h3 (by simpa using hv) hk rd
        exact ⟨x, H, I.kept hk, g1, q _ F H (.inl ⟨rfl, rfl⟩) g2⟩
      · cases e
theorem bi_sum (hc : X.calm = true) : CallR X (.builtin "sum") (rBi X.K .sum) := by
  intro pins s σ H xs us Q I r h
  obtain ⟨F, ds, m, fh, hd, e, q⟩ := h
  unfold biO at e
  split at e <;> try contradiction
  obtain ⟨v, rfl, a, vs, rfl, sq, rr⟩ := hd.one
  obtain ⟨ns, e1, rfl⟩ := Option.map_eq_some_iff.mp e
  have e2 := intsOf_is e1
  rw [e2] at rr
  have e3 := reps_int_inv rr
  subst e3
  exact cr_sum hc pins s σ H _ us Q I r ⟨a, ns, rfl, sq, q.val rfl⟩
theorem bi_int : CallR X (.type "int") (rBi X.K .int) := by
  intro pins s σ H xs us Q I r h
  obtain ⟨F, ds, m, fh, hd, e, q⟩ := h
  unfold biO at e
  split at e <;> try contradiction
  · obtain ⟨v, rfl, hv⟩ := hd.one
    cases (show v = _ from hv)
    cases e
    exact call_int1 pins s σ H _ us Q I r (.inl ⟨_, rfl, q.val rfl⟩)
  · obtain ⟨v, rfl, hv⟩ := hd.one
    cases (show v = _ from hv)
    cases e
    exact call_int1 pins s σ H _ us Q I r (.inr ⟨_, rfl, q.val rfl⟩)
theorem bi_str : CallR X (.type "str") (rBi X.K .str) := by
  intro pins s σ H xs us Q I r h
  obtain ⟨F, ds, m, fh, hd, e, q⟩ := h
  unfold biO at e
  split at e <;> try contradiction
  obtain ⟨v, rfl, hv⟩ := hd.one
  cases (show v = _ from hv)
  split at e
  · rename_i hz
    cases e
    exact call_str_int pins s σ H _ us Q I r ⟨_, rfl, hz, q.val rfl⟩
  · cases e
/-! isinstance -/
def tyOf : D → String
  | .none => "NoneType"
  | .bool _ => "bool"
  | .int _ => "int"
  | .str _ => "str"
  | .list _ => "list"
  | .tuple _ => "tuple"
  | .dict _ => "dict"
def tyName : Bi → Option String
  | .isInt => some "int"
  | .isBool => some "bool"
  | .isStr => some "str"
  | .isList => some "list"
  | .isTuple => some "tuple"
  | .isDict => some "dict"
  | _ => none
theorem ty_rep {K : PySem.W.Frag} {F H : Hp} (fh : Ext F H) {d : D} {v : V} (h : RepO K F H d v) : TyX K H v (.type (tyOf d)) := by
  cases d with
  | none => cases (show v = _ from h); exact .base .non
  | bool b => cases (show v = _ from h); exact .base (.bl b)
  | int b => cases (show v = _ from h); exact .base (.int b)
  | str b => cases (show v = _ from h); exact .base (.str b)
  | list b =>
    obtain ⟨a, vs, rfl, sq, _⟩ := h
    rcases sq with (sq | ⟨o, sq⟩) | ⟨o, its, n, e, c, _⟩
    · exact .base (.lst sq)
    · exact .base (.frz sq)
    · exact .kList e c
  | tuple b =>
    obtain ⟨a, vs, rfl, sq, _⟩ := h
    exact .base (.tup (fh _ _ sq))
  | dict b =>
    obtain ⟨a, rfl, ⟨ks, e, _⟩ | ⟨ks, e, _⟩⟩ := h
    · exact .base (.dK e)
    · exact .base (.dT e)
theorem kit_is {K : PySem.W.Frag} (b : Bi) (n : String) (h : tyName b = some n) (d : D) : PySem.W.kitOne K (.type (tyOf d)) (.type n) = some (isTy b d) := by
  cases b <;> cases h <;> cases d <;> refine kit_ty ?_ <;> simp only [tyOf, isTy] <;> decide +kernel
theorem bi_is (b : Bi) (n : String) (h : tyName b = some n) : CallR X (.builtin "isinstance") (fun vs H Q => ∃ F d v, vs = [v, .ty n] ∧ Ext F H ∧ RepO X.K F H d v ∧ Q (.bl (isTy b d)) H) := by
  intro pins s σ H xs us Q I r hh
  obtain ⟨F, d, v, rfl, fh, hv, q⟩ := hh
  exact call_isi pins s σ H _ us Q I r ⟨v, .ty n, _, _, _, rfl, .ty n, ty_rep fh hv, kit_is b n h d, q⟩
end Q1

/-! Q7: what a def promises, and the state behind its call. -/
namespace Q1
open PySem PySem.Spec PyProof.Rows L2 PySem.SeqAt

/-- the addresses of the lists that are handed over -/
def ownA (ms : List M) (vs : List V) (a : Addr) : Prop := ∃ (i : Nat) (m : M), ms[i]? = some m ∧ m.isOwn = true ∧ vs[i]? = some (V.ref a)
structure Inn (K : PySem.W.Frag) (F H : Hp) (ms : List M) (vs : List V) : Prop where
  fh : Ext F H
  len : ms.length = vs.length
  rep : ∀ (i : Nat) (m : M) (v : V), ms[i]? = some m → vs[i]? = some v → RepM K F H m v
  dis : ∀ (i j : Nat) (m m' : M) (v : V), i ≠ j → ms[i]? = some m → ms[j]? = some m' → m.isOwn = true → m'.isOwn = true → vs[i]? = some v → vs[j]? = some v → False
structure Out (K : PySem.W.Frag) (F H : Hp) (ms : List M) (vs : List V) (r : En) (F' H' : Hp) : Prop where
  x : Ext F F'
  fh : Ext F' H'
  fn : ∀ a, F' a ≠ none → F a ≠ none ∨ H a = none ∨ ownA ms vs a
  fr : ∀ a o, H a = some o → ¬ ownA ms vs a → H' a = some o
  rep : ∀ (i : Nat) (m m' : M), ms[i]? = some m → m.isOwn = true → look r i = some m' → ∃ v, vs[i]? = some v ∧ RepM K F' H' m' v
/-- the value that is handed back -/
structure OutV (K : PySem.W.Frag) (H : Hp) (ms : List M) (vs : List V) (r : En) (F' H' : Hp) (m : M) (v : V) : Prop where
  rep : RepM K F' H' m v
  dis : m.isOwn = true → ∀ (i : Nat) (m0 m' : M), ms[i]? = some m0 → m0.isOwn = true → look r i = some m' → m'.isOwn = true → vs[i]? = some v → False
  new : m.isOwn = true → ∀ a, v = .ref a → ownA ms vs a ∨ H a = none
def spF (K : PySem.W.Frag) (cls : Nat → Value) (g : List M → Res M) : Sp := fun vs H Q E => ∃ F ms, Inn K F H ms vs ∧
  match g ms with
  | .ok m r => ∀ v F' H', Out K F H ms vs r F' H' → OutV K H ms vs r F' H' m v → Q v H'
  | .exc c r => ∀ F' H', Out K F H ms vs r F' H' → E (cls c) none H'
  | .bad => False

theorem outs_length : ∀ {os : List Opd} {e r : En}, (outs e os r).length = e.length
  | [], _, _ => rfl
  | .val _ :: os, _, r => outs_length (os := os)
  | .late i :: os, e, r => by
    unfold outs
    rw [outs_length (os := os)]
    split
    · rfl
    · exact put_length
theorem lates_mem : ∀ {os : List Opd} {j k : Nat}, os[k]? = some (.late j) → j ∈ lates os
  | [], _, _, h => by simp at h
  | .val d :: os, j, 0, h => by simp at h
  | .val d :: os, j, k + 1, h => lates_mem (os := os) (k := k) (by simpa using h)
  | .late i :: os, j, 0, h => by simp at h; subst h; exact List.mem_cons_self
  | .late i :: os, j, k + 1, h => List.mem_cons_of_mem _ (lates_mem (os := os) (k := k) (by simpa using h))
theorem mem_lates : ∀ {os : List Opd} {j : Nat}, j ∈ lates os → ∃ k : Nat, os[k]? = some (Opd.late j)
  | [], _, h => nomatch h
  | .val d :: os, j, h => let ⟨k, e⟩ := mem_lates (os := os) h; ⟨k + 1, by simpa using e⟩
  | .late i :: os, j, h => by
    rcases List.mem_cons.mp h with rfl | h
    · exact ⟨0, rfl⟩
    · obtain ⟨k, e⟩ := mem_lates (os := os) h
      exact ⟨k + 1, by simpa using e⟩
theorem look_tail {r : En} {k : Nat} : look r.tail k = look r (k + 1) := by
  cases r with
  | nil => cases k <;> rfl
  | cons x r => rfl
theorem look_head {r : En} {m : M} (h : r.headD none = some m) : look r 0 = some m := by
  cases r with
  | nil => cases h
  | cons x r => exact h
theorem outs_look : ∀ {os : List Opd} {e r : En} {j : Nat} {m' : M}, dup (lates os) = false → (∀ i ∈ lates os, look e i ≠ none) → look (outs e os r) j = some m' →
    (∃ (k : Nat) (m0 : M), os[k]? = some (Opd.late j) ∧ look e j = some m0 ∧ m0.isOwn = true ∧ look r k = some m') ∨ (look e j = some m' ∧ (m'.isOwn = true → j ∉ lates os))
  | [], _, _, _, _, _, _, h => .inr ⟨h, fun _ z => nomatch z⟩
  | .val d :: os, e, r, j, m', hd, hl, h => by
    rcases outs_look (os := os) (e := e) (r := r.tail) hd hl h with ⟨k, m0, h1, h2, h3, h4⟩ | q
    · exact .inl ⟨k + 1, m0, by simpa using h1, h2, h3, by rw [← look_tail]; exact h4⟩
    · exact .inr q
  | .late i :: os, e, r, j, m', hd, hl, h => by
    have hd' : (lates os).contains i = false ∧ dup (lates os) = false := by
      have z : ((lates os).contains i || dup (lates os)) = false := hd
      simpa [Bool.or_eq_false_iff] using z
    have hni : i ∉ lates os := fun z => by
      have := List.contains_iff_mem.mpr z
      rw [hd'.1] at this; cases this
    unfold outs at h
    cases e1 : look e i with
    | none => exact absurd e1 (hl i List.mem_cons_self)
    | some mi =>
      rw [e1] at h
      cases mi with
      | p d =>
        rcases outs_look (os := os) (e := e) (r := r.tail) hd'.2 (fun i' hi' => hl i' (List.mem_cons_of_mem _ hi')) h with ⟨k, m0, h1, h2, h3, h4⟩ | ⟨q, z⟩
        · exact .inl ⟨k + 1, m0, by simpa using h1, h2, h3, by rw [← look_tail]; exact h4⟩
        · refine .inr ⟨q, fun ow hm => ?_⟩
          rcases List.mem_cons.mp hm with rfl | hm
          · rw [e1] at q; cases q; cases ow
          · exact z ow hm
      | ol xs =>
        have key := outs_look (os := os) (e := put e i (r.headD none)) (r := r.tail) (j := j) (m' := m') hd'.2 (fun i' hi' => by
          have n : i' ≠ i := fun z => hni (z ▸ hi')
          rw [look_put_ne n]; exact hl i' (List.mem_cons_of_mem _ hi')) h
        rcases key with ⟨k, m0, h1, h2, h3, h4⟩ | ⟨q, z⟩
        · have n : j ≠ i := fun z => hni (z ▸ lates_mem h1)
          rw [look_put_ne n] at h2
          exact .inl ⟨k + 1, m0, by simpa using h1, h2, h3, by rw [← look_tail]; exact h4⟩
        · rcases look_put q with ⟨rfl, q1, _⟩ | ⟨n, q1⟩
          · exact .inl ⟨0, _, rfl, e1, rfl, look_head q1⟩
          · refine .inr ⟨q1, fun ow hm => ?_⟩
            rcases List.mem_cons.mp hm with rfl | hm
            · exact n rfl
            · exact z ow hm
      | od t xs =>
        have key := outs_look (os := os) (e := put e i (r.headD none)) (r := r.tail) (j := j) (m' := m') hd'.2 (fun i' hi' => by
          have n : i' ≠ i := fun z => hni (z ▸ hi')
          rw [look_put_ne n]; exact hl i' (List.mem_cons_of_mem _ hi')) h
        rcases key with ⟨k, m0, h1, h2, h3, h4⟩ | ⟨q, z⟩
        · have n : j ≠ i := fun z => hni (z ▸ lates_mem h1)
          rw [look_put_ne n] at h2
          exact .inl ⟨k + 1, m0, by simpa using h1, h2, h3, by rw [← look_tail]; exact h4⟩
        · rcases look_put q with ⟨rfl, q1, _⟩ | ⟨n, q1⟩
          · exact .inl ⟨0, _, rfl, e1, rfl, look_head q1⟩
          · refine .inr ⟨q1, fun ow hm => ?_⟩
            rcases List.mem_cons.mp hm with rfl | hm
            · exact n rfl
            · exact z ow hm
section
variable {T : Ev} {pv : List (Nat × V)} {σ : St} {F F' H H' : Hp} {env : En}
theorem fetchMs_get : ∀ {os : List Opd} {ms : List M} {i : Nat} {m : M}, fetchMs env os = some ms → ms[i]? = some m → ∃ o, os[i]? = some o ∧ fetchM env o = some m
  | [], _, _, _, h, e => by cases h; simp at e
  | o :: os, ms, i, m, h, e => by
    obtain ⟨d, h1, h2⟩ := Option.bind_eq_some_iff.mp h
    obtain ⟨ds, h3, rfl⟩ := Option.map_eq_some_iff.mp h2
    cases i with
    | zero => simp at e; subst e; exact ⟨o, rfl, h1⟩
    | succ i =>
      obtain ⟨o', h4, h5⟩ := fetchMs_get (os := os) h3 (by simpa using e)
      exact ⟨o', by simpa using h4, h5⟩
theorem fetchMs_len : ∀ {os : List Opd} {ms : List M}, fetchMs env os = some ms → ms.length = os.length
  | [], _, h => by cases h; rfl
  | o :: os, ms, h => by
    obtain ⟨d, h1, h2⟩ := Option.bind_eq_some_iff.mp h
    obtain ⟨ds, h3, rfl⟩ := Option.map_eq_some_iff.mp h2
    exact congrArg (· + 1) (fetchMs_len h3)
theorem RepOs.get : ∀ {os : List Opd} {vs : List V} {i : Nat} {o : Opd} {v : V}, RepOs T σ F os vs → os[i]? = some o → vs[i]? = some v → RepOp T σ F o v
  | [], _, _, _, _, _, h, _ => by simp at h
  | o' :: os, _, 0, _, _, ⟨w, r, e, h, _⟩, e1, e2 => by subst e; simp at e1 e2; subst e1 e2; exact h
  | o' :: os, _, i + 1, _, _, ⟨w, r, e, _, t⟩, e1, e2 => by subst e; exact RepOs.get t (by simpa using e1) (by simpa using e2)
theorem RepOs.len : ∀ {os : List Opd} {vs : List V}, RepOs T σ F os vs → os.length = vs.length
  | [], _, h => by have e := h; subst e; rfl
  | _ :: _, _, ⟨_, _, e, _, t⟩ => by rw [e]; exact congrArg (· + 1) (RepOs.len t)
theorem get_of_lt {α : Type} {xs : List α} {i : Nat} (h : i < xs.length) : ∃ x, xs[i]? = some x := ⟨xs[i], by simp [h]⟩
theorem lt_of_get {α : Type} {xs : List α} {i : Nat} {x : α} (h : xs[i]? = some x) : i < xs.length := (List.getElem?_eq_some_iff.mp h).1
/-- what a list that is handed over is: a slot's own -/
theorem own_arg {os : List Opd} {ms : List M} {vs : List V} {i : Nat} {m : M} {v : V} (S : Sim T.K T.G pv F env σ H) (r : RepOs T σ F os vs) (hf : fetchMs env os = some ms) (e : ms[i]? = some m) (ow : m.isOwn = true) (ev : vs[i]? = some v) :
    ∃ j, os[i]? = some (.late j) ∧ look env j = some m ∧ σ[j]? = some (some v) := by
  obtain ⟨o, h1, h2⟩ := fetchMs_get hf e
  cases o with
  | val d => cases h2; cases ow
  | late j => exact ⟨j, h1, h2, r.get h1 ev⟩
theorem late_uniq : ∀ {os : List Opd} {i k j : Nat}, dup (lates os) = false → os[i]? = some (.late j) → os[k]? = some (.late j) → i = k
  | [], _, _, _, _, h, _ => by simp at h
  | .val d :: os, 0, _, _, _, h, _ => by simp at h
  | .val d :: os, _ + 1, 0, _, _, _, h => by simp at h
  | .val d :: os, i + 1, k + 1, j, hd, h1, h2 => congrArg (· + 1) (late_uniq (os := os) hd (by simpa using h1) (by simpa using h2))
  | .late x :: os, i, k, j, hd, h1, h2 => by
    have hd' : (lates os).contains x = false ∧ dup (lates os) = false := by
      have z : ((lates os).contains x || dup (lates os)) = false := hd
      simpa [Bool.or_eq_false_iff] using z
    have hn : x ∉ lates os := fun z => by
      have := List.contains_iff_mem.mpr z
      rw [hd'.1] at this; cases this
    cases i with
    | zero =>
      cases k with
      | zero => rfl
      | succ k =>
        simp at h1; subst h1
        exact absurd (lates_mem (by simpa using h2)) hn
    | succ i =>
      cases k with
      | zero =>
        simp at h2; subst h2
        exact absurd (lates_mem (by simpa using h1)) hn
      | succ k => exact congrArg (· + 1) (late_uniq hd'.2 (by simpa using h1) (by simpa using h2))
theorem Inn.of {os : List Opd} {ms : List M} {vs : List V} (S : Sim T.K T.G pv F env σ H) (r : RepOs T σ F os vs) (hf : fetchMs env os = some ms) (hd : dup (lates os) = false) : Inn T.K F H ms vs where
  fh := S.fh
  len := by rw [fetchMs_len hf, r.len]
  rep := fun i m v e ev => by
    obtain ⟨o, h1, h2⟩ := fetchMs_get hf e
    have q := r.get h1 ev
    cases o with
    | val d => cases h2; exact q
    | late j =>
      obtain ⟨w, h3, h4⟩ := S.rep j m h2
      have z : some (some w) = some (some v) := h3.symm.trans q
      cases z
      exact h4
  dis := fun i j m m' v n e1 e2 o1 o2 v1 v2 => by
    obtain ⟨a, h1, h2, h3⟩ := own_arg S r hf e1 o1 v1
    obtain ⟨b, k1, k2, k3⟩ := own_arg S r hf e2 o2 v2
    by_cases z : a = b
    · subst z
      exact n (late_uniq hd h1 k1)
    · exact S.dis a b m m' v z h2 k2 o1 o2 h3 k3
/-- the caller's state behind a call -/
theorem Sim.after {os : List Opd} {ms : List M} {vs : List V} {r : En} (S : Sim T.K T.G pv F env σ H) (ro : RepOs T σ F os vs) (hf : fetchMs env os = some ms) (hd : dup (lates os) = false) (O : Out T.K F H ms vs r F' H') :
    Sim T.K T.G pv F' (outs env os r) σ H' := by
  have hl : ∀ i ∈ lates os, look env i ≠ none := fun i hi z => by
    obtain ⟨k, e⟩ := mem_lates hi
    have hk : k < ms.length := by rw [fetchMs_len hf]; exact lt_of_get e
    obtain ⟨m, em⟩ := get_of_lt hk
    obtain ⟨o, h1, h2⟩ := fetchMs_get hf em
    rw [e] at h1; cases h1
    have z2 : look env i = some m := h2
    rw [z] at z2; cases z2
  have msk : ∀ {k j : Nat} {m0 : M}, os[k]? = some (Opd.late j) → look env j = some m0 → ms[k]? = some m0 := fun {k j m0} e h => by
    have hk : k < ms.length := by rw [fetchMs_len hf]; exact lt_of_get e
    obtain ⟨m, em⟩ := get_of_lt hk
    obtain ⟨o, h1, h2⟩ := fetchMs_get hf em
    rw [e] at h1; cases h1
    have z2 : look env j = some m := h2
    rw [h] at z2; cases z2; exact em
  have vsk : ∀ {k j : Nat}, os[k]? = some (Opd.late j) → ∃ v, vs[k]? = some v ∧ σ[j]? = some (some v) := fun {k j} e => by
    obtain ⟨v, ev⟩ := get_of_lt (xs := vs) (i := k) (by rw [← ro.len]; exact lt_of_get e)
    exact ⟨v, ev, ro.get e ev⟩
  have ownN : ∀ {a : Addr}, ownA ms vs a → ∃ (j : Nat) (m : M), j ∈ lates os ∧ look env j = some m ∧ m.isOwn = true ∧ σ[j]? = some (some (.ref a)) := fun {a} ⟨i, m, e, ow, ev⟩ => by
    obtain ⟨j, h1, h2, h3⟩ := own_arg S ro hf e ow ev
    exact ⟨j, m, lates_mem h1, h2, ow, h3⟩
  have was : ∀ {j : Nat} {m' : M}, look (outs env os r) j = some m' → m'.isOwn = true → ∃ m0, look env j = some m0 ∧ m0.isOwn = true := fun {j m'} h ow => by
    rcases outs_look hd hl h with ⟨k, m0, _, h2, h3, _⟩ | ⟨q, _⟩
    · exact ⟨m0, h2, h3⟩
    · exact ⟨m', q, ow⟩
  refine ⟨O.fh, S.f0.trans O.x, fun a h => ?_, fun a o e n => ?_, fun j m' h => ?_, fun i j m1 m2 v n h1 h2 o1 o2 e1 e2 => ?_, fun j m' a h ow e => ?_, S.prot, by rw [outs_length]; exact S.len⟩
  · rcases O.fn a h with z | z | z
    · exact S.fn a z
    · rcases S.newH z with q | q
      · exact .inr (.inr q)
      · exact .inr (.inl q)
    · obtain ⟨j, m, _, h2, h3, h4⟩ := ownN z
      rcases S.new j m a h2 h3 h4 with q | q
      · exact .inr (.inr q)
      · exact .inr (.inl q)
  · refine O.fr a o (S.fr a o e n) fun z => ?_
    obtain ⟨j, m, _, h2, h3, h4⟩ := ownN z
    rcases S.new j m a h2 h3 h4 with q | q
    · exact n q
    · rw [q] at e; cases e
  · rcases outs_look hd hl h with ⟨k, m0, h1, h2, h3, h4⟩ | ⟨q, z⟩
    · obtain ⟨v, h5, h6⟩ := O.rep k m0 m' (msk h1 h2) h3 h4
      obtain ⟨v2, h7, h8⟩ := vsk h1
      rw [h5] at h7; cases h7
      exact ⟨v, h8, h6⟩
    · obtain ⟨v, ev, rv⟩ := S.rep j m' q
      refine ⟨v, ev, rv.move O.x fun a ow ea => ?_⟩
      subst ea
      obtain ⟨b, u, e2, hu, hf2, _⟩ := S.own q ow
      rw [ev] at e2; cases e2
      have no : ¬ ownA ms vs a := fun w => by
        obtain ⟨j2, m2, h1, h2, h3, h4⟩ := ownN w
        have : j ≠ j2 := fun e => z ow (e ▸ h1)
        exact S.dis j j2 m' m2 _ this q h2 ow h3 ev h4
      refine ⟨by rw [hu]; exact O.fr a u hu no, ?_⟩
      cases fa : F' a with
      | none => rfl
      | some w =>
        rcases O.fn a (by rw [fa]; simp) with y | y | y
        · exact absurd hf2 y
        · rw [y] at hu; cases hu
        · exact absurd y no
  · obtain ⟨m3, h3, o3⟩ := was h1 o1
    obtain ⟨m4, h4, o4⟩ := was h2 o2
    exact S.dis i j m3 m4 v n h3 h4 o3 o4 e1 e2
  · obtain ⟨m3, h3, o3⟩ := was h ow
    exact S.new j m3 a h3 o3 e
theorem Fresh.after {os : List Opd} {ms : List M} {vs : List V} {r : En} {m : M} {v : V} (S : Sim T.K T.G pv F env σ H) (ro : RepOs T σ F os vs) (hf : fetchMs env os = some ms) (hd : dup (lates os) = false)
    (O : Out T.K F H ms vs r F' H') (V : OutV T.K H ms vs r F' H' m v) (ow : m.isOwn = true) : Fresh T.G (outs env os r) σ v := by
  have hl : ∀ i ∈ lates os, look env i ≠ none := fun i hi z => by
    obtain ⟨k, e⟩ := mem_lates hi
    have hk : k < ms.length := by rw [fetchMs_len hf]; exact lt_of_get e
    obtain ⟨m, em⟩ := get_of_lt hk
    obtain ⟨o, h1, h2⟩ := fetchMs_get hf em
    rw [e] at h1; cases h1
    have z2 : look env i = some m := h2
    rw [z] at z2; cases z2
  have ownN : ∀ {a : Addr}, ownA ms vs a → ∃ (j : Nat) (m : M), j ∈ lates os ∧ look env j = some m ∧ m.isOwn = true ∧ σ[j]? = some (some (.ref a)) := fun {a} ⟨i, m, e, ow, ev⟩ => by
    obtain ⟨j, h1, h2, h3⟩ := own_arg S ro hf e ow ev
    exact ⟨j, m, lates_mem h1, h2, ow, h3⟩
  refine ⟨fun j m' h o' e => ?_, fun a ea => ?_⟩
  · rcases outs_look hd hl h with ⟨k, m0, h1, h2, h3, h4⟩ | ⟨q, z⟩
    · obtain ⟨v2, h7⟩ := get_of_lt (xs := vs) (i := k) (by rw [← ro.len]; exact lt_of_get h1)
      have h8 : σ[j]? = some (some v2) := ro.get h1 h7
      rw [e] at h8; cases h8
      have hk : k < ms.length := by rw [fetchMs_len hf]; exact lt_of_get h1
      obtain ⟨mk, em⟩ := get_of_lt hk
      obtain ⟨o, k1, k2⟩ := fetchMs_get hf em
      rw [h1] at k1; cases k1
      have k3 : look env j = some mk := k2
      rw [h2] at k3; cases k3
      exact V.dis ow k m0 m' em h3 h4 o' h7
    · obtain ⟨b, u, e2, hu, _⟩ := S.own q o'
      rw [e] at e2; cases e2
      rcases V.new ow b rfl with w | w
      · obtain ⟨j2, m2, h1, h2, h3, h4⟩ := ownN w
        have : j ≠ j2 := fun e => z o' (e ▸ h1)
        exact S.dis j j2 m' m2 _ this q h2 o' h3 e h4
      · rw [w] at hu; cases hu
  · rcases V.new ow a ea with w | w
    · obtain ⟨j, m2, _, h2, h3, h4⟩ := ownN w
      exact S.new j m2 a h2 h3 h4
    · exact S.newH w
end
end Q1

/-! Q8: the text is the code. -/
namespace Q1
open PySem PySem.Spec PyProof.Rows L2 PySem.SeqAt

structure Txt where
  fns : List Str
  cst : List (Str × D)
  excs : List Str
def visB (sc : Scope) (x : Str) : Bool := match sc.names.lookup x with
  | some .local => true
  | some .cell => true
  | some .free => true
  | _ => false
def locB (sc : Scope) (x : Str) : Bool := match sc.names.lookup x with
  | some .local => true
  | some .cell => true
  | _ => false
def glB (sc : Scope) (x : Str) : Bool := match sc.names.lookup x with
  | some .globalImplicit => true
  | _ => false
def okName (N : List Str) (sc : Scope) (i : Nat) : Expr → Bool
  | .Name x _ => decide (N[i]? = some x) && visB sc x && !(x == ("__debug__" : Str)) && !(x == ("__classdict__" : Str))
  | _ => false
def litOk : D → Const → Bool
  | .int i, .int j => i == j
  | .bool i, .bool j => i == j
  | .none, .none => true
  | .str x, .str y => x == y
  | _, _ => false
def biName : Bi → Option Str
  | .len => some "len" | .abs => some "abs" | .min2 => some "min" | .min2d => some "min" | .max2 => some "max" | .list => some "list" | .tuple => some "tuple" | .int => some "int" | .str => some "str" | .sorted => some "sorted" | .minl => some "min" | .maxl => some "max" | .sum => some "sum"
  | _ => none
def mtName : Mt → Option Str
  | .index => some "index" | .count => some "count" | .join => some "join" | .split => some "split"
  | _ => none
def notStar : Expr → Bool
  | .Starred .. => false
  | _ => true
def notSet : Expr → Bool
  | .Set .. => false
  | _ => true
def notSlice : Expr → Bool
  | .Slice .. => false
  | _ => true
def notCall0 : Expr → Bool
  | .Call (.Name _ _) [] [] _ => false
  | _ => true
def inOp (neg : Bool) : CmpOp := if neg then .NotIn else .In
def isOpnd : Ex → Bool
  | .rf _ => true
  | _ => false
def okNames (N : List Str) (sc : Scope) : List Nat → List Expr → Bool
  | [], [] => true
  | i :: is, .Name x _ :: es => decide (N[i]? = some x) && locB sc x && okNames N sc is es
  | _, _ => false
def okTg (N : List Str) (sc : Scope) : Tg → Expr → Bool
  | .name i, .Name x _ => decide (N[i]? = some x) && locB sc x
  | .tup is, .Tuple es _ _ => okNames N sc is es
  | _, _ => false
/-- a comprehension's own names, by their slots -/
def ownN (N : List Str) (own : List Nat) : List (Str × Nat) := own.map fun i => (N.getD i "", i)
def tgIn (own : List Nat) : Tg → Bool
  | .name i => own.contains i
  | .tup is => is.all own.contains
/-- a test (value or test): what stands for it -/
def cmpPlain : Expr → Bool
  | .UnaryOp .Not _ _ => false
  | .BoolOp .. => false
  | .IfExp .. => false
  | .Compare .. => false
  | _ => true
def revPart : Expr → Option Expr
  | .Subscript e (.Slice none none (some (.UnaryOp .USub (.Constant (.int j) _ _) _)) _) _ => if j = 1 then some e else none
  | _ => none
theorem revPart_is {e b : Expr} (h : revPart e = some b) : ∃ k p1 p2 p3 pos, e = .Subscript b (.Slice none none (some (.UnaryOp .USub (.Constant (.int 1) k p1) p2)) p3) pos := by
  unfold revPart at h
  split at h
  · split at h
    · rename_i hj
      subst hj
      cases h
      exact ⟨_, _, _, _, _, rfl⟩
    · cases h
  · cases h
def rglPart : Expr → Option (List Expr)
  | .Call (.Name x _) [.Call (.Name y _) es [] _] [] _ => if x = ("list" : Str) ∧ y = ("range" : Str) then some es else none
  | _ => none
theorem rglPart_is {e : Expr} {es : List Expr} (h : rglPart e = some es) : ∃ p p2 pos2 pos, e = .Call (.Name "list" p) [.Call (.Name "range" p2) es [] pos2] [] pos := by
  unfold rglPart at h
  split at h
  · split at h
    · rename_i hz
      obtain ⟨rfl, rfl⟩ := hz
      cases h
      exact ⟨_, _, _, _, rfl⟩
    · cases h
  · cases h
def rgtPart : Expr → Option (List Expr)
  | .Call (.Name x _) [.Call (.Name y _) es [] _] [] _ => if x = ("tuple" : Str) ∧ y = ("range" : Str) then some es else none
  | _ => none
theorem rgtPart_is {e : Expr} {es : List Expr} (h : rgtPart e = some es) : ∃ p p2 pos2 pos, e = .Call (.Name "tuple" p) [.Call (.Name "range" p2) es [] pos2] [] pos := by
  unfold rgtPart at h
  split at h
  · split at h
    · rename_i hz
      obtain ⟨rfl, rfl⟩ := hz
      cases h
      exact ⟨_, _, _, _, rfl⟩
    · cases h
  · cases h
def popPart : Expr → Option (Expr × List Expr × Pos × Pos)
  | .Call (.Attribute e m ap) es [] cp => if m = ("pop" : Str) ∧ ap.endLine = cp.line ∧ es.length ≤ 1 then some (e, es, ap, cp) else none
  | _ => none
theorem popPart_is {e o : Expr} {es : List Expr} {ap cp : Pos} (h : popPart e = some (o, es, ap, cp)) : e = .Call (.Attribute o "pop" ap) es [] cp ∧ (ap.endLine == cp.line) = true := by
  unfold popPart at h
  split at h
  · split at h
    · rename_i hz
      obtain ⟨rfl, hl, _⟩ := hz
      cases h
      exact ⟨rfl, by simp [hl]⟩
    · cases h
  · cases h
def lsetPart : Expr → Option Expr
  | .Call (.Name x _) [.Call (.Name y _) [e] [] _] [] _ => if x = ("len" : Str) ∧ y = ("set" : Str) then some e else none
  | _ => none
theorem lsetPart_is {e b : Expr} (h : lsetPart e = some b) : ∃ p p2 pos2 pos, e = .Call (.Name "len" p) [.Call (.Name "set" p2) [b] [] pos2] [] pos := by
  unfold lsetPart at h
  split at h
  · split at h
    · rename_i hz
      obtain ⟨rfl, rfl⟩ := hz
      cases h
      exact ⟨_, _, _, _, rfl⟩
    · cases h
  · cases h
def ssetPart : Expr → Option Expr
  | .Call (.Name x _) [.Call (.Name y _) [e] [] _] [] _ => if x = ("sorted" : Str) ∧ y = ("set" : Str) then some e else none
  | _ => none
theorem ssetPart_is {e b : Expr} (h : ssetPart e = some b) : ∃ p p2 pos2 pos, e = .Call (.Name "sorted" p) [.Call (.Name "set" p2) [b] [] pos2] [] pos := by
  unfold ssetPart at h
  split at h
  · split at h
    · rename_i hz
      obtain ⟨rfl, rfl⟩ := hz
      cases h
      exact ⟨_, _, _, _, rfl⟩
    · cases h
  · cases h
mutual
def okX (Θ : Txt) (N : List Str) (cm : Bool) : Ex → Scope → Expr → Bool
  | .var i, sc, e => okName N sc i e
  | .rf i, sc, e => okName N sc i e
  | .lit d, _, .Constant c _ _ => litOk d c
  | .glob x d, sc, .Name y _ => x == y && glB sc y && !(y == ("__debug__" : Str)) && Θ.cst.any fun p => p.1 == x && beqD p.2 d
  | .bin op a b, sc, .BinOp l o r _ => decide (o = opA op) && okX Θ N cm a sc l && okX Θ N cm b sc r
  | .neg a, sc, .UnaryOp .USub e _ => okX Θ N cm a sc e && !isOpnd a
  | .tv t, sc, e => okV Θ N cm t sc e
  | .ifx t a b, sc, .IfExp c x y _ => okT Θ N cm t sc c && okX Θ N cm a sc x && okX Θ N cm b sc y
  | .call f as, sc, .Call (.Name x _) (e :: es) [] _ => cm && glB sc x && !(x == ("__debug__" : Str)) && decide (Θ.fns[f]? = some x) && okXs Θ N cm as sc (e :: es)
  | .bi b as, sc, .Call (.Name x _) (e :: es) [] _ => cm && glB sc x && (match tyName b with
    | some n => x == ("isinstance" : Str) && (match as, es with
      | .cons a .nil, [.Name y _] => okX Θ N cm a sc e && notStar e && y == Str.ofString n && glB sc y
      | _, _ => false)
    | none => decide (biName b = some x) && okXs Θ N cm as sc (e :: es))
  | .ix a i, sc, .Subscript e s _ => okX Θ N cm a sc e && okX Θ N cm i sc s && notSlice s
  | .dget d k, sc, .Subscript e s _ => okX Θ N cm d sc e && okX Θ N cm k sc s && notSlice s
  | .dgm1 d k, sc, .Call (.Attribute e m ap) [s] [] cp => m == ("get" : Str) && ap.endLine == cp.line && notCall0 e && notStar s && okX Θ N cm d sc e && okX Θ N cm k sc s
  | .dgm2 d k z, sc, .Call (.Attribute e m ap) [s, f] [] cp => m == ("get" : Str) && ap.endLine == cp.line && notCall0 e && notStar s && notStar f && okX Θ N cm d sc e && okX Θ N cm k sc s && okX Θ N cm z sc f
  | .sl a lo hi, sc, .Subscript e (.Slice l h none _) _ => okX Θ N cm a sc e && okO Θ N cm lo sc l && okO Θ N cm hi sc h
  | .rev a, sc, e => (match revPart e with
    | some b => okX Θ N cm a sc b
    | none => false)
  | .tup es, sc, .Tuple xs _ _ => okXs Θ N cm es sc xs
  | .lst es, sc, .List xs _ => okXs Θ N cm es sc xs
  | .rep es b, sc, .BinOp (.List xs _) .Mult r _ => okXs Θ N cm es sc xs && okX Θ N cm b sc r
  | .rep2 a b, sc, .BinOp l .Mult r _ => okX Θ N cm a sc l && okX Θ N cm b sc r
  | .rgl es, sc, e => (match rglPart e with
    | some es' => (match es with
      | .nil => false
      | .cons _ (.cons _ (.cons _ (.cons _ _))) => false
      | _ => cm) && glB sc "list" && glB sc "range" && okXs Θ N cm es sc es'
    | none => false)
  | .rgt es, sc, e => (match rgtPart e with
    | some es' => (match es with
      | .nil => false
      | .cons _ (.cons _ (.cons _ (.cons _ _))) => false
      | _ => cm) && glB sc "tuple" && glB sc "range" && okXs Θ N cm es sc es'
    | none => false)
  | .pop i, sc, e => (match popPart e with
    | some (.Name x p, [], _, _) => okName N sc i (.Name x p)
    | _ => false)
  | .popi i k, sc, e => (match popPart e with
    | some (.Name x p, [f], _, _) => okName N sc i (.Name x p) && notStar f && okX Θ N cm k sc f
    | _ => false)
  | .lset a, sc, e => (match lsetPart e with
    | some e' => cm && glB sc "len" && glB sc "set" && notStar e' && okX Θ N cm a sc e'
    | none => false)
  | .sset a, sc, e => (match ssetPart e with
    | some e' => cm && glB sc "sorted" && glB sc "set" && notStar e' && okX Θ N cm a sc e'
    | none => false)
  | .met m o (.cons a .nil), sc, .Call (.Attribute e n ap) [f] [] cp => decide (mtName m = some n) && ap.endLine == cp.line && notCall0 e && notStar f && okX Θ N cm o sc e && okX Θ N cm a sc f
  | .dict0 _, _, .Dict [] [] _ => true
  | .comp own g it c e, sc, .ListComp elt [⟨tg, iter, ifs, as⟩] scope _ => decide (as = 0) && cm && notSet iter && okI Θ N cm it sc iter && blkC N sc scope (ownN N own) && okTg N scope g tg && tgIn own g &&
      (match c, ifs with
        | .yes, [] => true
        | t, [f] => okT Θ N cm t (relS scope sc) f
        | _, _ => false) && okX Θ N cm e (relS scope sc) elt
  | _, _, _ => false
def okXs (Θ : Txt) (N : List Str) (cm : Bool) : Exs → Scope → List Expr → Bool
  | .nil, _, [] => true
  | .cons a as, sc, e :: es => okX Θ N cm a sc e && notStar e && okXs Θ N cm as sc es
  | _, _, _ => false
def okO (Θ : Txt) (N : List Str) (cm : Bool) : Ox → Scope → Option Expr → Bool
  | .none, _, none => true
  | .some a, sc, some e => okX Θ N cm a sc e
  | _, _, _ => false
/-- as a test -/
def okT (Θ : Txt) (N : List Str) (cm : Bool) : Tx → Scope → Expr → Bool
  | .yes, _, _ => false
  | .val a, sc, e => okX Θ N cm a sc e && cmpPlain e
  | .tru a, sc, e => okX Θ N cm a sc e && cmpPlain e
  | .cmp op a b, sc, .Compare l [o] [r] _ => decide (o = opC op) && okX Θ N cm a sc l && okX Θ N cm b sc r && notSet r
  | .din neg a d, sc, .Compare l [o] [r] _ => decide (o = inOp neg) && okX Θ N cm a sc l && okX Θ N cm d sc r && notSet r
  | .chain op op2 a b c, sc, .Compare l [o, o2] [m, r] _ => decide (o = opC op) && decide (o2 = opC op2) && okX Θ N cm a sc l && okX Θ N cm b sc m && okX Θ N cm c sc r && notSet m && notSet r
  | .and a b, sc, .BoolOp .And (x :: y :: r) p => okT Θ N cm a sc x && okT Θ N cm b sc (.BoolOp .And (y :: r) p)
  | .or a b, sc, .BoolOp .Or (x :: y :: r) p => okT Θ N cm a sc x && okT Θ N cm b sc (.BoolOp .Or (y :: r) p)
  | .one a, sc, .BoolOp _ [x] _ => okT Θ N cm a sc x
  | .not a, sc, .UnaryOp .Not x _ => okT Θ N cm a sc x
  | _, _, _ => false
/-- as a value -/
def okV (Θ : Txt) (N : List Str) (cm : Bool) : Tx → Scope → Expr → Bool
  | .val a, sc, e => okX Θ N cm a sc e
  | .cmp op a b, sc, .Compare l [o] [r] _ => decide (o = opC op) && okX Θ N cm a sc l && okX Θ N cm b sc r && notSet r
  | .din neg a d, sc, .Compare l [o] [r] _ => decide (o = inOp neg) && okX Θ N cm a sc l && okX Θ N cm d sc r && notSet r
  | .chain op op2 a b c, sc, .Compare l [o, o2] [m, r] _ => decide (o = opC op) && decide (o2 = opC op2) && okX Θ N cm a sc l && okX Θ N cm b sc m && okX Θ N cm c sc r && notSet m && notSet r
  | .and a b, sc, .BoolOp .And (x :: y :: r) p => okV Θ N cm a sc x && okV Θ N cm b sc (.BoolOp .And (y :: r) p)
  | .or a b, sc, .BoolOp .Or (x :: y :: r) p => okV Θ N cm a sc x && okV Θ N cm b sc (.BoolOp .Or (y :: r) p)
  | .one a, sc, .BoolOp _ [x] _ => okV Θ N cm a sc x
  | .not a, sc, .UnaryOp .Not x _ => okV Θ N cm a sc x || okN Θ N cm a sc x
  | _, _, _ => false
/-- behind a not -/
def okN (Θ : Txt) (N : List Str) (cm : Bool) : Tx → Scope → Expr → Bool
  | .tru a, sc, e => okX Θ N cm a sc e
  | _, _, _ => false
def okI (Θ : Txt) (N : List Str) (cm : Bool) : Itx → Scope → Expr → Bool
  | .seq a, sc, e => okX Θ N cm a sc e
  | .chars a, sc, e => okX Θ N cm a sc e
  | .rev a, sc, .Call (.Name x _) [e] [] _ => x == ("reversed" : Str) && glB sc x && okX Θ N cm a sc e && notStar e
  | .range (.cons a .nil), sc, .Call (.Name x _) [e] [] _ => x == ("range" : Str) && glB sc x && okX Θ N cm a sc e && notStar e
  | .range (.cons a (.cons b .nil)), sc, .Call (.Name x _) [e, f] [] _ => x == ("range" : Str) && glB sc x && okX Θ N cm a sc e && notStar e && okX Θ N cm b sc f && notStar f
  | .range (.cons a (.cons b (.cons c .nil))), sc, .Call (.Name x _) [e, f, g] [] _ => x == ("range" : Str) && glB sc x && okX Θ N cm a sc e && notStar e && okX Θ N cm b sc f && notStar f && okX Θ N cm c sc g && notStar g
  | _, _, _ => false
end
end Q1

/-! Q9: expressions, step by step. -/
namespace Q1
open PySem PySem.Spec PyProof.Rows L2 PySem.SeqAt

abbrev EV (X : Cx) (G0 : Gh) (C : PC) (cls : Nat → Value) : Ev := ⟨X.K, G0, C, cls⟩
section
variable {X : Cx} {G0 : Gh} {C : PC} {cls : Nat → Value} {W : WX}
theorem snd_bin {op : Bop} {a b : Ex} {ea eb : Expr} {pos : Pos} (ha : PE X ea (tO (EV X G0 C cls) W (opd a (evX C a)))) (hb : PE X eb (tO (EV X G0 C cls) W (opd b (evX C b)))) :
    PE X (.BinOp ea (opA op) eb pos) (tX (EV X G0 C cls) W (evX C (.bin op a b))) := by
  refine PE.imp (pe_op (op_bin op) ha hb) fun σ H Q ⟨G, pv, F, env, S, h⟩ => ⟨G, pv, F, env, S, ?_⟩
  refine Post.imp (Post.bind h) Ext.refl fun o1 e1 h1 v F1 H1 S1 x1 r1 => ⟨G, pv, F1, e1, S1, ?_⟩
  refine Post.imp (Post.bind h1) x1 fun o2 e2 h2 u F2 H2 S2 x2 r2 => ?_
  cases ed : fetch e2 o1 with
  | none => rw [ed] at h2; exact h2.elim
  | some dx =>
    cases ee : fetch e2 o2 with
    | none => rw [ed, ee] at h2; exact h2.elim
    | some dy =>
      rw [ed, ee] at h2
      cases em : binO op dx dy with
      | none => rw [show (some dx).bind (fun dx => (some dy).bind fun dy => binO op dx dy) = binO op dx dy from rfl, em] at h2; exact h2.elim
      | some m =>
        rw [show (some dx).bind (fun dx => (some dy).bind fun dy => binO op dx dy) = binO op dx dy from rfl, em] at h2
        exact ⟨F2, dx, dy, m, S2.fh, fetch_rep S2 (r1.ext x2) ed, fetch_rep S2 r2 ee, em, PN.of (T := (EV X G0 C cls).at G) S2 (x1.trans x2) h2⟩

theorem nameOk {N : List Str} {sc : Scope} {i : Nat} {e : Expr} (h : okName N sc i e = true) : ∃ x p, e = .Name x p ∧ N[i]? = some x ∧ Vis sc x ∧ (x == ("__debug__" : Str)) = false ∧ (x == ("__classdict__" : Str)) = false := by
  unfold okName at h
  split at h
  · rename_i x p
    simp only [Bool.and_eq_true, decide_eq_true_eq, Bool.not_eq_true'] at h
    obtain ⟨⟨⟨h1, h2⟩, h3⟩, h4⟩ := h
    refine ⟨x, p, rfl, h1, ?_, h3, h4⟩
    unfold visB at h2
    split at h2
    · exact .inl (by assumption)
    · exact .inr (.inl (by assumption))
    · exact .inr (.inr (by assumption))
    · cases h2
  · cases h
theorem glOk {X : Cx} {sc : Scope} {x : Str} (hs : X.env.scope = sc) (h : glB sc x = true) : Gl X x := by
  unfold glB at h
  split at h
  · show X.env.scope.names.lookup x = _
    rw [hs]; assumption
  · cases h
theorem snd_name {i : Nat} {x : Str} {p : Pos} (hN : X.N[i]? = some x) (hv : Vis X.env.scope x) (h1 : (x == ("__debug__" : Str)) = false) (h2 : (x == ("__classdict__" : Str)) = false) :
    PE X (.Name x p) (tX (EV X G0 C cls) W (evX C (.var i))) ∧ PE X (.Name x p) (tX (EV X G0 C cls) W (evX C (.rf i))) ∧ PE X (.Name x p) (tO (EV X G0 C cls) W (opd (.rf i) (evX C (.rf i)))) := by
  have pe : PE X (.Name x p) (tVar i) := pe_var hN hv h1 h2
  refine ⟨PE.imp pe fun σ H Q ⟨G, pv, F, env, S, h⟩ => ?_, PE.imp pe fun σ H Q ⟨G, pv, F, env, S, h⟩ => ?_, PE.imp pe fun σ H Q ⟨G, pv, F, env, S, h⟩ => ?_⟩
  · unfold evX at h
    cases e : look env i with
    | none => rw [e] at h; exact h.elim
    | some m =>
      rw [e] at h
      have own : m.isOwn = true → PM ((EV X G0 C cls).at G) pv σ F (.p m.toD) (put env i (some (.p m.toD))) Q → ∃ v, σ[i]? = some (some v) ∧ Q v H := fun ow h => by
        obtain ⟨a, u, h1, h2, h3, h4, _⟩ := S.own e ow
        exact ⟨.ref a, h1, h _ _ _ (S.freeze e ow h1 h2) (Ext.upd h3) (h4.freeze ow h2) fun z => by cases z⟩
      cases m with
      | p d =>
        obtain ⟨v, h1, h2⟩ := S.rep i _ e
        exact ⟨v, h1, h v F H S Ext.refl h2 fun z => by cases z⟩
      | ol xs => exact own rfl h
      | od t xs => exact own rfl h
  · unfold evX at h
    cases e : look env i with
    | none => rw [e] at h; exact h.elim
    | some m =>
      rw [e] at h
      cases m with
      | p d =>
        obtain ⟨v, h1, h2⟩ := S.rep i _ e
        exact ⟨v, h1, h v F H S Ext.refl h2 fun z => by cases z⟩
      | ol xs =>
        obtain ⟨v, h1, h2⟩ := S.rep i _ e
        exact ⟨v, h1, h v F H (S.forget i) Ext.refl h2 fun ow => ⟨fun j m' hj oj ej => by
          rcases look_put hj with ⟨_, q, _⟩ | ⟨n, q⟩
          · cases q
          · exact S.dis j i m' _ v n q e oj ow ej h1, fun a ea => S.new i _ a e ow (by rw [← ea]; exact h1)⟩⟩
      | od t xs =>
        obtain ⟨v, h1, h2⟩ := S.rep i _ e
        exact ⟨v, h1, h v F H (S.forget i) Ext.refl h2 fun ow => ⟨fun j m' hj oj ej => by
          rcases look_put hj with ⟨_, q, _⟩ | ⟨n, q⟩
          · cases q
          · exact S.dis j i m' _ v n q e oj ow ej h1, fun a ea => S.new i _ a e ow (by rw [← ea]; exact h1)⟩⟩
  · unfold opd at h
    cases e : look env i with
    | none => simp only [e] at h; exact h.elim
    | some m =>
      simp only [e] at h
      obtain ⟨v, h1, h2⟩ := S.rep i _ e
      exact ⟨v, h1, h v F H S Ext.refl h1⟩
/-- an operand that is no name handed over -/
theorem snd_opd {a : Ex} {e : Expr} (hn : isOpnd a = false) (h : PE X e (tX (EV X G0 C cls) W (evX C a))) : PE X e (tO (EV X G0 C cls) W (opd a (evX C a))) := by
  refine PE.imp h fun σ H Q ⟨G, pv, F, env, S, h⟩ => ⟨G, pv, F, env, S, ?_⟩
  have e2 : opd a (evX C a) env = (evX C a env).bind fun m e => .ok (.val m.toD) e := by
    cases a <;> first | rfl | cases hn
  rw [e2] at h
  exact Post.imp (Post.bind h) Ext.refl fun m e1 h1 => PM.frozen h1
theorem snd_lit {d : D} {c : Const} {k : Nat} {p : Pos} (h : litOk d c = true) : PE X (.Constant c k p) (tX (EV X G0 C cls) W (evX C (.lit d))) := by
  unfold litOk at h
  split at h
  · have e := eq_of_beq h; subst e
    exact PE.imp pe_int fun σ H Q ⟨G, pv, F, env, S, h⟩ => h _ F H S Ext.refl rfl fun z => by cases z
  · have e := eq_of_beq h; subst e
    exact PE.imp pe_bl fun σ H Q ⟨G, pv, F, env, S, h⟩ => h _ F H S Ext.refl rfl fun z => by cases z
  · exact PE.imp pe_non fun σ H Q ⟨G, pv, F, env, S, h⟩ => h _ F H S Ext.refl rfl fun z => by cases z
  · have e := eq_of_beq h; subst e
    exact PE.imp pe_str fun σ H Q ⟨G, pv, F, env, S, h⟩ => h _ F H S Ext.refl rfl fun z => by cases z
  · cases h
theorem snd_glob {x : Str} {d : D} {p : Pos} {u : Value} {v : V} (hg : Gl X x) (hm : X.mg x = some u) (r : RelV v u) (hd : (x == ("__debug__" : Str)) = false) (rd : Rep X.K (fun _ => none) d v) : PE X (.Name x p) (tX (EV X G0 C cls) W (evX C (.glob x d))) :=
  PE.imp (pe_glob hg hm r hd) fun σ H Q ⟨G, pv, F, env, S, h⟩ => h _ F H S Ext.refl (Rep.ext (fun _ _ z => by cases z) rd) fun z => by cases z
theorem snd_neg {a : Ex} {e : Expr} {p : Pos} (ha : PE X e (tX (EV X G0 C cls) W (evX C a))) : PE X (.UnaryOp .USub e p) (tX (EV X G0 C cls) W (evX C (.neg a))) := by
  refine PE.imp (pe_un un_neg ha) fun σ H Q ⟨G, pv, F, env, S, h⟩ => ⟨G, pv, F, env, S, ?_⟩
  unfold evX at h
  refine Post.imp (Post.bind h) Ext.refl fun m e1 h1 => PM.frozen fun v F1 H1 S1 x1 r1 => ?_
  generalize m.toD = d at h1 r1
  cases d with
  | int i =>
    cases (show v = _ from r1)
    exact ⟨i, rfl, h1 _ F1 H1 S1 x1 rfl fun z => by cases z⟩
  | _ => exact h1.elim
theorem snd_ifx {t : Tx} {a b : Ex} {ec ea eb : Expr} {p : Pos} (hc : PT X ec (tT (EV X G0 C cls) W (evT C t))) (ha : PE X ea (tX (EV X G0 C cls) W (evX C a))) (hb : PE X eb (tX (EV X G0 C cls) W (evX C b))) :
    PE X (.IfExp ec ea eb p) (tX (EV X G0 C cls) W (evX C (.ifx t a b))) := by
  refine PE.imp (pe_ifExp hc ha hb) fun σ H Q ⟨G, pv, F, env, S, h⟩ => ⟨G, pv, F, env, S, ?_⟩
  unfold evX at h
  refine Post.imp (Post.bind h) Ext.refl fun c e1 h1 F1 H1 S1 x1 => ?_
  cases c with
  | true => exact ⟨G, pv, F1, e1, S1, PostX.ext h1 x1⟩
  | false => exact ⟨G, pv, F1, e1, S1, PostX.ext h1 x1⟩
/-! arguments -/
theorem snd_nil : PA X [] (tOs (EV X G0 C cls) W (evOs C .nil)) := PA.imp pa_nil fun σ H Q ⟨G, pv, F, env, S, h⟩ => h [] F H S Ext.refl rfl
theorem star_of {e : Expr} {es : List Expr} {env : Env} (h : notStar e = true) : starEach (e :: es) env = (false, eval e env) :: starEach es env := by
  cases e <;> first | rfl | cases h
theorem snd_cons {a : Ex} {as : Exs} {e : Expr} {es : List Expr} (hs : notStar e = true) (ha : PE X e (tO (EV X G0 C cls) W (opd a (evX C a)))) (hr : PA X es (tOs (EV X G0 C cls) W (evOs C as))) :
    PA X (e :: es) (tOs (EV X G0 C cls) W (evOs C (.cons a as))) := by
  refine PA.imp (pa_cons ha hr (star_of hs)) fun σ H Q ⟨G, pv, F, env, S, h⟩ => ⟨G, pv, F, env, S, ?_⟩
  unfold evOs at h
  refine Post.imp (Post.bind h) Ext.refl fun o e1 h1 v F1 H1 S1 x1 r1 => ⟨G, pv, F1, e1, S1, ?_⟩
  refine Post.imp (Post.bind h1) x1 fun os e2 h2 vs F2 H2 S2 x2 r2 => ?_
  exact h2 (v :: vs) F2 H2 S2 (x1.trans x2) ⟨v, vs, rfl, r1.ext x2, r2⟩
theorem fetchs_rep {T : Ev} {pv : List (Nat × V)} {σ : St} {F H : Hp} {env : En} (S : Sim T.K T.G pv F env σ H) : ∀ {os : List Opd} {vs : List V} {ds : List D}, RepOs T σ F os vs → fetchs env os = some ds → ROs T.K F H ds vs
  | [], _, _, h, e => by cases e; exact h
  | o :: os, _, ds, ⟨v, r, e, h, t⟩, q => by
    obtain ⟨d, h1, h2⟩ := Option.bind_eq_some_iff.mp q
    obtain ⟨ds', h3, rfl⟩ := Option.map_eq_some_iff.mp h2
    exact ⟨v, r, e, fetch_rep S h h1, fetchs_rep S t h3⟩
theorem vals_rep {T : Ev} {σ : St} {F : Hp} : ∀ {os : List Opd} {vs : List V} {ds : List D}, RepOs T σ F os vs → vals os = some ds → Reps T.K F ds vs
  | [], _, _, h, e => by cases e; exact h
  | .val d :: os, _, ds, ⟨v, r, e, h, t⟩, q => by
    obtain ⟨ds', h3, rfl⟩ := Option.map_eq_some_iff.mp q
    exact ⟨v, r, e, h, vals_rep t h3⟩
  | .late _ :: _, _, _, _, q => by cases q
theorem Post.ofO {α : Type} {T : Ev} {pv : List (Nat × V)} {σ : St} {F : Hp} {o : Option α} {env : En} {P : α → En → Prop} (h : Post T pv W σ F (Q1.ofO o env) P) : ∃ m, o = some m ∧ P m env := by
  cases o with
  | none => exact h.elim
  | some m => exact ⟨m, rfl, h⟩
theorem snd_call {f : Nat} {as : Exs} {x : Str} {p pos : Pos} {e : Expr} {es : List Expr} {k : Nat} {fa : Addr} {fd : FuncData} {ps : List Str} (tk : Takes X W) (F : FnOk X.prog X.w X.K X.mg X.base (L2.CX X.prog X.w) k fa fd ps (spF X.K cls (C.call f))) (hr : Room k X.A) (hg : Gl X x)
    (hm : X.mg x = some (.ref fa)) (hk : PySem.W.keepIn X.K (.ref fa) = true) (hb : Binds X.K fd ps []) (hd : (x == ("__debug__" : Str)) = false) (hs : notStar e = true) (hpl : (backTo pos (starEach es X.env)).any (·.1) = false)
    (ha : PA X (e :: es) (tOs (EV X G0 C cls) W (evOs C as))) : PE X (.Call (.Name x p) (e :: es) [] pos) (tX (EV X G0 C cls) W (evX C (.call f as))) := by
  refine PE.imp (pe_callS F hr hg hm hk hb (fun σ => passAt tk σ) ha hd (star_of hs) hpl) fun σ H Q ⟨G, pv, F, env, S, h⟩ => ⟨G, pv, F, env, S, ?_⟩
  unfold evX at h
  refine Post.imp (Post.bind h) Ext.refl fun os e1 h1 vs F1 H1 S1 x1 r1 => ?_
  cases ef : fetchMs e1 os with
  | none => simp only [ef] at h1; exact h1.elim
  | some ms =>
    simp only [ef] at h1
    cases ed : dup (lates os) with
    | true => rw [ed, if_pos rfl] at h1; exact h1.elim
    | false =>
      rw [ed, if_neg Bool.false_ne_true] at h1
      refine ⟨F1, ms, Inn.of S1 r1 ef ed, ?_⟩
      cases ec : C.call f ms with
      | ok m r =>
        simp only [ec] at h1
        intro v F2 H2 O V
        exact h1 v F2 H2 (Sim.after S1 r1 ef ed O) (x1.trans O.x) V.rep fun ow => Fresh.after S1 r1 ef ed O V ow
      | exc c r =>
        simp only [ec] at h1
        intro F2 H2 O
        exact h1 F2 H2 (Sim.after S1 r1 ef ed O) (x1.trans O.x)
      | bad => simp only [ec] at h1; exact h1.elim
theorem bi_imp {b : Bi} {as : Exs} {σ : St} {H : Hp} {Q : VK} (h : tX (EV X G0 C cls) W (evX C (.bi b as)) σ H Q) : tCB (rBi X.K b) (tOs (EV X G0 C cls) W (evOs C as)) σ H Q := by
  obtain ⟨G, pv, F, env, S, h⟩ := h
  refine ⟨G, pv, F, env, S, ?_⟩
  unfold evX at h
  refine Post.imp (Post.bind h) Ext.refl fun os e1 h1 vs F1 H1 S1 x1 r1 => ?_
  obtain ⟨m, em, h2⟩ := Post.ofO h1
  obtain ⟨ds, h3, h4⟩ := Option.bind_eq_some_iff.mp em
  have hr : ROs X.K F1 H1 ds vs := by
    cases b with
    | min2d => exact Reps.os S1.fh (vals_rep r1 (show vals os = some ds from h3))
    | _ => exact fetchs_rep S1 r1 h3
  exact ⟨F1, ds, m, S1.fh, hr, h4, PN.of (T := (EV X G0 C cls).at G) S1 x1 h2⟩
theorem bi_impF {as : Exs} {σ : St} {H : Hp} {Q : VK} (h : tX (EV X G0 C cls) W (evX C (.bi .min2d as)) σ H Q) : tCB (rBiF X.K .min2d) (tOs (EV X G0 C cls) W (evOs C as)) σ H Q := by
  obtain ⟨G, pv, F, env, S, h⟩ := h
  refine ⟨G, pv, F, env, S, ?_⟩
  unfold evX at h
  refine Post.imp (Post.bind h) Ext.refl fun os e1 h1 vs F1 H1 S1 x1 r1 => ?_
  obtain ⟨m, em, h2⟩ := Post.ofO h1
  obtain ⟨ds, h3, h4⟩ := Option.bind_eq_some_iff.mp em
  exact ⟨F1, ds, m, S1.fh, vals_rep r1 (show vals os = some ds from h3), h4, PN.of (T := (EV X G0 C cls).at G) S1 x1 h2⟩
theorem snd_is {b : Bi} {n : String} {a : Ex} {e : Expr} {p p2 pos : Pos} (hn : tyName b = some n) (hg : Gl X "isinstance") (hm : X.mg "isinstance" = none) (hg2 : Gl X (Str.ofString n)) (hm2 : X.mg (Str.ofString n) = none) (hs : notStar e = true)
    (ha : PE X e (tO (EV X G0 C cls) W (opd a (evX C a)))) : PE X (.Call (.Name "isinstance" p) [e, .Name (Str.ofString n) p2] [] pos) (tX (EV X G0 C cls) W (evX C (.bi b (.cons a .nil)))) := by
  have hty : PE X (.Name (Str.ofString n) p2) (tC (.ty n)) := by
    cases b <;> cases hn <;> exact pe_bltn hg2 hm2 (u := .type _) (by decide +kernel) rfl
  refine PE.imp (pe_callB (bi_is b n hn) hg hm (by decide +kernel) (pa_cons ha (pa_cons hty pa_nil) (star_of hs)) (he := star_of hs)) fun σ H Q ⟨G, pv, F, env, S, h⟩ => ⟨G, pv, F, env, S, ?_⟩
  unfold evX evOs evOs at h
  refine Post.imp (Post.bind (Post.bind h)) Ext.refl fun o e1 h1 v F1 H1 S1 x1 r1 => ?_
  have h1' : Post ((EV X G0 C cls).at G) pv W σ F (Q1.ofO ((opsOf b e1 [o]).bind (biO b)) e1) _ := h1
  obtain ⟨m, em, h2⟩ := Post.ofO h1'
  obtain ⟨ds, h3, h4⟩ := Option.bind_eq_some_iff.mp em
  have h3 : fetchs e1 [o] = some ds := by cases b <;> cases hn <;> exact h3
  obtain ⟨d, h5, h6⟩ := Option.bind_eq_some_iff.mp h3
  cases h6
  refine ⟨F1, d, v, rfl, S1.fh, fetch_rep S1 r1 h5, ?_⟩
  have h7 : m = .p (.bool (isTy b d)) := by cases b <;> cases hn <;> cases h4 <;> rfl
  subst h7
  exact (PN.of (T := (EV X G0 C cls).at G) S1 x1 h2).val rfl
theorem snd_ix {a i : Ex} {ea ei : Expr} {p : Pos} (hs : notSlice ei = true) (ha : PE X ea (tO (EV X G0 C cls) W (opd a (evX C a)))) (hi : PE X ei (tO (EV X G0 C cls) W (opd i (evX C i)))) :
    PE X (.Subscript ea ei p) (tX (EV X G0 C cls) W (evX C (.ix a i))) := by
  have hp : PlainIx ei := fun o i => by cases ei <;> first | rfl | cases hs
  refine PE.imp (pe_ix ix_o ha hi hp) fun σ H Q ⟨G, pv, F, env, S, h⟩ => ⟨G, pv, F, env, S, ?_⟩
  unfold evX at h
  refine Post.imp (Post.bind h) Ext.refl fun o1 e1 h1 v F1 H1 S1 x1 r1 => ⟨G, pv, F1, e1, S1, ?_⟩
  refine Post.imp (Post.bind h1) x1 fun o2 e2 h2 u F2 H2 S2 x2 r2 => ?_
  obtain ⟨m, em, h3⟩ := Post.ofO h2
  obtain ⟨dx, h4, em⟩ := Option.bind_eq_some_iff.mp em
  obtain ⟨dy, h5, em⟩ := Option.bind_eq_some_iff.mp em
  obtain ⟨d, h6, rfl⟩ := Option.map_eq_some_iff.mp em
  exact ⟨F2, dx, dy, d, S2.fh, fetch_rep S2 (r1.ext x2) h4, fetch_rep S2 r2 h5, h6, fun v rv => h3 v F2 H2 S2 (x1.trans x2) rv fun z => by cases z⟩
theorem snd_ox {o : Ox} {e : Option Expr} (h : match o, e with | .none, none => True | .some a, some e => PE X e (tX (EV X G0 C cls) W (evX C a)) | _, _ => False) : PO X e (tT (EV X G0 C cls) W (evO C o)) := by
  cases o with
  | none =>
    cases e with
    | none => exact ⟨fun pins s σ H Q I ⟨G, pv, F, env, S, h⟩ => po_none.run pins s σ H Q I (h F H S Ext.refl)⟩
    | some e => exact h.elim
  | some a =>
    cases e with
    | none => exact h.elim
    | some e =>
      refine ⟨fun pins s σ H Q I ⟨G, pv, F, env, S, q⟩ => (po_some h).run pins s σ H Q I ⟨G, pv, F, env, S, ?_⟩⟩
      unfold evO at q
      refine Post.imp (Post.bind q) Ext.refl fun m e1 h1 => PM.frozen fun v F1 H1 S1 x1 r1 => ?_
      generalize m.toD = d at h1 r1
      cases d with
      | int i =>
        cases (show v = _ from r1)
        exact ⟨i, rfl, h1 F1 H1 S1 x1⟩
      | _ => exact h1.elim
theorem snd_sl {a : Ex} {lo hi : Ox} {ea : Expr} {el eh : Option Expr} {p p2 : Pos} (ha : PE X ea (tO (EV X G0 C cls) W (opd a (evX C a)))) (hl : PO X el (tT (EV X G0 C cls) W (evO C lo))) (hh : PO X eh (tT (EV X G0 C cls) W (evO C hi))) :
    PE X (.Subscript ea (.Slice el eh none p2) p) (tX (EV X G0 C cls) W (evX C (.sl a lo hi))) := by
  refine PE.imp (pe_slice sl_o ha hl hh) fun σ H Q ⟨G, pv, F, env, S, h⟩ => ⟨G, pv, F, env, S, ?_⟩
  unfold evX at h
  refine Post.imp (Post.bind h) Ext.refl fun o1 e1 h1 v F1 H1 S1 x1 r1 => ⟨G, pv, F1, e1, S1, ?_⟩
  refine Post.imp (Post.bind h1) x1 fun l e2 h2 F2 H2 S2 x2 => ⟨G, pv, F2, e2, S2, ?_⟩
  refine Post.imp (Post.bind h2) (x1.trans x2) fun r e3 h3 F3 H3 S3 x3 => ?_
  obtain ⟨m, em, h4⟩ := Post.ofO h3
  obtain ⟨dx, h5, em⟩ := Option.bind_eq_some_iff.mp em
  exact ⟨F3, dx, m, S3.fh, fetch_rep S3 (r1.ext (x2.trans x3)) h5, em, PN.of (T := (EV X G0 C cls).at G) S3 (x1.trans (x2.trans x3)) h4⟩
theorem snd_rev {a : Ex} {e : Expr} {k : Nat} {p1 p2 p3 pos : Pos} (ha : PE X e (tX (EV X G0 C cls) W (evX C a))) :
    PE X (.Subscript e (.Slice none none (some (.UnaryOp .USub (.Constant (.int 1) k p1) p2)) p3) pos) (tX (EV X G0 C cls) W (evX C (.rev a))) := by
  refine PE.imp (pe_revL ha) fun σ H Q ⟨G, pv, F, env, S, h⟩ => ⟨G, pv, F, env, S, ?_⟩
  unfold evX at h
  refine Post.imp (Post.bind h) Ext.refl fun m e1 h1 => PM.frozen fun v F1 H1 S1 x1 r1 => ?_
  obtain ⟨m', em, h2⟩ := Post.ofO h1
  generalize m.toD = d at em r1
  cases d with
  | list ds =>
    cases em
    obtain ⟨b, vs, rfl, q, r⟩ := r1
    exact ⟨b, vs, rfl, SqL.ext S1.fh q, fun p hp => (PN.of (T := (EV X G0 C cls).at G) S1 x1 h2) p _ hp r.reverse⟩
  | _ => cases em
theorem snd_tup {as : Exs} {es : List Expr} {n : Nat} {p : Pos} (ha : PA X es (tOs (EV X G0 C cls) W (evOs C as))) : PE X (.Tuple es n p) (tX (EV X G0 C cls) W (evX C (.tup as))) := by
  refine PE.imp (pe_tup ha) fun σ H Q ⟨G, pv, F, env, S, h⟩ => ⟨G, pv, F, env, S, ?_⟩
  unfold evX at h
  refine Post.imp (Post.bind h) Ext.refl fun os e1 h1 vs F1 H1 S1 x1 r1 => ?_
  obtain ⟨m, em, h2⟩ := Post.ofO h1
  obtain ⟨ds, h3, em⟩ := Option.bind_eq_some_iff.mp em
  have rr := vals_rep r1 h3
  split at em
  · rename_i hz
    cases em
    exact ⟨by rw [← rr.length]; exact hz, fun p hp => (PN.of (T := (EV X G0 C cls).at G) S1 x1 h2).tup rr hp S1.fh⟩
  · cases em
theorem snd_lst {as : Exs} {es : List Expr} {p : Pos} (ha : PA X es (tOs (EV X G0 C cls) W (evOs C as))) : PE X (.List es p) (tX (EV X G0 C cls) W (evX C (.lst as))) := by
  refine PE.imp (pe_lst ha) fun σ H Q ⟨G, pv, F, env, S, h⟩ => ⟨G, pv, F, env, S, ?_⟩
  unfold evX at h
  refine Post.imp (Post.bind h) Ext.refl fun os e1 h1 vs F1 H1 S1 x1 r1 => ?_
  obtain ⟨m, em, h2⟩ := Post.ofO h1
  obtain ⟨ds, h3, em⟩ := Option.bind_eq_some_iff.mp em
  have rr := vals_rep r1 h3
  split at em
  · rename_i hz
    cases em
    exact ⟨by rw [← rr.length]; exact hz, fun p hp => (PN.of (T := (EV X G0 C cls).at G) S1 x1 h2) p vs hp rr⟩
  · cases em
theorem snd_dict0 {t : Bool} {p : Pos} : PE X (.Dict [] [] p) (tX (EV X G0 C cls) W (evX C (.dict0 t))) := by
  cases t with
  | false => exact PE.imp pe_dnewK fun σ H Q ⟨G, pv, F, env, S, h⟩ p hp => (PN.of (T := (EV X G0 C cls).at G) S Ext.refl h) p _ hp (.inl ⟨rfl, [], rfl, rfl⟩)
  | true => exact PE.imp pe_dnewT fun σ H Q ⟨G, pv, F, env, S, h⟩ p hp => (PN.of (T := (EV X G0 C cls).at G) S Ext.refl h) p _ hp (.inr ⟨rfl, [], rfl, rfl⟩)
theorem snd_rep {as : Exs} {es : List Expr} {b : Ex} {eb : Expr} {p pos : Pos} (ha : PA X es (tOs (EV X G0 C cls) W (evOs C as))) (hb : PE X eb (tX (EV X G0 C cls) W (evX C b))) : PE X (.BinOp (.List es p) .Mult eb pos) (tX (EV X G0 C cls) W (evX C (.rep as b))) := by
  refine PE.imp (pe_op op_rep (pe_lst ha) hb) fun σ H Q ⟨G, pv, F, env, S, h⟩ => ⟨G, pv, F, env, S, ?_⟩
  unfold evX at h
  refine Post.imp (Post.bind h) Ext.refl fun os e1 h1 vs F1 H1 S1 x1 r1 => ?_
  obtain ⟨ds, em, h2⟩ := Post.ofO (Post.bind h1)
  obtain ⟨ds', h4, em⟩ := Option.bind_eq_some_iff.mp em
  split at em
  · rename_i hz
    cases em
    have rr := vals_rep r1 h4
    refine ⟨by rw [← rr.length]; exact hz, fun q hq => ⟨G, pv, upd F1 q (.lst vs), e1, S1.laidF hq, ?_⟩⟩
    refine Post.imp (Post.bind h2) (x1.trans (Ext.upd (S1.fh.no hq))) fun m e2 h3 => PM.frozen fun v F2 H2 S2 x2 r2 => ?_
    obtain ⟨m2, em, h5⟩ := Post.ofO h3
    have x3 : Ext F1 F2 := (Ext.upd (S1.fh.no hq)).trans x2
    generalize m.toD = d at em r2
    cases d with
    | int i =>
      simp only at em
      split at em
      · rename_i hy
        cases em
        cases (show v = _ from r2)
        refine ⟨q, i, vs, rfl, rfl, S2.fh _ _ (x2 _ _ upd_same), hy.1.1, hy.1.2, by rw [← rr.length]; exact hy.2, fun p hp => ?_⟩
        exact (PN.of (T := (EV X G0 C cls).at G) S2 (x1.trans x3) h5) p _ hp (Reps.flat (Reps.ext x3 rr))
      · cases em
    | _ => cases em
  · cases em

theorem snd_rep2 {a b : Ex} {ea eb : Expr} {pos : Pos} (ha : PE X ea (tX (EV X G0 C cls) W (evX C a))) (hb : PE X eb (tX (EV X G0 C cls) W (evX C b))) : PE X (.BinOp ea .Mult eb pos) (tX (EV X G0 C cls) W (evX C (.rep2 a b))) := by
  refine PE.imp (pe_op op_rep ha hb) fun σ H Q ⟨G, pv, F, env, S, h⟩ => ⟨G, pv, F, env, S, ?_⟩
  unfold evX at h
  refine Post.imp (Post.bind h) Ext.refl fun m0 e1 h1 v F1 H1 S1 x1 r1 fr => ?_
  cases m0 with
  | p d => exact h1.elim
  | od t kvs => exact h1.elim
  | ol ds =>
    obtain ⟨q, vs, rfl, hq, rr, hf⟩ := r1
    obtain ⟨f1, f2⟩ := fr rfl
    have S1' := S1.freezeAt hq hf (f2 q rfl) fun i m' z1 z2 z3 => f1 i m' z1 z2 z3
    refine ⟨G, pv, upd F1 q (.lst vs), e1, S1', ?_⟩
    refine Post.imp (Post.bind h1) (x1.trans (Ext.upd hf)) fun m e2 h3 => PM.frozen fun v F2 H2 S2 x2 r2 => ?_
    obtain ⟨m2, em, h5⟩ := Post.ofO h3
    have x3 : Ext F1 F2 := (Ext.upd hf).trans x2
    generalize m.toD = d at em r2
    cases d with
    | int i =>
      simp only at em
      split at em
      · rename_i hy
        cases em
        cases (show v = _ from r2)
        refine ⟨q, i, vs, rfl, rfl, S2.fh _ _ (x2 _ _ upd_same), hy.1.1, hy.1.2, by rw [← rr.length]; exact hy.2, fun p hp => ?_⟩
        exact (PN.of (T := (EV X G0 C cls).at G) S2 (x1.trans x3) h5) p _ hp (Reps.flat (Reps.ext x3 rr))
      · cases em
    | _ => cases em

/-! dicts -/
theorem keyD_inj {a b : Key} (h : keyD a = keyD b) : a = b := by
  cases a <;> cases b <;> simp [keyD] at h <;> rw [h]
theorem beqD_eq : (∀ {a b : D}, beqD a b = true → a = b) := by
  intro a
  exact (PyData.rec (motive_1 := fun a => ∀ b, beqD a b = true → a = b) (motive_2 := fun xs => ∀ ys, beqDs xs ys = true → xs = ys) (motive_3 := fun _ => True) (motive_4 := fun _ => True)
    (fun b h => by cases b <;> first | rfl | cases h)
    (fun x b h => by cases b <;> first | (simp [beqD] at h; rw [h]) | cases h)
    (fun x b h => by cases b <;> first | (simp [beqD] at h; rw [h]) | cases h)
    (fun x b h => by cases b <;> first | (simp [beqD] at h; rw [h]) | cases h)
    (fun xs ih b h => by
      cases b with
      | list ys => rw [ih ys (by simpa only [beqD] using h)]
      | _ => cases h)
    (fun xs ih b h => by
      cases b with
      | tuple ys => rw [ih ys (by simpa only [beqD] using h)]
      | _ => cases h)
    (fun _ _ b h => by cases b <;> cases h)
    (fun ys h => by cases ys <;> first | rfl | cases h)
    (fun x xs i1 i2 ys h => by
      cases ys with
      | nil => cases h
      | cons y ys =>
        have h' : beqD x y = true ∧ beqDs xs ys = true := by
          simpa [beqDs] using h
        rw [i1 y h'.1, i2 ys h'.2])
    trivial (fun _ _ _ _ => trivial) (fun _ _ _ _ => trivial) a : ∀ b, beqD a b = true → a = b) _
theorem beqD_refl_key (k : Key) : beqD (keyD k) (keyD k) = true := by cases k <;> simp [keyD, beqD]
theorem beqD_key (a b : Key) : beqD (keyD a) (keyD b) = decide (a = b) := by
  by_cases h : a = b
  · subst h; rw [beqD_refl_key]; simp
  · rw [decide_eq_false h]
    cases e : beqD (keyD a) (keyD b) with
    | false => rfl
    | true => exact absurd (keyD_inj (beqD_eq e)) h
theorem keysD_inj : ∀ {a b : List Key}, a.map keyD = b.map keyD → a = b
  | [], [], _ => rfl
  | [], _ :: _, h => by cases h
  | _ :: _, [], h => by cases h
  | x :: a, y :: b, h => by
    rw [List.map_cons, List.map_cons] at h
    injection h with h1 h2
    rw [keyD_inj h1, keysD_inj h2]
theorem beqDs_refl : ∀ (a : List Key), beqDs (a.map keyD) (a.map keyD) = true
  | [] => rfl
  | x :: a => by
    show (beqD (keyD x) (keyD x) && beqDs (a.map keyD) (a.map keyD)) = true
    rw [beqD_refl_key, beqDs_refl a]; rfl
theorem beqD_keys (a b : List Key) : beqD (.tuple (a.map keyD)) (.tuple (b.map keyD)) = decide (a = b) := by
  by_cases h : a = b
  · subst h
    rw [show beqD (.tuple (a.map keyD)) (.tuple (a.map keyD)) = beqDs (a.map keyD) (a.map keyD) by simp only [beqD], beqDs_refl]; simp
  · rw [decide_eq_false h]
    cases e : beqD (.tuple (a.map keyD)) (.tuple (b.map keyD)) with
    | false => rfl
    | true =>
      have := beqD_eq e
      injection this with q
      exact absurd (keysD_inj q) h
theorem isKey_of {d : D} (h : isKey d = true) : ∃ k, d = keyD k := by
  cases d with
  | int i => exact ⟨.inl i, rfl⟩
  | str x => exact ⟨.inr x, rfl⟩
  | _ => cases h
theorem isKeys_of : ∀ {ds : List D}, ds.all isKey = true → ∃ ks : List Key, ds = ks.map keyD
  | [], _ => ⟨[], rfl⟩
  | d :: ds, h => by
    rw [List.all_cons, Bool.and_eq_true] at h
    obtain ⟨k, rfl⟩ := isKey_of h.1
    obtain ⟨ks, rfl⟩ := isKeys_of h.2
    exact ⟨k :: ks, rfl⟩
theorem keyT_of {d : D} (h : keyKind true d = true) : ∃ ks : List Key, d = .tuple (ks.map keyD) := by
  cases d with
  | tuple ds =>
    obtain ⟨ks, rfl⟩ := isKeys_of h
    exact ⟨ks, rfl⟩
  | _ => cases h
theorem Rep.key {K : PySem.W.Frag} {F : Hp} {k : Key} {v : V} (h : Rep K F (keyD k) v) : v = kV k := by
  cases k with
  | inl i => exact h
  | inr i => exact h
theorem RepO.key {K : PySem.W.Frag} {F H : Hp} {k : Key} {v : V} (h : RepO K F H (keyD k) v) : v = kV k := by
  cases k with
  | inl i => exact h
  | inr i => exact h
theorem Reps.keys {K : PySem.W.Frag} {F : Hp} : ∀ {ks : List Key} {vs : List V}, Reps K F (ks.map keyD) vs → vs = ks.map kV
  | [], _, h => h
  | k :: ks, _, ⟨v, r, e, h, t⟩ => by
    rw [e, h.key, Reps.keys t]; rfl
theorem lookK {K : PySem.W.Frag} {F : Hp} {k : Key} : ∀ {kvs : List (D × D)} {ks : List (Key × V)}, RepKv K F kvs ks → match dlook kvs (keyD k) with | some d => ∃ v, valV ks k = some v ∧ Rep K F d v | none => valV ks k = none
  | [], _, h => by have e := h; subst e; rfl
  | (kd, dd) :: kvs, _, ⟨k', v', ks', e, ek, h, t⟩ => by
    subst e ek
    have ih := lookK (k := k) t
    unfold dlook valV at ih ⊢
    rw [List.find?_cons, List.find?_cons]
    rw [show beqD (keyD k', dd).1 (keyD k) = decide ((k', v').1 = k) from beqD_key k' k]
    cases q : decide ((k', v').1 = k) with
    | true => exact ⟨v', rfl, h⟩
    | false => exact ih
theorem lookT {K : PySem.W.Frag} {F : Hp} {k : List Key} : ∀ {kvs : List (D × D)} {ks : List (List Key × V)}, RepTv K F kvs ks → match dlook kvs (.tuple (k.map keyD)) with | some d => ∃ v, valV ks k = some v ∧ Rep K F d v | none => valV ks k = none
  | [], _, h => by have e := h; subst e; rfl
  | (kd, dd) :: kvs, _, ⟨k', v', ks', e, ek, h, t⟩ => by
    subst e ek
    have ih := lookT (k := k) t
    unfold dlook valV at ih ⊢
    rw [List.find?_cons, List.find?_cons]
    rw [show beqD (PyData.tuple (k'.map keyD), dd).1 (.tuple (k.map keyD)) = decide ((k', v').1 = k) from beqD_keys k' k]
    cases q : decide ((k', v').1 = k) with
    | true => exact ⟨v', rfl, h⟩
    | false => exact ih
/-- a dict asked -/
def GetOk (K : PySem.W.Frag) (F H : Hp) (a : Addr) (y : V) (r : Option D) : Prop := ∃ o, DGet H a y o ∧ (match r with | some d => ∃ v, o = some v ∧ Rep K F d v | none => o = none)
theorem getK {K : PySem.W.Frag} {F H : Hp} {a : Addr} {dk : D} {y : V} {kvs : List (D × D)} {ks : List (Key × V)} (hk : isKey dk = true) (ry : RepO K F H dk y) (e : H a = some (.dK ks)) (r : RepKv K F kvs ks) : GetOk K F H a y (dlook kvs dk) := by
  obtain ⟨k, rfl⟩ := isKey_of hk
  have ey := ry.key
  subst ey
  have q := lookK (k := k) r
  cases el : dlook kvs (keyD k) with
  | none => rw [el] at q; exact ⟨none, .inl ⟨ks, k, .inl e, rfl, q.symm⟩, rfl⟩
  | some d =>
    rw [el] at q
    obtain ⟨v, h1, h2⟩ := q
    exact ⟨some v, .inl ⟨ks, k, .inl e, rfl, h1.symm⟩, v, rfl, h2⟩
theorem getT {K : PySem.W.Frag} {F H : Hp} {a : Addr} {dk : D} {y : V} {kvs : List (D × D)} {ks : List (List Key × V)} (fh : Ext F H) (hk : keyKind true dk = true) (ry : RepO K F H dk y) (e : H a = some (.dT ks)) (r : RepTv K F kvs ks) : GetOk K F H a y (dlook kvs dk) := by
  obtain ⟨k, rfl⟩ := keyT_of hk
  obtain ⟨b, vs, rfl, hb, rr⟩ := ry
  have ev := rr.keys
  subst ev
  have q := lookT (k := k) r
  cases el : dlook kvs (.tuple (k.map keyD)) with
  | none => rw [el] at q; exact ⟨none, .inr ⟨ks, k, b, .inl e, rfl, fh _ _ hb, q.symm⟩, rfl⟩
  | some d =>
    rw [el] at q
    obtain ⟨v, h1, h2⟩ := q
    exact ⟨some v, .inr ⟨ks, k, b, .inl e, rfl, fh _ _ hb, h1.symm⟩, v, rfl, h2⟩
/-- what stands at an operand, as a value of the evaluator -/
theorem fetchM_rep {T : Ev} {pv : List (Nat × V)} {σ : St} {F : Hp} {env : En} {H : Hp} {o : Opd} {v : V} {m : M} (S : Sim T.K T.G pv F env σ H) (r : RepOp T σ F o v) (e : fetchM env o = some m) : RepM T.K F H m v := by
  cases o with
  | val d' => cases e; exact r
  | late i =>
    obtain ⟨w, h2, h3⟩ := S.rep i m e
    have q : some (some w) = some (some v) := h2.symm.trans r
    cases q
    exact h3
theorem dget_ok {K : PySem.W.Frag} {F H : Hp} {dm : M} {dk : D} {x y : V} {r : Option D} (fh : Ext F H) (rm : RepM K F H dm x) (ry : RepO K F H dk y) (e : dgetO dm dk = some r) : ∃ a, x = .ref a ∧ GetOk K F H a y r := by
  unfold dgetO at e
  split at e
  · rename_i t kvs k
    obtain ⟨a, rfl, rr, _⟩ := rm
    refine ⟨a, rfl, ?_⟩
    split at e
    · rename_i hk
      cases e
      rcases rr with ⟨rfl, ks, h1, h2⟩ | ⟨rfl, ks, h1, h2⟩
      · exact getK hk ry h1 h2
      · exact getT fh hk ry h1 h2
    · cases e
  · rename_i k0 v0 kvs k
    obtain ⟨a, rfl, rr⟩ := rm
    refine ⟨a, rfl, ?_⟩
    split at e
    · rename_i hk
      cases e
      rw [Bool.or_eq_true, Bool.and_eq_true, Bool.and_eq_true] at hk
      rcases rr with ⟨ks, h1, h2⟩ | ⟨ks, h1, h2⟩
      · obtain ⟨k', v', r', e1, e2, _⟩ := id h2
        rcases hk with ⟨z1, z2⟩ | ⟨z1, z2⟩
        · exact getK z2 ry (fh _ _ h1) h2
        · rw [e2] at z1
          cases k' <;> cases z1
      · obtain ⟨k', v', r', e1, e2, _⟩ := id h2
        rcases hk with ⟨z1, z2⟩ | ⟨z1, z2⟩
        · rw [e2] at z1; cases z1
        · exact getT fh z2 ry (fh _ _ h1) h2
    · cases e
  · cases e
theorem isD_of {K : PySem.W.Frag} {F H : Hp} {dm : M} {x : V} (fh : Ext F H) (rm : RepM K F H dm x) (e : isDictM (some dm) = true) : ∃ a, x = .ref a ∧ IsD H a := by
  cases dm with
  | ol xs => cases e
  | od t kvs =>
    obtain ⟨a, rfl, ⟨_, ks, h1, _⟩ | ⟨_, ks, h1, _⟩, _⟩ := rm
    · exact ⟨a, rfl, .inl ⟨ks, .inl h1⟩⟩
    · exact ⟨a, rfl, .inr ⟨ks, .inl h1⟩⟩
  | p d =>
    cases d with
    | dict kvs =>
      obtain ⟨a, rfl, ⟨ks, h1, _⟩ | ⟨ks, h1, _⟩⟩ := rm
      · exact ⟨a, rfl, .inl ⟨ks, .inl (fh _ _ h1)⟩⟩
      · exact ⟨a, rfl, .inr ⟨ks, .inl (fh _ _ h1)⟩⟩
    | _ => cases e
theorem snd_dget {d k : Ex} {ed ek : Expr} {p : Pos} (hu : X.A.units + 65 < cLine) (hs : notSlice ek = true) (hd : PE X ed (tO (EV X G0 C cls) W (opd d (evX C d)))) (hk : PE X ek (tO (EV X G0 C cls) W (opd k (evX C k)))) :
    PE X (.Subscript ed ek p) (tX (EV X G0 C cls) W (evX C (.dget d k))) := by
  have hp : NoSl ek := fun o i => by cases ek <;> first | rfl | cases hs
  refine PE.imp (pe_dget (by omega) hd hk hp) fun σ H Q ⟨G, pv, F, env, S, h⟩ => ⟨G, pv, F, env, S, ?_⟩
  unfold evX at h
  refine Post.imp (Post.bind h) Ext.refl fun o1 e1 h1 v F1 H1 S1 x1 r1 => ⟨G, pv, F1, e1, S1, ?_⟩
  refine Post.imp (Post.bind h1) x1 fun o2 e2 h2 u F2 H2 S2 x2 r2 => ?_
  obtain ⟨m, em, h3⟩ := Post.ofO h2
  obtain ⟨dm, h4, em⟩ := Option.bind_eq_some_iff.mp em
  obtain ⟨dk, h5, em⟩ := Option.bind_eq_some_iff.mp em
  obtain ⟨r, h6, em⟩ := Option.bind_eq_some_iff.mp em
  obtain ⟨d', rfl, rfl⟩ := Option.map_eq_some_iff.mp em
  obtain ⟨a, rfl, o, g1, v', rfl, g2⟩ := dget_ok S2.fh (fetchM_rep S2 (r1.ext x2) h4) (fetch_rep S2 r2 h5) h6
  exact ⟨a, v', rfl, g1, h3 v' F2 H2 S2 (x1.trans x2) g2 fun z => by cases z⟩
theorem base_of {o : Expr} {m : Str} {env : Env} {w : Sem Value} (h : notCall0 o = true) : attributeBase o m env w = w := by
  unfold attributeBase
  split
  · cases h
  · rfl
theorem snd_dgm1 {d k : Ex} {ed ek : Expr} {ap cp : Pos} (hu : X.A.units + 65 < cLine) (hl : (ap.endLine == cp.line) = true) (hb : notCall0 ed = true) (hs : notStar ek = true) (hd : PE X ed (tO (EV X G0 C cls) W (opd d (evX C d)))) (hk : PE X ek (tO (EV X G0 C cls) W (opd k (evX C k)))) :
    PE X (.Call (.Attribute ed "get" ap) [ek] [] cp) (tX (EV X G0 C cls) W (evX C (.dgm1 d k))) := by
  have hm : M1 X ed "get" ap ek cp := ⟨base_of hb, by rw [star_of hs]; rfl, hl, by rw [star_of hs]; rfl⟩
  refine PE.imp (pe_dget1 (by omega) hd hk hm) fun σ H Q ⟨G, pv, F, env, S, h⟩ => ⟨G, pv, F, env, S, ?_⟩
  unfold evX at h
  refine Post.imp (Post.bind h) Ext.refl fun o1 e1 h1 v F1 H1 S1 x1 r1 => ?_
  cases ef : fetchM e1 o1 with
  | none => rw [ef] at h1; exact h1.elim
  | some dm0 =>
    rw [ef] at h1
    cases ei : isDictM (some dm0) with
    | false => rw [ei, if_neg Bool.false_ne_true] at h1; exact h1.elim
    | true =>
      rw [ei, if_pos rfl] at h1
      obtain ⟨a0, rfl, hd0⟩ := isD_of S1.fh (fetchM_rep S1 r1 ef) ei
      refine ⟨a0, rfl, hd0, G, pv, F1, e1, S1, ?_⟩
      refine Post.imp (Post.bind h1) x1 fun o2 e2 h2 u F2 H2 S2 x2 r2 => ?_
      obtain ⟨m, em, h3⟩ := Post.ofO h2
      obtain ⟨dm, h4, em⟩ := Option.bind_eq_some_iff.mp em
      obtain ⟨dk, h5, em⟩ := Option.bind_eq_some_iff.mp em
      obtain ⟨r, h6, rfl⟩ := Option.map_eq_some_iff.mp em
      obtain ⟨a, ea, o, g1, g2⟩ := dget_ok S2.fh (fetchM_rep S2 (r1.ext x2) h4) (fetch_rep S2 r2 h5) h6
      cases ea
      refine ⟨o, g1, ?_⟩
      cases r with
      | none =>
        have e0 := (show o = none from g2)
        subst e0
        exact h3 .non F2 H2 S2 (x1.trans x2) rfl fun z => by cases z
      | some d' =>
        obtain ⟨v', rfl, g3⟩ := g2
        exact h3 v' F2 H2 S2 (x1.trans x2) g3 fun z => by cases z
theorem snd_dgm2 {d k z : Ex} {ed ek ez : Expr} {ap cp : Pos} (hu : X.A.units + 65 < cLine) (hl : (ap.endLine == cp.line) = true) (hb : notCall0 ed = true) (hs : notStar ek = true) (hs2 : notStar ez = true) (hd : PE X ed (tO (EV X G0 C cls) W (opd d (evX C d)))) (hk : PE X ek (tO (EV X G0 C cls) W (opd k (evX C k))))
    (hz : PE X ez (tX (EV X G0 C cls) W (evX C z))) : PE X (.Call (.Attribute ed "get" ap) [ek, ez] [] cp) (tX (EV X G0 C cls) W (evX C (.dgm2 d k z))) := by
  have hm : M2 X ed "get" ap ek ez cp := ⟨base_of hb, by rw [star_of hs, star_of hs2]; rfl, hl, by rw [star_of hs, star_of hs2]; rfl⟩
  refine PE.imp (pe_dget2 (by omega) hd hk hz hm) fun σ H Q ⟨G, pv, F, env, S, h⟩ => ⟨G, pv, F, env, S, ?_⟩
  unfold evX at h
  refine Post.imp (Post.bind h) Ext.refl fun o1 e1 h1 v F1 H1 S1 x1 r1 => ?_
  cases ef : fetchM e1 o1 with
  | none => rw [ef] at h1; exact h1.elim
  | some dm0 =>
    rw [ef] at h1
    cases ei : isDictM (some dm0) with
    | false => rw [ei, if_neg Bool.false_ne_true] at h1; exact h1.elim
    | true =>
      rw [ei, if_pos rfl] at h1
      obtain ⟨a0, rfl, hd0⟩ := isD_of S1.fh (fetchM_rep S1 r1 ef) ei
      refine ⟨a0, rfl, hd0, G, pv, F1, e1, S1, ?_⟩
      refine Post.imp (Post.bind h1) x1 fun o2 e2 h2 u F2 H2 S2 x2 r2 => ⟨G, pv, F2, e2, S2, ?_⟩
      refine Post.imp (Post.bind h2) (x1.trans x2) fun zm e3 h2 => PM.frozen fun w F3 H3 S3 x3 r3 => ?_
      obtain ⟨m, em, h3⟩ := Post.ofO h2
      obtain ⟨dm, h4, em⟩ := Option.bind_eq_some_iff.mp em
      obtain ⟨dk, h5, em⟩ := Option.bind_eq_some_iff.mp em
      obtain ⟨r, h6, rfl⟩ := Option.map_eq_some_iff.mp em
      obtain ⟨a, ea, o, g1, g2⟩ := dget_ok S3.fh (fetchM_rep S3 (r1.ext (x2.trans x3)) h4) (fetch_rep S3 (r2.ext x3) h5) h6
      cases ea
      refine ⟨o, g1, ?_⟩
      cases r with
      | none =>
        have e0 := (show o = none from g2)
        subst e0
        exact h3 w F3 H3 S3 (x1.trans (x2.trans x3)) r3 fun z => by cases z
      | some d' =>
        obtain ⟨v', rfl, g3⟩ := g2
        exact h3 v' F3 H3 S3 (x1.trans (x2.trans x3)) g3 fun z => by cases z
end
end Q1

/-! Q10: tests, what a loop walks, comprehensions. -/
namespace Q1
open PySem PySem.Spec PyProof.Rows L2 PySem.SeqAt
section
variable {X : Cx} {G0 : Gh} {C : PC} {cls : Nat → Value} {W : WX}
theorem mark_of {op : CmpOp} {e : Expr} (h : notSet e = true) : behindInMarks op e = false := by
  cases e <;> first | rfl | cases h
/-- a comparison: what it asks -/
theorem cmp_imp {op : Cop} {a b : Ex} {σ : St} {H : Hp} {Q : VK} {α : Type} {f : Bool → En → Res α} {P : α → En → Prop}
    (h : ∃ G pv F env, Sim X.K G pv F env σ H ∧ Post ((EV X G0 C cls).at G) pv W σ F ((evT C (.cmp op a b) env).bind f) P ∧ ∀ c e F' H', Sim X.K G pv F' e σ H' → Ext F F' → Post ((EV X G0 C cls).at G) pv W σ F (f c e) P → Q (.bl c) H') :
    tOp (rCo X.K (cmpO op)) (tO (EV X G0 C cls) W (opd a (evX C a))) (tO (EV X G0 C cls) W (opd b (evX C b))) σ H Q := by
  obtain ⟨G, pv, F, env, S, h, k⟩ := h
  refine ⟨G, pv, F, env, S, ?_⟩
  unfold evT at h
  refine Post.imp (Post.bind (Post.bind h)) Ext.refl fun o1 e1 h1 v F1 H1 S1 x1 r1 => ⟨G, pv, F1, e1, S1, ?_⟩
  refine Post.imp (Post.bind h1) x1 fun o2 e2 h2 u F2 H2 S2 x2 r2 => ?_
  obtain ⟨c, em, h3⟩ := Post.ofO h2
  obtain ⟨dx, h4, em⟩ := Option.bind_eq_some_iff.mp em
  obtain ⟨dy, h5, em⟩ := Option.bind_eq_some_iff.mp em
  exact ⟨F2, dx, dy, c, S2.fh, fetch_rep S2 (r1.ext x2) h4, fetch_rep S2 r2 h5, em, k c e2 F2 H2 S2 (x1.trans x2) h3⟩
theorem Post.back {T : Ev} {pv : List (Nat × V)} {σ : St} {F : Hp} {α β : Type} {r : Res α} {f : α → En → Res β} {P : β → En → Prop} (h : Post T pv W σ F r fun a e => Post T pv W σ F (f a e) P) : Post T pv W σ F (r.bind f) P := by
  cases r with
  | ok a env => exact h
  | exc c env => exact h
  | bad => exact h
theorem bind_ok {α : Type} (r : Res α) : r.bind (fun a e => .ok a e) = r := by cases r <;> rfl
theorem sndT_cmp (hu : X.A.units + 65 < cLine) {op : Cop} {a b : Ex} {ea eb : Expr} {p : Pos} (hs : notSet eb = true) (ha : PE X ea (tO (EV X G0 C cls) W (opd a (evX C a)))) (hb : PE X eb (tO (EV X G0 C cls) W (opd b (evX C b)))) :
    PT X (.Compare ea [opC op] [eb] p) (tT (EV X G0 C cls) W (evT C (.cmp op a b))) := by
  refine PT.imp (pt_cmpR (op_cmp hu op) ha hb (mark_of hs)) fun σ H Q ⟨G, pv, F, env, S, h⟩ => ?_
  have h' := h
  rw [← bind_ok (evT C _ env)] at h'
  exact cmp_imp ⟨G, pv, F, env, S, h', fun c e F' H' S' x' q => ⟨c, rfl, q F' H' S' x'⟩⟩
theorem sndV_cmp (hu : X.A.units + 65 < cLine) {op : Cop} {a b : Ex} {ea eb : Expr} {p : Pos} (hs : notSet eb = true) (ha : PE X ea (tO (EV X G0 C cls) W (opd a (evX C a)))) (hb : PE X eb (tO (EV X G0 C cls) W (opd b (evX C b)))) :
    PE X (.Compare ea [opC op] [eb] p) (tX (EV X G0 C cls) W (evX C (.tv (.cmp op a b)))) := by
  refine PE.imp (pe_cmpR (op_cmp hu op) ha hb (mark_of hs)) fun σ H Q ⟨G, pv, F, env, S, h⟩ => ?_
  unfold evX at h
  exact cmp_imp ⟨G, pv, F, env, S, h, fun c e F' H' S' x' q => q _ F' H' S' x' rfl fun z => by cases z⟩
theorem chain_imp {op op2 : Cop} {a b c : Ex} {σ : St} {H : Hp} {Q : VK} {α : Type} {f : Bool → En → Res α} {P : α → En → Prop}
    (h : ∃ G pv F env, Sim X.K G pv F env σ H ∧ Post ((EV X G0 C cls).at G) pv W σ F ((evT C (.chain op op2 a b c) env).bind f) P ∧ ∀ c e F' H', Sim X.K G pv F' e σ H' → Ext F F' → Post ((EV X G0 C cls).at G) pv W σ F (f c e) P → Q (.bl c) H') :
    tChain (rCo X.K (cmpO op)) (rCo X.K (cmpO op2)) (tX (EV X G0 C cls) W (evX C a)) (tX (EV X G0 C cls) W (evX C b)) (tX (EV X G0 C cls) W (evX C c)) σ H Q := by
  obtain ⟨G, pv, F, env, S, h, k⟩ := h
  refine ⟨G, pv, F, env, S, ?_⟩
  unfold evT at h
  refine Post.imp (Post.bind (Post.bind h)) Ext.refl fun m1 e1 h1 => PM.frozen fun v F1 H1 S1 x1 r1 => ⟨G, pv, F1, e1, S1, ?_⟩
  refine Post.imp (Post.bind h1) x1 fun m2 e2 h2 => PM.frozen fun u F2 H2 S2 x2 r2 => ?_
  obtain ⟨r, em, h3⟩ := Post.ofO (Post.bind h2)
  refine ⟨F2, m1.toD, m2.toD, r, S2.fh, (r1.ext x2).o S2.fh, r2.o S2.fh, em, r, rfl, ?_⟩
  cases r with
  | true =>
    refine ⟨G, pv, F2, e2, S2, ?_⟩
    refine Post.imp (Post.bind h3) (x1.trans x2) fun m3 e3 h4 => PM.frozen fun w F3 H3 S3 x3 r3 => ?_
    obtain ⟨r', em', h5⟩ := Post.ofO h4
    exact ⟨F3, m2.toD, m3.toD, r', S3.fh, (r2.ext x3).o S3.fh, r3.o S3.fh, em', k r' e3 F3 H3 S3 (x1.trans (x2.trans x3)) h5⟩
  | false => exact k false e2 F2 H2 S2 (x1.trans x2) h3
theorem din_imp {neg : Bool} {kx d : Ex} {σ : St} {H : Hp} {Q : VK} {α : Type} {f : Bool → En → Res α} {P : α → En → Prop}
    (h : ∃ G pv F env, Sim X.K G pv F env σ H ∧ Post ((EV X G0 C cls).at G) pv W σ F ((evT C (.din neg kx d) env).bind f) P ∧ ∀ c e F' H', Sim X.K G pv F' e σ H' → Ext F F' → Post ((EV X G0 C cls).at G) pv W σ F (f c e) P → Q (.bl c) H') :
    tO (EV X G0 C cls) W (opd kx (evX C kx)) σ H fun y H1 => tO (EV X G0 C cls) W (opd d (evX C d)) σ H1 fun x H2 => ∃ a o, x = .ref a ∧ DGet H2 a y o ∧ Q (.bl (if neg then !o.isSome else o.isSome)) H2 := by
  obtain ⟨G, pv, F, env, S, h, k⟩ := h
  refine ⟨G, pv, F, env, S, ?_⟩
  unfold evT at h
  refine Post.imp (Post.bind (Post.bind h)) Ext.refl fun o1 e1 h1 v F1 H1 S1 x1 r1 => ⟨G, pv, F1, e1, S1, ?_⟩
  refine Post.imp (Post.bind h1) x1 fun o2 e2 h2 u F2 H2 S2 x2 r2 => ?_
  obtain ⟨c, em, h3⟩ := Post.ofO h2
  obtain ⟨dk, h4, em⟩ := Option.bind_eq_some_iff.mp em
  obtain ⟨dm, h5, em⟩ := Option.bind_eq_some_iff.mp em
  obtain ⟨r, h6, rfl⟩ := Option.map_eq_some_iff.mp em
  obtain ⟨a, rfl, o, g1, g2⟩ := dget_ok S2.fh (fetchM_rep S2 r2 h5) (fetch_rep S2 (r1.ext x2) h4) h6
  refine ⟨a, o, rfl, g1, ?_⟩
  have e : o.isSome = r.isSome := by
    cases r with
    | none => rw [show o = none from g2]; rfl
    | some d' => obtain ⟨v', rfl, _⟩ := g2; rfl
  rw [e]
  exact k _ e2 F2 H2 S2 (x1.trans x2) h3
theorem sndT_din (hu : X.A.units + 65 < cLine) {neg : Bool} {a d : Ex} {ea ed : Expr} {p : Pos} (hs : notSet ed = true) (ha : PE X ea (tO (EV X G0 C cls) W (opd a (evX C a)))) (hd : PE X ed (tO (EV X G0 C cls) W (opd d (evX C d)))) :
    PT X (.Compare ea [inOp neg] [ed] p) (tT (EV X G0 C cls) W (evT C (.din neg a d))) := by
  cases neg with
  | false =>
    refine PT.imp (pt_cmp (pc_din (by omega) ha hd) (mark_of hs)) fun σ H Q ⟨G, pv, F, env, S, h⟩ => ?_
    have h' := h
    rw [← bind_ok (evT C _ env)] at h'
    exact din_imp (neg := false) (Q := fun x H1 => ∃ c, x = .bl c ∧ Q c H1) ⟨G, pv, F, env, S, h', fun c e F' H' S' x' q => ⟨c, rfl, q F' H' S' x'⟩⟩
  | true =>
    refine PT.imp (pt_cmp (pc_dnotin (by omega) ha hd) (mark_of hs)) fun σ H Q ⟨G, pv, F, env, S, h⟩ => ?_
    have h' := h
    rw [← bind_ok (evT C _ env)] at h'
    exact din_imp (neg := true) (Q := fun x H1 => ∃ c, x = .bl c ∧ Q c H1) ⟨G, pv, F, env, S, h', fun c e F' H' S' x' q => ⟨c, rfl, q F' H' S' x'⟩⟩
theorem sndV_din (hu : X.A.units + 65 < cLine) {neg : Bool} {a d : Ex} {ea ed : Expr} {p : Pos} (hs : notSet ed = true) (ha : PE X ea (tO (EV X G0 C cls) W (opd a (evX C a)))) (hd : PE X ed (tO (EV X G0 C cls) W (opd d (evX C d)))) :
    PE X (.Compare ea [inOp neg] [ed] p) (tX (EV X G0 C cls) W (evX C (.tv (.din neg a d)))) := by
  cases neg with
  | false =>
    refine PE.imp (pe_cmp (pc_din (by omega) ha hd) (mark_of hs)) fun σ H Q ⟨G, pv, F, env, S, h⟩ => ?_
    unfold evX at h
    exact din_imp (neg := false) ⟨G, pv, F, env, S, h, fun c e F' H' S' x' q => q _ F' H' S' x' rfl fun z => by cases z⟩
  | true =>
    refine PE.imp (pe_cmp (pc_dnotin (by omega) ha hd) (mark_of hs)) fun σ H Q ⟨G, pv, F, env, S, h⟩ => ?_
    unfold evX at h
    exact din_imp (neg := true) ⟨G, pv, F, env, S, h, fun c e F' H' S' x' q => q _ F' H' S' x' rfl fun z => by cases z⟩
theorem Post.bind2 {T : Ev} {pv : List (Nat × V)} {σ : St} {F : Hp} {α β γ : Type} {r : Res α} {f : α → En → Res β} {g : β → En → Res γ} : (r.bind f).bind g = r.bind fun a e => (f a e).bind g := by cases r <;> rfl
theorem marks2 {o o2 : CmpOp} {b c : Expr} (h : notSet c = true) : lastMarks [o, o2] [b, c] = false := by
  show lastMarks [o2] [c] = false
  exact mark_of h
theorem sndT_chain (hu : X.A.units + 65 < cLine) {op op2 : Cop} {a b c : Ex} {ea eb ec : Expr} {p : Pos} (hs : notSet ec = true) (ha : PE X ea (tX (EV X G0 C cls) W (evX C a))) (hb : PE X eb (tX (EV X G0 C cls) W (evX C b))) (hc : PE X ec (tX (EV X G0 C cls) W (evX C c))) :
    PT X (.Compare ea [opC op, opC op2] [eb, ec] p) (tT (EV X G0 C cls) W (evT C (.chain op op2 a b c))) := by
  refine PT.imp (pt_chain (op_cmp hu op) (op_cmp hu op2) ha hb hc (marks2 hs)) fun σ H Q ⟨G, pv, F, env, S, h⟩ => ?_
  have h' := h
  rw [← bind_ok (evT C _ env)] at h'
  exact chain_imp ⟨G, pv, F, env, S, h', fun c e F' H' S' x' q => ⟨c, rfl, q F' H' S' x'⟩⟩
theorem sndV_chain (hu : X.A.units + 65 < cLine) {op op2 : Cop} {a b c : Ex} {ea eb ec : Expr} {p : Pos} (hs : notSet ec = true) (ha : PE X ea (tX (EV X G0 C cls) W (evX C a))) (hb : PE X eb (tX (EV X G0 C cls) W (evX C b))) (hc : PE X ec (tX (EV X G0 C cls) W (evX C c))) :
    PE X (.Compare ea [opC op, opC op2] [eb, ec] p) (tX (EV X G0 C cls) W (evX C (.tv (.chain op op2 a b c)))) := by
  refine PE.imp (pe_chain (op_cmp hu op) (op_cmp hu op2) ha hb hc (marks2 hs)) fun σ H Q ⟨G, pv, F, env, S, h⟩ => ?_
  unfold evX at h
  exact chain_imp ⟨G, pv, F, env, S, h, fun c e F' H' S' x' q => q _ F' H' S' x' rfl fun z => by cases z⟩
theorem plain_of {e : Expr} {env : Env} (h : cmpPlain e = true) : ∀ whole, isTrue e env whole = (do let v ← whole; standAt e.pos; holding [v] (truthy v)) := by
  intro whole
  cases e with
  | UnaryOp op _ _ => cases op <;> first | rfl | cases h
  | BoolOp => cases h
  | IfExp => cases h
  | Compare => cases h
  | _ => rfl
theorem sndT_val {a : Ex} {e : Expr} (hp : cmpPlain e = true) (ha : PE X e (tX (EV X G0 C cls) W (evX C a))) : PT X e (tT (EV X G0 C cls) W (evT C (.val a))) := by
  refine PT.imp (pt_val ha (plain_of hp)) fun σ H Q ⟨G, pv, F, env, S, h⟩ => ⟨G, pv, F, env, S, ?_⟩
  unfold evT at h
  refine Post.imp (Post.bind h) Ext.refl fun m e1 h1 => PM.frozen fun v F1 H1 S1 x1 r1 => ?_
  generalize m.toD = d at h1 r1
  cases d with
  | bool b =>
    cases (show v = _ from r1)
    exact ⟨b, rfl, h1 F1 H1 S1 x1⟩
  | _ => exact h1.elim
theorem sndV_val {a : Ex} {e : Expr} (ha : PE X e (tX (EV X G0 C cls) W (evX C a))) : PE X e (tX (EV X G0 C cls) W (evX C (.tv (.val a)))) := by
  refine PE.imp ha fun σ H Q ⟨G, pv, F, env, S, h⟩ => ⟨G, pv, F, env, S, ?_⟩
  unfold evX evT at h
  refine Post.imp (Post.bind (Post.bind h)) Ext.refl fun m e1 h1 => PM.frozen fun v F1 H1 S1 x1 r1 => ?_
  generalize m.toD = d at h1 r1
  cases d with
  | bool b => exact h1 v F1 H1 S1 x1 r1 fun z => by cases z
  | _ => exact h1.elim
theorem sndT_tru {a : Ex} {e : Expr} (hp : cmpPlain e = true) (ha : PE X e (tO (EV X G0 C cls) W (opd a (evX C a)))) : PT X e (tT (EV X G0 C cls) W (evT C (.tru a))) := by
  refine PT.imp (pt_truthR ha tru_o (plain_of hp)) fun σ H Q ⟨G, pv, F, env, S, h⟩ => ⟨G, pv, F, env, S, ?_⟩
  unfold evT at h
  refine Post.imp (Post.bind h) Ext.refl fun o e1 h1 v F1 H1 S1 x1 r1 => ?_
  obtain ⟨b, em, h2⟩ := Post.ofO h1
  obtain ⟨d, h3, em⟩ := Option.bind_eq_some_iff.mp em
  exact ⟨F1, d, b, S1.fh, fetch_rep S1 r1 h3, em, h2 F1 H1 S1 x1⟩
theorem sndW_and {a b : Tx} {x y : Expr} {r : List Expr} {p : Pos} (ha : PT X x (tT (EV X G0 C cls) W (evT C a))) (hb : PW X (.BoolOp .And (y :: r) p) (tT (EV X G0 C cls) W (evT C b))) : PW X (.BoolOp .And (x :: y :: r) p) (tT (EV X G0 C cls) W (evT C (.and a b))) := by
  refine PW.imp (pw_and ha hb) fun σ H Q ⟨G, pv, F, env, S, h⟩ => ⟨G, pv, F, env, S, ?_⟩
  unfold evT at h
  refine Post.imp (Post.bind h) Ext.refl fun c e1 h1 F1 H1 S1 x1 => ?_
  cases c with
  | true => exact ⟨G, pv, F1, e1, S1, PostT.ext h1 x1⟩
  | false => exact h1 F1 H1 S1 x1
theorem sndW_or {a b : Tx} {x y : Expr} {r : List Expr} {p : Pos} (ha : PT X x (tT (EV X G0 C cls) W (evT C a))) (hb : PW X (.BoolOp .Or (y :: r) p) (tT (EV X G0 C cls) W (evT C b))) : PW X (.BoolOp .Or (x :: y :: r) p) (tT (EV X G0 C cls) W (evT C (.or a b))) := by
  refine PW.imp (pw_or ha hb) fun σ H Q ⟨G, pv, F, env, S, h⟩ => ⟨G, pv, F, env, S, ?_⟩
  unfold evT at h
  refine Post.imp (Post.bind h) Ext.refl fun c e1 h1 F1 H1 S1 x1 => ?_
  cases c with
  | true => exact h1 F1 H1 S1 x1
  | false => exact ⟨G, pv, F1, e1, S1, PostT.ext h1 x1⟩
theorem sndW_one {op : BoolOp} {a : Tx} {x : Expr} {p : Pos} (ha : PT X x (tT (EV X G0 C cls) W (evT C a))) : PW X (.BoolOp op [x] p) (tT (EV X G0 C cls) W (evT C (.one a))) := by
  have e : evT C (.one a) = evT C a := by funext env; rfl
  rw [e]
  cases op with
  | And => exact pw_and1 ha
  | Or => exact pw_or1 ha
theorem sndT_not {a : Tx} {x : Expr} {p : Pos} (ha : PT X x (tT (EV X G0 C cls) W (evT C a))) : PT X (.UnaryOp .Not x p) (tT (EV X G0 C cls) W (evT C (.not a))) := by
  refine PT.imp (pt_not ha) fun σ H Q ⟨G, pv, F, env, S, h⟩ => ⟨G, pv, F, env, S, ?_⟩
  unfold evT at h
  exact Post.imp (Post.bind h) Ext.refl fun c e1 h1 F1 H1 S1 x1 => h1 F1 H1 S1 x1
theorem sndV_and {a b : Tx} {x y : Expr} {r : List Expr} {p : Pos} (ha : PE X x (tX (EV X G0 C cls) W (evX C (.tv a)))) (hb : PE X (.BoolOp .And (y :: r) p) (tX (EV X G0 C cls) W (evX C (.tv b)))) : PE X (.BoolOp .And (x :: y :: r) p) (tX (EV X G0 C cls) W (evX C (.tv (.and a b)))) := by
  refine PE.imp (pe_and ha hb) fun σ H Q ⟨G, pv, F, env, S, h⟩ => ⟨G, pv, F, env, S, ?_⟩
  unfold evX evT at h
  have h' : Post ((EV X G0 C cls).at G) pv W σ F ((evT C a env).bind fun b_1 e1 => .ok (M.p (.bool b_1)) e1) fun m e => PM ((EV X G0 C cls).at G) pv σ F m e fun v H1 => ∃ c, v = .bl c ∧ if c = true then tX (EV X G0 C cls) W (evX C (.tv b)) σ H1 Q else Q (.bl false) H1 := by
    refine (?_ : Post _ _ _ _ _ _ _)
    have h2 := Post.bind (Post.bind h)
    cases e : evT C a env with
    | bad => rw [e] at h2; exact h2
    | exc c e1 => rw [e] at h2; exact h2
    | ok c e1 =>
      rw [e] at h2
      refine PM.frozen fun v F1 H1 S1 x1 r1 => ⟨c, r1, ?_⟩
      cases c with
      | true =>
        refine ⟨G, pv, F1, e1, S1, ?_⟩
        unfold evX
        exact PostX.ext (Q := Q) (Post.back h2) x1
      | false => exact h2 _ F1 H1 S1 x1 rfl fun z => by cases z
  unfold evX
  exact h'
theorem sndV_or {a b : Tx} {x y : Expr} {r : List Expr} {p : Pos} (ha : PE X x (tX (EV X G0 C cls) W (evX C (.tv a)))) (hb : PE X (.BoolOp .Or (y :: r) p) (tX (EV X G0 C cls) W (evX C (.tv b)))) : PE X (.BoolOp .Or (x :: y :: r) p) (tX (EV X G0 C cls) W (evX C (.tv (.or a b)))) := by
  refine PE.imp (pe_or ha hb) fun σ H Q ⟨G, pv, F, env, S, h⟩ => ⟨G, pv, F, env, S, ?_⟩
  unfold evX evT at h
  have h' : Post ((EV X G0 C cls).at G) pv W σ F ((evT C a env).bind fun b_1 e1 => .ok (M.p (.bool b_1)) e1) fun m e => PM ((EV X G0 C cls).at G) pv σ F m e fun v H1 => ∃ c, v = .bl c ∧ if c = true then Q (.bl true) H1 else tX (EV X G0 C cls) W (evX C (.tv b)) σ H1 Q := by
    have h2 := Post.bind (Post.bind h)
    cases e : evT C a env with
    | bad => rw [e] at h2; exact h2
    | exc c e1 => rw [e] at h2; exact h2
    | ok c e1 =>
      rw [e] at h2
      refine PM.frozen fun v F1 H1 S1 x1 r1 => ⟨c, r1, ?_⟩
      cases c with
      | true => exact h2 _ F1 H1 S1 x1 rfl fun z => by cases z
      | false =>
        refine ⟨G, pv, F1, e1, S1, ?_⟩
        unfold evX
        exact PostX.ext (Q := Q) (Post.back h2) x1
  unfold evX
  exact h'
theorem sndV_one {op : BoolOp} {a : Tx} {x : Expr} {p : Pos} (ha : PE X x (tX (EV X G0 C cls) W (evX C (.tv a)))) : PE X (.BoolOp op [x] p) (tX (EV X G0 C cls) W (evX C (.tv (.one a)))) := by
  have e : evX C (.tv (.one a)) = evX C (.tv a) := by funext env; rfl
  rw [e]
  exact pe_one ha
theorem sndV_not {a : Tx} {x : Expr} {p : Pos} (ha : PE X x (tX (EV X G0 C cls) W (evX C (.tv a)))) : PE X (.UnaryOp .Not x p) (tX (EV X G0 C cls) W (evX C (.tv (.not a)))) := by
  refine PE.imp (pe_not ha) fun σ H Q ⟨G, pv, F, env, S, h⟩ => ⟨G, pv, F, env, S, ?_⟩
  unfold evX evT at h
  unfold evX
  have h2 := Post.bind (Post.bind h)
  cases e : evT C a env with
  | bad => rw [e] at h2; exact h2
  | exc c e1 => rw [e] at h2; exact h2
  | ok c e1 =>
    rw [e] at h2
    exact PM.frozen fun v F1 H1 S1 x1 r1 => ⟨c, r1, h2 _ F1 H1 S1 x1 rfl fun z => by cases z⟩
theorem sndV_notT {a : Ex} {x : Expr} {p : Pos} (ha : PE X x (tO (EV X G0 C cls) W (opd a (evX C a)))) : PE X (.UnaryOp .Not x p) (tX (EV X G0 C cls) W (evX C (.tv (.not (.tru a))))) := by
  refine PE.imp (pe_notT ha) fun σ H Q ⟨G, pv, F, env, S, h⟩ => ⟨G, pv, F, env, S, ?_⟩
  unfold evX evT evT at h
  refine Post.imp (Post.bind (Post.bind (Post.bind h))) Ext.refl fun o e1 h1 v F1 H1 S1 x1 r1 => ?_
  obtain ⟨b, em, h2⟩ := Post.ofO h1
  obtain ⟨d, h3, em⟩ := Option.bind_eq_some_iff.mp em
  exact ⟨b, truV_of S1.fh (fetch_rep S1 r1 h3) em, h2 _ F1 H1 S1 x1 rfl fun z => by cases z⟩
end
end Q1

/-! Q11: what a loop walks; comprehensions. -/
namespace Q1
open PySem PySem.Spec PyProof.Rows L2 PySem.SeqAt

/-- the iterator J goes along the data xs, wherever F is part of the heap -/
structure ItOk (K : PySem.W.Frag) (F : Hp) (xs : List D) (J : L2.It) : Prop where
  go : ∀ H i, Ext F H → i < xs.length → J.go i H
  yld : ∀ H i x H', Ext F H → i < xs.length → J.yld i H x H' → H' = H ∧ ∃ d, xs[i]? = some d ∧ Rep K F d x
  stop : ∀ H i, Ext F H → xs.length ≤ i → J.stop i H
  len : xs.length ≤ sizeLine
def tI (T : Ev) (W : WX) (f : En → Res (List D)) : TI := fun σ H R => ∃ G pv F env, Sim T.K G pv F env σ H ∧ Post (T.at G) pv W σ F (f env) fun xs e => ∀ F' H' J, Sim T.K G pv F' e σ H' → Ext F F' → ItOk T.K F' xs J → R J H'
theorem PI.imp {X : Cx} {tg e : Expr} {t t' : TI} (h : PI X tg e t) (i : ∀ σ H R, t' σ H R → t σ H R) : PI X tg e t' := ⟨fun pins s σ H R I q => h.run pins s σ H R I (i σ H R q)⟩
theorem itl_ok {K : PySem.W.Frag} {F : Hp} {a : Addr} {vs : List V} {ds : List D} (hl : vs.length ≤ sizeLine) (q : SqL K F a vs) (r : Reps K F ds vs) : ItOk K F ds (Itl K a) where
  go := fun H i x h => by
    obtain ⟨d, e⟩ := get_of_lt h
    obtain ⟨v, e2, _⟩ := r.get e
    exact ⟨vs, v, SqL.ext x q, e2⟩
  yld := fun H i x H' ex hi h => by
    obtain ⟨rfl, h⟩ := h
    have e := h vs (SqL.ext ex q)
    obtain ⟨d, h1, h2⟩ := r.getV e
    exact ⟨rfl, d, h1, h2⟩
  stop := fun H i x h => ⟨vs, SqL.ext x q, by rw [← r.length]; exact h⟩
  len := by rw [r.length]; exact hl
theorem itt_ok {K : PySem.W.Frag} {F : Hp} {a : Addr} {vs : List V} {ds : List D} (hl : vs.length ≤ sizeLine) (q : SqT K F a vs) (r : Reps K F ds vs) : ItOk K F ds (Itt K a) where
  go := fun H i x h => by
    obtain ⟨d, e⟩ := get_of_lt h
    obtain ⟨v, e2, _⟩ := r.get e
    exact ⟨vs, v, SqT.ext x q, e2⟩
  yld := fun H i x H' ex hi h => by
    obtain ⟨rfl, h⟩ := h
    have e := h vs (SqT.ext ex q)
    obtain ⟨d, h1, h2⟩ := r.getV e
    exact ⟨rfl, d, h1, h2⟩
  stop := fun H i x h => ⟨vs, SqT.ext x q, by rw [← r.length]; exact h⟩
  len := by rw [r.length]; exact hl
theorem ups_len : ∀ {n : Nat} {lo : Int}, (ups lo n).length = n
  | 0, _ => rfl
  | n + 1, lo => congrArg (· + 1) (ups_len (n := n))
theorem ups_get : ∀ {n : Nat} {lo : Int} {i : Nat}, i < n → (ups lo n)[i]? = some (.int (lo + i))
  | 0, _, _, h => absurd h (Nat.not_lt_zero _)
  | n + 1, lo, 0, _ => by show some (PyData.int lo) = _; simp
  | n + 1, lo, i + 1, h => by
    show (ups (lo + 1) n)[i]? = _
    rw [ups_get (Nat.lt_of_succ_lt_succ h)]
    congr 2
    push_cast
    omega
theorem itr_ok {K : PySem.W.Frag} {F : Hp} {lo : Int} {n : Nat} (h : n ≤ sizeLine) : ItOk K F (ups lo n) (Itr lo n) where
  go := fun H i x h => by rw [ups_len] at h; exact h
  yld := fun H i x H' ex hi h => by
    obtain ⟨rfl, rfl⟩ := h
    rw [ups_len] at hi
    exact ⟨rfl, _, ups_get hi, rfl⟩
  stop := fun H i x h => by rw [ups_len] at h; exact h
  len := by rw [ups_len]; exact h

theorem its_ok {K : PySem.W.Frag} {F : Hp} {z : Str} (h : z.length ≤ sizeLine) : ItOk K F (z.cps.toList.map fun c => .str ⟨#[c]⟩) (Its z) where
  go := fun H i x h => by
    have h' : i < z.cps.size := by simpa using h
    exact h'
  yld := fun H i x H' ex hi h => by
    obtain ⟨rfl, c, e, rfl⟩ := h
    refine ⟨rfl, .str ⟨#[c]⟩, ?_, rfl⟩
    rw [List.getElem?_map, Array.getElem?_toList, e]
    rfl
  stop := fun H i x h => by
    have h' : z.cps.size ≤ i := by simpa using h
    exact h'
  len := by
    rw [List.length_map, Array.length_toList]
    exact h
section
variable {X : Cx} {G0 : Gh} {C : PC} {cls : Nat → Value} {W : WX} {tg : Expr}
/-- a list or a tuple, walked -/
theorem pi_seq {l : Expr} {tl : TE} (hl : PE X l tl) : PI X tg l (fun σ H R => tl σ H fun x H1 => (∃ a xs, x = .ref a ∧ SqL X.K H1 a xs ∧ (xs.length ≤ sizeLine → R (Itl X.K a) H1)) ∨ ∃ a xs, x = .ref a ∧ SqT X.K H1 a xs ∧ (xs.length ≤ sizeLine → R (Itt X.K a) H1)) := by
  refine ⟨fun pins s σ H R I h => ?_⟩
  refine thn (hl.run pins s σ H _ I h) fun v s1 ⟨x, H1, I1, r1, q1⟩ => ?_
  rcases q1 with ⟨a, xs, e, hq, q⟩ | ⟨a, xs, e, hq, q⟩
  · subst e
    cases r1
    obtain ⟨its, rv, p, hz⟩ := I1.list hq
    refine wpAny_pyIter_list p.isList ?_
    refine ⟨s1.heap.objs.size, [s1.heap.objs.size], _, _, H1, rfl, I1.kept (t' := s1.toks) fun b o e => Heap.get?_push_of_some _ e, turn_list a _, ⟨_, Heap.get?_push_size _ rfl, rfl, rfl⟩, fun b hb => ?_, q hz⟩
    have e : b = s1.heap.objs.size := by simpa using hb
    subst e
    exact I1.fpOk (Nat.le_refl _) (I1.hok.fresh (Nat.le_refl _))
  · subst e
    cases r1
    obtain ⟨its, rv, p, hz⟩ := I1.tuple hq
    refine wpAny_pyIter_tuple (show s1.heap.IsTuple a its.toArray from p) ?_
    refine ⟨s1.heap.objs.size, [s1.heap.objs.size], _, _, H1, rfl, I1.kept (t' := s1.toks) fun b o e => Heap.get?_push_of_some _ e, turn_tuple a _, ⟨_, Heap.get?_push_size _ rfl, rfl, rfl⟩, fun b hb => ?_, q hz⟩
    have e : b = s1.heap.objs.size := by simpa using hb
    subst e
    exact I1.fpOk (Nat.le_refl _) (I1.hok.fresh (Nat.le_refl _))
theorem sndI_seq {a : Ex} {e : Expr} (ha : PE X e (tX (EV X G0 C cls) W (evX C a))) : PI X tg e (tI (EV X G0 C cls) W (evI C (.seq a))) := by
  refine PI.imp (pi_seq ha) fun σ H R ⟨G, pv, F, env, S, h⟩ => ⟨G, pv, F, env, S, ?_⟩
  unfold evI at h
  refine Post.imp (Post.bind h) Ext.refl fun m e1 h1 => PM.frozen fun v F1 H1 S1 x1 r1 => ?_
  obtain ⟨xs, em, h2⟩ := Post.ofO h1
  generalize m.toD = d at em r1
  cases d with
  | list ds =>
    cases em
    obtain ⟨b, vs, rfl, q, r⟩ := r1
    exact .inl ⟨b, vs, rfl, SqL.ext S1.fh q, fun hz => h2 F1 H1 _ S1 x1 (itl_ok hz q r)⟩
  | tuple ds =>
    cases em
    obtain ⟨b, vs, rfl, q, r⟩ := r1
    exact .inr ⟨b, vs, rfl, SqT.of (S1.fh _ _ q), fun hz => h2 F1 H1 _ S1 x1 (itt_ok hz (SqT.of q) r)⟩
  | _ => cases em
theorem sndI_chars {a : Ex} {e : Expr} (ha : PE X e (tX (EV X G0 C cls) W (evX C a))) : PI X tg e (tI (EV X G0 C cls) W (evI C (.chars a))) := by
  refine PI.imp (pi_str ha) fun σ H R ⟨G, pv, F, env, S, h⟩ => ⟨G, pv, F, env, S, ?_⟩
  unfold evI at h
  refine Post.imp (Post.bind h) Ext.refl fun m e1 h1 => PM.frozen fun v F1 H1 S1 x1 r1 => ?_
  obtain ⟨xs, em, h2⟩ := Post.ofO h1
  generalize m.toD = d at em r1
  unfold charsO at em
  split at em
  · split at em
    · cases em
      exact ⟨_, r1, h2 F1 H1 _ S1 x1 (its_ok (by assumption))⟩
    · cases em
  · cases em
theorem itvl_ok {K : PySem.W.Frag} {F : Hp} {a : Addr} {vs : List V} {ds : List D} (hl : ds.length ≤ sizeLine) (q : SqL K F a vs) (r : Reps K F ds vs) : ItOk K F ds.reverse (Itv K a vs.length) where
  go := fun H i x h => by
    have hi : i < vs.length := by rw [List.length_reverse, r.length] at h; exact h
    obtain ⟨v, e⟩ := get_of_lt (xs := vs) (i := vs.length - 1 - i) (by omega)
    exact ⟨hi, vs, v, SqL.ext x q, e⟩
  yld := fun H i x H' ex hi h => by
    obtain ⟨rfl, h⟩ := h
    have e := h vs (SqL.ext ex q)
    obtain ⟨d, h1, h2⟩ := r.getV e
    have hi : i < vs.length := by rw [List.length_reverse, r.length] at hi; exact hi
    refine ⟨rfl, d, ?_, h2⟩
    rw [List.getElem?_reverse (by rw [r.length]; exact hi), r.length]
    exact h1
  stop := fun H i x h => by
    show vs.length ≤ i
    rw [List.length_reverse, r.length] at h; exact h
  len := by rw [List.length_reverse]; exact hl
theorem itvt_ok {K : PySem.W.Frag} {F : Hp} {a : Addr} {vs : List V} {ds : List D} (hl : ds.length ≤ sizeLine) (q : SqT K F a vs) (r : Reps K F ds vs) : ItOk K F ds.reverse (RT.ItvT K a vs.length) where
  go := fun H i x h => by
    have hi : i < vs.length := by rw [List.length_reverse, r.length] at h; exact h
    obtain ⟨v, e⟩ := get_of_lt (xs := vs) (i := vs.length - 1 - i) (by omega)
    exact ⟨hi, vs, v, SqT.ext x q, e⟩
  yld := fun H i x H' ex hi h => by
    obtain ⟨rfl, h⟩ := h
    have e := h vs (SqT.ext ex q)
    obtain ⟨d, h1, h2⟩ := r.getV e
    have hi : i < vs.length := by rw [List.length_reverse, r.length] at hi; exact hi
    refine ⟨rfl, d, ?_, h2⟩
    rw [List.getElem?_reverse (by rw [r.length]; exact hi), r.length]
    exact h1
  stop := fun H i x h => by
    show vs.length ≤ i
    rw [List.length_reverse, r.length] at h; exact h
  len := by rw [List.length_reverse]; exact hl
theorem sndI_rev {a : Ex} {e : Expr} {p pos : Pos} (hg : Gl X "reversed") (hm : X.mg "reversed" = none) (hs : notStar e = true) (ha : PE X e (tX (EV X G0 C cls) W (evX C a))) : PI X tg (.Call (.Name "reversed" p) [e] [] pos) (tI (EV X G0 C cls) W (evI C (.rev a))) := by
  refine PI.imp (RT.pi_revA hg hm ha (star_of hs)) fun σ H R ⟨G, pv, F, env, S, h⟩ => ⟨G, pv, F, env, S, ?_⟩
  unfold evI at h
  refine Post.imp (Post.bind h) Ext.refl fun m e1 h1 => PM.frozen fun v F1 H1 S1 x1 r1 => ?_
  obtain ⟨xs, em, h2⟩ := Post.ofO h1
  obtain ⟨ys, ey, em⟩ := Option.bind_eq_some_iff.mp em
  split at em
  · rename_i hz
    cases em
    generalize m.toD = d at ey r1
    cases d with
    | list ds =>
      cases ey
      obtain ⟨b, vs, rfl, q, r⟩ := r1
      exact ⟨b, vs, rfl, .inl ⟨SqL.ext S1.fh q, h2 F1 H1 _ S1 x1 (itvl_ok hz q r)⟩⟩
    | tuple ds =>
      cases ey
      obtain ⟨b, vs, rfl, q, r⟩ := r1
      exact ⟨b, vs, rfl, .inr ⟨SqT.of (S1.fh _ _ q), h2 F1 H1 _ S1 x1 (itvt_ok hz (SqT.of q) r)⟩⟩
    | _ => cases ey
  · cases em
theorem ros_ints {K : PySem.W.Frag} {F H : Hp} {i : Int} {v : V} (h : RepO K F H (.int i) v) : v = .int i := h
theorem sndI_range1 {a : Ex} {e : Expr} {p pos : Pos} (hg : Gl X "range") (hm : X.mg "range" = none) (hs : notStar e = true) (ha : PE X e (tO (EV X G0 C cls) W (opd a (evX C a)))) : PI X tg (.Call (.Name "range" p) [e] [] pos) (tI (EV X G0 C cls) W (evI C (.range (.cons a .nil)))) := by
  refine PI.imp (pi_range1 hg hm (pa_cons ha pa_nil (star_of hs)) (star_of hs)) fun σ H R ⟨G, pv, F, env, S, h⟩ => ⟨G, pv, F, env, S, ?_⟩
  unfold evI evOs evOs at h
  refine Post.imp (Post.bind (Post.bind h)) Ext.refl fun o e1 h1 v F1 H1 S1 x1 r1 => ?_
  have h1' : Post ((EV X G0 C cls).at G) pv W σ F (Q1.ofO ((fetchs e1 [o]).bind rangeO) e1) _ := h1
  obtain ⟨xs, em, h2⟩ := Post.ofO h1'
  obtain ⟨ds, h3, em⟩ := Option.bind_eq_some_iff.mp em
  obtain ⟨d, h5, h6⟩ := Option.bind_eq_some_iff.mp h3
  cases h6
  have rr := fetch_rep S1 r1 h5
  cases d with
  | int j =>
    simp only [rangeO] at em
    split at em
    · rename_i hz
      cases em
      cases (show v = _ from rr)
      exact ⟨j, rfl, hz.2, by omega, h2 F1 H1 _ S1 x1 (itr_ok (by rw [sizeLine_eq]; omega))⟩
    · cases em
  | _ => cases em
theorem sndI_range2 {a b : Ex} {e f : Expr} {p pos : Pos} (hg : Gl X "range") (hm : X.mg "range" = none) (hs : notStar e = true) (hs2 : notStar f = true) (ha : PE X e (tO (EV X G0 C cls) W (opd a (evX C a)))) (hb : PE X f (tO (EV X G0 C cls) W (opd b (evX C b)))) :
    PI X tg (.Call (.Name "range" p) [e, f] [] pos) (tI (EV X G0 C cls) W (evI C (.range (.cons a (.cons b .nil))))) := by
  refine PI.imp (pi_range2 hg hm (pa_cons ha (pa_cons hb pa_nil (star_of hs2)) (star_of hs)) (by rw [star_of hs, star_of hs2]; rfl) (star_of hs2)) fun σ H R ⟨G, pv, F, env, S, h⟩ => ⟨G, pv, F, env, S, ?_⟩
  unfold evI evOs evOs evOs at h
  refine Post.imp (Post.bind (Post.bind h)) Ext.refl fun o e1 h1 v F1 H1 S1 x1 r1 => ⟨G, pv, F1, e1, S1, ?_⟩
  refine Post.imp (Post.bind (Post.bind h1)) x1 fun o2 e2 h1 v2 F2 H2 S2 x2 r2 => ?_
  have h1' : Post ((EV X G0 C cls).at G) pv W σ F (Q1.ofO ((fetchs e2 [o, o2]).bind rangeO) e2) _ := h1
  obtain ⟨xs, em, h2⟩ := Post.ofO h1'
  obtain ⟨ds, h3, em⟩ := Option.bind_eq_some_iff.mp em
  obtain ⟨d, h5, h6⟩ := Option.bind_eq_some_iff.mp h3
  obtain ⟨ds', h6b, rfl⟩ := Option.map_eq_some_iff.mp h6
  obtain ⟨d2, h7, h8⟩ := Option.bind_eq_some_iff.mp h6b
  cases h8
  have rr := fetch_rep S2 (r1.ext x2) h5
  have rr2 := fetch_rep S2 r2 h7
  cases d with
  | int i =>
    cases d2 with
    | int j =>
      simp only [rangeO] at em
      split at em
      · rename_i hz
        cases em
        cases (show v = _ from rr)
        cases (show v2 = _ from rr2)
        exact ⟨i, j, rfl, hz.1, h2 F2 H2 _ S2 (x1.trans x2) (itr_ok (by rw [sizeLine_eq]; omega))⟩
      · cases em
    | _ => cases em
  | _ => cases em
theorem rngN_is {i j c : Int} (hc : c ≠ 0) : Builtin.Range.rangeSize i j c = (rngN i j c : Nat) := by
  unfold rngN Builtin.Range.rangeSize
  split
  · split
    · have := Int.ediv_nonneg (show 0 ≤ j - i - 1 by omega) (show 0 ≤ c by omega)
      omega
    · rfl
  · split
    · have := Int.ediv_nonneg (show 0 ≤ i - j - 1 by omega) (show 0 ≤ -c by omega)
      omega
    · rfl
theorem upsC_len : ∀ {n : Nat} {lo c : Int}, (upsC lo c n).length = n
  | 0, _, _ => rfl
  | n + 1, lo, c => congrArg (· + 1) (upsC_len (n := n))
theorem upsC_get : ∀ {n : Nat} {lo c : Int} {i : Nat}, i < n → (upsC lo c n)[i]? = some (.int (lo + (i : Nat) * c))
  | 0, _, _, _, h => absurd h (Nat.not_lt_zero _)
  | n + 1, lo, c, 0, _ => by show some (PyData.int lo) = _; simp
  | n + 1, lo, c, i + 1, h => by
    show (upsC (lo + c) c n)[i]? = _
    rw [upsC_get (Nat.lt_of_succ_lt_succ h)]
    congr 2
    push_cast
    rw [Int.add_mul]
    omega
theorem itc_ok {K : PySem.W.Frag} {F : Hp} {lo c : Int} {n : Nat} (h : n ≤ sizeLine) : ItOk K F (upsC lo c n) (Itc lo c n) where
  go := fun H i x h => by rw [upsC_len] at h; exact h
  yld := fun H i x H' ex hi h => by
    obtain ⟨rfl, rfl⟩ := h
    rw [upsC_len] at hi
    exact ⟨rfl, _, upsC_get hi, rfl⟩
  stop := fun H i x h => by rw [upsC_len] at h; exact h
  len := by rw [upsC_len]; exact h
theorem rgC_of {i j c : Int} (h : (-(2 ^ 40) ≤ i ∧ i < 2 ^ 40 ∧ -(2 ^ 40) ≤ j ∧ j < 2 ^ 40) ∧ (c ≠ 0 ∧ -(2 ^ 20) < c ∧ c < 2 ^ 20) ∧ rngN i j c ≤ 16777216) : RgC i j c (rngN i j c) := by
  obtain ⟨h1, h2, h3⟩ := h
  refine ⟨h2.1, by omega, ?_, rngN_is h2.1⟩
  unfold Builtin.Range.small
  rw [rngN_is h2.1]
  simp only [Builtin.Range.rangeFitsLong, Bool.and_eq_true, Bool.or_eq_true, decide_eq_true_eq, beq_iff_eq]
  refine ⟨⟨⟨⟨by omega, by omega⟩, by omega⟩, by omega⟩, .inr ?_⟩
  split <;> simp only [Bool.and_eq_true, decide_eq_true_eq] <;> omega
theorem sndI_range3 {a b c : Ex} {e f g : Expr} {p pos : Pos} (hg : Gl X "range") (hm : X.mg "range" = none) (hs : notStar e = true) (hs2 : notStar f = true) (hs3 : notStar g = true) (ha : PE X e (tO (EV X G0 C cls) W (opd a (evX C a)))) (hb : PE X f (tO (EV X G0 C cls) W (opd b (evX C b)))) (hc : PE X g (tO (EV X G0 C cls) W (opd c (evX C c)))) :
    PI X tg (.Call (.Name "range" p) [e, f, g] [] pos) (tI (EV X G0 C cls) W (evI C (.range (.cons a (.cons b (.cons c .nil)))))) := by
  refine PI.imp (pi_range3 hg hm (pa_cons ha (pa_cons hb (pa_cons hc pa_nil (star_of hs3)) (star_of hs2)) (star_of hs)) (star_of hs) (by rw [star_of hs2, star_of hs3]; rfl)) fun σ H R ⟨G, pv, F, env, S, h⟩ => ⟨G, pv, F, env, S, ?_⟩
  unfold evI evOs evOs evOs evOs at h
  refine Post.imp (Post.bind (Post.bind h)) Ext.refl fun o e1 h1 v F1 H1 S1 x1 r1 => ⟨G, pv, F1, e1, S1, ?_⟩
  refine Post.imp (Post.bind (Post.bind h1)) x1 fun o2 e2 h1 v2 F2 H2 S2 x2 r2 => ⟨G, pv, F2, e2, S2, ?_⟩
  refine Post.imp (Post.bind (Post.bind h1)) (x1.trans x2) fun o3 e3 h1 v3 F3 H3 S3 x3 r3 => ?_
  have h1' : Post ((EV X G0 C cls).at G) pv W σ F (Q1.ofO ((fetchs e3 [o, o2, o3]).bind rangeO) e3) _ := h1
  obtain ⟨xs, em, h2⟩ := Post.ofO h1'
  obtain ⟨ds, h3, em⟩ := Option.bind_eq_some_iff.mp em
  obtain ⟨d, h5, h6⟩ := Option.bind_eq_some_iff.mp h3
  obtain ⟨ds', h6b, rfl⟩ := Option.map_eq_some_iff.mp h6
  obtain ⟨d2, h7, h8⟩ := Option.bind_eq_some_iff.mp h6b
  obtain ⟨ds2, h8b, rfl⟩ := Option.map_eq_some_iff.mp h8
  obtain ⟨d3, h9, h10⟩ := Option.bind_eq_some_iff.mp h8b
  cases h10
  have rr := fetch_rep S3 (r1.ext (x2.trans x3)) h5
  have rr2 := fetch_rep S3 (r2.ext x3) h7
  have rr3 := fetch_rep S3 r3 h9
  cases d with
  | int i =>
    cases d2 with
    | int j =>
      cases d3 with
      | int k =>
        simp only [rangeO] at em
        split at em
        · rename_i hz
          cases em
          cases (show v = _ from rr)
          cases (show v2 = _ from rr2)
          cases (show v3 = _ from rr3)
          exact ⟨i, j, k, _, rfl, rgC_of hz, h2 F3 H3 _ S3 (x1.trans (x2.trans x3)) (itc_ok (by have := hz.2.2; rw [sizeLine_eq]; omega))⟩
        · cases em
      | _ => cases em
    | _ => cases em
  | _ => cases em
theorem ups_ints {lo : Int} : ∀ (n : Nat), ups lo n = ((List.range n).map fun i : Nat => lo + (i : Int)).map PyData.int := fun n => by
  apply List.ext_getElem?
  intro i
  by_cases h : i < n
  · rw [ups_get h]; simp [h]
  · rw [List.getElem?_eq_none (by rw [ups_len]; omega), List.getElem?_eq_none (by simp; omega)]
theorem rg_reps {K : PySem.W.Frag} {F : Hp} {a b : Int} : Reps K F (ups a (b - a).toNat) (rgV a b) := by
  rw [ups_ints]
  have := reps_int_of (K := K) (F := F) ((List.range (b - a).toNat).map fun i : Nat => a + (i : Int))
  unfold rgV
  rw [List.map_map] at this
  rw [List.map_map] at this
  rw [List.map_map]
  exact this
theorem snd_rgl1 {a : Ex} {e : Expr} {p p2 pos pos2 : Pos} (hc : X.calm = true) (hg : Gl X "list") (hm : X.mg "list" = none) (hg2 : Gl X "range") (hm2 : X.mg "range" = none) (hs : notStar e = true) (ha : PE X e (tO (EV X G0 C cls) W (opd a (evX C a)))) :
    PE X (.Call (.Name "list" p) [.Call (.Name "range" p2) [e] [] pos2] [] pos) (tX (EV X G0 C cls) W (evX C (.rgl (.cons a .nil)))) := by
  refine PE.imp (pe_listRg hc hg hm (prg_1 hg2 hm2 ha (star_of hs))) fun σ H Q ⟨G, pv, F, env, S, h⟩ => ⟨G, pv, F, env, S, ?_⟩
  unfold evX evOs evOs at h
  refine Post.imp (Post.bind (Post.bind h)) Ext.refl fun o e1 h1 v F1 H1 S1 x1 r1 => ?_
  have h1' : Post ((EV X G0 C cls).at G) pv W σ F (Q1.ofO (((fetchs e1 [o]).bind rangeO).map M.ol) e1) _ := h1
  obtain ⟨m, em, h2⟩ := Post.ofO h1'
  obtain ⟨xs, em2, rfl⟩ := Option.map_eq_some_iff.mp em
  clear em
  obtain ⟨ds, h3, em⟩ := Option.bind_eq_some_iff.mp em2
  obtain ⟨d, h5, h6⟩ := Option.bind_eq_some_iff.mp h3
  cases h6
  have rr := fetch_rep S1 r1 h5
  cases d with
  | int j =>
    simp only [rangeO] at em
    split at em
    · rename_i hz
      cases em
      cases (show v = _ from rr)
      refine ⟨j, rfl, ⟨by omega, by omega, hz.2, by omega, by omega⟩, fun q hq => ?_⟩
      have r0 : Reps X.K F1 (ups 0 j.toNat) (rgV 0 j) := by
        have := rg_reps (K := X.K) (F := F1) (a := 0) (b := j)
        rwa [Int.sub_zero] at this
      exact (PN.of (T := (EV X G0 C cls).at G) S1 x1 h2) q _ hq r0
    · cases em
  | _ => cases em
theorem snd_rgl2 {a b : Ex} {e f : Expr} {p p2 pos pos2 : Pos} (hc : X.calm = true) (hg : Gl X "list") (hm : X.mg "list" = none) (hg2 : Gl X "range") (hm2 : X.mg "range" = none) (hs : notStar e = true) (hs2 : notStar f = true) (ha : PE X e (tO (EV X G0 C cls) W (opd a (evX C a)))) (hb : PE X f (tO (EV X G0 C cls) W (opd b (evX C b)))) :
    PE X (.Call (.Name "list" p) [.Call (.Name "range" p2) [e, f] [] pos2] [] pos) (tX (EV X G0 C cls) W (evX C (.rgl (.cons a (.cons b .nil))))) := by
  refine PE.imp (pe_listRg hc hg hm (prg_2 hg2 hm2 ha hb (star_of hs) (star_of hs2) (by rw [star_of hs2]; rfl))) fun σ H Q ⟨G, pv, F, env, S, h⟩ => ⟨G, pv, F, env, S, ?_⟩
  unfold evX evOs evOs evOs at h
  refine Post.imp (Post.bind (Post.bind h)) Ext.refl fun o e1 h1 v F1 H1 S1 x1 r1 => ⟨G, pv, F1, e1, S1, ?_⟩
  refine Post.imp (Post.bind (Post.bind h1)) x1 fun o2 e2 h1 v2 F2 H2 S2 x2 r2 => ?_
  have h1' : Post ((EV X G0 C cls).at G) pv W σ F (Q1.ofO (((fetchs e2 [o, o2]).bind rangeO).map M.ol) e2) _ := h1
  obtain ⟨m, em, h2⟩ := Post.ofO h1'
  obtain ⟨xs, em2, rfl⟩ := Option.map_eq_some_iff.mp em
  clear em
  obtain ⟨ds, h3, em⟩ := Option.bind_eq_some_iff.mp em2
  obtain ⟨d, h5, h6⟩ := Option.bind_eq_some_iff.mp h3
  obtain ⟨ds', h6b, rfl⟩ := Option.map_eq_some_iff.mp h6
  obtain ⟨d2, h7, h8⟩ := Option.bind_eq_some_iff.mp h6b
  cases h8
  have rr := fetch_rep S2 (r1.ext x2) h5
  have rr2 := fetch_rep S2 r2 h7
  cases d with
  | int i =>
    cases d2 with
    | int j =>
      simp only [rangeO] at em
      split at em
      · rename_i hz
        cases em
        cases (show v = _ from rr)
        cases (show v2 = _ from rr2)
        refine ⟨i, j, rfl, rfl, ⟨hz.1.1, hz.1.2.1, hz.1.2.2.1, hz.1.2.2.2, by omega⟩, fun q hq => ?_⟩
        exact (PN.of (T := (EV X G0 C cls).at G) S2 (x1.trans x2) h2) q _ hq rg_reps
      · cases em
    | _ => cases em
  | _ => cases em
theorem snd_rgt1 {a : Ex} {e : Expr} {p p2 pos pos2 : Pos} (hc : X.calm = true) (hg : Gl X "tuple") (hm : X.mg "tuple" = none) (hg2 : Gl X "range") (hm2 : X.mg "range" = none) (hs : notStar e = true) (ha : PE X e (tO (EV X G0 C cls) W (opd a (evX C a)))) :
    PE X (.Call (.Name "tuple" p) [.Call (.Name "range" p2) [e] [] pos2] [] pos) (tX (EV X G0 C cls) W (evX C (.rgt (.cons a .nil)))) := by
  refine PE.imp (pe_tupRg hc hg hm (prg_1 hg2 hm2 ha (star_of hs))) fun σ H Q ⟨G, pv, F, env, S, h⟩ => ⟨G, pv, F, env, S, ?_⟩
  unfold evX evOs evOs at h
  refine Post.imp (Post.bind (Post.bind h)) Ext.refl fun o e1 h1 v F1 H1 S1 x1 r1 => ?_
  have h1' : Post ((EV X G0 C cls).at G) pv W σ F (Q1.ofO (((fetchs e1 [o]).bind rangeO).map fun xs => M.p (.tuple xs)) e1) _ := h1
  obtain ⟨m, em, h2⟩ := Post.ofO h1'
  obtain ⟨xs, em2, rfl⟩ := Option.map_eq_some_iff.mp em
  clear em
  obtain ⟨ds, h3, em⟩ := Option.bind_eq_some_iff.mp em2
  obtain ⟨d, h5, h6⟩ := Option.bind_eq_some_iff.mp h3
  cases h6
  have rr := fetch_rep S1 r1 h5
  cases d with
  | int j =>
    simp only [rangeO] at em
    split at em
    · rename_i hz
      cases em
      cases (show v = _ from rr)
      refine ⟨j, rfl, ⟨by omega, by omega, hz.2, by omega, by omega⟩, fun q hq => ?_⟩
      have r0 : Reps X.K F1 (ups 0 j.toNat) (rgV 0 j) := by
        have := rg_reps (K := X.K) (F := F1) (a := 0) (b := j)
        rwa [Int.sub_zero] at this
      exact (PN.of (T := (EV X G0 C cls).at G) S1 x1 h2).tup r0 hq S1.fh
    · cases em
  | _ => cases em
theorem snd_rgt2 {a b : Ex} {e f : Expr} {p p2 pos pos2 : Pos} (hc : X.calm = true) (hg : Gl X "tuple") (hm : X.mg "tuple" = none) (hg2 : Gl X "range") (hm2 : X.mg "range" = none) (hs : notStar e = true) (hs2 : notStar f = true) (ha : PE X e (tO (EV X G0 C cls) W (opd a (evX C a)))) (hb : PE X f (tO (EV X G0 C cls) W (opd b (evX C b)))) :
    PE X (.Call (.Name "tuple" p) [.Call (.Name "range" p2) [e, f] [] pos2] [] pos) (tX (EV X G0 C cls) W (evX C (.rgt (.cons a (.cons b .nil))))) := by
  refine PE.imp (pe_tupRg hc hg hm (prg_2 hg2 hm2 ha hb (star_of hs) (star_of hs2) (by rw [star_of hs2]; rfl))) fun σ H Q ⟨G, pv, F, env, S, h⟩ => ⟨G, pv, F, env, S, ?_⟩
  unfold evX evOs evOs evOs at h
  refine Post.imp (Post.bind (Post.bind h)) Ext.refl fun o e1 h1 v F1 H1 S1 x1 r1 => ⟨G, pv, F1, e1, S1, ?_⟩
  refine Post.imp (Post.bind (Post.bind h1)) x1 fun o2 e2 h1 v2 F2 H2 S2 x2 r2 => ?_
  have h1' : Post ((EV X G0 C cls).at G) pv W σ F (Q1.ofO (((fetchs e2 [o, o2]).bind rangeO).map fun xs => M.p (.tuple xs)) e2) _ := h1
  obtain ⟨m, em, h2⟩ := Post.ofO h1'
  obtain ⟨xs, em2, rfl⟩ := Option.map_eq_some_iff.mp em
  clear em
  obtain ⟨ds, h3, em⟩ := Option.bind_eq_some_iff.mp em2
  obtain ⟨d, h5, h6⟩ := Option.bind_eq_some_iff.mp h3
  obtain ⟨ds', h6b, rfl⟩ := Option.map_eq_some_iff.mp h6
  obtain ⟨d2, h7, h8⟩ := Option.bind_eq_some_iff.mp h6b
  cases h8
  have rr := fetch_rep S2 (r1.ext x2) h5
  have rr2 := fetch_rep S2 r2 h7
  cases d with
  | int i =>
    cases d2 with
    | int j =>
      simp only [rangeO] at em
      split at em
      · rename_i hz
        cases em
        cases (show v = _ from rr)
        cases (show v2 = _ from rr2)
        refine ⟨i, j, rfl, rfl, ⟨hz.1.1, hz.1.2.1, hz.1.2.2.1, hz.1.2.2.2, by omega⟩, fun q hq => ?_⟩
        exact (PN.of (T := (EV X G0 C cls).at G) S2 (x1.trans x2) h2).tup rg_reps hq S2.fh
      · cases em
    | _ => cases em
  | _ => cases em
/-- the ints of a range with a step -/
def stepV (i c : Int) (n : Nat) : List V := (List.range n).map fun t : Nat => V.int (i + (t : Int) * c)
theorem stepV_len (i c : Int) (n : Nat) : (stepV i c n).length = n := by simp [stepV]
theorem stepV_vals {i c : Int} {n : Nat} {acc : Array Value} (h : ItemsOf (fun t v => ∃ k, v = .int (i + t * c) k) acc n) : Vals (stepV i c n) acc.toList := by
  have hl : acc.toList.length = n := (Array.length_toList).trans h.1
  unfold stepV
  rw [← hl]
  exact vals_of_get acc.toList _ fun t u ht => by
    obtain ⟨k, rfl⟩ := h.2 t u (by rw [← ht, Array.getElem?_toList])
    exact ⟨k, rfl⟩
theorem upsC_rep {K : PySem.W.Frag} {F : Hp} {i c : Int} {n : Nat} : Reps K F (upsC i c n) (stepV i c n) := by
  have e : upsC i c n = ((List.range n).map fun t : Nat => i + (t : Int) * c).map PyData.int := by
    apply List.ext_getElem?
    intro t
    by_cases h : t < n
    · rw [upsC_get h]; simp [h]
    · rw [List.getElem?_eq_none (by rw [upsC_len]; omega), List.getElem?_eq_none (by simp; omega)]
  rw [e]
  have := reps_int_of (K := K) (F := F) ((List.range n).map fun t : Nat => i + (t : Int) * c)
  unfold stepV
  rw [List.map_map] at this ⊢
  rw [List.map_map] at this
  exact this
def tRC (out : Int → Int → Nat → HO) (t : TA) : TE := fun σ H Q => t σ H fun vs H1 => ∃ (i j c : Int) (n : Nat), vs = [.int i, .int j, .int c] ∧ RgC i j c n ∧ n ≤ 16777216 ∧ ∀ q, H1 q = none → Q (.ref q) (upd H1 q (out i c n))
section
variable {e1 e2 e3 : Expr} {t : TA} {p p2 pos pos2 : Pos}
theorem pe_rglC (hc : X.calm = true) (g1 : Gl X "list") (m1 : X.mg "list" = none) (g2 : Gl X "range") (m2 : X.mg "range" = none) (h : PA X [e1, e2, e3] t) (s1 : starEach [e1, e2, e3] X.env = (false, eval e1 X.env) :: starEach [e2, e3] X.env) (s2 : (backTo pos2 (starEach [e2, e3] X.env)).any (·.1) = false)
    (s3 : starEach [.Call (.Name "range" p2) [e1, e2, e3] [] pos2] X.env = (false, eval (.Call (.Name "range" p2) [e1, e2, e3] [] pos2) X.env) :: starEach [] X.env) : PE X (.Call (.Name "list" p) [.Call (.Name "range" p2) [e1, e2, e3] [] pos2] [] pos) (tRC (fun i c n => .lst (stepV i c n)) t) := by
  constructor
  intro pins s σ H Q I w
  refine Call_ (ld_blt I g1 m1 boot_list (PyProof.Rows.callWith_type1 (args_cons ?_ s3) s3))
  refine Call_ (ld_blt I g2 m2 boot_range (PyProof.Rows.callWith_type1 (thn (h.run pos2 pins s σ H _ I w) fun us s' ⟨vs, H1, I1, r1, q1⟩ => ?_) s1 s2))
  obtain ⟨i, j, c, n, rfl, ⟨c0, c1, c2, c3⟩, hn, q⟩ := q1
  cases r1 with
  | cons x rr =>
    cases rr with
    | cons y rr =>
      cases rr with
      | cons z rr =>
        cases rr
        obtain ⟨k1, rfl⟩ := x
        obtain ⟨k2, rfl⟩ := y
        obtain ⟨k3, rfl⟩ := z
        refine call_range_3 c0 (args_nil ?_) (.inl (PyProof.noPylong_small c1))
        have I2 : Inv X pins σ H1 { s' with heap := s'.heap.push { cls := .type "range", data := .fields #[.int i k1, .int j k2, .int c k3] } } := I1.kept (t' := s'.toks) fun b o e => Heap.get?_push_of_some _ e
        refine call_list_range (I2.ok.hd hc) (IsRange.new ..) c2 c3 hn fun h' tk acc c' hk e' hi => ?_
        exact ⟨.ref _, upd H1 _ (.lst (stepV i c n)), I2.laid hk (Nat.le_refl _) (show ObjOk X.prog X.w _ _ _ (.lst (stepV i c n)) from ⟨by rw [stepV_len, sizeLine_eq]; omega, acc.toList, c', stepV_vals hi, by rw [Array.toArray_toList]; exact e'⟩), rfl, q _ (I2.hok.fresh (Nat.le_refl _))⟩
theorem pe_rgtC (hc : X.calm = true) (g1 : Gl X "tuple") (m1 : X.mg "tuple" = none) (g2 : Gl X "range") (m2 : X.mg "range" = none) (h : PA X [e1, e2, e3] t) (s1 : starEach [e1, e2, e3] X.env = (false, eval e1 X.env) :: starEach [e2, e3] X.env) (s2 : (backTo pos2 (starEach [e2, e3] X.env)).any (·.1) = false)
    (s3 : starEach [.Call (.Name "range" p2) [e1, e2, e3] [] pos2] X.env = (false, eval (.Call (.Name "range" p2) [e1, e2, e3] [] pos2) X.env) :: starEach [] X.env) : PE X (.Call (.Name "tuple" p) [.Call (.Name "range" p2) [e1, e2, e3] [] pos2] [] pos) (tRC (fun i c n => .tup (stepV i c n)) t) := by
  constructor
  intro pins s σ H Q I w
  refine Call_ (ld_blt I g1 m1 boot_tuple (PyProof.Rows.callWith_type1 (args_cons ?_ s3) s3))
  refine Call_ (ld_blt I g2 m2 boot_range (PyProof.Rows.callWith_type1 (thn (h.run pos2 pins s σ H _ I w) fun us s' ⟨vs, H1, I1, r1, q1⟩ => ?_) s1 s2))
  obtain ⟨i, j, c, n, rfl, ⟨c0, c1, c2, c3⟩, hn, q⟩ := q1
  cases r1 with
  | cons x rr =>
    cases rr with
    | cons y rr =>
      cases rr with
      | cons z rr =>
        cases rr
        obtain ⟨k1, rfl⟩ := x
        obtain ⟨k2, rfl⟩ := y
        obtain ⟨k3, rfl⟩ := z
        refine call_range_3 c0 (args_nil ?_) (.inl (PyProof.noPylong_small c1))
        have I2 : Inv X pins σ H1 { s' with heap := s'.heap.push { cls := .type "range", data := .fields #[.int i k1, .int j k2, .int c k3] } } := I1.kept (t' := s'.toks) fun b o e => Heap.get?_push_of_some _ e
        refine call_tuple_range (I2.ok.hd hc) (IsRange.new ..) c2 c3 hn fun h' tk acc hk hi => ?_
        have I3 : Inv X pins σ H1 { s' with heap := h', toks := tk } := I2.kept hk
        exact ⟨.ref _, upd H1 _ (.tup (stepV i c n)), I3.laid (t' := tk) (fun c o e => Heap.get?_push_of_some _ e) (Nat.le_refl _) (show ObjOk X.prog X.w _ _ _ (.tup (stepV i c n)) from ⟨by rw [stepV_len, sizeLine_eq]; omega, acc.toList, stepV_vals hi, by rw [Array.toArray_toList]; exact IsTup.new _ _⟩), rfl, q _ (I3.hok.fresh (Nat.le_refl _))⟩
end
theorem snd_rgl3 {a b c : Ex} {e f g : Expr} {p p2 pos pos2 : Pos} (hcm : X.calm = true) (hg : Gl X "list") (hm : X.mg "list" = none) (hg2 : Gl X "range") (hm2 : X.mg "range" = none) (hs : notStar e = true) (hs2 : notStar f = true) (hs3 : notStar g = true) (hw : starEach [.Call (.Name "range" p2) [e, f, g] [] pos2] X.env = (false, eval (.Call (.Name "range" p2) [e, f, g] [] pos2) X.env) :: starEach [] X.env) (ha : PE X e (tO (EV X G0 C cls) W (opd a (evX C a)))) (hb : PE X f (tO (EV X G0 C cls) W (opd b (evX C b)))) (hc : PE X g (tO (EV X G0 C cls) W (opd c (evX C c)))) :
    PE X (.Call (.Name "list" p) [.Call (.Name "range" p2) [e, f, g] [] pos2] [] pos) (tX (EV X G0 C cls) W (evX C (.rgl (.cons a (.cons b (.cons c .nil)))))) := by
  refine PE.imp (pe_rglC hcm hg hm hg2 hm2 (pa_cons ha (pa_cons hb (pa_cons hc pa_nil (star_of hs3)) (star_of hs2)) (star_of hs)) (star_of hs) (by rw [star_of hs2, star_of hs3]; rfl) hw) fun σ H R ⟨G, pv, F, env, S, h⟩ => ⟨G, pv, F, env, S, ?_⟩
  unfold evX evOs evOs evOs evOs at h
  refine Post.imp (Post.bind (Post.bind h)) Ext.refl fun o e1 h1 v F1 H1 S1 x1 r1 => ⟨G, pv, F1, e1, S1, ?_⟩
  refine Post.imp (Post.bind (Post.bind h1)) x1 fun o2 e2 h1 v2 F2 H2 S2 x2 r2 => ⟨G, pv, F2, e2, S2, ?_⟩
  refine Post.imp (Post.bind (Post.bind h1)) (x1.trans x2) fun o3 e3 h1 v3 F3 H3 S3 x3 r3 => ?_
  have h1' : Post ((EV X G0 C cls).at G) pv W σ F (Q1.ofO (((fetchs e3 [o, o2, o3]).bind rangeO).map M.ol) e3) _ := h1
  obtain ⟨m, em, h2⟩ := Post.ofO h1'
  obtain ⟨xs, em2, rfl⟩ := Option.map_eq_some_iff.mp em
  clear em
  obtain ⟨ds, h3, em⟩ := Option.bind_eq_some_iff.mp em2
  obtain ⟨d, h5, h6⟩ := Option.bind_eq_some_iff.mp h3
  obtain ⟨ds', h6b, rfl⟩ := Option.map_eq_some_iff.mp h6
  obtain ⟨d2, h7, h8⟩ := Option.bind_eq_some_iff.mp h6b
  obtain ⟨ds2, h8b, rfl⟩ := Option.map_eq_some_iff.mp h8
  obtain ⟨d3, h9, h10⟩ := Option.bind_eq_some_iff.mp h8b
  cases h10
  have rr := fetch_rep S3 (r1.ext (x2.trans x3)) h5
  have rr2 := fetch_rep S3 (r2.ext x3) h7
  have rr3 := fetch_rep S3 r3 h9
  cases d with
  | int i =>
    cases d2 with
    | int j =>
      cases d3 with
      | int k =>
        simp only [rangeO] at em
        split at em
        · rename_i hz
          cases em
          cases (show v = _ from rr)
          cases (show v2 = _ from rr2)
          cases (show v3 = _ from rr3)
          refine ⟨i, j, k, _, rfl, rgC_of hz, by have := hz.2.2; omega, fun q hq => ?_⟩
          exact (PN.of (T := (EV X G0 C cls).at G) S3 (x1.trans (x2.trans x3)) h2) q _ hq upsC_rep
        · cases em
      | _ => cases em
    | _ => cases em
  | _ => cases em
theorem snd_rgt3 {a b c : Ex} {e f g : Expr} {p p2 pos pos2 : Pos} (hcm : X.calm = true) (hg : Gl X "tuple") (hm : X.mg "tuple" = none) (hg2 : Gl X "range") (hm2 : X.mg "range" = none) (hs : notStar e = true) (hs2 : notStar f = true) (hs3 : notStar g = true) (hw : starEach [.Call (.Name "range" p2) [e, f, g] [] pos2] X.env = (false, eval (.Call (.Name "range" p2) [e, f, g] [] pos2) X.env) :: starEach [] X.env) (ha : PE X e (tO (EV X G0 C cls) W (opd a (evX C a)))) (hb : PE X f (tO (EV X G0 C cls) W (opd b (evX C b)))) (hc : PE X g (tO (EV X G0 C cls) W (opd c (evX C c)))) :
    PE X (.Call (.Name "tuple" p) [.Call (.Name "range" p2) [e, f, g] [] pos2] [] pos) (tX (EV X G0 C cls) W (evX C (.rgt (.cons a (.cons b (.cons c .nil)))))) := by
  refine PE.imp (pe_rgtC hcm hg hm hg2 hm2 (pa_cons ha (pa_cons hb (pa_cons hc pa_nil (star_of hs3)) (star_of hs2)) (star_of hs)) (star_of hs) (by rw [star_of hs2, star_of hs3]; rfl) hw) fun σ H R ⟨G, pv, F, env, S, h⟩ => ⟨G, pv, F, env, S, ?_⟩
  unfold evX evOs evOs evOs evOs at h
  refine Post.imp (Post.bind (Post.bind h)) Ext.refl fun o e1 h1 v F1 H1 S1 x1 r1 => ⟨G, pv, F1, e1, S1, ?_⟩
  refine Post.imp (Post.bind (Post.bind h1)) x1 fun o2 e2 h1 v2 F2 H2 S2 x2 r2 => ⟨G, pv, F2, e2, S2, ?_⟩
  refine Post.imp (Post.bind (Post.bind h1)) (x1.trans x2) fun o3 e3 h1 v3 F3 H3 S3 x3 r3 => ?_
  have h1' : Post ((EV X G0 C cls).at G) pv W σ F (Q1.ofO (((fetchs e3 [o, o2, o3]).bind rangeO).map fun xs => M.p (.tuple xs)) e3) _ := h1
  obtain ⟨m, em, h2⟩ := Post.ofO h1'
  obtain ⟨xs, em2, rfl⟩ := Option.map_eq_some_iff.mp em
  clear em
  obtain ⟨ds, h3, em⟩ := Option.bind_eq_some_iff.mp em2
  obtain ⟨d, h5, h6⟩ := Option.bind_eq_some_iff.mp h3
  obtain ⟨ds', h6b, rfl⟩ := Option.map_eq_some_iff.mp h6
  obtain ⟨d2, h7, h8⟩ := Option.bind_eq_some_iff.mp h6b
  obtain ⟨ds2, h8b, rfl⟩ := Option.map_eq_some_iff.mp h8
  obtain ⟨d3, h9, h10⟩ := Option.bind_eq_some_iff.mp h8b
  cases h10
  have rr := fetch_rep S3 (r1.ext (x2.trans x3)) h5
  have rr2 := fetch_rep S3 (r2.ext x3) h7
  have rr3 := fetch_rep S3 r3 h9
  cases d with
  | int i =>
    cases d2 with
    | int j =>
      cases d3 with
      | int k =>
        simp only [rangeO] at em
        split at em
        · rename_i hz
          cases em
          cases (show v = _ from rr)
          cases (show v2 = _ from rr2)
          cases (show v3 = _ from rr3)
          refine ⟨i, j, k, _, rfl, rgC_of hz, by have := hz.2.2; omega, fun q hq => ?_⟩
          exact (PN.of (T := (EV X G0 C cls).at G) S3 (x1.trans (x2.trans x3)) h2).tup upsC_rep hq S3.fh
        · cases em
      | _ => cases em
    | _ => cases em
  | _ => cases em
theorem ddi_met (ns : List Int) : PyProof.Rows.firstMet (fun i => ns.getD i 0) ns.length = ddi ns := by
  unfold PyProof.Rows.firstMet ddi
  have e : (List.range ns.length).map (fun i => ns.getD i 0) = ns := by
    apply List.ext_getElem?
    intro i
    by_cases h : i < ns.length
    · simp [h]
    · simp [h, List.getElem?_eq_none (Nat.le_of_not_lt h)]
  rw [e]; rfl
theorem ddi_len_le (ns : List Int) : (ddi ns).length ≤ ns.length := by
  rw [← ddi_met]; exact PyProof.Rows.firstMet_length_le _ _
def tLenSetD (K : PySem.W.Frag) (t : TE) : TE := fun σ H Q => t σ H fun x H1 => ∃ (b : Addr) (ns : List Int), x = .ref b ∧ SqL K H1 b (ns.map V.int) ∧ ns.length ≤ 4000 ∧ Q (.int ((ddi ns).length : Nat)) H1
theorem pe_lenSetD {X : Cx} {e : Expr} {t : TE} {p1 p2 q1 q2 : Pos} (gl : Gl X "len") (ml : X.mg "len" = none) (gs : Gl X "set") (ms : X.mg "set" = none) (he : PE X e t) (cm : X.calm = true)
    (st : starEach [e] X.env = (false, eval e X.env) :: starEach [] X.env) : PE X (.Call (.Name "len" p1) [.Call (.Name "set" p2) [e] [] q1] [] q2) (tLenSetD X.K t) := by
  constructor
  intro pins s σ H Q I h
  refine Call_ (ld_blt I gl ml boot_len ?_)
  refine PyProof.Rows.callWith_builtin1 (PyProof.Rows.args_cons (Call_ (ld_blt I gs ms boot_set (PyProof.Rows.callWith_type1 (PyProof.Rows.args_cons (thn (he.run pins s σ H _ I h) fun v s1 w1 => PyProof.Rows.args_nil ?_) st) st rfl))) rfl) rfl rfl
  obtain ⟨x, H1, I1, r1, b, ns, rfl, hq, hl, k1⟩ := w1
  cases r1
  obtain ⟨its, r, pl, _⟩ := I1.list hq
  have sz : its.toArray.size = ns.length := by rw [List.size_toArray, ← r.length, List.length_map]
  apply call_set_list (I1.ok.hd cm) pl.isList (by simpa using RZ.intsAre_vals r) (by rw [sz]; unfold scanBound; omega)
  intro h' tk hS hk
  apply PyProof.Rows.args_nil
  rw [sz, ddi_met] at hS
  obtain ⟨o, es, ep, t, ho, hex, hd, _, _, _, hf, hn⟩ := hS
  have I2 : Inv X pins σ H1 { s1 with heap := h', toks := tk } := I1.kept fun b o e => hk b o (Heap.lt_size e) e
  have := ddi_len_le ns
  exact call_len_set ho hex hd hf (by rw [hn]; omega) ⟨.int (ddi ns).length, H1, I2.tok _, ⟨_, by rw [hn]⟩, k1⟩
theorem snd_lset {a : Ex} {e : Expr} {p p2 pos pos2 : Pos} (hc : X.calm = true) (hg : Gl X "len") (hm : X.mg "len" = none) (hg2 : Gl X "set") (hm2 : X.mg "set" = none) (hs : notStar e = true) (ha : PE X e (tX (EV X G0 C cls) W (evX C a))) :
    PE X (.Call (.Name "len" p) [.Call (.Name "set" p2) [e] [] pos2] [] pos) (tX (EV X G0 C cls) W (evX C (.lset a))) := by
  refine PE.imp (pe_lenSetD hg hm hg2 hm2 ha hc (star_of hs)) fun σ H Q ⟨G, pv, F, env, S, h⟩ => ⟨G, pv, F, env, S, ?_⟩
  unfold evX at h
  refine Post.imp (Post.bind h) Ext.refl fun m e1 h1 => PM.frozen fun v F1 H1 S1 x1 r1 => ?_
  obtain ⟨m', em, h2⟩ := Post.ofO h1
  generalize m.toD = d at em r1
  cases d with
  | list ds =>
    obtain ⟨ns, h3, em⟩ := Option.bind_eq_some_iff.mp em
    split at em
    · rename_i hz
      cases em
      obtain ⟨b, vs, rfl, q, r⟩ := r1
      rw [intsOf_is h3] at r
      cases reps_int_inv r
      exact ⟨b, ns, rfl, SqL.ext S1.fh q, hz, (PN.of (T := (EV X G0 C cls).at G) S1 x1 h2).val rfl⟩
    · cases em
  | _ => cases em
theorem mem_insU {x y : Int} : ∀ {l : List Int}, y ∈ insU x l ↔ y = x ∨ y ∈ l
  | [] => by simp [insU]
  | z :: l => by
    unfold insU
    by_cases h1 : x < z
    · rw [if_pos h1]; simp
    · rw [if_neg h1]
      by_cases h2 : x = z
      · rw [if_pos h2, h2]
        simp
      · rw [if_neg h2, List.mem_cons, mem_insU (l := l), List.mem_cons]
        exact ⟨fun h => h.elim (fun q => .inr (.inl q)) fun h => h.elim .inl fun q => .inr (.inr q), fun h => h.elim (fun q => .inr (.inl q)) fun h => h.elim .inl fun q => .inr (.inr q)⟩
theorem pw_insU {x : Int} : ∀ {l : List Int}, l.Pairwise (· < ·) → (insU x l).Pairwise (· < ·)
  | [], _ => by simp [insU]
  | z :: l, h => by
    obtain ⟨h1, h2⟩ := List.pairwise_cons.mp h
    unfold insU
    by_cases c1 : x < z
    · rw [if_pos c1]
      exact List.pairwise_cons.mpr ⟨fun y hy => (List.mem_cons.mp hy).elim (fun q => by omega) fun q => by have := h1 y q; omega, h⟩
    · rw [if_neg c1]
      by_cases c2 : x = z
      · rw [if_pos c2]; exact h
      · rw [if_neg c2]
        exact List.pairwise_cons.mpr ⟨fun y hy => (mem_insU.mp hy).elim (fun q => by omega) fun q => h1 y q, pw_insU h2⟩
theorem mem_srtU {y : Int} : ∀ {ns : List Int}, y ∈ srtU ns ↔ y ∈ ns
  | [] => Iff.rfl
  | x :: ns => by
    show y ∈ insU x (srtU ns) ↔ _
    rw [mem_insU, mem_srtU (ns := ns), List.mem_cons]
theorem pw_srtU : ∀ ns : List Int, (srtU ns).Pairwise (· < ·)
  | [] => .nil
  | x :: ns => pw_insU (pw_srtU ns)
theorem srtU_uniq {ns ms : List Int} (h : ms.Pairwise (· < ·)) (hm : ∀ k, k ∈ ms ↔ k ∈ ns) : ms = srtU ns := by
  have n1 : ms.Nodup := h.imp fun q => by omega
  have n2 : (srtU ns).Nodup := (pw_srtU ns).imp fun q => by omega
  exact ((List.perm_ext_iff_of_nodup n1 n2).mpr fun k => by rw [hm, mem_srtU]).eq_of_pairwise (fun a b _ _ q r => by omega) h (pw_srtU ns)
def tSset (K : PySem.W.Frag) (t : TE) : TE := fun σ H Q => t σ H fun x H1 => ∃ (b : Addr) (ns : List Int), x = .ref b ∧ SqL K H1 b (ns.map V.int) ∧ ns.length < 64 ∧ ∀ p, H1 p = none → Q (.ref p) (upd H1 p (.lst ((srtU ns).map V.int)))
theorem pe_sset {X : Cx} {e : Expr} {t : TE} {p1 p2 q1 q2 : Pos} (gl : Gl X "sorted") (ml : X.mg "sorted" = none) (gs : Gl X "set") (ms : X.mg "set" = none) (he : PE X e t) (cm : X.calm = true)
    (st : starEach [e] X.env = (false, eval e X.env) :: starEach [] X.env) : PE X (.Call (.Name "sorted" p1) [.Call (.Name "set" p2) [e] [] q1] [] q2) (tSset X.K t) := by
  constructor
  intro pins s σ H Q I h
  refine Call_ (ld_blt I gl ml boot_sorted ?_)
  refine PyProof.Rows.callWith_builtin1 (PyProof.Rows.args_cons (Call_ (ld_blt I gs ms boot_set (PyProof.Rows.callWith_type1 (PyProof.Rows.args_cons (thn (he.run pins s σ H _ I h) fun v s1 w1 => PyProof.Rows.args_nil ?_) st) st rfl))) rfl) rfl rfl
  obtain ⟨x, H1, I1, r1, b, ns, rfl, hq, hl, k1⟩ := w1
  cases r1
  obtain ⟨its, r, pl, _⟩ := I1.list hq
  refine set_of_list ns (I1.ok.hd cm) pl.isList (by simpa using RZ.intsAre_vals r) (by unfold scanBound; omega) fun h' tk hm => ?_
  obtain ⟨⟨c, hS, hc⟩, hk⟩ := hm
  apply PyProof.Rows.args_nil
  have I2 : Inv X pins σ H1 { s1 with heap := h', toks := tk } := I1.kept hk
  refine sorted_set (s := { s1 with heap := h', toks := tk }) hS (I2.ok.hd cm) (by omega) fun s' p out n' ms k g o hp hg hi hs hmem hlen => ?_
  have em : ms = srtU ns := srtU_uniq hs fun k => by rw [hmem]; simp
  subst em
  have hle : ((srtU ns).map V.int).length ≤ sizeLine := by rw [List.length_map, hlen, sizeLine_eq]; omega
  have hn : H1 p = none := I2.hok.fresh hp
  have J : Inv X pins σ (upd H1 p (.lst ((srtU ns).map V.int))) { ({ s1 with heap := h', toks := tk } : Shared) with heap := s'.heap, gens := s'.gens, drawn := s'.drawn, toks := s'.toks } :=
    I2.call (ch := []) (Un.laid k hp hn) (I2.hok.laid k hp ⟨hle, out.toList, n', vals_of_ints hi, hg⟩) (by rw [g]; exact I2.bare) (fun _ z => nomatch z)
  have e : s' = { ({ s1 with heap := h', toks := tk } : Shared) with heap := s'.heap, gens := s'.gens, drawn := s'.drawn, toks := s'.toks } := by
    cases s'
    cases o
    rfl
  rw [e]
  exact ⟨.ref p, _, J, rfl, k1 p hn⟩
theorem snd_sset {a : Ex} {e : Expr} {p p2 pos pos2 : Pos} (hc : X.calm = true) (hg : Gl X "sorted") (hm : X.mg "sorted" = none) (hg2 : Gl X "set") (hm2 : X.mg "set" = none) (hs : notStar e = true) (ha : PE X e (tX (EV X G0 C cls) W (evX C a))) :
    PE X (.Call (.Name "sorted" p) [.Call (.Name "set" p2) [e] [] pos2] [] pos) (tX (EV X G0 C cls) W (evX C (.sset a))) := by
  refine PE.imp (pe_sset hg hm hg2 hm2 ha hc (star_of hs)) fun σ H Q ⟨G, pv, F, env, S, h⟩ => ⟨G, pv, F, env, S, ?_⟩
  unfold evX at h
  refine Post.imp (Post.bind h) Ext.refl fun m e1 h1 => PM.frozen fun v F1 H1 S1 x1 r1 => ?_
  obtain ⟨m', em, h2⟩ := Post.ofO h1
  generalize m.toD = d at em r1
  cases d with
  | list ds =>
    obtain ⟨ns, h3, em⟩ := Option.bind_eq_some_iff.mp em
    split at em
    · rename_i hz
      cases em
      obtain ⟨b, vs, rfl, q, r⟩ := r1
      rw [intsOf_is h3] at r
      cases reps_int_inv r
      exact ⟨b, ns, rfl, SqL.ext S1.fh q, hz, fun p hp => (PN.of (T := (EV X G0 C cls).at G) S1 x1 h2) p _ hp (reps_int_of _)⟩
    · cases em
  | _ => cases em
theorem strsOf_is : ∀ {xs : List D} {ns : List Str}, strsOf xs = some ns → xs = ns.map .str
  | [], _, h => by cases h; rfl
  | .str x :: xs, _, h => by
    obtain ⟨r, h1, rfl⟩ := Option.map_eq_some_iff.mp h
    rw [strsOf_is h1]; rfl
  | .none :: _, _, h => by cases h
  | .bool _ :: _, _, h => by cases h
  | .int _ :: _, _, h => by cases h
  | .list _ :: _, _, h => by cases h
  | .tuple _ :: _, _, h => by cases h
  | .dict _ :: _, _, h => by cases h
theorem reps_str_inv {K : PySem.W.Frag} {F : Hp} : ∀ {ns : List Str} {vs : List V}, Reps K F (ns.map .str) vs → vs = ns.map V.str
  | [], _, h => h
  | n :: ns, vs, h => by
    obtain ⟨v, r, rfl, h1, h2⟩ := h
    rw [reps_str_inv h2]
    cases (show v = _ from h1)
    rfl
theorem reps_str_of {K : PySem.W.Frag} {F : Hp} : ∀ (ns : List Str), Reps K F (ns.map .str) (ns.map V.str)
  | [] => rfl
  | n :: ns => Reps.cons rfl (reps_str_of ns)
theorem Reps.dropLast {K : PySem.W.Frag} {F : Hp} {ds : List D} {vs : List V} (h : Reps K F ds vs) : Reps K F ds.dropLast vs.dropLast := by
  rw [List.dropLast_eq_take, List.dropLast_eq_take, ← h.length]
  exact h.take _
theorem Reps.eraseIdx {K : PySem.W.Frag} {F : Hp} {ds : List D} {vs : List V} (n : Nat) (h : Reps K F ds vs) : Reps K F (ds.eraseIdx n) (vs.eraseIdx n) := by
  rw [List.eraseIdx_eq_take_drop_succ, List.eraseIdx_eq_take_drop_succ]
  exact (h.take n).append (h.drop (n + 1))
def rCntD (K : PySem.W.Frag) : V → List V → Hp → VK → Prop := fun x xs H Q => ∃ (F : Hp) (ds : List D) (d : D) (y : V), xs = [y] ∧ Ext F H ∧ RepO K F H (.list ds) x ∧ RepO K F H d y ∧ okEq (.list ds) = true ∧ okEq d = true ∧ Q (.int (ds.countP (fun z => PyData.eqv z d) : Nat)) H
theorem mt_lcountD {X : Cx} (hu : X.A.units + 65 < cLine) : MtR X "list.count" (rCntD X.K) := by
  intro pins s σ H x xs v us Q I rx rxs h
  obtain ⟨F, ds, d, y, rfl, fh, hx, hy, h1, h2, q⟩ := h
  obtain ⟨u, rfl, ru⟩ := rxs.one
  obtain ⟨c1, p1⟩ := okEq_lay h1
  obtain ⟨c2, p2⟩ := okEq_lay h2
  obtain ⟨as, ra⟩ := reads_of I (hx.full fh) c1 rx
  obtain ⟨bs, rb⟩ := reads_of I (hy.full fh) c2 ru
  have p3 := depthAll_list p1
  have hxs : PyData.canLayAll0 ds = true := by simpa only [PyData.canLay0] using c1
  cases ra with
  | list ho hc hd rs =>
    rename_i a o vs n as'
    obtain ⟨cls, dd, data, sl⟩ := o
    simp only at hc hd
    subst hc hd
    have ec : vs.toList.countP (fun z => PyData.eqv (SeqAt.readOf s.heap z) d) = ds.countP (fun z => PyData.eqv z d) := by
      conv => rhs; rw [← SeqAt.readsAll_map ds _ _ hxs rs, List.countP_map]
      rfl
    refine call_meets PySem.F.slot_list_count ⟨_, ho, rfl⟩ PySem.F.entry_list_count (PySem.F.args_list_count_2 _ _)
      (SeqAt.list_countAt a vs n dd sl u (fun z => PyData.eqv (SeqAt.readOf s.heap z) d)) ⟨ho, SeqAt.items_eqAt rs rb hxs c2 (by omega), ?_⟩
    refine ⟨.int (ds.countP (fun z => PyData.eqv z d) : Nat), H, I.tok _, ⟨s.toks, ?_⟩, q⟩
    rw [ec]
theorem mt_lcountA {X : Cx} (hu : X.A.units + 65 < cLine) : MtR X "list.count" (fun x xs H Q => rCntI X.K x xs H Q ∨ rCntD X.K x xs H Q) := by
  intro pins s σ H x xs v us Q I rx rxs h
  rcases h with h | h
  · exact mt_lcount _ _ _ _ _ _ _ _ _ I rx rxs h
  · exact mt_lcountD hu _ _ _ _ _ _ _ _ _ I rx rxs h
theorem snd_met {k : Mt} {o a : Ex} {n : Str} {eo ea : Expr} {ap cp : Pos} (hu : X.A.units + 65 < cLine) (hk : mtName k = some n) (hl : (ap.endLine == cp.line) = true) (hb : notCall0 eo = true) (hs : notStar ea = true) (ho : PE X eo (tX (EV X G0 C cls) W (evX C o))) (ha : PE X ea (tO (EV X G0 C cls) W (opd a (evX C a)))) :
    PE X (.Call (.Attribute eo n ap) [ea] [] cp) (tX (EV X G0 C cls) W (evX C (.met k o (.cons a .nil)))) := by
  have go : (∀ xs, recvOk k (.list xs) = true) → (∀ d, (∀ xs, d ≠ .list xs) → recvOk k d = false) → ∀ (r : V → List V → Hp → VK → Prop), PE X (.Call (.Attribute eo n ap) [ea] [] cp) (tBM X.K "list" r (tX (EV X G0 C cls) W (evX C o)) (tCons (tO (EV X G0 C cls) W (opd a (evX C a))) tNil)) →
      (∀ (F H : Hp) (xs : List D) (d : D) (m : M) (b : Addr) (vs : List V) (v : V) (Q : VK), Ext F H → SqL X.K F b vs → Reps X.K F xs vs → RepO X.K F H d v → metO k (.list xs) [d] = some m → PN X.K F H m Q → r (.ref b) [v] H Q) →
      PE X (.Call (.Attribute eo n ap) [ea] [] cp) (tX (EV X G0 C cls) W (evX C (.met k o (.cons a .nil)))) := fun hr1 hr2 r hr himp => by
    refine PE.imp hr fun σ H Q ⟨G, pv, F, env, S, h⟩ => ⟨G, pv, F, env, S, ?_⟩
    unfold evX at h
    refine Post.imp (Post.bind h) Ext.refl fun m e1 h1 => PM.frozen fun v F1 H1 S1 x1 r1 => ?_
    generalize m.toD = d at h1 r1
    cases d with
    | list xs =>
      obtain ⟨b, vs, rfl, q, rr⟩ := r1
      refine ⟨.inl ⟨rfl, vs, SqL.ext S1.fh q⟩, G, pv, F1, e1, S1, ?_⟩
      rw [if_pos (hr1 xs)] at h1
      unfold evOs evOs at h1
      refine Post.imp (Post.bind (Post.bind h1)) x1 fun o2 e2 h2 v2 F2 H2 S2 x2 r2 => ?_
      have h2' : Post ((EV X G0 C cls).at G) pv W σ F (Q1.ofO ((fetchs e2 [o2]).bind (metO k (.list xs))) e2) _ := h2
      obtain ⟨m2, em, h3⟩ := Post.ofO h2'
      obtain ⟨ds, h4, em⟩ := Option.bind_eq_some_iff.mp em
      obtain ⟨d2, h5, h6⟩ := Option.bind_eq_some_iff.mp h4
      cases h6
      exact himp F2 H2 xs d2 m2 b vs v2 Q S2.fh (SqL.ext x2 q) (Reps.ext x2 rr) (fetch_rep S2 r2 h5) em (PN.of (T := (EV X G0 C cls).at G) S2 (x1.trans x2) h3)
    | _ => rw [if_neg (by rw [hr2 _ (by simp)]; exact Bool.false_ne_true)] at h1; exact h1.elim
  have go2 : ∀ (r : V → List V → Hp → VK → Prop), PE X (.Call (.Attribute eo n ap) [ea] [] cp) (tM1 r (tX (EV X G0 C cls) W (evX C o)) (tO (EV X G0 C cls) W (opd a (evX C a)))) → (∀ z, recvOk k (.str z) = true) → (∀ d, (∀ z, d ≠ .str z) → recvOk k d = false) →
      (∀ (F H : Hp) (z : Str) (d : D) (m : M) (v : V) (Q : VK), Ext F H → RepO X.K F H d v → metO k (.str z) [d] = some m → PN X.K F H m Q → r (.str z) [v] H Q) →
      PE X (.Call (.Attribute eo n ap) [ea] [] cp) (tX (EV X G0 C cls) W (evX C (.met k o (.cons a .nil)))) := fun r hr hr1 hr2 himp => by
    refine PE.imp hr fun σ H Q ⟨G, pv, F, env, S, h⟩ => ⟨G, pv, F, env, S, ?_⟩
    unfold evX at h
    refine Post.imp (Post.bind h) Ext.refl fun m e1 h1 => PM.frozen fun v F1 H1 S1 x1 r1 => ?_
    generalize m.toD = d at h1 r1
    cases d with
    | str z =>
      cases (show v = _ from r1)
      refine ⟨⟨z, rfl⟩, G, pv, F1, e1, S1, ?_⟩
      rw [if_pos (hr1 z)] at h1
      unfold evOs evOs at h1
      refine Post.imp (Post.bind (Post.bind h1)) x1 fun o2 e2 h2 v2 F2 H2 S2 x2 r2 => ?_
      have h2' : Post ((EV X G0 C cls).at G) pv W σ F (Q1.ofO ((fetchs e2 [o2]).bind (metO k (.str z))) e2) _ := h2
      obtain ⟨m2, em, h3⟩ := Post.ofO h2'
      obtain ⟨ds, h4, em⟩ := Option.bind_eq_some_iff.mp em
      obtain ⟨d2, h5, h6⟩ := Option.bind_eq_some_iff.mp h4
      cases h6
      exact himp F2 H2 z d2 m2 v2 Q S2.fh (fetch_rep S2 r2 h5) em (PN.of (T := (EV X G0 C cls).at G) S2 (x1.trans x2) h3)
    | _ => rw [if_neg (by rw [hr2 _ (by simp)]; exact Bool.false_ne_true)] at h1; exact h1.elim
  cases k with
  | index =>
    cases hk
    refine go (fun _ => rfl) (fun d hd => by cases d <;> first | rfl | exact absurd rfl (hd _)) (rIndex X.K) (pe_bm (cpos := cp) (apos := ap) PySem.F.plainAttrs_list PySem.F.slot_list_index PySem.F.type_list_index mt_index ho (pa_cons ha pa_nil (star_of hs)) (base_of hb) (by rw [star_of hs]; rfl) hl (star_of hs) rfl) fun F H xs d m b vs v Q fh q rr rd em pn => ?_
    cases d with
    | int j =>
      obtain ⟨ns, h3, em⟩ := Option.bind_eq_some_iff.mp em
      obtain ⟨i, h4, rfl⟩ := Option.map_eq_some_iff.mp em
      rw [intsOf_is h3] at rr
      cases reps_int_inv rr
      cases (show v = _ from rd)
      obtain ⟨hi, h5, h6⟩ := List.findIdx?_eq_some_iff_getElem.mp h4
      refine ⟨b, _, _, i, .int ns[i], rfl, rfl, SqL.ext fh q, rfl, ?_, by simp [hi], h5, fun m' z' hm hz => ?_, pn.val rfl⟩
      · rw [List.all_eq_true]
        intro x hx
        obtain ⟨y, _, rfl⟩ := List.mem_map.mp hx
        rfl
      · rw [List.getElem?_map] at hz
        obtain ⟨y, hy, rfl⟩ := Option.map_eq_some_iff.mp hz
        obtain ⟨hlt, rfl⟩ := List.getElem?_eq_some_iff.mp hy
        have := h6 m' hm
        show (ns[m'] == j) = false
        simpa using this
    | _ => cases em
  | count =>
    cases hk
    refine go (fun _ => rfl) (fun d hd => by cases d <;> first | rfl | exact absurd rfl (hd _)) (fun x xs H Q => rCntI X.K x xs H Q ∨ rCntD X.K x xs H Q) (pe_bm (cpos := cp) (apos := ap) PySem.F.plainAttrs_list PySem.F.slot_list_count PySem.F.type_list_count (mt_lcountA hu) ho (pa_cons ha pa_nil (star_of hs)) (base_of hb) (by rw [star_of hs]; rfl) hl (star_of hs) rfl) fun F H xs d m b vs v Q fh q rr rd em pn => ?_
    by_cases hj : ∃ j, d = .int j
    · obtain ⟨j, rfl⟩ := hj
      obtain ⟨ns, h3, rfl⟩ := Option.map_eq_some_iff.mp em
      rw [intsOf_is h3] at rr
      cases reps_int_inv rr
      cases (show v = _ from rd)
      exact .inl ⟨b, ns, j, rfl, rfl, SqL.ext fh q, pn.val rfl⟩
    · have he : metO .count (.list xs) [d] = if okEq (.list xs) && okEq d then some (.p (.int (xs.countP (fun y => PyData.eqv y d) : Nat))) else none := by
        cases d <;> first | rfl | exact absurd ⟨_, rfl⟩ hj
      rw [he] at em
      by_cases hb2 : (okEq (.list xs) && okEq d) = true
      · rw [if_pos hb2] at em
        cases em
        obtain ⟨k1, k2⟩ := Bool.and_eq_true_iff.mp hb2
        exact .inr ⟨F, xs, d, v, rfl, fh, ⟨b, vs, rfl, SqL.ext fh q, rr⟩, rd, k1, k2, pn.val rfl⟩
      · rw [if_neg hb2] at em
        cases em
  | join =>
    cases hk
    refine go2 _ (pe_join ho ha (star_of hs) (base_of hb) hl) (fun _ => rfl) (fun d hd => by cases d <;> first | rfl | exact absurd rfl (hd _)) fun F H z d m v Q fh rd em pn => ?_
    cases d with
    | list ds =>
      obtain ⟨zs, h3, em⟩ := Option.bind_eq_some_iff.mp em
      split at em
      · rename_i hz
        cases em
        cases strsOf_is h3
        obtain ⟨b, vs, rfl, q, rr⟩ := rd.full fh
        cases reps_str_inv rr
        exact ⟨z, b, zs, rfl, rfl, .inl q, hz, pn.val rfl⟩
      · cases em
    | _ => cases em
  | split =>
    cases hk
    refine go2 _ (pe_split ho ha (star_of hs) (base_of hb) hl) (fun _ => rfl) (fun d hd => by cases d <;> first | rfl | exact absurd rfl (hd _)) fun F H z d m v Q fh rd em pn => ?_
    cases d with
    | str b =>
      have em' : @ite _ (b.length ≠ 0 ∧ z.length + 2 ≤ sizeLine) (Classical.propDecidable _) (some (M.ol ((Txt.split z b).map .str))) none = some m := em
      split at em'
      · rename_i hz
        cases em'
        cases (show v = _ from rd)
        exact ⟨z, b, rfl, rfl, by simpa using hz.1, hz.2, fun p hp => pn p _ hp (reps_str_of _)⟩
      · cases em'
    | _ => cases em
  | _ => cases hk
theorem snd_pop {i : Nat} {x : Str} {p1 p2 p3 : Pos} (hn : X.N[i]? = some x) (hv : Vis X.env.scope x) (h1 : (x == ("__debug__" : Str)) = false) (h2 : (x == ("__classdict__" : Str)) = false) (hl : (p2.endLine == p3.line) = true) :
    PE X (.Call (.Attribute (.Name x p1) "pop" p2) [] [] p3) (tX (EV X G0 C cls) W (evX C (.pop i))) := by
  have pe : PE X (.Name x p1) (tVar i) := pe_var hn hv h1 h2
  have key := pe_bm0 (cpos := p3) (apos := p2) PySem.F.plainAttrs_list PySem.F.slot_list_pop PySem.F.type_list_pop (fun pins s σ H x vs v us Q I rx rv h => mt_pop pins s σ H x vs v us Q I rx rv h) pe rfl hl
  refine PE.imp key fun σ H Q ⟨G, pv, F, env, S, h⟩ => ?_
  unfold evX at h
  cases el : look env i with
  | none => rw [el] at h; exact h.elim
  | some m =>
    rw [el] at h
    cases m with
    | ol xs =>
      obtain ⟨v, hv, a, vs, rfl, hH, rr, nf⟩ := S.rep i _ el
      dsimp only at h
      cases ex : xs[xs.length - 1]? with
      | none => rw [ex] at h; exact h.elim
      | some d =>
        rw [ex] at h
        obtain ⟨y, hy, ry⟩ := rr.get ex
        refine ⟨_, hv, .inl ⟨rfl, _, SqL.of hH⟩, a, vs, y, rfl, rfl, hH, by rw [← rr.length]; exact hy, ?_⟩
        have S2 := S.write el rfl hv (u := .lst vs.dropLast) (m' := .ol xs.dropLast) ⟨a, _, rfl, upd_same, rr.dropLast, nf⟩
        exact h y F _ S2 Ext.refl ry (fun z => by cases z)
    | _ => exact h.elim
theorem snd_popi {i : Nat} {k : Ex} {x : Str} {ek : Expr} {p1 p2 p3 : Pos} (hn : X.N[i]? = some x) (hv : Vis X.env.scope x) (h1 : (x == ("__debug__" : Str)) = false) (h2 : (x == ("__classdict__" : Str)) = false) (hs : notStar ek = true) (hl : (p2.endLine == p3.line) = true) (hk : PE X ek (tX (EV X G0 C cls) W (evX C k))) :
    PE X (.Call (.Attribute (.Name x p1) "pop" p2) [ek] [] p3) (tX (EV X G0 C cls) W (evX C (.popi i k))) := by
  have pe : PE X (.Name x p1) (tVar i) := pe_var hn hv h1 h2
  have key := pe_bm (cpos := p3) (apos := p2) PySem.F.plainAttrs_list PySem.F.slot_list_pop PySem.F.type_list_pop mt_popAt pe (pa_cons hk pa_nil (star_of hs)) rfl (by
    rw [star_of hs]; rfl) hl (star_of hs) rfl
  refine PE.imp key fun σ H Q ⟨G, pv, F, env, S, h⟩ => ?_
  unfold evX at h
  cases el : look env i with
  | none => rw [el] at h; exact h.elim
  | some m =>
    rw [el] at h
    cases m with
    | ol xs0 =>
      obtain ⟨v, hv, a, vs, rfl, hH, _⟩ := S.rep i _ el
      refine ⟨_, hv, .inl ⟨rfl, _, SqL.of hH⟩, G, pv, F, env, S, ?_⟩
      refine Post.imp (Post.bind h) Ext.refl fun m e1 h1 => PM.frozen fun u F1 H1 S1 x1 r1 => ?_
      obtain ⟨r, er, h3⟩ := Post.ofO (Post.bind h1)
      cases e2l : look e1 i with
      | none => rw [e2l] at er; cases er
      | some m2 =>
        rw [e2l] at er
        cases m2 with
        | ol xs =>
          generalize m.toD = dj at er r1
          cases dj with
          | int kk =>
            have er' : @ite _ (-(2 ^ 63) ≤ kk ∧ kk < 2 ^ 63) (Classical.propDecidable _) ((L2.ixN xs.length kk).bind fun n => (xs[n]?).map fun d => (d, xs.eraseIdx n)) none = some r := er
            split at er'
            · rename_i hz
              obtain ⟨n, hn2, er'⟩ := Option.bind_eq_some_iff.mp er'
              obtain ⟨d, hd, rfl⟩ := Option.map_eq_some_iff.mp er'
              cases (show u = _ from r1)
              obtain ⟨v2, hv2, a2, vs2, rfl, hH2, rr, nf⟩ := S1.rep i _ e2l
              rw [hv] at hv2; cases hv2
              obtain ⟨y, hy, ry⟩ := rr.get hd
              refine ⟨a, vs2, kk, n, y, rfl, rfl, hH2, hz.1, hz.2, by rw [← rr.length]; exact (ixN_seq hn2).1, hy, ?_⟩
              have S2 := S1.write e2l rfl hv (u := .lst (vs2.eraseIdx n)) (m' := .ol (xs.eraseIdx n)) ⟨a, _, rfl, upd_same, rr.eraseIdx n, nf⟩
              exact h3 y F1 _ S2 x1 ry (fun z => by cases z)
            · cases er'
          | _ => cases er
        | _ => cases er
    | _ => exact h.elim
end

/-! ### the state of a comprehension's block -/
theorem look_kills : ∀ {is : List Nat} {e : En} {j : Nat} {m : M}, look (Q1.kills e is) j = some m → j ∉ is ∧ look e j = some m
  | [], _, _, _, h => ⟨by simp, h⟩
  | i :: is, e, j, m, h => by
    obtain ⟨h1, h2⟩ := look_kills (is := is) (e := put e i none) h
    rcases look_put h2 with ⟨_, q, _⟩ | ⟨n, q⟩
    · cases q
    · exact ⟨by simp only [List.mem_cons, not_or]; exact ⟨n, h1⟩, q⟩
theorem kills_look : ∀ {is : List Nat} {e : En} {j : Nat} {m : M}, j ∉ is → look e j = some m → look (Q1.kills e is) j = some m
  | [], _, _, _, _, h => h
  | i :: is, e, j, m, hn, h => by
    simp only [List.mem_cons, not_or] at hn
    exact kills_look (is := is) (e := put e i none) hn.2 (by rw [look_put_ne hn.1]; exact h)
theorem kills_length : ∀ {is : List Nat} {e : En}, (Q1.kills e is).length = e.length
  | [], _ => rfl
  | i :: is, e => by
    show (Q1.kills (put e i none) is).length = _
    rw [kills_length (is := is), put_length]
theorem look_restore : ∀ {is : List Nat} {e old : En} {j : Nat} {m : M}, look (restore e old is) j = some m → (j ∈ is ∧ look old j = some m) ∨ (j ∉ is ∧ look e j = some m)
  | [], _, _, _, _, h => .inr ⟨by simp, h⟩
  | i :: is, e, old, j, m, h => by
    rcases look_restore (is := is) (e := put e i (look old i)) h with ⟨h1, h2⟩ | ⟨h1, h2⟩
    · exact .inl ⟨List.mem_cons_of_mem _ h1, h2⟩
    · rcases look_put h2 with ⟨rfl, q, _⟩ | ⟨n, q⟩
      · exact .inl ⟨List.mem_cons_self, q⟩
      · exact .inr ⟨by simp only [List.mem_cons, not_or]; exact ⟨n, h1⟩, q⟩
theorem restore_length : ∀ {is : List Nat} {e old : En}, (restore e old is).length = e.length
  | [], _, _ => rfl
  | i :: is, e, old => by
    show (restore (put e i (look old i)) old is).length = _
    rw [restore_length (is := is), put_length]
theorem wipe_ne {σ : St} {i : Nat} : ∀ {vs : List Nat}, i ∉ vs → (wipe σ vs)[i]? = σ[i]?
  | [], _ => rfl
  | v :: vs, h => by
    simp only [List.mem_cons, not_or] at h
    unfold wipe
    rw [List.getElem?_set_ne (Ne.symm h.1)]
    exact wipe_ne h.2
section
variable {K : PySem.W.Frag} {G : Gh} {pv : List (Nat × V)} {F F' H H' : Hp} {env : En} {σ : St}
theorem Sim.unprot (S : Sim K G pv F env σ H) : Sim K G [] F env σ H := ⟨S.fh, S.f0, S.fn, S.fr, S.rep, S.dis, S.new, (fun _ z => nomatch z), S.len⟩
theorem Sim.block (S : Sim K G pv F env σ H) (own : List Nat) : Sim K G [] F (Q1.kills env own) (wipe σ own) H where
  fh := S.fh
  f0 := S.f0
  fn := S.fn
  fr := S.fr
  rep := fun i m h => by
    obtain ⟨h1, h2⟩ := look_kills h
    obtain ⟨v, e, r⟩ := S.rep i m h2
    exact ⟨v, by rw [wipe_ne h1]; exact e, r⟩
  dis := fun i j m m' v n h1 h2 o1 o2 e1 e2 => by
    obtain ⟨a1, a2⟩ := look_kills h1
    obtain ⟨b1, b2⟩ := look_kills h2
    rw [wipe_ne a1] at e1
    rw [wipe_ne b1] at e2
    exact S.dis i j m m' v n a2 b2 o1 o2 e1 e2
  new := fun i m a h ow e => by
    obtain ⟨h1, h2⟩ := look_kills h
    rw [wipe_ne h1] at e
    exact S.new i m a h2 ow e
  prot := fun _ z => nomatch z
  len := by rw [kills_length, wipe_length]; exact S.len
/-- a state whose slots outside of own are those of σ -/
theorem Sim.unblock {F1 H1 : Hp} {e1 e' : En} {own : List Nat} (S1 : Sim K G pv F1 e1 σ H1) (S : Sim K G [] F' (Q1.kills e' own) (wipe σ own) H') (x : Ext F1 F') (hp : plainAt e1 own = true) : Sim K G pv F' (restore e' e1 own) σ H' := by
  have pl : ∀ {j m}, j ∈ own → look e1 j = some m → m.isOwn = false := fun {j m} hj h => by
    have q := List.all_eq_true.mp hp j hj
    rw [h] at q
    cases m with
    | p d => rfl
    | ol xs => cases q
    | od t xs => cases q
  refine ⟨S.fh, S.f0, S.fn, S.fr, fun i m h => ?_, fun i j m m' v n h1 h2 o1 o2 e1' e2' => ?_, fun i m a h ow e => ?_, S1.prot, ?_⟩
  · rcases look_restore h with ⟨h1, h2⟩ | ⟨h1, h2⟩
    · obtain ⟨v, e, r⟩ := S1.rep i m h2
      refine ⟨v, e, r.move x fun a ow _ => ?_⟩
      rw [pl h1 h2] at ow; cases ow
    · obtain ⟨v, e, r⟩ := S.rep i m (kills_look h1 h2)
      rw [wipe_ne h1] at e
      exact ⟨v, e, r⟩
  · rcases look_restore h1 with ⟨a1, a2⟩ | ⟨a1, a2⟩
    · rw [pl a1 a2] at o1; cases o1
    rcases look_restore h2 with ⟨b1, b2⟩ | ⟨b1, b2⟩
    · rw [pl b1 b2] at o2; cases o2
    exact S.dis i j m m' v n (kills_look a1 a2) (kills_look b1 b2) o1 o2 (by rw [wipe_ne a1]; exact e1') (by rw [wipe_ne b1]; exact e2')
  · rcases look_restore h with ⟨a1, a2⟩ | ⟨a1, a2⟩
    · rw [pl a1 a2] at ow; cases ow
    · exact S.new i m a (kills_look a1 a2) ow (by rw [wipe_ne a1]; exact e)
  · have h1 := S.len
    rw [kills_length, wipe_length] at h1
    rw [restore_length]; exact h1
/-- the same slots outside of own -/
theorem Sim.rewipe {own : List Nat} {σ2 : St} (S : Sim K G pv F env σ2 H) (e : wipe σ2 own = wipe σ own) : Sim K G [] F (Q1.kills env own) (wipe σ own) H := by
  have q := S.block own
  rw [e] at q
  exact q
/-- the entry moved to here -/
def ownI (env : En) (σ : St) (a : Addr) : Prop := ∃ (j : Nat) (m : M), look env j = some m ∧ m.isOwn = true ∧ σ[j]? = some (some (V.ref a))
theorem Sim.rebase (S : Sim K G pv F env σ H) : Sim K ⟨F, H, ownI env σ⟩ pv F env σ H :=
  ⟨S.fh, Ext.refl, fun a h => .inl h, fun a o e _ => e, S.rep, S.dis, fun i m a h ow e => .inl ⟨i, m, h, ow, e⟩, S.prot, S.len⟩
theorem Sim.back {F' H' : Hp} {env' : En} {σ' : St} {pv' : List (Nat × V)} (S : Sim K G pv F env σ H) (S' : Sim K ⟨F, H, ownI env σ⟩ pv' F' env' σ' H') : Sim K G pv' F' env' σ' H' where
  fh := S'.fh
  f0 := S.f0.trans S'.f0
  fn := fun a h => by
    rcases S'.fn a h with z | z | ⟨j, m, h1, h2, h3⟩
    · exact S.fn a z
    · rcases S.newH z with q | q
      · exact .inr (.inr q)
      · exact .inr (.inl q)
    · rcases S.new j m a h1 h2 h3 with q | q
      · exact .inr (.inr q)
      · exact .inr (.inl q)
  fr := fun a o e n => S'.fr a o (S.fr a o e n) fun ⟨j, m, h1, h2, h3⟩ => by
    rcases S.new j m a h1 h2 h3 with q | q
    · exact n q
    · rw [q] at e; cases e
  rep := S'.rep
  dis := S'.dis
  new := fun i m a h ow e => by
    rcases S'.new i m a h ow e with ⟨j, m', h1, h2, h3⟩ | q
    · exact S.new j m' a h1 h2 h3
    · exact S.newH q
  prot := S'.prot
  len := S'.len
/-- a list that no slot owns is written -/
theorem Sim.poke {p : Addr} {o : HO} (S : Sim K G pv F env σ H) (hf : F p = none) (hn : G.I p ∨ G.H p = none) (no : ∀ i m, look env i = some m → m.isOwn = true → σ[i]? = some (some (V.ref p)) → False) : Sim K G pv F env σ (upd H p o) where
  fh := fun a u e => by
    rw [upd_ne (fun q => by rw [q, hf] at e; cases e)]
    exact S.fh a u e
  f0 := S.f0
  fn := S.fn
  fr := fun a u e n => by
    rw [upd_ne (fun q => by
      subst q
      rcases hn with z | z
      · exact n z
      · rw [z] at e; cases e)]
    exact S.fr a u e n
  rep := fun i m h => by
    obtain ⟨v, e, r⟩ := S.rep i m h
    refine ⟨v, e, r.move Ext.refl fun a ow ev => ?_⟩
    subst ev
    obtain ⟨b, u, e2, _, hf2, _⟩ := S.own h ow
    rw [e] at e2; cases e2
    exact ⟨upd_ne (fun q => no i m h ow (by rw [← q]; exact e)), hf2⟩
  dis := S.dis
  new := S.new
  prot := S.prot
  len := S.len
end
end Q1

/-! Q12: targets, comprehensions. -/
namespace Q1
open PySem PySem.Spec PyProof.Rows L2 PySem.SeqAt

theorem put_ge : ∀ {e : En} {i : Nat} {m : Option M}, e.length ≤ i → put e i m = e
  | [], _, _, _ => rfl
  | _ :: _, 0, _, h => absurd h (by simp)
  | x :: e, i + 1, m, h => congrArg (x :: ·) (put_ge (e := e) (by simpa using h))
section
variable {K : PySem.W.Frag} {G : Gh} {pv : List (Nat × V)} {F F' H H' : Hp} {env : En} {σ : St}
theorem Sim.stored {i : Nat} {m : M} {v : V} (S : Sim K G pv F env σ H) (r : RepM K F H m v) (fr : m.isOwn = true → Fresh G env σ v) (np : ∀ q ∈ pv, q.1 ≠ i) : Sim K G pv F (put env i (some m)) (σ.set i (some v)) H := by
  by_cases hi : i < σ.length
  · exact S.store r fr hi np
  · rw [put_ge (by rw [S.len]; omega), List.set_eq_of_length_le (by omega)]
    exact S
end
def tG (K : PySem.W.Frag) (g : Tg) : TG := fun v σ H Q => ∃ G pv F env d env', Sim K G pv F env σ H ∧ Rep K F d v ∧ setTg env g d = some env' ∧ (∀ q ∈ pv, q.1 ∉ tgSlots g) ∧
  ∀ σ', Sim K G pv F env' σ' H → σ'.length = σ.length → (∀ j, j ∉ tgSlots g → σ'[j]? = σ[j]?) → Q σ' H
theorem PG.imp {X : Cx} {tg : Expr} {t t' : TG} (h : PG X tg t) (i : ∀ v σ H Q, t' v σ H Q → t v σ H Q) : PG X tg t' := ⟨fun pins s σ H v u Q I r q => h.run pins s σ H v u Q I r (i v σ H Q q)⟩
def gNames : List Nat → TGs
  | [] => gNil
  | i :: is => gCons (gName i) (gNames is)
theorem puts_imp {K : PySem.W.Frag} {G : Gh} {pv : List (Nat × V)} {F H : Hp} : ∀ {is : List Nat} {ds : List D} {vs : List V} {env env' : En} {σ : St} {Q : St → Hp → Prop}, Sim K G pv F env σ H → Reps K F ds vs → puts env is ds = some env' → (∀ q ∈ pv, q.1 ∉ is) →
    (∀ σ', Sim K G pv F env' σ' H → σ'.length = σ.length → (∀ j, j ∉ is → σ'[j]? = σ[j]?) → Q σ' H) → gNames is vs σ H Q ∧ vs.length = is.length
  | [], [], vs, env, env', σ, Q, S, r, e, np, k => by
    have r' : vs = [] := r
    subst r'
    cases e
    exact ⟨⟨rfl, k σ S rfl fun _ _ => rfl⟩, rfl⟩
  | [], _ :: _, _, _, _, _, _, _, _, e, _, _ => by cases e
  | _ :: _, [], _, _, _, _, _, _, _, e, _, _ => by cases e
  | i :: is, d :: ds, vs, env, env', σ, Q, S, ⟨v, r', ev, h, t⟩, e, np, k => by
    subst ev
    have S1 := S.stored (i := i) (m := .p d) (v := v) h (fun z => by cases z) fun q hq z => np q hq (by rw [z]; exact List.mem_cons_self)
    obtain ⟨h1, h2⟩ := puts_imp (is := is) (ds := ds) (vs := r') (σ := σ.set i (some v)) (Q := Q) S1 t e (fun q hq z => np q hq (List.mem_cons_of_mem _ z)) fun σ' S' hl hn => k σ' S' (by rw [hl, List.length_set]) fun j hj => by
      simp only [List.mem_cons, not_or] at hj
      rw [hn j hj.2, List.getElem?_set_ne (Ne.symm hj.1)]
    exact ⟨⟨v, r', rfl, h1⟩, congrArg (· + 1) h2⟩
theorem locOk {sc : Scope} {x : Str} (h : locB sc x = true) : Loc sc x := by
  unfold locB at h
  split at h
  · exact .inl (by assumption)
  · exact .inr (by assumption)
  · cases h
section
variable {X : Cx} {N : List Str} {sc : Scope}
theorem pgs_names (hN : X.N.Nodup) (nm : X.N = N) (hf : ∀ x, locB sc x = true → Loc X.env.scope x ∧ (X.fn x = true ∨ X.env.scope.names.lookup x = some .local)) : ∀ {is : List Nat} {es : List Expr}, okNames N sc is es = true →
    PGs X es (gNames is) ∧ (assignEach es X.env).length = is.length ∧ (assignEach es X.env).findIdx? (·.1) = none
  | [], [], _ => ⟨pgs_nil, rfl, rfl⟩
  | [], _ :: _, h => by cases h
  | _ :: _, [], h => by cases h
  | i :: is, e :: es, h => by
    cases e with
    | Name x p =>
      simp only [okNames, Bool.and_eq_true, decide_eq_true_eq] at h
      obtain ⟨⟨h1, h2⟩, h3⟩ := h
      obtain ⟨k1, k2, k3⟩ := pgs_names hN nm hf h3
      refine ⟨pgs_cons (pg_name hN (by rw [nm]; exact h1) (hf x h2).1 (hf x h2).2) k1 rfl, ?_, ?_⟩
      · show (assignEach es X.env).length + 1 = _
        rw [k2]; rfl
      · show List.findIdx? (·.1) ((false, assign (.Name x p) X.env) :: assignEach es X.env) = none
        rw [List.findIdx?_cons]
        simp [k3]
    | _ => cases h
theorem snd_tg (hc : X.calm = true) (hN : X.N.Nodup) (nm : X.N = N) (hf : ∀ x, locB sc x = true → Loc X.env.scope x ∧ (X.fn x = true ∨ X.env.scope.names.lookup x = some .local)) {g : Tg} {tg : Expr} (h : okTg N sc g tg = true) : PG X tg (tG X.K g) := by
  unfold okTg at h
  split at h
  · rename_i i x p
    simp only [Bool.and_eq_true, decide_eq_true_eq] at h
    refine PG.imp (pg_name hN (by rw [nm]; exact h.1) (hf x h.2).1 (hf x h.2).2) fun v σ H Q ⟨G, pv, F, env, d, env', S, r, e, np, k⟩ => ?_
    cases e
    refine k _ (S.stored (m := .p d) r (fun z => by cases z) fun q hq z => np q hq (by rw [z]; exact List.mem_singleton.mpr rfl)) (List.length_set ..) fun j hj => ?_
    have hj' : j ≠ i := fun z => hj (by rw [z]; exact List.mem_singleton.mpr rfl)
    exact List.getElem?_set_ne (Ne.symm hj')
  · rename_i is es n p
    obtain ⟨k1, k2, k3⟩ := pgs_names hN nm hf h
    refine PG.imp (pg_tup hc k1 k2 k3) fun v σ H Q ⟨G, pv, F, env, d, env', S, r, e, np, k⟩ => ?_
    cases d with
    | tuple ds =>
      obtain ⟨a, vs, rfl, q, rr⟩ := r
      obtain ⟨h1, h2⟩ := puts_imp S rr e np k
      exact ⟨a, vs, rfl, SqT.of (S.fh _ _ q), h2, h1⟩
    | _ => cases e
  · cases h
end
theorem wipe_eq {σ σ2 : St} {own : List Nat} (hl : σ2.length = σ.length) (h : ∀ j, j ∉ own → σ2[j]? = σ[j]?) : wipe σ2 own = wipe σ own := by
  apply List.ext_getElem?
  intro j
  by_cases hj : j ∈ own
  · have key : ∀ (τ : St), τ.length = σ.length → (wipe τ own)[j]? = if j < σ.length then some none else none := fun τ ht => by
      by_cases hlt : j < τ.length
      · rw [if_pos (by omega)]
        have hlt2 : j < (wipe τ own).length := by rw [wipe_length]; exact hlt
        cases q : (wipe τ own)[j]? with
        | none => exact absurd (List.getElem?_eq_none_iff.mp q) (by omega)
        | some x =>
          cases x with
          | none => rfl
          | some v => exact absurd hj (wipe_some q).2
      · rw [if_neg (by omega)]
        exact List.getElem?_eq_none (by rw [wipe_length]; omega)
    rw [key σ2 hl, key σ rfl]
  · rw [wipe_ne hj, wipe_ne hj]
    exact h j hj
theorem wipe_wipe {σ : St} {own : List Nat} : wipe (wipe σ own) own = wipe σ own := wipe_eq (wipe_length σ own) fun j hj => wipe_ne hj
section
variable {X : Cx} {G0 : Gh} {C : PC} {cls : Nat → Value} {W : WX}
abbrev WF : WX := fun _ _ _ _ => False
theorem Post.ok {α : Type} {T : Ev} {pv : List (Nat × V)} {σ : St} {F : Hp} {r : Res α} {P : α → En → Prop} {a : α} {e : En} (h : r = .ok a e) (p : P a e) : Post T pv W σ F r P := by subst h; exact p
theorem comp_imp {own : List Nat} {g : Tg} {it : Itx} {c : Tx} {e : Ex} {σ : St} {H : Hp} {Q : VK} (hg : ∀ j ∈ tgSlots g, j ∈ own) (h : tX (EV X G0 C cls) W (evX C (.comp own g it c e)) σ H Q) :
    tLc (tI (EV X G0 C cls) W (evI C it)) (tG X.K g) (tT (EV X G0 C cls) WF (evT C c)) (tX (EV X G0 C cls) WF (evX C e)) own σ H Q := by
  obtain ⟨G, pv, F, env, S, h⟩ := h
  refine ⟨G, pv, F, env, S, ?_⟩
  unfold evX at h
  refine Post.imp (Post.bind h) Ext.refl fun xs e1 h1 F1 H1 J S1 x1 ok D hD => ?_
  by_cases hp : plainAt e1 own = true
  · rw [if_pos hp] at h1
    obtain ⟨ZS, e5, hZ, hQ⟩ : ∃ ZS e5, compL (compT own g (evT C c) (evX C e)) xs e1 = .ok ZS e5 ∧ PM ((EV X G0 C cls).at G) pv σ F (.ol ZS) (restore e5 e1 own) Q := by
      have h2 := Post.bind h1
      cases q : compL (compT own g (evT C c) (evX C e)) xs e1 with
      | ok a b => rw [q] at h2; exact ⟨a, b, rfl, h2⟩
      | exc a b => rw [q] at h2; exact h2.elim
      | bad => rw [q] at h2; exact h2.elim
    have dNew := S1.newH hD
    have fD : F1 D = none := S1.fh.no hD
    refine ⟨fun i m H => m = xs.length - i ∧ i ≤ xs.length ∧ ∃ F' e' acc ys zs, Sim X.K G [] F' (kills e' own) (wipe σ own) H ∧ Ext F1 F' ∧ H D = some (.lst acc) ∧ F' D = none ∧ Reps X.K F' ys acc ∧ ys.length ≤ i ∧
      (∀ j m, look (kills e' own) j = some m → m.isOwn = true → (wipe σ own)[j]? = some (some (V.ref D)) → False) ∧ compL (compT own g (evT C c) (evX C e)) (xs.drop i) e' = .ok zs e5 ∧ ZS = ys ++ zs, ⟨xs.length, ?_⟩, ?_⟩
    · refine ⟨by omega, Nat.zero_le _, F1, e1, [], [], ZS, (S1.block own).laid hD, Ext.refl, upd_same, fD, rfl, Nat.le_refl _, fun j m hj oj ej => ?_, by simpa using hZ, rfl⟩
      obtain ⟨b, u, e2, hu, _⟩ := (S1.block own).own hj oj
      rw [ej] at e2; cases e2
      rw [hD] at hu; cases hu
    · rintro i m H2 ⟨rfl, hi, F', e', acc, ys, zs, S2, x2, hDa, fD', rys, hyl, no, hc, hz⟩
      by_cases hlt : i < xs.length
      · refine .inr ⟨ok.go _ _ (x2.trans S2.fh) hlt, fun H' => ∃ F' e' acc ys zs, Sim X.K G [] F' (kills e' own) (wipe σ own) H' ∧ Ext F1 F' ∧ H' D = some (.lst acc) ∧ F' D = none ∧ Reps X.K F' ys acc ∧ ys.length ≤ i + 1 ∧
          (∀ j m, look (kills e' own) j = some m → m.isOwn = true → (wipe σ own)[j]? = some (some (V.ref D)) → False) ∧ compL (compT own g (evT C c) (evX C e)) (xs.drop (i + 1)) e' = .ok zs e5 ∧ ZS = ys ++ zs,
          fun H' hN => ⟨xs.length - (i + 1), by omega, rfl, hlt, hN⟩, fun x H3 hy => ?_⟩
        obtain ⟨rfl, d, ed, rd⟩ := ok.yld _ _ _ _ (x2.trans S2.fh) hlt hy
        have edrop : xs.drop i = d :: xs.drop (i + 1) := by
          rw [List.drop_eq_getElem_cons hlt]
          congr 1
          rw [List.getElem?_eq_getElem hlt] at ed
          exact Option.some.inj ed
        rw [edrop] at hc
        -- the turn
        have hc' : ((compT own g (evT C c) (evX C e) d e').bind fun o ea => (compL (compT own g (evT C c) (evX C e)) (xs.drop (i + 1)) ea).bind fun ys eb => .ok (consO o ys) eb) = .ok zs e5 := hc
        cases q1 : compT own g (evT C c) (evX C e) d e' with
        | bad => rw [q1] at hc'; cases hc'
        | exc a b => rw [q1] at hc'; cases hc'
        | ok o ea =>
          rw [q1] at hc'
          have hc2 : ((compL (compT own g (evT C c) (evX C e)) (xs.drop (i + 1)) ea).bind fun ys eb => .ok (consO o ys) eb) = .ok zs e5 := hc'
          cases q2 : compL (compT own g (evT C c) (evX C e)) (xs.drop (i + 1)) ea with
          | bad => rw [q2] at hc2; cases hc2
          | exc a b => rw [q2] at hc2; cases hc2
          | ok zs2 eb =>
            rw [q2] at hc2
            have hc3 : (Res.ok (consO o zs2) eb : Res (List Q1.D)) = .ok zs e5 := hc2
            have hz2 : consO o zs2 = zs := by injection hc3
            have he2 : eb = e5 := by injection hc3
            subst he2
            unfold compT at q1
            cases q3 : setTg (kills e' own) g d with
            | none => rw [q3] at q1; cases q1
            | some e2 =>
              rw [q3] at q1
              have q1' : ((evT C c e2).bind fun b e3 => if b then (evX C e e3).bind fun m e4 => .ok (some m.toD) e4 else .ok none e3) = Res.ok o ea := q1
              cases q4 : evT C c e2 with
              | bad => rw [q4] at q1'; cases q1'
              | exc a b => rw [q4] at q1'; cases q1'
              | ok b e3 =>
                rw [q4] at q1'
                have q5 : (if b then (evX C e e3).bind fun m e4 => .ok (some m.toD) e4 else .ok none e3) = Res.ok o ea := q1'
                -- the entry moved here
                let G' : Gh := ⟨H3, H3, fun _ => False⟩
                have Sb := S2.rebase
                refine ⟨_, [], F', kills e' own, d, e2, Sb, rd.ext x2, q3, (fun _ z => nomatch z), fun σ2 S3 hl hn => ?_⟩
                have hw : wipe σ2 own = wipe σ own := by
                  have w1 := wipe_eq (own := own) hl fun j hj => hn j fun z => hj (hg j z)
                  rw [w1, wipe_wipe]
                have hw' : wipe σ2 own = wipe (wipe σ own) own := by rw [wipe_wipe]; exact hw
                have notI : ¬ ownI (kills e' own) (wipe σ own) D := fun ⟨j, m, a1, a2, a3⟩ => no j m a1 a2 a3
                refine ⟨hw.trans (by rfl), _, [], F', e2, S3, Post.ok q4 fun F4 H4 S4 x4 => ?_⟩
                have keep : ∀ {F6 H6 e6 σ6}, Sim X.K ⟨F', H3, ownI (kills e' own) (wipe σ own)⟩ [] F6 e6 σ6 H6 → H6 D = some (.lst acc) ∧ F6 D = none := fun {F6 H6 e6 σ6} S6 => ⟨S6.fr D _ hDa notI, by
                  cases q : F6 D with
                  | none => rfl
                  | some u =>
                    rcases S6.fn D (by rw [q]; simp) with z | z | z
                    · exact absurd fD' z
                    · have z' : H3 D = none := z
                      rw [hDa] at z'; cases z'
                    · exact absurd z notI⟩
                have noD : ∀ {F6 H6 e6}, Sim X.K ⟨F', H3, ownI (kills e' own) (wipe σ own)⟩ [] F6 e6 σ2 H6 → ∀ j m, look (kills e6 own) j = some m → m.isOwn = true → (wipe σ own)[j]? = some (some (V.ref D)) → False := fun {F6 H6 e6} S6 j m a1 a2 a3 => by
                  obtain ⟨b1, b2⟩ := look_kills a1
                  rw [← hw, wipe_ne b1] at a3
                  rcases S6.new j m D b2 a2 a3 with z | z
                  · exact notI z
                  · have z' : H3 D = none := z
                    rw [hDa] at z'; cases z'
                cases b with
                | false =>
                  rw [if_neg Bool.false_ne_true] at q5
                  refine iteF ?_
                  cases q5
                  obtain ⟨k1, k2⟩ := keep S4
                  exact ⟨F4, _, acc, ys, zs2, (S2.back S4).rewipe hw, x2.trans x4, k1, k2, Reps.ext x4 rys, by omega, noD S4, q2, by rw [hz, ← hz2]; rfl⟩
                | true =>
                  rw [if_pos rfl] at q5
                  refine iteT ?_
                  cases q6 : evX C e e3 with
                  | bad => rw [q6] at q5; cases q5
                  | exc a b => rw [q6] at q5; cases q5
                  | ok m e4 =>
                    rw [q6] at q5
                    have q7 : (Res.ok (some m.toD) e4 : Res (Option Q1.D)) = .ok o ea := q5
                    cases q7
                    refine ⟨_, [], F4, e3, S4, Post.ok q6 (PM.frozen fun v F6 H6 S6 x6 r6 => ?_)⟩
                    obtain ⟨k1, k2⟩ := keep S6
                    have S7 := (S2.back S6).rewipe hw
                    refine ⟨acc, k1, ?_, F6, _, acc ++ [v], ys ++ [m.toD], zs2, S7.poke k2 dNew (noD S6), x2.trans (x4.trans x6), upd_same, k2, Reps.snoc (Reps.ext (x4.trans x6) rys) r6, ?_, noD S6, q2, ?_⟩
                    · have := ok.len
                      rw [← rys.length]
                      omega
                    · rw [List.length_append]
                      show ys.length + 1 ≤ i + 1
                      omega
                    · rw [hz, ← hz2, List.append_assoc]
                      rfl
      · have hi2 : i = xs.length := by omega
        subst hi2
        rw [List.drop_length] at hc
        cases hc
        rw [List.append_nil] at hz
        subst hz
        refine .inl ⟨ok.stop _ _ (x2.trans S2.fh) (Nat.le_refl _), ?_⟩
        refine hQ _ F' H2 (S1.unblock S2 x2 hp) (x1.trans x2) ⟨D, acc, rfl, hDa, rys, fD'⟩ fun _ => ⟨fun j m h1 h2 h3 => ?_, fun a ea => by cases ea; exact dNew⟩
        rcases look_restore h1 with ⟨a1, a2⟩ | ⟨a1, a2⟩
        · have q := List.all_eq_true.mp hp j a1
          rw [a2] at q
          cases m with
          | p d => cases h2
          | ol xs => cases q
          | od t xs => cases q
        · exact no j m (kills_look a1 a2) h2 (by rw [wipe_ne a1]; exact h3)
  · rw [if_neg hp] at h1
    exact h1.elim
end
end Q1

set_option maxHeartbeats 8000000
/-! Q13: every expression whose text is its code. -/
namespace Q1
open PySem PySem.Spec PyProof.Rows L2 PySem.SeqAt

def bltNames : List Str := ["len", "abs", "min", "max", "list", "tuple", "int", "isinstance", "bool", "str", "dict", "range", "sorted", "sum", "set", "reversed"]
/-- what is known where a code stands -/
structure XOk (Θ : Txt) (N : List Str) (C : PC) (cls : Nat → Value) (k : Nat) (X : Cx) (sc : Scope) (cm : Bool) : Prop where
  nm : X.N = N
  nd : X.N.Nodup
  scp : X.env.scope = sc
  calm : cm = true → X.calm = true
  room : cm = true → Room k X.A
  un : X.A.units + 65 < cLine
  cst : ∀ p ∈ Θ.cst, ∃ u v, X.mg p.1 = some u ∧ RelV v u ∧ Rep X.K (fun _ => none) p.2 v
  fns : ∀ (i : Nat) (x : Str), Θ.fns[i]? = some x → ∃ f fd ps, X.mg x = some (.ref f) ∧ PySem.W.keepIn X.K (.ref f) = true ∧ Binds X.K fd ps [] ∧ FnOk X.prog X.w X.K X.mg X.base (L2.CX X.prog X.w) k f fd ps (spF X.K cls (C.call i))
  blt : ∀ x ∈ bltNames, X.mg x = none
theorem XOk.blk {Θ : Txt} {N : List Str} {C : PC} {cls : Nat → Value} {k : Nat} {X : Cx} {sc scope : Scope} {cm : Bool} (x : XOk Θ N C cls k X sc cm) {s : Shared} {H : Hp} {cl : List (Str × Addr)} {c : Addr} {fp : List Addr} :
    XOk Θ N C cls k (X.blk s H scope (compEnvC scope cl c X.env) fp) (relS scope sc) cm :=
  ⟨x.nm, x.nd, by rw [← x.scp]; rfl, x.calm, x.room, x.un, x.cst, x.fns, x.blt⟩
theorem relS_lookup {scope sc : Scope} {x : Str} {k : NameKind} (hk : k ≠ .free) (h : scope.names.lookup x = some k) : (relS scope sc).names.lookup x = some k := by
  unfold relS
  show List.lookup x (scope.names.map _) = _
  revert h
  induction scope.names with
  | nil => intro h; cases h
  | cons p r ih =>
    intro h
    obtain ⟨n, k'⟩ := p
    rw [List.lookup_cons] at h
    rw [List.map_cons, List.lookup_cons]
    cases e : x == n with
    | true =>
      rw [e] at h
      cases h
      have e1 : (k == NameKind.free) = false := by cases k <;> first | rfl | exact absurd rfl hk
      simp [e1, e]
    | false =>
      rw [e] at h
      have := ih h
      split
      · rename_i q
        split at q <;> (rw [e] at q; cases q)
      · exact this
theorem own_map {N : List Str} {own : List Nat} : (ownN N own).map (·.2) = own := by
  unfold ownN
  rw [List.map_map]
  have e : ((fun x : Str × Nat => x.2) ∘ fun i => (N.getD i "", i)) = id := rfl
  rw [e, List.map_id]
theorem strEq {x y : Str} (h : (x == y) = true) : x = y := eq_of_beq h
section
variable {Θ : Txt} {N : List Str} {C : PC} {cls : Nat → Value} {k : Nat} {cm : Bool}
abbrev g0 : Gh := ⟨fun _ => none, fun _ => none, fun _ => False⟩
theorem fold_of {e : Expr} {env : Env} (h : notSet e = true) : ∀ x, foldedSetIterable e env x = pure x := fun x => by
  cases e <;> first | rfl | cases h
theorem pl_of {as : Exs} {es : List Expr} {pos : Pos} {env : Env} {sc : Scope} (h : okXs Θ N cm as sc es = true) : (backTo pos (starEach es env)).any (·.1) = false := by
  have key : ∀ (as : Exs) (es : List Expr), okXs Θ N cm as sc es = true → ∀ p ∈ starEach es env, p.1 = false := fun as => by
    intro es
    induction es generalizing as with
    | nil => intro _ p hp; cases hp
    | cons e es ih =>
      intro h p hp
      cases as with
      | nil => (unfold okXs at h; cases h)
      | cons a as =>
        simp only [okXs, Bool.and_eq_true] at h
        rw [star_of h.1.2] at hp
        rcases List.mem_cons.mp hp with rfl | hp
        · rfl
        · exact ih as h.2 p hp
  have kk := key as es h
  show List.any (List.map _ (starEach es env)) _ = false
  rw [List.any_map, List.any_eq_false]
  intro p hp
  have := kk p hp
  obtain ⟨b, t⟩ := p
  show ¬ b = true
  have e : b = false := this
  rw [e]; exact Bool.false_ne_true
theorem opnd_cases (a : Ex) : (∃ i, a = .rf i) ∨ isOpnd a = false := by
  cases a <;> first | exact .inl ⟨_, rfl⟩ | exact .inr rfl
variable {X : Cx} {W : WX} {sc : Scope}
/-- an operand, from the value -/
theorem sndO_of {a : Ex} {e : Expr} (x : XOk Θ N C cls k X sc cm) (h : okX Θ N cm a sc e = true) (ha : PE X e (tX (EV X g0 C cls) W (evX C a))) : PE X e (tO (EV X g0 C cls) W (opd a (evX C a))) := by
  rcases opnd_cases a with ⟨i, rfl⟩ | hn
  · have h' : okName N sc i e = true := by simpa only [okX] using h
    obtain ⟨y, p, rfl, h1, h2, h3, h4⟩ := nameOk h'
    exact (snd_name (by rw [x.nm]; exact h1) (by rw [x.scp]; exact h2) h3 h4).2.2
  · exact snd_opd hn ha
mutual
theorem sndX : ∀ (c : Ex) {X : Cx} {W : WX} {sc : Scope} {e : Expr}, okX Θ N cm c sc e = true → XOk Θ N C cls k X sc cm → Takes X W → PE X e (tX (EV X g0 C cls) W (evX C c))
  | .var i, X, W, sc, e, h, x, tk => by
    have h' : okName N sc i e = true := by simpa only [okX] using h
    obtain ⟨y, p, rfl, h1, h2, h3, h4⟩ := nameOk h'
    exact (snd_name (by rw [x.nm]; exact h1) (by rw [x.scp]; exact h2) h3 h4).1
  | .rf i, X, W, sc, e, h, x, tk => by
    have h' : okName N sc i e = true := by simpa only [okX] using h
    obtain ⟨y, p, rfl, h1, h2, h3, h4⟩ := nameOk h'
    exact (snd_name (by rw [x.nm]; exact h1) (by rw [x.scp]; exact h2) h3 h4).2.1
  | .lit d, X, W, sc, e, h, x, tk => by
    cases e with
    | Constant c n p => exact snd_lit (by simpa only [okX] using h)
    | _ => (unfold okX at h; cases h)
  | .glob y d, X, W, sc, e, h, x, tk => by
    cases e with
    | Name z p =>
      simp only [okX, Bool.and_eq_true, Bool.not_eq_true', List.any_eq_true] at h
      obtain ⟨⟨⟨h1, h2⟩, h3⟩, q, hq, h4, h5⟩ := h
      obtain ⟨u, v, k1, k2, k3⟩ := x.cst q hq
      have e1 := strEq h1
      have e2 := strEq h4
      have e3 := beqD_eq h5
      rw [e2, e1] at k1
      rw [e3] at k3
      rw [e1]
      exact snd_glob (glOk x.scp h2) k1 k2 h3 k3
    | _ => (unfold okX at h; cases h)
  | .bin op a b, X, W, sc, e, h, x, tk => by
    cases e with
    | BinOp l o r p =>
      simp only [okX, Bool.and_eq_true, decide_eq_true_eq] at h
      obtain ⟨⟨rfl, h1⟩, h2⟩ := h
      exact snd_bin (sndO_of x h1 (sndX a h1 x tk)) (sndO_of x h2 (sndX b h2 x tk))
    | _ => (unfold okX at h; cases h)
  | .neg a, X, W, sc, e, h, x, tk => by
    cases e with
    | UnaryOp o r p =>
      cases o with
      | USub =>
        simp only [okX, Bool.and_eq_true] at h
        exact snd_neg (sndX a h.1 x tk)
      | _ => (unfold okX at h; cases h)
    | _ => (unfold okX at h; cases h)
  | .tv t, X, W, sc, e, h, x, tk => sndV t (by simpa only [okX] using h) x tk
  | .ifx t a b, X, W, sc, e, h, x, tk => by
    cases e with
    | IfExp c l r p =>
      simp only [okX, Bool.and_eq_true] at h
      exact snd_ifx (sndT t h.1.1 x tk) (sndX a h.1.2 x tk) (sndX b h.2 x tk)
    | _ => (unfold okX at h; cases h)
  | .call f as, X, W, sc, e, h, x, tk => by
    cases e with
    | Call fe es kws p =>
      cases fe with
      | Name y p2 =>
        cases es with
        | nil => (unfold okX at h; cases h)
        | cons e es =>
          cases kws with
          | cons _ _ => (unfold okX at h; cases h)
          | nil =>
            simp only [okX, Bool.and_eq_true, Bool.not_eq_true', decide_eq_true_eq] at h
            obtain ⟨⟨⟨⟨h1, h2⟩, h3⟩, h4⟩, h5⟩ := h
            obtain ⟨fa, fd, ps, k1, k2, k3, k4⟩ := x.fns f y h4
            have hs : notStar e = true := by
              cases as with
              | nil => simp [okXs] at h5
              | cons a as => simp only [okXs, Bool.and_eq_true] at h5; exact h5.1.2
            have hpl : (backTo p (starEach es X.env)).any (·.1) = false := by
              cases as with
              | nil => simp [okXs] at h5
              | cons a as => simp only [okXs, Bool.and_eq_true] at h5; exact pl_of h5.2
            exact snd_call tk k4 (x.room h1) (glOk x.scp h2) k1 k2 k3 h3 hs hpl (sndXs as h5 x tk)
      | _ => (unfold okX at h; cases h)
    | _ => (unfold okX at h; cases h)
  | .bi b as, X, W, sc, e, h, x, tk => by
    cases e with
    | Call fe es kws p =>
      cases fe with
      | Name y p2 =>
        cases es with
        | nil => (unfold okX at h; cases h)
        | cons e es =>
          cases kws with
          | cons _ _ => (unfold okX at h; cases h)
          | nil =>
            simp only [okX, Bool.and_eq_true] at h
            obtain ⟨⟨h1, h2⟩, h3⟩ := h
            cases eb : tyName b with
            | some n =>
              rw [eb] at h3
              simp only [Bool.and_eq_true] at h3
              obtain ⟨h4, h5⟩ := h3
              cases as with
              | nil => simp at h5
              | cons a as =>
                cases as with
                | cons _ _ => simp at h5
                | nil =>
                  cases es with
                  | nil => simp at h5
                  | cons e2 es =>
                    cases es with
                    | cons _ _ => cases e2 <;> simp at h5
                    | nil =>
                      cases e2 with
                      | Name z p3 =>
                        simp only [Bool.and_eq_true] at h5
                        obtain ⟨⟨⟨h5, h6⟩, h7⟩, h8⟩ := h5
                        have e1 := strEq h4
                        have e2 := strEq h7
                        subst e1 e2
                        exact snd_is eb (glOk x.scp h2) (x.blt _ (by decide +kernel)) (glOk x.scp h8) (x.blt _ (by cases b <;> cases eb <;> decide +kernel)) h6 (sndO_of x h5 (sndX a h5 x tk))
                      | _ => simp at h5
            | none =>
              rw [eb] at h3
              simp only [Bool.and_eq_true, decide_eq_true_eq] at h3
              obtain ⟨h4, h5⟩ := h3
              have hs : notStar e = true := by
                cases as with
                | nil => simp [okXs] at h5
                | cons a as => simp only [okXs, Bool.and_eq_true] at h5; exact h5.1.2
              have hpl : (backTo p (starEach es X.env)).any (·.1) = false := by
                cases as with
                | nil => simp [okXs] at h5
                | cons a as => simp only [okXs, Bool.and_eq_true] at h5; exact pl_of h5.2
              have pa := sndXs as h5 (W := W) x tk
              have hc := x.calm h1
              have hg := glOk x.scp h2
              cases b <;> first
                | (simp [biName] at h4; done)
                | (cases h4
                   refine PE.imp (pe_callB bi_len hg (x.blt _ (by decide +kernel)) (by decide +kernel) pa (he := star_of hs) (hpl := hpl)) fun σ H Q q => bi_imp q)
                | (cases h4
                   refine PE.imp (pe_callB bi_abs hg (x.blt _ (by decide +kernel)) (by decide +kernel) pa (he := star_of hs) (hpl := hpl)) fun σ H Q q => bi_imp q)
                | (cases h4
                   refine PE.imp (pe_callB (bi_min2 hc) hg (x.blt _ (by decide +kernel)) (by decide +kernel) pa (he := star_of hs) (hpl := hpl)) fun σ H Q q => bi_imp q)
                | (cases h4
                   refine PE.imp (pe_callB (bi_min2d x.un hc) hg (x.blt _ (by decide +kernel)) (by decide +kernel) pa (he := star_of hs) (hpl := hpl)) fun σ H Q q => bi_impF q)
                | (cases h4
                   refine PE.imp (pe_callB (bi_max2 hc) hg (x.blt _ (by decide +kernel)) (by decide +kernel) pa (he := star_of hs) (hpl := hpl)) fun σ H Q q => bi_imp q)
                | (cases h4
                   refine PE.imp (pe_callB (bi_sorted x.un hc) hg (x.blt _ (by decide +kernel)) (by decide +kernel) pa (he := star_of hs) (hpl := hpl)) fun σ H Q q => bi_imp q)
                | (cases h4
                   refine PE.imp (pe_callB (bi_minl x.un hc) hg (x.blt _ (by decide +kernel)) (by decide +kernel) pa (he := star_of hs) (hpl := hpl)) fun σ H Q q => bi_imp q)
                | (cases h4
                   refine PE.imp (pe_callB (bi_maxl x.un hc) hg (x.blt _ (by decide +kernel)) (by decide +kernel) pa (he := star_of hs) (hpl := hpl)) fun σ H Q q => bi_imp q)
                | (cases h4
                   refine PE.imp (pe_callB (bi_sum hc) hg (x.blt _ (by decide +kernel)) (by decide +kernel) pa (he := star_of hs) (hpl := hpl)) fun σ H Q q => bi_imp q)
                | (cases h4
                   refine PE.imp (pe_callTy bi_list hg (x.blt _ (by decide +kernel)) (by decide +kernel) pa (he := star_of hs) (hpl := hpl)) fun σ H Q q => bi_imp q)
                | (cases h4
                   refine PE.imp (pe_callTy bi_tuple hg (x.blt _ (by decide +kernel)) (by decide +kernel) pa (he := star_of hs) (hpl := hpl)) fun σ H Q q => bi_imp q)
                | (cases h4
                   refine PE.imp (pe_callTy bi_str hg (x.blt _ (by decide +kernel)) (by decide +kernel) pa (he := star_of hs) (hpl := hpl)) fun σ H Q q => bi_imp q)
                | (cases h4
                   refine PE.imp (pe_callTy bi_int hg (x.blt _ (by decide +kernel)) (by decide +kernel) pa (he := star_of hs) (hpl := hpl)) fun σ H Q q => bi_imp q)
      | _ => (unfold okX at h; cases h)
    | _ => (unfold okX at h; cases h)
  | .met m o .nil, X, W, sc, e, h, x, tk => by (unfold okX at h; cases h)
  | .met m o (.cons a (.cons _ _)), X, W, sc, e, h, x, tk => by (unfold okX at h; cases h)
  | .met m o (.cons a .nil), X, W, sc, e, h, x, tk => by
    cases e with
    | Call fe es kws p =>
      cases fe with
      | Attribute u n ap =>
        match es, kws, h with
        | [f], [], h =>
          simp only [okX, Bool.and_eq_true, decide_eq_true_eq] at h
          obtain ⟨⟨⟨⟨⟨h1, h2⟩, h3⟩, h4⟩, h5⟩, h6⟩ := h
          exact snd_met x.un h1 h2 h3 h4 (sndX o h5 x tk) (sndO_of x h6 (sndX a h6 x tk))
        | [], _, h => (unfold okX at h; cases h)
        | [_], _ :: _, h => (unfold okX at h; cases h)
        | _ :: _ :: _, _, h => (unfold okX at h; cases h)
      | _ => (unfold okX at h; cases h)
    | _ => (unfold okX at h; cases h)
  | .rgl .nil, X, W, sc, e, h, x, tk => by
    unfold okX at h
    cases hr : rglPart e with
    | none => rw [hr] at h; cases h
    | some es => rw [hr] at h; simp at h
  | .rgl (.cons a (.cons b (.cons c (.cons d d2)))), X, W, sc, e, h, x, tk => by
    unfold okX at h
    cases hr : rglPart e with
    | none => rw [hr] at h; cases h
    | some es => rw [hr] at h; simp at h
  | .rgl (.cons a (.cons b (.cons c .nil))), X, W, sc, e, h, x, tk => by
    unfold okX at h
    cases hr : rglPart e with
    | none => rw [hr] at h; cases h
    | some es =>
      rw [hr] at h
      simp only [Bool.and_eq_true] at h
      obtain ⟨p, p2, pos2, pos, rfl⟩ := rglPart_is hr
      obtain ⟨⟨⟨h1, h2⟩, h3⟩, h4⟩ := h
      match es, h4 with
      | [], h4 => (unfold okXs at h4; cases h4)
      | [_], h4 => simp [okXs] at h4
      | [_, _], h4 => simp [okXs] at h4
      | [f, g, k3], h4 =>
        simp only [okXs, Bool.and_eq_true] at h4
        exact snd_rgl3 (x.calm h1) (glOk x.scp h2) (x.blt _ (by decide +kernel)) (glOk x.scp h3) (x.blt _ (by decide +kernel)) h4.1.2 h4.2.1.2 h4.2.2.1.2 rfl (sndO_of x h4.1.1 (sndX a h4.1.1 x tk)) (sndO_of x h4.2.1.1 (sndX b h4.2.1.1 x tk)) (sndO_of x h4.2.2.1.1 (sndX c h4.2.2.1.1 x tk))
      | _ :: _ :: _ :: _ :: _, h4 => simp [okXs] at h4
  | .rgl (.cons a .nil), X, W, sc, e, h, x, tk => by
    unfold okX at h
    cases hr : rglPart e with
    | none => rw [hr] at h; cases h
    | some es =>
      rw [hr] at h
      simp only [Bool.and_eq_true] at h
      obtain ⟨p, p2, pos2, pos, rfl⟩ := rglPart_is hr
      obtain ⟨⟨⟨h1, h2⟩, h3⟩, h4⟩ := h
      match es, h4 with
      | [], h4 => (unfold okXs at h4; cases h4)
      | [f], h4 =>
        simp only [okXs, Bool.and_eq_true] at h4
        exact snd_rgl1 (x.calm h1) (glOk x.scp h2) (x.blt _ (by decide +kernel)) (glOk x.scp h3) (x.blt _ (by decide +kernel)) h4.1.2 (sndO_of x h4.1.1 (sndX a h4.1.1 x tk))
      | _ :: _ :: _, h4 => simp [okXs] at h4
  | .rgl (.cons a (.cons b .nil)), X, W, sc, e, h, x, tk => by
    unfold okX at h
    cases hr : rglPart e with
    | none => rw [hr] at h; cases h
    | some es =>
      rw [hr] at h
      simp only [Bool.and_eq_true] at h
      obtain ⟨p, p2, pos2, pos, rfl⟩ := rglPart_is hr
      obtain ⟨⟨⟨h1, h2⟩, h3⟩, h4⟩ := h
      match es, h4 with
      | [], h4 => (unfold okXs at h4; cases h4)
      | [_], h4 => simp [okXs] at h4
      | [f, g], h4 =>
        simp only [okXs, Bool.and_eq_true] at h4
        exact snd_rgl2 (x.calm h1) (glOk x.scp h2) (x.blt _ (by decide +kernel)) (glOk x.scp h3) (x.blt _ (by decide +kernel)) h4.1.2 h4.2.1.2 (sndO_of x h4.1.1 (sndX a h4.1.1 x tk)) (sndO_of x h4.2.1.1 (sndX b h4.2.1.1 x tk))
      | _ :: _ :: _ :: _, h4 => simp [okXs] at h4
  | .rgt .nil, X, W, sc, e, h, x, tk => by
    unfold okX at h
    cases hr : rgtPart e with
    | none => rw [hr] at h; cases h
    | some es => rw [hr] at h; simp at h
  | .rgt (.cons a (.cons b (.cons c (.cons d d2)))), X, W, sc, e, h, x, tk => by
    unfold okX at h
    cases hr : rgtPart e with
    | none => rw [hr] at h; cases h
    | some es => rw [hr] at h; simp at h
  | .rgt (.cons a (.cons b (.cons c .nil))), X, W, sc, e, h, x, tk => by
    unfold okX at h
    cases hr : rgtPart e with
    | none => rw [hr] at h; cases h
    | some es =>
      rw [hr] at h
      simp only [Bool.and_eq_true] at h
      obtain ⟨p, p2, pos2, pos, rfl⟩ := rgtPart_is hr
      obtain ⟨⟨⟨h1, h2⟩, h3⟩, h4⟩ := h
      match es, h4 with
      | [], h4 => (unfold okXs at h4; cases h4)
      | [_], h4 => simp [okXs] at h4
      | [_, _], h4 => simp [okXs] at h4
      | [f, g, k3], h4 =>
        simp only [okXs, Bool.and_eq_true] at h4
        exact snd_rgt3 (x.calm h1) (glOk x.scp h2) (x.blt _ (by decide +kernel)) (glOk x.scp h3) (x.blt _ (by decide +kernel)) h4.1.2 h4.2.1.2 h4.2.2.1.2 rfl (sndO_of x h4.1.1 (sndX a h4.1.1 x tk)) (sndO_of x h4.2.1.1 (sndX b h4.2.1.1 x tk)) (sndO_of x h4.2.2.1.1 (sndX c h4.2.2.1.1 x tk))
      | _ :: _ :: _ :: _ :: _, h4 => simp [okXs] at h4
  | .rgt (.cons a .nil), X, W, sc, e, h, x, tk => by
    unfold okX at h
    cases hr : rgtPart e with
    | none => rw [hr] at h; cases h
    | some es =>
      rw [hr] at h
      simp only [Bool.and_eq_true] at h
      obtain ⟨p, p2, pos2, pos, rfl⟩ := rgtPart_is hr
      obtain ⟨⟨⟨h1, h2⟩, h3⟩, h4⟩ := h
      match es, h4 with
      | [], h4 => (unfold okXs at h4; cases h4)
      | [f], h4 =>
        simp only [okXs, Bool.and_eq_true] at h4
        exact snd_rgt1 (x.calm h1) (glOk x.scp h2) (x.blt _ (by decide +kernel)) (glOk x.scp h3) (x.blt _ (by decide +kernel)) h4.1.2 (sndO_of x h4.1.1 (sndX a h4.1.1 x tk))
      | _ :: _ :: _, h4 => simp [okXs] at h4
  | .rgt (.cons a (.cons b .nil)), X, W, sc, e, h, x, tk => by
    unfold okX at h
    cases hr : rgtPart e with
    | none => rw [hr] at h; cases h
    | some es =>
      rw [hr] at h
      simp only [Bool.and_eq_true] at h
      obtain ⟨p, p2, pos2, pos, rfl⟩ := rgtPart_is hr
      obtain ⟨⟨⟨h1, h2⟩, h3⟩, h4⟩ := h
      match es, h4 with
      | [], h4 => (unfold okXs at h4; cases h4)
      | [_], h4 => simp [okXs] at h4
      | [f, g], h4 =>
        simp only [okXs, Bool.and_eq_true] at h4
        exact snd_rgt2 (x.calm h1) (glOk x.scp h2) (x.blt _ (by decide +kernel)) (glOk x.scp h3) (x.blt _ (by decide +kernel)) h4.1.2 h4.2.1.2 (sndO_of x h4.1.1 (sndX a h4.1.1 x tk)) (sndO_of x h4.2.1.1 (sndX b h4.2.1.1 x tk))
      | _ :: _ :: _ :: _, h4 => simp [okXs] at h4
  | .pop i, X, W, sc, e, h, x, tk => by
    unfold okX at h
    cases hr : popPart e with
    | none => rw [hr] at h; cases h
    | some q =>
      obtain ⟨o, es, ap, cp⟩ := q
      rw [hr] at h
      obtain ⟨rfl, hl⟩ := popPart_is hr
      cases o with
      | Name y p =>
        cases es with
        | nil =>
          obtain ⟨z, q, e0, n1, n2, n3, n4⟩ := nameOk h
          cases e0
          exact snd_pop (by rw [x.nm]; exact n1) (by rw [x.scp]; exact n2) n3 n4 hl
        | cons _ _ => cases h
      | _ => cases h
  | .popi i k, X, W, sc, e, h, x, tk => by
    unfold okX at h
    cases hr : popPart e with
    | none => rw [hr] at h; cases h
    | some q =>
      obtain ⟨o, es, ap, cp⟩ := q
      rw [hr] at h
      obtain ⟨rfl, hl⟩ := popPart_is hr
      cases o with
      | Name y p =>
        match es, h with
        | [], h => cases h
        | [f], h =>
          simp only [Bool.and_eq_true] at h
          obtain ⟨⟨h1, h2⟩, h3⟩ := h
          obtain ⟨z, q, e0, n1, n2, n3, n4⟩ := nameOk h1
          cases e0
          exact snd_popi (by rw [x.nm]; exact n1) (by rw [x.scp]; exact n2) n3 n4 h2 hl (sndX k h3 x tk)
        | _ :: _ :: _, h => cases h
      | _ => cases h
  | .lset a, X, W, sc, e, h, x, tk => by
    unfold okX at h
    cases hr : lsetPart e with
    | none => rw [hr] at h; cases h
    | some f =>
      rw [hr] at h
      simp only [Bool.and_eq_true] at h
      obtain ⟨p, p2, pos2, pos, rfl⟩ := lsetPart_is hr
      obtain ⟨⟨⟨⟨h1, h2⟩, h3⟩, h4⟩, h5⟩ := h
      exact snd_lset (x.calm h1) (glOk x.scp h2) (x.blt _ (by decide +kernel)) (glOk x.scp h3) (x.blt _ (by decide +kernel)) h4 (sndX a h5 x tk)
  | .sset a, X, W, sc, e, h, x, tk => by
    unfold okX at h
    cases hr : ssetPart e with
    | none => rw [hr] at h; cases h
    | some f =>
      rw [hr] at h
      simp only [Bool.and_eq_true] at h
      obtain ⟨p, p2, pos2, pos, rfl⟩ := ssetPart_is hr
      obtain ⟨⟨⟨⟨h1, h2⟩, h3⟩, h4⟩, h5⟩ := h
      exact snd_sset (x.calm h1) (glOk x.scp h2) (x.blt _ (by decide +kernel)) (glOk x.scp h3) (x.blt _ (by decide +kernel)) h4 (sndX a h5 x tk)
  | .ix a i, X, W, sc, e, h, x, tk => by
    cases e with
    | Subscript l r p =>
      simp only [okX, Bool.and_eq_true] at h
      exact snd_ix h.2 (sndO_of x h.1.1 (sndX a h.1.1 x tk)) (sndO_of x h.1.2 (sndX i h.1.2 x tk))
    | _ => (unfold okX at h; cases h)
  | .dget a i, X, W, sc, e, h, x, tk => by
    cases e with
    | Subscript l r p =>
      simp only [okX, Bool.and_eq_true] at h
      exact snd_dget x.un h.2 (sndO_of x h.1.1 (sndX a h.1.1 x tk)) (sndO_of x h.1.2 (sndX i h.1.2 x tk))
    | _ => (unfold okX at h; cases h)
  | .dgm1 a i, X, W, sc, e, h, x, tk => by
    cases e with
    | Call fe es kws p =>
      cases fe with
      | Attribute o m ap =>
        match es, kws, h with
        | [u], [], h =>
          simp only [okX, Bool.and_eq_true] at h
          obtain ⟨⟨⟨⟨⟨h1, h2⟩, h3⟩, h4⟩, h5⟩, h6⟩ := h
          have e1 := strEq h1
          subst e1
          exact snd_dgm1 x.un h2 h3 h4 (sndO_of x h5 (sndX a h5 x tk)) (sndO_of x h6 (sndX i h6 x tk))
        | [], _, h => (unfold okX at h; cases h)
        | [_], _ :: _, h => (unfold okX at h; cases h)
        | _ :: _ :: _, _, h => (unfold okX at h; cases h)
      | _ => (unfold okX at h; cases h)
    | _ => (unfold okX at h; cases h)
  | .dgm2 a i z, X, W, sc, e, h, x, tk => by
    cases e with
    | Call fe es kws p =>
      cases fe with
      | Attribute o m ap =>
        match es, kws, h with
        | [u, v], [], h =>
          simp only [okX, Bool.and_eq_true] at h
          obtain ⟨⟨⟨⟨⟨⟨⟨h1, h2⟩, h3⟩, h4⟩, h4b⟩, h5⟩, h6⟩, h7⟩ := h
          have e1 := strEq h1
          subst e1
          exact snd_dgm2 x.un h2 h3 h4 h4b (sndO_of x h5 (sndX a h5 x tk)) (sndO_of x h6 (sndX i h6 x tk)) (sndX z h7 x tk)
        | [], _, h => (unfold okX at h; cases h)
        | [_], _, h => (unfold okX at h; cases h)
        | [_, _], _ :: _, h => (unfold okX at h; cases h)
        | _ :: _ :: _ :: _, _, h => (unfold okX at h; cases h)
      | _ => (unfold okX at h; cases h)
    | _ => (unfold okX at h; cases h)
  | .sl a lo hi, X, W, sc, e, h, x, tk => by
    cases e with
    | Subscript l r p =>
      cases r with
      | Slice el eh es p2 =>
        cases es with
        | some _ => (unfold okX at h; cases h)
        | none =>
          simp only [okX, Bool.and_eq_true] at h
          exact snd_sl (sndO_of x h.1.1 (sndX a h.1.1 x tk)) (sndOx lo h.1.2 x tk) (sndOx hi h.2 x tk)
      | _ => (unfold okX at h; cases h)
    | _ => (unfold okX at h; cases h)
  | .rev a, X, W, sc, e, h, x, tk => by
    unfold okX at h
    cases hr : revPart e with
    | none => rw [hr] at h; cases h
    | some b =>
      rw [hr] at h
      obtain ⟨k, p1, p2, p3, pos, rfl⟩ := revPart_is hr
      exact snd_rev (sndX a h x tk)
  | .tup es, X, W, sc, e, h, x, tk => by
    cases e with
    | Tuple xs n p => exact snd_tup (sndXs es (by simpa only [okX] using h) x tk)
    | _ => (unfold okX at h; cases h)
  | .lst es, X, W, sc, e, h, x, tk => by
    cases e with
    | List xs p => exact snd_lst (sndXs es (by simpa only [okX] using h) x tk)
    | _ => (unfold okX at h; cases h)
  | .rep es b, X, W, sc, e, h, x, tk => by
    cases e with
    | BinOp l o r p =>
      cases l with
      | List xs p2 =>
        cases o with
        | Mult =>
          simp only [okX, Bool.and_eq_true] at h
          exact snd_rep (sndXs es h.1 x tk) (sndX b h.2 x tk)
        | _ => (unfold okX at h; cases h)
      | _ => (unfold okX at h; cases h)
    | _ => (unfold okX at h; cases h)
  | .rep2 a b, X, W, sc, e, h, x, tk => by
    cases e with
    | BinOp l o r p =>
      cases o with
      | Mult =>
        simp only [okX, Bool.and_eq_true] at h
        exact snd_rep2 (sndX a h.1 x tk) (sndX b h.2 x tk)
      | _ => (unfold okX at h; cases h)
    | _ => (unfold okX at h; cases h)
  | .dict0 t, X, W, sc, e, h, x, tk => by
    cases e with
    | Dict ks vs p =>
      cases ks with
      | cons _ _ => (unfold okX at h; cases h)
      | nil =>
        cases vs with
        | cons _ _ => (unfold okX at h; cases h)
        | nil => exact snd_dict0
    | _ => (unfold okX at h; cases h)
  | .comp own g it c e, X, W, sc, ex, h, x, tk => by
    cases ex with
    | ListComp elt gens scope p =>
      cases gens with
      | nil => (unfold okX at h; cases h)
      | cons gen gens =>
        cases gens with
        | cons _ _ => obtain ⟨a1, a2, a3, a4⟩ := gen; (unfold okX at h; cases h)
        | nil =>
          obtain ⟨tg, iter, ifs, as⟩ := gen
          by_cases ha : as = 0
          · subst ha
            unfold okX at h
            simp only [Bool.and_eq_true] at h
            obtain ⟨⟨⟨⟨⟨⟨⟨⟨h0, h1⟩, h2⟩, h3⟩, h4⟩, h5⟩, h6⟩, h7⟩, h8⟩ := h
            have hg : ∀ j ∈ tgSlots g, j ∈ own := fun j hj => by
              cases g with
              | name i =>
                have e := List.mem_singleton.mp hj
                subst e
                exact List.contains_iff_mem.mp h6
              | tup is => exact List.contains_iff_mem.mp (List.all_eq_true.mp h6 j hj)
            have hi := sndI it h3 (W := W) (tg := tg) x tk
            have blk : BlkOk X.N X.env.scope scope (ownN N own) := by rw [x.nm, x.scp]; exact blkOk_by h4
            have ptg : ∀ (s : Shared) (H : Hp) (c : Addr) (cl : List (Str × Addr)) (fp : List Addr), PG (X.blk s H scope (compEnvC scope cl c X.env) fp) tg (tG X.K g) := fun s H cA cl fp =>
              snd_tg (X := X.blk s H scope (compEnvC scope cl cA X.env) fp) (x.calm h1) x.nd x.nm (fun y hy => by
                have e1 : (X.blk s H scope (compEnvC scope cl cA X.env) fp).env.scope = relS scope sc := by rw [← x.scp]; rfl
                rcases locOk hy with q | q
                · have := relS_lookup (sc := sc) (by decide) q
                  exact ⟨.inl (by rw [e1]; exact this), .inr (by rw [e1]; exact this)⟩
                · have := relS_lookup (sc := sc) (by decide) q
                  exact ⟨.inr (by rw [e1]; exact this), .inl (by show (scope.names.lookup y == some .cell) = true; rw [q]; rfl)⟩) h5
            have pel : ∀ (s : Shared) (H : Hp) (c : Addr) (cl : List (Str × Addr)) (fp : List Addr), PE (X.blk s H scope (compEnvC scope cl c X.env) fp) elt (tX (EV X g0 C cls) WF (evX C e)) := fun s H cA cl fp =>
              sndX e (X := X.blk s H scope (compEnvC scope cl cA X.env) fp) (W := WF) h8 x.blk takes0
            have pts : ∀ (s : Shared) (H : Hp) (cA : Addr) (cl : List (Str × Addr)) (fp : List Addr), PTs (X.blk s H scope (compEnvC scope cl cA X.env) fp) ifs (tT (EV X g0 C cls) WF (evT C c)) := fun s H cA cl fp => by
              cases ifs with
              | nil =>
                cases c with
                | yes => exact ⟨fun pins s σ H Q I ⟨G, pv, F, env, S, q⟩ => pts_nil.run pins s σ H Q I (q F H S Ext.refl)⟩
                | _ => simp at h7
              | cons f fs =>
                cases fs with
                | cons _ _ => cases c <;> simp at h7
                | nil =>
                  have h7' : okT Θ N cm c (relS scope sc) f = true := by
                    cases c <;> first | (simp at h7; done) | exact h7
                  exact pts_one (sndT c (X := X.blk s H scope (compEnvC scope cl cA X.env) fp) (W := WF) h7' x.blk takes0)
            have key := pe_lc (own := ownN N own) (pos := p) (x.calm h1) x.nd hi blk ptg pts pel (fold_of h2)
            rw [own_map] at key
            exact PE.imp key fun σ H Q q => comp_imp hg q
          · (unfold okX at h; simp [ha] at h)
    | _ => (unfold okX at h; cases h)
theorem sndXs : ∀ (c : Exs) {X : Cx} {W : WX} {sc : Scope} {es : List Expr}, okXs Θ N cm c sc es = true → XOk Θ N C cls k X sc cm → Takes X W → PA X es (tOs (EV X g0 C cls) W (evOs C c))
  | .nil, X, W, sc, es, h, x, tk => by
    cases es with
    | nil => exact snd_nil
    | cons _ _ => (unfold okXs at h; cases h)
  | .cons a as, X, W, sc, es, h, x, tk => by
    cases es with
    | nil => (unfold okXs at h; cases h)
    | cons e es =>
      simp only [okXs, Bool.and_eq_true] at h
      exact snd_cons h.1.2 (sndO_of x h.1.1 (sndX a h.1.1 x tk)) (sndXs as h.2 x tk)
theorem sndOx : ∀ (c : Ox) {X : Cx} {W : WX} {sc : Scope} {e : Option Expr}, okO Θ N cm c sc e = true → XOk Θ N C cls k X sc cm → Takes X W → PO X e (tT (EV X g0 C cls) W (evO C c))
  | .none, X, W, sc, e, h, x, tk => by
    cases e with
    | none => exact snd_ox (o := .none) trivial
    | some _ => (unfold okO at h; cases h)
  | .some a, X, W, sc, e, h, x, tk => by
    cases e with
    | none => (unfold okO at h; cases h)
    | some e => exact snd_ox (o := .some a) (sndX a (by simpa only [okO] using h) x tk)
theorem sndT : ∀ (c : Tx) {X : Cx} {W : WX} {sc : Scope} {e : Expr}, okT Θ N cm c sc e = true → XOk Θ N C cls k X sc cm → Takes X W → PT X e (tT (EV X g0 C cls) W (evT C c))
  | .yes, X, W, sc, e, h, x, tk => by (unfold okT at h; cases h)
  | .val a, X, W, sc, e, h, x, tk => by
    simp only [okT, Bool.and_eq_true] at h
    exact sndT_val h.2 (sndX a h.1 x tk)
  | .tru a, X, W, sc, e, h, x, tk => by
    simp only [okT, Bool.and_eq_true] at h
    exact sndT_tru h.2 (sndO_of x h.1 (sndX a h.1 x tk))
  | .cmp op a b, X, W, sc, e, h, x, tk => by
    cases e with
    | Compare l os rs p =>
      match os, rs, h with
      | [o], [r], h =>
        simp only [okT, Bool.and_eq_true, decide_eq_true_eq] at h
        obtain ⟨⟨⟨rfl, h1⟩, h2⟩, h3⟩ := h
        exact sndT_cmp x.un h3 (sndO_of x h1 (sndX a h1 x tk)) (sndO_of x h2 (sndX b h2 x tk))
      | [], _, h => (unfold okT at h; cases h)
      | _ :: _ :: _, _, h => (unfold okT at h; cases h)
      | [_], [], h => (unfold okT at h; cases h)
      | [_], _ :: _ :: _, h => (unfold okT at h; cases h)
    | _ => (unfold okT at h; cases h)
  | .din neg a d, X, W, sc, e, h, x, tk => by
    cases e with
    | Compare l os rs p =>
      match os, rs, h with
      | [o], [r], h =>
        simp only [okT, Bool.and_eq_true, decide_eq_true_eq] at h
        obtain ⟨⟨⟨rfl, h1⟩, h2⟩, h3⟩ := h
        exact sndT_din x.un h3 (sndO_of x h1 (sndX a h1 x tk)) (sndO_of x h2 (sndX d h2 x tk))
      | [], _, h => (unfold okT at h; cases h)
      | _ :: _ :: _, _, h => (unfold okT at h; cases h)
      | [_], [], h => (unfold okT at h; cases h)
      | [_], _ :: _ :: _, h => (unfold okT at h; cases h)
    | _ => (unfold okT at h; cases h)
  | .chain op op2 a b c, X, W, sc, e, h, x, tk => by
    cases e with
    | Compare l os rs p =>
      match os, rs, h with
      | [o, o2], [m, r], h =>
        simp only [okT, Bool.and_eq_true, decide_eq_true_eq] at h
        obtain ⟨⟨⟨⟨⟨⟨rfl, rfl⟩, h1⟩, h2⟩, h3⟩, h4⟩, h5⟩ := h
        exact sndT_chain x.un h5 (sndX a h1 x tk) (sndX b h2 x tk) (sndX c h3 x tk)
      | [], _, h => (unfold okT at h; cases h)
      | [_], _, h => (unfold okT at h; cases h)
      | _ :: _ :: _ :: _, _, h => (unfold okT at h; cases h)
      | [_, _], [], h => (unfold okT at h; cases h)
      | [_, _], [_], h => (unfold okT at h; cases h)
      | [_, _], _ :: _ :: _ :: _, h => (unfold okT at h; cases h)
    | _ => (unfold okT at h; cases h)
  | .and a b, X, W, sc, e, h, x, tk => by
    cases e with
    | BoolOp op vs p => exact (sndW (.and a b) h x tk).pt
    | _ => (unfold okT at h; cases h)
  | .or a b, X, W, sc, e, h, x, tk => by
    cases e with
    | BoolOp op vs p => exact (sndW (.or a b) h x tk).pt
    | _ => (unfold okT at h; cases h)
  | .one a, X, W, sc, e, h, x, tk => by
    cases e with
    | BoolOp op vs p => exact (sndW (.one a) h x tk).pt
    | _ => (unfold okT at h; cases h)
  | .not a, X, W, sc, e, h, x, tk => by
    cases e with
    | UnaryOp o r p =>
      cases o with
      | Not => exact sndT_not (sndT a (by simpa only [okT] using h) x tk)
      | _ => (unfold okT at h; cases h)
    | _ => (unfold okT at h; cases h)
theorem sndW : ∀ (c : Tx) {X : Cx} {W : WX} {sc : Scope} {op : BoolOp} {vs : List Expr} {p : Pos}, okT Θ N cm c sc (.BoolOp op vs p) = true → XOk Θ N C cls k X sc cm → Takes X W → PW X (.BoolOp op vs p) (tT (EV X g0 C cls) W (evT C c))
  | .and a b, X, W, sc, op, vs, p, h, x, tk => by
    cases op with
    | And =>
      match vs, h with
      | u :: v :: r, h =>
        simp only [okT, Bool.and_eq_true] at h
        exact sndW_and (sndT a h.1 x tk) (sndW b h.2 x tk)
      | [], h => (unfold okT at h; cases h)
      | [_], h => (unfold okT at h; cases h)
    | Or => (unfold okT at h; cases h)
  | .or a b, X, W, sc, op, vs, p, h, x, tk => by
    cases op with
    | Or =>
      match vs, h with
      | u :: v :: r, h =>
        simp only [okT, Bool.and_eq_true] at h
        exact sndW_or (sndT a h.1 x tk) (sndW b h.2 x tk)
      | [], h => (unfold okT at h; cases h)
      | [_], h => (unfold okT at h; cases h)
    | And => (unfold okT at h; cases h)
  | .one a, X, W, sc, op, vs, p, h, x, tk => by
    match vs, h with
    | [u], h => exact sndW_one (sndT a (by simpa only [okT] using h) x tk)
    | [], h => (unfold okT at h; cases h)
    | _ :: _ :: _, h => (unfold okT at h; cases h)
  | .yes, X, W, sc, op, vs, p, h, x, tk => by (unfold okT at h; cases h)
  | .val a, X, W, sc, op, vs, p, h, x, tk => by simp [okT, cmpPlain] at h
  | .tru a, X, W, sc, op, vs, p, h, x, tk => by simp [okT, cmpPlain] at h
  | .cmp _ a b, X, W, sc, op, vs, p, h, x, tk => by (unfold okT at h; cases h)
  | .din _ a d, X, W, sc, op, vs, p, h, x, tk => by (unfold okT at h; cases h)
  | .chain _ _ a b c, X, W, sc, op, vs, p, h, x, tk => by (unfold okT at h; cases h)
  | .not a, X, W, sc, op, vs, p, h, x, tk => by (unfold okT at h; cases h)
theorem sndV : ∀ (c : Tx) {X : Cx} {W : WX} {sc : Scope} {e : Expr}, okV Θ N cm c sc e = true → XOk Θ N C cls k X sc cm → Takes X W → PE X e (tX (EV X g0 C cls) W (evX C (.tv c)))
  | .yes, X, W, sc, e, h, x, tk => by (unfold okV at h; cases h)
  | .val a, X, W, sc, e, h, x, tk => sndV_val (sndX a (by simpa only [okV] using h) x tk)
  | .tru a, X, W, sc, e, h, x, tk => by (unfold okV at h; cases h)
  | .cmp op a b, X, W, sc, e, h, x, tk => by
    cases e with
    | Compare l os rs p =>
      match os, rs, h with
      | [o], [r], h =>
        simp only [okV, Bool.and_eq_true, decide_eq_true_eq] at h
        obtain ⟨⟨⟨rfl, h1⟩, h2⟩, h3⟩ := h
        exact sndV_cmp x.un h3 (sndO_of x h1 (sndX a h1 x tk)) (sndO_of x h2 (sndX b h2 x tk))
      | [], _, h => (unfold okV at h; cases h)
      | _ :: _ :: _, _, h => (unfold okV at h; cases h)
      | [_], [], h => (unfold okV at h; cases h)
      | [_], _ :: _ :: _, h => (unfold okV at h; cases h)
    | _ => (unfold okV at h; cases h)
  | .din neg a d, X, W, sc, e, h, x, tk => by
    cases e with
    | Compare l os rs p =>
      match os, rs, h with
      | [o], [r], h =>
        simp only [okV, Bool.and_eq_true, decide_eq_true_eq] at h
        obtain ⟨⟨⟨rfl, h1⟩, h2⟩, h3⟩ := h
        exact sndV_din x.un h3 (sndO_of x h1 (sndX a h1 x tk)) (sndO_of x h2 (sndX d h2 x tk))
      | [], _, h => (unfold okV at h; cases h)
      | _ :: _ :: _, _, h => (unfold okV at h; cases h)
      | [_], [], h => (unfold okV at h; cases h)
      | [_], _ :: _ :: _, h => (unfold okV at h; cases h)
    | _ => (unfold okV at h; cases h)
  | .chain op op2 a b c, X, W, sc, e, h, x, tk => by
    cases e with
    | Compare l os rs p =>
      match os, rs, h with
      | [o, o2], [m, r], h =>
        simp only [okV, Bool.and_eq_true, decide_eq_true_eq] at h
        obtain ⟨⟨⟨⟨⟨⟨rfl, rfl⟩, h1⟩, h2⟩, h3⟩, h4⟩, h5⟩ := h
        exact sndV_chain x.un h5 (sndX a h1 x tk) (sndX b h2 x tk) (sndX c h3 x tk)
      | [], _, h => (unfold okV at h; cases h)
      | [_], _, h => (unfold okV at h; cases h)
      | _ :: _ :: _ :: _, _, h => (unfold okV at h; cases h)
      | [_, _], [], h => (unfold okV at h; cases h)
      | [_, _], [_], h => (unfold okV at h; cases h)
      | [_, _], _ :: _ :: _ :: _, h => (unfold okV at h; cases h)
    | _ => (unfold okV at h; cases h)
  | .and a b, X, W, sc, e, h, x, tk => by
    cases e with
    | BoolOp op vs p =>
      cases op with
      | And =>
        match vs, h with
        | u :: v :: r, h =>
          simp only [okV, Bool.and_eq_true] at h
          exact sndV_and (sndV a h.1 x tk) (sndV b h.2 x tk)
        | [], h => (unfold okV at h; cases h)
        | [_], h => (unfold okV at h; cases h)
      | Or => (unfold okV at h; cases h)
    | _ => (unfold okV at h; cases h)
  | .or a b, X, W, sc, e, h, x, tk => by
    cases e with
    | BoolOp op vs p =>
      cases op with
      | Or =>
        match vs, h with
        | u :: v :: r, h =>
          simp only [okV, Bool.and_eq_true] at h
          exact sndV_or (sndV a h.1 x tk) (sndV b h.2 x tk)
        | [], h => (unfold okV at h; cases h)
        | [_], h => (unfold okV at h; cases h)
      | And => (unfold okV at h; cases h)
    | _ => (unfold okV at h; cases h)
  | .one a, X, W, sc, e, h, x, tk => by
    cases e with
    | BoolOp op vs p =>
      match vs, h with
      | [u], h => exact sndV_one (sndV a (by simpa only [okV] using h) x tk)
      | [], h => (unfold okV at h; cases h)
      | _ :: _ :: _, h => (unfold okV at h; cases h)
    | _ => (unfold okV at h; cases h)
  | .not a, X, W, sc, e, h, x, tk => by
    cases e with
    | UnaryOp o r p =>
      cases o with
      | Not =>
        simp only [okV, Bool.or_eq_true] at h
        rcases h with h | h
        · exact sndV_not (sndV a h x tk)
        · cases a with
          | tru a =>
            have h' : okX Θ N cm a sc r = true := by simpa only [okN] using h
            exact sndV_notT (sndO_of x h' (sndX a h' x tk))
          | _ => (unfold okN at h; cases h)
      | _ => (unfold okV at h; cases h)
    | _ => (unfold okV at h; cases h)
theorem sndI : ∀ (c : Itx) {X : Cx} {W : WX} {sc : Scope} {tg e : Expr}, okI Θ N cm c sc e = true → XOk Θ N C cls k X sc cm → Takes X W → PI X tg e (tI (EV X g0 C cls) W (evI C c))
  | .seq a, X, W, sc, tg, e, h, x, tk => sndI_seq (sndX a (by simpa only [okI] using h) x tk)
  | .chars a, X, W, sc, tg, e, h, x, tk => sndI_chars (sndX a (by simpa only [okI] using h) x tk)
  | .rev a, X, W, sc, tg, e, h, x, tk => by
    cases e with
    | Call fe es kws p =>
      cases fe with
      | Name y p2 =>
        match es, kws, h with
        | [u], [], h =>
          simp only [okI, Bool.and_eq_true] at h
          obtain ⟨⟨⟨h1, h2⟩, h3⟩, h4⟩ := h
          have e1 := strEq h1
          subst e1
          exact sndI_rev (glOk x.scp h2) (x.blt _ (by decide +kernel)) h4 (sndX a h3 x tk)
        | [], _, h => (unfold okI at h; cases h)
        | [_], _ :: _, h => (unfold okI at h; cases h)
        | _ :: _ :: _, _, h => (unfold okI at h; cases h)
      | _ => (unfold okI at h; cases h)
    | _ => (unfold okI at h; cases h)
  | .range .nil, X, W, sc, tg, e, h, x, tk => by (unfold okI at h; cases h)
  | .range (.cons a .nil), X, W, sc, tg, e, h, x, tk => by
    cases e with
    | Call fe es kws p =>
      cases fe with
      | Name y p2 =>
        match es, kws, h with
        | [u], [], h =>
          simp only [okI, Bool.and_eq_true] at h
          obtain ⟨⟨⟨h1, h2⟩, h3⟩, h4⟩ := h
          have e1 := strEq h1
          subst e1
          exact sndI_range1 (glOk x.scp h2) (x.blt _ (by decide +kernel)) h4 (sndO_of x h3 (sndX a h3 x tk))
        | [], _, h => (unfold okI at h; cases h)
        | [_], _ :: _, h => (unfold okI at h; cases h)
        | _ :: _ :: _, _, h => (unfold okI at h; cases h)
      | _ => (unfold okI at h; cases h)
    | _ => (unfold okI at h; cases h)
  | .range (.cons a (.cons b .nil)), X, W, sc, tg, e, h, x, tk => by
    cases e with
    | Call fe es kws p =>
      cases fe with
      | Name y p2 =>
        match es, kws, h with
        | [u, v], [], h =>
          simp only [okI, Bool.and_eq_true] at h
          obtain ⟨⟨⟨⟨⟨h1, h2⟩, h3⟩, h4⟩, h5⟩, h6⟩ := h
          have e1 := strEq h1
          subst e1
          exact sndI_range2 (glOk x.scp h2) (x.blt _ (by decide +kernel)) h4 h6 (sndO_of x h3 (sndX a h3 x tk)) (sndO_of x h5 (sndX b h5 x tk))
        | [], _, h => (unfold okI at h; cases h)
        | [_], _, h => (unfold okI at h; cases h)
        | [_, _], _ :: _, h => (unfold okI at h; cases h)
        | _ :: _ :: _ :: _, _, h => (unfold okI at h; cases h)
      | _ => (unfold okI at h; cases h)
    | _ => (unfold okI at h; cases h)
  | .range (.cons a (.cons b (.cons _ (.cons _ _)))), X, W, sc, tg, e, h, x, tk => by (unfold okI at h; cases h)
  | .range (.cons a (.cons b (.cons c .nil))), X, W, sc, tg, e, h, x, tk => by
    cases e with
    | Call fe es kws p =>
      cases fe with
      | Name y p2 =>
        match es, kws, h with
        | [u, v, w], [], h =>
          simp only [okI, Bool.and_eq_true] at h
          obtain ⟨⟨⟨⟨⟨⟨⟨h1, h2⟩, h3⟩, h4⟩, h5⟩, h6⟩, h7⟩, h8⟩ := h
          have e1 := strEq h1
          subst e1
          exact sndI_range3 (glOk x.scp h2) (x.blt _ (by decide +kernel)) h4 h6 h8 (sndO_of x h3 (sndX a h3 x tk)) (sndO_of x h5 (sndX b h5 x tk)) (sndO_of x h7 (sndX c h7 x tk))
        | [], _, h => (unfold okI at h; cases h)
        | [_], _, h => (unfold okI at h; cases h)
        | [_, _], _, h => (unfold okI at h; cases h)
        | [_, _, _], _ :: _, h => (unfold okI at h; cases h)
        | _ :: _ :: _ :: _ :: _, _, h => (unfold okI at h; cases h)
      | _ => (unfold okI at h; cases h)
    | _ => (unfold okI at h; cases h)
end
end
end Q1

set_option maxHeartbeats 4000000
/-! Q14: statements. -/
namespace Q1
open PySem PySem.Spec PyProof.Rows L2 PySem.SeqAt

section
variable (T : Ev) (pv : List (Nat × V)) (W : WX) (F : Hp)
/-- behind a statement -/
def PXS (c : Nat) (env : En) : Prop := ∀ σ' F' H', Sim T.K T.G pv F' env σ' H' → Ext F F' → W (T.cls c) none σ' H'
def PostS (r : Res Fl) (D : Ends) : Prop :=
  match r with
  | .ok .nx e => ∀ σ' F' H', Sim T.K T.G pv F' e σ' H' → Ext F F' → D.nx σ' H'
  | .ok .bk e => ∀ σ' F' H', Sim T.K T.G pv F' e σ' H' → Ext F F' → D.bk σ' H'
  | .ok .ct e => ∀ σ' F' H', Sim T.K T.G pv F' e σ' H' → Ext F F' → D.ct σ' H'
  | .ok (.rt m) e => ∀ v σ' F' H', Sim T.K T.G pv F' e σ' H' → Ext F F' → RepM T.K F' H' m v → (m.isOwn = true → Fresh T.G e σ' v) → D.rt v H'
  | .exc c e => PXS T pv W F c e
  | .bad => False
end
def tS (T : Ev) (W : WX) (pr : List Nat) (f : En → Res Fl) : TS := fun D σ H => ∃ G pv F env, Sim T.K G pv F env σ H ∧ (∀ q ∈ pv, q.1 ∈ pr) ∧ PostS (T.at G) pv W F (f env) D
section
variable {T : Ev} {pv : List (Nat × V)} {W : WX} {F F1 : Hp} {σ : St}
theorem PXS.px {c : Nat} {env : En} (h : PXS T pv W F c env) : PX T pv W σ F c env := fun F' H' S x => h σ F' H' S x
theorem PostS.ext {r : Res Fl} {D : Ends} (h : PostS T pv W F r D) (x : Ext F F1) : PostS T pv W F1 r D := by
  cases r with
  | bad => exact h
  | exc c e => exact fun σ' F' H' S y => h σ' F' H' S (x.trans y)
  | ok f e =>
    cases f with
    | nx => exact fun σ' F' H' S y => h σ' F' H' S (x.trans y)
    | bk => exact fun σ' F' H' S y => h σ' F' H' S (x.trans y)
    | ct => exact fun σ' F' H' S y => h σ' F' H' S (x.trans y)
    | rt m => exact fun v σ' F' H' S y => h v σ' F' H' S (x.trans y)
/-- first an expression, then what follows -/
theorem PostS.bind {α : Type} {r : Res α} {f : α → En → Res Fl} {D : Ends} (h : PostS T pv W F (r.bind f) D) : Post T pv W σ F r fun a e => PostS T pv W F (f a e) D := by
  cases r with
  | ok a e => exact h
  | exc c e => exact PXS.px h
  | bad => exact h
end
section
variable {X : Cx} {G0 : Gh} {C : PC} {cls : Nat → Value} {W : WX} {pr : List Nat}
theorem contains_mem {i : Nat} {pr : List Nat} (h : pr.contains i = false) : i ∉ pr := fun z => by
  rw [List.contains_iff_mem.mpr z] at h; cases h
/-- x = e: what the value is to do -/
theorem set_imp {i : Nat} {own : Bool} {e : Ex} {D : Ends} {σ : St} {H : Hp} (h : tS (EV X G0 C cls) W pr (evS C pr (.set i own e)) D σ H) : tX (EV X G0 C cls) W (evX C e) σ H fun x H1 => gName i x σ H1 D.nx := by
  obtain ⟨G, pv, F, env, S, hp, h⟩ := h
  refine ⟨G, pv, F, env, S, ?_⟩
  unfold evS at h
  refine Post.imp (PostS.bind (σ := σ) h) Ext.refl fun m e1 h1 => ?_
  cases hc : pr.contains i with
  | true => rw [hc, if_pos rfl] at h1; exact h1.elim
  | false =>
    rw [hc, if_neg Bool.false_ne_true] at h1
    have np : ∀ q ∈ pv, q.1 ≠ i := fun q hq z => contains_mem hc (by rw [← z]; exact hp q hq)
    cases own with
    | true => exact fun v F1 H1 S1 x1 r1 fr => h1 _ F1 H1 (S1.stored r1 fr np) x1
    | false => exact PM.frozen fun v F1 H1 S1 x1 r1 => h1 _ F1 H1 (S1.stored (m := .p m.toD) r1 (fun z => by cases z) np) x1
theorem noSwap {e : Expr} {t : Option Expr} {l : Nat} {env : Env} (h : match e with | .ListComp .. => false | .SetComp .. => false | .DictComp .. => false | _ => true) : swapsWith e t l env = pure false := by
  cases e <;> first | rfl | cases h
def notComp : Expr → Bool
  | .ListComp .. => false
  | .SetComp .. => false
  | .DictComp .. => false
  | _ => true
theorem noSwapC {e : Expr} {t : Option Expr} {l : Nat} {env : Env} (h : notComp e = true) : swapsWith e t l env = pure false := by
  cases e <;> first | rfl | cases h
theorem snd_set {i : Nat} {own : Bool} {e : Ex} {x : Str} {ex : Expr} {p p2 : Pos} (hN : X.N.Nodup) (hi : X.N[i]? = some x) (hx : Loc X.env.scope x) (hf : X.fn x = true ∨ X.env.scope.names.lookup x = some .local) (hs : swapsWith ex (some (.Name x p2)) p.line X.env = pure false)
    (he : PE X ex (tX (EV X G0 C cls) W (evX C e))) : PS X (.Assign [.Name x p2] ex p) (tS (EV X G0 C cls) W pr (evS C pr (.set i own e))) :=
  PS.imp (ps_set hN hi hx he hs hf) fun D σ H h => set_imp h
theorem snd_ret {own : Bool} {e : Ex} {ex : Expr} {p : Pos} (he : PE X ex (tX (EV X G0 C cls) W (evX C e))) : PS X (.Return (some ex) p) (tS (EV X G0 C cls) W pr (evS C pr (.ret own e))) := by
  refine PS.imp (ps_ret he) fun D σ H ⟨G, pv, F, env, S, hp, h⟩ => ⟨G, pv, F, env, S, ?_⟩
  unfold evS at h
  refine Post.imp (PostS.bind (σ := σ) h) Ext.refl fun m e1 h1 => ?_
  cases own with
  | true => exact fun v F1 H1 S1 x1 r1 fr => h1 v σ F1 H1 S1 x1 r1 fr
  | false => exact PM.frozen fun v F1 H1 S1 x1 r1 => h1 v σ F1 H1 S1 x1 r1 fun z => by cases z
theorem snd_retN {p : Pos} : PS X (.Return none p) (tS (EV X G0 C cls) W pr (evS C pr .retN)) :=
  PS.imp ps_retN fun D σ H ⟨G, pv, F, env, S, hp, h⟩ => h _ σ F H S Ext.refl rfl fun z => by cases z
theorem snd_expr {e : Ex} {ex : Expr} {p : Pos} (hs : notComp ex = true) (he : PE X ex (tX (EV X G0 C cls) W (evX C e))) : PS X (.Expr ex p) (tS (EV X G0 C cls) W pr (evS C pr (.expr e))) := by
  refine PS.imp (ps_expr he (noSwapC hs)) fun D σ H ⟨G, pv, F, env, S, hp, h⟩ => ⟨G, pv, F, env, S, ?_⟩
  unfold evS at h
  exact Post.imp (PostS.bind (σ := σ) h) Ext.refl fun m e1 h1 => PM.frozen fun v F1 H1 S1 x1 r1 => h1 σ F1 H1 S1 x1
theorem snd_ite {t : Tx} {a b : Sms} {et : Expr} {ea eb : List Stmt} {p : Pos} (ht : PT X et (tT (EV X G0 C cls) W (evT C t))) (ha : PSs X ea (tS (EV X G0 C cls) W pr (evSs C pr a))) (hb : PSs X eb (tS (EV X G0 C cls) W pr (evSs C pr b))) :
    PS X (.If et ea eb p) (tS (EV X G0 C cls) W pr (evS C pr (.ite t a b))) := by
  refine PS.imp (ps_if ht ha hb) fun D σ H ⟨G, pv, F, env, S, hp, h⟩ => ⟨G, pv, F, env, S, ?_⟩
  unfold evS at h
  refine Post.imp (PostS.bind (σ := σ) h) Ext.refl fun c e1 h1 F1 H1 S1 x1 => ?_
  cases c with
  | true => exact ⟨G, pv, F1, e1, S1, hp, PostS.ext h1 x1⟩
  | false => exact ⟨G, pv, F1, e1, S1, hp, PostS.ext h1 x1⟩
theorem snd_pass {p : Pos} : PS X (.Pass p) (tS (EV X G0 C cls) W pr (evS C pr .pass)) := PS.imp ps_pass fun D σ H ⟨G, pv, F, env, S, hp, h⟩ => h σ F H S Ext.refl
theorem snd_brk {p : Pos} : PS X (.Break p) (tS (EV X G0 C cls) W pr (evS C pr .brk)) := PS.imp ps_break fun D σ H ⟨G, pv, F, env, S, hp, h⟩ => h σ F H S Ext.refl
theorem snd_cnt {p : Pos} : PS X (.Continue p) (tS (EV X G0 C cls) W pr (evS C pr .cnt)) := PS.imp ps_continue fun D σ H ⟨G, pv, F, env, S, hp, h⟩ => h σ F H S Ext.refl
theorem snd_snil : PSs X [] (tS (EV X G0 C cls) W pr (evSs C pr .nil)) := PSs.imp pss_nil fun D σ H ⟨G, pv, F, env, S, hp, h⟩ => h σ F H S Ext.refl
theorem snd_scons {s : Sm} {r : Sms} {st : Stmt} {sts : List Stmt} (h1 : PS X st (tS (EV X G0 C cls) W pr (evS C pr s))) (h2 : PSs X sts (tS (EV X G0 C cls) W pr (evSs C pr r))) : PSs X (st :: sts) (tS (EV X G0 C cls) W pr (evSs C pr (.cons s r))) := by
  refine PSs.imp (pss_cons h1 h2) fun D σ H ⟨G, pv, F, env, S, hp, h⟩ => ⟨G, pv, F, env, S, hp, ?_⟩
  unfold evSs at h
  cases q : evS C pr s env with
  | bad => rw [q] at h; exact h
  | exc c e => rw [q] at h; exact h
  | ok f e =>
    rw [q] at h
    cases f with
    | nx => exact fun σ' F' H' S' x' => ⟨G, pv, F', e, S', hp, PostS.ext h x'⟩
    | bk => exact h
    | ct => exact h
    | rt m => exact h
theorem snd_kill {is : List Nat} {r : Sms} {sts : List Stmt} (h2 : PSs X sts (tS (EV X G0 C cls) W pr (evSs C pr r))) : PSs X sts (tS (EV X G0 C cls) W pr (evSs C pr (.kill is r))) := by
  refine PSs.imp h2 fun D σ H ⟨G, pv, F, env, S, hp, h⟩ => ⟨G, pv, F, kills env is, S.kills is, hp, ?_⟩
  unfold evSs at h
  split at h
  · exact h.elim
  · exact h
/-! loops -/
theorem any_false {is pr : List Nat} (h : is.any pr.contains = false) : ∀ i ∈ is, i ∉ pr := fun i hi z => by
  have := List.any_eq_false.mp h i hi
  exact this (List.contains_iff_mem.mpr z)
theorem loop_step {g : Tg} {fb : En → Res Fl} {T : Ev} {G : Gh} {pv : List (Nat × V)} {F' H : Hp} {e' : En} {σ : St} {d : Q1.D} {x : V} {N : St → Hp → Prop} {D : Ends} {pr' : List Nat}
    (S : Sim T.K G pv F' e' σ H) (rd : Rep T.K F' d x) (hp : ∀ q ∈ pv, q.1 ∈ pr')
    (hr : ∃ r, loopT pr' g fb d e' = r ∧ match r with
      | .ok .nx e => ∀ σ' F2 H', Sim T.K G pv F2 e σ' H' → Ext F' F2 → N σ' H'
      | .ok .ct e => ∀ σ' F2 H', Sim T.K G pv F2 e σ' H' → Ext F' F2 → N σ' H'
      | .ok .bk e => ∀ σ' F2 H', Sim T.K G pv F2 e σ' H' → Ext F' F2 → D.nx σ' H'
      | .ok (.rt m) e => ∀ v σ' F2 H', Sim T.K G pv F2 e σ' H' → Ext F' F2 → RepM T.K F2 H' m v → (m.isOwn = true → Fresh G e σ' v) → D.rt v H'
      | .exc c e => PXS (T.at G) pv W F' c e
      | .bad => False) :
    tG T.K g x σ H fun σ2 H2 => tS T W pr' fb { D with nx := N, ct := N, bk := D.nx } σ2 H2 := by
  obtain ⟨r, er, hr⟩ := hr
  unfold loopT at er
  cases q : setTg e' g d with
  | none => rw [q] at er; subst er; exact hr.elim
  | some e2 =>
    rw [q] at er
    cases q2 : (tgSlots g).any pr'.contains with
    | true =>
      have er' : (if (tgSlots g).any pr'.contains = true then Res.bad else fb e2) = r := er
      rw [q2, if_pos rfl] at er'
      subst er'
      exact hr.elim
    | false =>
      have er' : (if (tgSlots g).any pr'.contains = true then Res.bad else fb e2) = r := er
      rw [q2, if_neg Bool.false_ne_true] at er'
      refine ⟨G, pv, F', e', d, e2, S, rd, q, fun w hw z => any_false q2 _ z (hp w hw), fun σ2 S2 _ _ => ⟨G, pv, F', e2, S2, hp, ?_⟩⟩
      rw [er']
      cases r with
      | bad => exact hr
      | exc c e => exact hr
      | ok f e => cases f <;> exact hr
theorem snd_loop {g : Tg} {it : Itx} {body : Sms} {tg iter : Expr} {eb : List Stmt} {p : Pos} (hpo : PassesOwn (model X.prog X.w) X.A X.env X.xe) (hc : X.calm = true) (hi : PI X tg iter (tI (EV X G0 C cls) W (evI C it))) (hg : PG X tg (tG X.K g))
    (hb : PSs X eb (tS (EV X G0 C cls) W pr (evSs C pr body))) (hf : ∀ x, foldedSetIterable iter X.env x = pure x) : PS X (.For tg iter eb [] p) (tS (EV X G0 C cls) W pr (evS C pr (.loop g it body))) := by
  refine PS.imp (ps_for hpo hc hi hg hb hf) fun D σ H ⟨G, pv, F, env, S, hp, h⟩ => ⟨G, pv, F, env, S, ?_⟩
  unfold evS at h
  refine Post.imp (PostS.bind (σ := σ) h) Ext.refl fun xs e1 h1 F1 H1 J S1 x1 ok => ?_
  refine ⟨fun i m σ H => m = xs.length - i ∧ i ≤ xs.length ∧ ∃ F' e', Sim X.K G pv F' e' σ H ∧ Ext F1 F' ∧ PostS ((EV X G0 C cls).at G) pv W F' (forL (loopT pr g (evSs C pr body)) (xs.drop i) e') D, ⟨xs.length, by omega, Nat.zero_le _, F1, e1, S1, Ext.refl, PostS.ext h1 x1⟩, ?_⟩
  rintro i m σ2 H2 ⟨rfl, hle, F', e', S2, x2, hq⟩
  by_cases hlt : i < xs.length
  · refine .inr ⟨ok.go _ _ (x2.trans S2.fh) hlt, fun σ H => ∃ F' e', Sim X.K G pv F' e' σ H ∧ Ext F1 F' ∧ PostS ((EV X G0 C cls).at G) pv W F' (forL (loopT pr g (evSs C pr body)) (xs.drop (i + 1)) e') D, fun σ' H' hN => ⟨xs.length - (i + 1), by omega, rfl, hlt, hN⟩, fun x H3 hy => ?_⟩
    obtain ⟨rfl, d, ed, rd⟩ := ok.yld _ _ _ _ (x2.trans S2.fh) hlt hy
    have edrop : xs.drop i = d :: xs.drop (i + 1) := by
      rw [List.drop_eq_getElem_cons hlt]
      congr 1
      rw [List.getElem?_eq_getElem hlt] at ed
      exact Option.some.inj ed
    rw [edrop] at hq
    refine loop_step (T := EV X G0 C cls) S2 (rd.ext x2) hp ⟨_, rfl, ?_⟩
    unfold forL at hq
    cases q : loopT pr g (evSs C pr body) d e' with
    | bad => rw [q] at hq; exact hq
    | exc c e => rw [q] at hq; exact hq
    | ok f e =>
      rw [q] at hq
      cases f with
      | nx => exact fun σ' F2 H' S' x' => ⟨F2, e, S', x2.trans x', PostS.ext hq x'⟩
      | ct => exact fun σ' F2 H' S' x' => ⟨F2, e, S', x2.trans x', PostS.ext hq x'⟩
      | bk => exact hq
      | rt m => exact hq
  · have hi2 : i = xs.length := by omega
    subst hi2
    rw [List.drop_length] at hq
    exact .inl ⟨ok.stop _ _ (x2.trans S2.fh) (Nat.le_refl _), hq σ2 F' H2 S2 Ext.refl⟩
theorem snd_while {n : Nat} {t : Tx} {body : Sms} {et : Expr} {eb : List Stmt} {p : Pos} (hpo : PassesOwn (model X.prog X.w) X.A X.env X.xe) (ht : PT X et (tT (EV X G0 C cls) W (evT C t))) (hb : PSs X eb (tS (EV X G0 C cls) W pr (evSs C pr body))) :
    PS X (.While et eb [] p) (tS (EV X G0 C cls) W pr (evS C pr (.whil n t body))) := by
  refine PS.imp (ps_while hpo ht hb) fun D σ H ⟨G, pv, F, env, S, hp, h⟩ => ?_
  unfold evS at h
  refine ⟨fun m σ H => ∃ F' e', Sim X.K G pv F' e' σ H ∧ PostS ((EV X G0 C cls).at G) pv W F' (whileL (evT C t) (evSs C pr body) m e') D, ⟨n, F, env, S, h⟩, ?_⟩
  rintro m σ2 H2 ⟨F', e', S2, hq⟩
  cases m with
  | zero => exact hq.elim
  | succ m =>
    unfold whileL at hq
    refine ⟨G, pv, F', e', S2, ?_⟩
    refine Post.imp (PostS.bind (σ := σ2) hq) Ext.refl fun c e1 h1 F1 H1 S1 x1 => ?_
    cases c with
    | false => exact h1 σ2 F1 H1 S1 x1
    | true =>
      rw [if_pos rfl] at h1
      refine ⟨fun σ' H' => ∃ F' e', Sim X.K G pv F' e' σ' H' ∧ PostS ((EV X G0 C cls).at G) pv W F' (whileL (evT C t) (evSs C pr body) m e') D, fun σ' H' hN => ⟨m, Nat.lt_succ_self m, hN⟩, G, pv, F1, e1, S1, hp, ?_⟩
      cases q : evSs C pr body e1 with
      | bad => rw [q] at h1; exact h1
      | exc c e => rw [q] at h1; exact fun σ' F2 H' S' x' => h1 σ' F2 H' S' (x1.trans x')
      | ok f e =>
        rw [q] at h1
        cases f with
        | nx => exact fun σ' F2 H' S' x' => ⟨F2, e, S', PostS.ext h1 (x1.trans x')⟩
        | ct => exact fun σ' F2 H' S' x' => ⟨F2, e, S', PostS.ext h1 (x1.trans x')⟩
        | bk => exact fun σ' F2 H' S' x' => h1 σ' F2 H' S' (x1.trans x')
        | rt m => exact fun v σ' F2 H' S' x' => h1 v σ' F2 H' S' (x1.trans x')
end
end Q1

set_option maxHeartbeats 4000000
/-! Q15: statements that store; errors. -/
namespace Q1
open PySem PySem.Spec PyProof.Rows L2 PySem.SeqAt
section
variable {X : Cx} {G0 : Gh} {C : PC} {cls : Nat → Value} {W : WX} {pr : List Nat}
theorem snd_aug {i : Nat} {op : Bop} {e : Ex} {x : Str} {ex : Expr} {p p2 : Pos} (hop : op = .add ∨ op = .sub) (hN : X.N.Nodup) (hi : X.N[i]? = some x) (hx : Loc X.env.scope x) (hf : X.fn x = true ∨ X.env.scope.names.lookup x = some .local)
    (he : PE X ex (tX (EV X G0 C cls) W (evX C e))) : PS X (.AugAssign (.Name x p2) (opA op) ex p) (tS (EV X G0 C cls) W pr (evS C pr (.aug i op e))) := by
  have go : ∀ (f : Int → Int → Int), PIp X (opA op) (ipI f) → (∀ a b : Int, augO op a (.int b) = some (f a b)) → PS X (.AugAssign (.Name x p2) (opA op) ex p) (tS (EV X G0 C cls) W pr (evS C pr (.aug i op e))) := fun f hip hff => by
    refine PS.imp (ps_aug hN hi hx he hip hf) fun D σ H ⟨G, pv, F, env, S, hp, h⟩ => ?_
    unfold evS at h
    cases hc : pr.contains i with
    | true => rw [hc, if_pos rfl] at h; exact h.elim
    | false =>
      rw [hc, if_neg Bool.false_ne_true] at h
      have np : ∀ q ∈ pv, q.1 ≠ i := fun q hq z => contains_mem hc (by rw [← z]; exact hp q hq)
      cases el : look env i with
      | none => rw [el] at h; exact h.elim
      | some m =>
        rw [el] at h
        cases m with
        | p d =>
          cases d with
          | int a =>
            obtain ⟨v, hv, hr⟩ := S.rep i _ el
            cases (show v = _ from hr)
            refine ⟨_, hv, G, pv, F, env, S, ?_⟩
            refine Post.imp (PostS.bind (σ := σ) h) Ext.refl fun m e1 h1 => PM.frozen fun v F1 H1 S1 x1 r1 => ?_
            generalize m.toD = d at h1 r1
            cases d with
            | int b =>
              cases (show v = _ from r1)
              rw [hff] at h1
              exact ⟨a, b, rfl, rfl, h1 _ F1 H1 (S1.stored (m := .p (.int (f a b))) rfl (fun z => by cases z) np) x1⟩
            | _ => rcases hop with rfl | rfl <;> exact h1.elim
          | _ => exact h.elim
        | _ => exact h.elim
  rcases hop with rfl | rfl
  · exact go _ ip_add fun a b => rfl
  · exact go _ ip_sub fun a b => rfl
theorem snd_app {i : Nat} {e : Ex} {x : Str} {ex : Expr} {p p1 p2 p3 : Pos} (hn : X.N[i]? = some x) (hv : Vis X.env.scope x) (h1 : (x == ("__debug__" : Str)) = false) (h2 : (x == ("__classdict__" : Str)) = false) (hs : notStar ex = true) (hl : (p2.endLine == p3.line) = true)
    (he : PE X ex (tX (EV X G0 C cls) W (evX C e))) : PS X (.Expr (.Call (.Attribute (.Name x p1) "append" p2) [ex] [] p3) p) (tS (EV X G0 C cls) W pr (evS C pr (.app i e))) := by
  have pe : PE X (.Name x p1) (tVar i) := pe_var hn hv h1 h2
  have key := pe_bm (cpos := p3) (apos := p2) PySem.F.plainAttrs_list PySem.F.slot_list_append PySem.F.type_list_append mt_append pe (pa_cons he pa_nil (star_of hs)) rfl (by
    rw [star_of hs]; rfl) hl (star_of hs) rfl
  refine PS.imp (ps_expr (pos := p) key rfl) fun D σ H ⟨G, pv, F, env, S, hp, h⟩ => ?_
  unfold evS at h
  cases el : look env i with
  | none => rw [el] at h; exact h.elim
  | some m =>
    rw [el] at h
    cases m with
    | ol xs0 =>
      obtain ⟨v, hv, a, vs, rfl, hH, _⟩ := S.rep i _ el
      refine ⟨_, hv, .inl ⟨rfl, _, SqL.of hH⟩, G, pv, F, env, S, ?_⟩
      refine Post.imp (PostS.bind (σ := σ) h) Ext.refl fun m e1 h1 => PM.frozen fun v F1 H1 S1 x1 r1 => ?_
      cases e2 : look e1 i with
      | none => rw [e2] at h1; exact h1.elim
      | some m2 =>
        rw [e2] at h1
        cases m2 with
        | ol xs =>
          have h1' : PostS ((EV X G0 C cls).at G) pv W F (@ite _ (xs.length < sizeLine) (Classical.propDecidable _) (.ok .nx (put e1 i (some (.ol (xs ++ [m.toD]))))) .bad) D := h1
          split at h1'
          · rename_i hz
            obtain ⟨v2, hv2, a2, vs2, rfl, hH2, rr, nf⟩ := S1.rep i _ e2
            rw [hv] at hv2; cases hv2
            refine ⟨a, vs2, v, rfl, rfl, hH2, by rw [← rr.length]; exact hz, ?_⟩
            exact h1' σ F1 _ (S1.write e2 rfl hv (m' := .ol (xs ++ [m.toD])) ⟨a, _, rfl, upd_same, Reps.snoc rr r1, nf⟩) x1
          · exact h1'.elim
        | _ => exact h1.elim
    | _ => exact h.elim
theorem snd_ext {i : Nat} {e : Ex} {x : Str} {ex : Expr} {p p1 p2 p3 : Pos} (hn : X.N[i]? = some x) (hv : Vis X.env.scope x) (h1 : (x == ("__debug__" : Str)) = false) (h2 : (x == ("__classdict__" : Str)) = false) (hs : notStar ex = true) (hl : (p2.endLine == p3.line) = true)
    (he : PE X ex (tX (EV X G0 C cls) W (evX C e))) : PS X (.Expr (.Call (.Attribute (.Name x p1) "extend" p2) [ex] [] p3) p) (tS (EV X G0 C cls) W pr (evS C pr (.ext i e))) := by
  have pe : PE X (.Name x p1) (tVar i) := pe_var hn hv h1 h2
  have key := pe_bm (cpos := p3) (apos := p2) PySem.F.plainAttrs_list PySem.F.slot_list_extend PySem.F.type_list_extend mt_extend pe (pa_cons he pa_nil (star_of hs)) rfl (by
    rw [star_of hs]; rfl) hl (star_of hs) rfl
  refine PS.imp (ps_expr (pos := p) key rfl) fun D σ H ⟨G, pv, F, env, S, hp, h⟩ => ?_
  unfold evS at h
  cases el : look env i with
  | none => rw [el] at h; exact h.elim
  | some m =>
    rw [el] at h
    cases m with
    | ol xs0 =>
      obtain ⟨v, hv, a, vs, rfl, hH, _⟩ := S.rep i _ el
      refine ⟨_, hv, .inl ⟨rfl, _, SqL.of hH⟩, G, pv, F, env, S, ?_⟩
      refine Post.imp (PostS.bind (σ := σ) h) Ext.refl fun m e1 h1 u F1 H1 S1 x1 r1 fr1 => ?_
      cases m with
      | ol zs =>
        cases e2 : look e1 i with
        | none => rw [e2] at h1; exact h1.elim
        | some m2 =>
          rw [e2] at h1
          cases m2 with
          | ol xs =>
            have h1' : PostS ((EV X G0 C cls).at G) pv W F (@ite _ (xs.length + zs.length ≤ sizeLine) (Classical.propDecidable _) (.ok .nx (put e1 i (some (.ol (xs ++ zs))))) .bad) D := h1
            split at h1'
            · rename_i hz
              obtain ⟨v2, hv2, a2, vs2, rfl, hH2, rr, nf⟩ := S1.rep i _ e2
              rw [hv] at hv2; cases hv2
              obtain ⟨b, ws, rfl, hb, rb, nb⟩ := r1
              refine ⟨a, b, vs2, ws, rfl, rfl, hH2, hb, by rw [← rr.length, ← rb.length]; exact hz, ?_⟩
              exact h1' σ F1 _ (S1.write e2 rfl hv (m' := .ol (xs ++ zs)) ⟨a, _, rfl, upd_same, rr.append rb, nf⟩) x1
            · exact h1'.elim
          | _ => exact h1.elim
      | _ => exact h1.elim
    | _ => exact h.elim
theorem soleC {t e : Expr} {l : Nat} {env : Env} (h : notComp e = true) : swapsWithSole [t] e l env = pure false := by
  cases e <;> first | rfl | cases h
theorem snd_setix {i : Nat} {a e : Ex} {x : Str} {ea ex : Expr} {p p1 p2 : Pos} (hn : X.N[i]? = some x) (hv : Vis X.env.scope x) (h1 : (x == ("__debug__" : Str)) = false) (h2 : (x == ("__classdict__" : Str)) = false) (hs : notComp ex = true) (hsl : notSlice ea = true)
    (ha : PE X ea (tX (EV X G0 C cls) W (evX C a))) (he : PE X ex (tX (EV X G0 C cls) W (evX C e))) : PS X (.Assign [.Subscript (.Name x p1) ea p2] ex p) (tS (EV X G0 C cls) W pr (evS C pr (.setix i a e))) := by
  have pe : PE X (.Name x p1) (tVar i) := pe_var hn hv h1 h2
  refine PS.imp (ps_asg he (pg_sub pe ha set_list (fun v => by cases ea <;> first | rfl | cases hsl)) (soleC hs) rfl rfl) fun D σ H ⟨G, pv, F, env, S, hp, h⟩ => ⟨G, pv, F, env, S, ?_⟩
  unfold evS at h
  refine Post.imp (PostS.bind (σ := σ) h) Ext.refl fun m e1 h1 => PM.frozen fun v F1 H1 S1 x1 r1 => ?_
  cases el : look e1 i with
  | none => rw [el] at h1; exact h1.elim
  | some m1 =>
    rw [el] at h1
    cases m1 with
    | ol xs0 =>
      obtain ⟨v0, hv0, a0, vs0, rfl, _⟩ := S1.rep i _ el
      refine ⟨_, hv0, G, pv, F1, e1, S1, ?_⟩
      refine Post.imp (PostS.bind (σ := σ) h1) x1 fun j e2 h2 => PM.frozen fun y F2 H2 S2 x2 r2 => ?_
      obtain ⟨r, er, h3⟩ := Post.ofO (PostS.bind (σ := σ) h2)
      cases e2l : look e2 i with
      | none => rw [e2l] at er; cases er
      | some m2 =>
        rw [e2l] at er
        cases m2 with
        | ol xs =>
          generalize j.toD = dj at er r2
          cases dj with
          | int kk =>
            obtain ⟨n, hn2, rfl⟩ := Option.map_eq_some_iff.mp er
            cases (show y = _ from r2)
            obtain ⟨v2, hv2, a2, vs2, rfl, hH2, rr, nf⟩ := S2.rep i _ e2l
            rw [hv0] at hv2; cases hv2
            refine ⟨a0, vs2, kk, n, rfl, rfl, hH2, by rw [← rr.length]; exact hn2, ?_⟩
            exact h3 σ F2 _ (S2.write e2l rfl hv0 (m' := .ol (xs.set n m.toD)) ⟨a0, _, rfl, upd_same, rr.set n (Rep.ext x2 r1), nf⟩) (x1.trans x2)
          | _ => cases er
        | _ => cases er
    | _ => exact h1.elim
/-! x[a], x[b] = .. -/
def gSw (X : Cx) (G0 : Gh) (C : PC) (cls : Nat → Value) (W : WX) (i : Nat) : Exs → TGs
  | .nil => gNil
  | .cons a as => gCons (gSub (tVar i) (tX (EV X G0 C cls) W (evX C a)) rSetL) (gSw X G0 C cls W i as)
theorem sw_imp {i : Nat} {D : Ends} : ∀ (as : Exs) {ds : List Q1.D} {vs : List V} {G : Gh} {pv : List (Nat × V)} {F H : Hp} {σ : St} {env : En}, Sim X.K G pv F env σ H → Reps X.K F ds vs →
    PostS ((EV X G0 C cls).at G) pv W F (swpL (evX C) i as ds env) D → gSw X G0 C cls W i as vs σ H D.nx
  | .nil, ds, vs, G, pv, F, H, σ, env, S, r, h => by
    cases ds with
    | nil =>
      have e : vs = [] := List.length_eq_zero_iff.mp (by rw [← r.length]; rfl)
      subst e
      exact ⟨rfl, h σ F H S Ext.refl⟩
    | cons d ds => exact h.elim
  | .cons a as, ds, vs, G, pv, F, H, σ, env, S, r, h => by
    cases ds with
    | nil => exact h.elim
    | cons d ds =>
      obtain ⟨v, vs', rfl, r1, r2⟩ := r
      refine ⟨v, vs', rfl, ?_⟩
      unfold swpL at h
      cases el : look env i with
      | none => rw [el] at h; exact h.elim
      | some m1 =>
        rw [el] at h
        cases m1 with
        | ol xs0 =>
          obtain ⟨v0, hv0, a0, vs0, rfl, _⟩ := S.rep i _ el
          refine ⟨_, hv0, G, pv, F, env, S, ?_⟩
          refine Post.imp (PostS.bind (σ := σ) h) Ext.refl fun j e2 h2 => PM.frozen fun y F2 H2 S2 x2 ry => ?_
          obtain ⟨r3, er, h3⟩ := Post.ofO (PostS.bind (σ := σ) h2)
          cases e2l : look e2 i with
          | none => rw [e2l] at er; cases er
          | some m2 =>
            rw [e2l] at er
            cases m2 with
            | ol xs =>
              generalize j.toD = dj at er ry
              cases dj with
              | int kk =>
                obtain ⟨n, hn2, rfl⟩ := Option.map_eq_some_iff.mp er
                cases (show y = _ from ry)
                obtain ⟨v2, hv2, a2, vs2, rfl, hH2, rr, nf⟩ := S2.rep i _ e2l
                rw [hv0] at hv2; cases hv2
                refine ⟨a0, vs2, kk, n, rfl, rfl, hH2, by rw [← rr.length]; exact hn2, ?_⟩
                exact sw_imp as (S2.write e2l rfl hv0 (m' := .ol (xs.set n d)) ⟨a0, _, rfl, upd_same, rr.set n (Rep.ext x2 r1), nf⟩) (Reps.ext x2 r2) (PostS.ext h3 x2)
              | _ => cases er
            | _ => cases er
        | _ => exact h.elim
theorem swSub {o i : Expr} {p : Pos} {ts vs : List Expr} {k k2 : Nat} {pt pe : Pos} {env : Env} : swappedStores [.Tuple (.Subscript o i p :: ts) k pt] (.Tuple vs k2 pe) env = pure none := by
  have hl : ∀ (f : Expr → Option Str), f (.Subscript o i p) = none → ((Expr.Subscript o i p :: ts).filterMap f).length ≠ (Expr.Subscript o i p :: ts).length := fun f hf => by
    rw [List.filterMap_cons, hf]
    have := List.length_filterMap_le f ts
    simp only [List.length_cons]
    omega
  unfold swappedStores
  dsimp only [pure_bind]
  split
  · rfl
  · split
    · rfl
    · split
      · rfl
      · rename_i hc
        exfalso
        apply hc
        rw [Bool.or_eq_true]
        left
        simp only [bne_iff_ne]
        exact hl _ rfl
theorem snd_swp {i : Nat} {as es : Exs} {o1 o2 : Expr} {p1 : Pos} {ts : List Expr} {ees : List Expr} {k k2 : Nat} {pt pe p : Pos} (hc : X.calm = true) (hts : PGs X (.Subscript o1 o2 p1 :: ts) (gSw X G0 C cls W i as)) (hn : (assignEach (.Subscript o1 o2 p1 :: ts) X.env).length = exsLen as) (hst : (assignEach (.Subscript o1 o2 p1 :: ts) X.env).findIdx? (·.1) = none)
    (he : PA X ees (tOs (EV X G0 C cls) W (evOs C es))) : PS X (.Assign [.Tuple (.Subscript o1 o2 p1 :: ts) k pt] (.Tuple ees k2 pe) p) (tS (EV X G0 C cls) W pr (evS C pr (.swp i as es))) := by
  refine PS.imp (ps_asg (pe_tup he) (pg_tup hc hts hn hst) rfl swSub rfl) fun D σ H ⟨G, pv, F, env, S, hp, h⟩ => ⟨G, pv, F, env, S, ?_⟩
  unfold evS at h
  refine Post.imp (PostS.bind (σ := σ) h) Ext.refl fun os e1 h1 vs F1 H1 S1 x1 r1 => ?_
  obtain ⟨ds, em, h2⟩ := Post.ofO (PostS.bind (σ := σ) h1)
  obtain ⟨ds', h3, em⟩ := Option.bind_eq_some_iff.mp em
  split at em
  · rename_i hz
    cases em
    have rr := vals_rep r1 h3
    refine ⟨by rw [← rr.length]; exact hz.1, fun q hq => ⟨q, vs, rfl, SqT.of upd_same, by rw [← rr.length]; exact hz.2, ?_⟩⟩
    exact sw_imp as (S1.laidF hq) (Reps.ext (Ext.upd (S1.fh.no hq)) rr) (PostS.ext h2 (x1.trans (Ext.upd (S1.fh.no hq))))
  · cases em
theorem anyK {K : PySem.W.Frag} {F : Hp} {k : Key} : ∀ {kvs : List (Q1.D × Q1.D)} {ks : List (Key × V)}, RepKv K F kvs ks → (kvs.any fun kv => beqD kv.1 (keyD k)) = ks.any fun kv => decide (kv.1 = k)
  | [], _, h => by have e := h; subst e; rfl
  | (kd, dd) :: kvs, _, ⟨k', v', ks', e, ek, h, t⟩ => by
    subst e ek
    rw [List.any_cons, List.any_cons, anyK t, beqD_key]
theorem mapK {K : PySem.W.Frag} {F : Hp} {k : Key} {d : Q1.D} {v : V} (r : Rep K F d v) : ∀ {kvs : List (Q1.D × Q1.D)} {ks : List (Key × V)}, RepKv K F kvs ks →
    RepKv K F (kvs.map fun kv => if beqD kv.1 (keyD k) then (kv.1, d) else kv) (ks.map fun kv => if kv.1 = k then (kv.1, v) else kv)
  | [], _, h => by have e := h; subst e; rfl
  | (kd, dd) :: kvs, _, ⟨k', v', ks', e, ek, h, t⟩ => by
    subst e ek
    rw [List.map_cons, List.map_cons]
    by_cases q : k' = k
    · rw [if_pos q, show beqD (keyD k', dd).1 (keyD k) = true by rw [beqD_key]; exact decide_eq_true q, if_pos rfl]
      exact ⟨k', v, _, rfl, rfl, r, mapK r t⟩
    · rw [if_neg q, show beqD (keyD k', dd).1 (keyD k) = false by rw [beqD_key]; exact decide_eq_false q, if_neg Bool.false_ne_true]
      exact ⟨k', v', _, rfl, rfl, h, mapK r t⟩
theorem snocK {K : PySem.W.Frag} {F : Hp} {k : Key} {d : Q1.D} {v : V} (r : Rep K F d v) : ∀ {kvs : List (Q1.D × Q1.D)} {ks : List (Key × V)}, RepKv K F kvs ks → RepKv K F (kvs ++ [(keyD k, d)]) (ks ++ [(k, v)])
  | [], _, h => by have e := h; subst e; exact ⟨k, v, [], rfl, rfl, r, rfl⟩
  | (kd, dd) :: kvs, _, ⟨k', v', ks', e, ek, h, t⟩ => by
    subst e ek
    exact ⟨k', v', _, rfl, rfl, h, snocK r t⟩
theorem putK_rep {K : PySem.W.Frag} {F : Hp} {k : Key} {d : Q1.D} {v : V} (r : Rep K F d v) {kvs : List (Q1.D × Q1.D)} {ks : List (Key × V)} (h : RepKv K F kvs ks) : RepKv K F (dputD kvs (keyD k) d) (putK ks k v) := by
  unfold dputD putK
  rw [anyK h]
  split
  · exact mapK r h
  · exact snocK r h
theorem anyT {K : PySem.W.Frag} {F : Hp} {k : List Key} : ∀ {kvs : List (Q1.D × Q1.D)} {ks : List (List Key × V)}, RepTv K F kvs ks → (kvs.any fun kv => beqD kv.1 (.tuple (k.map keyD))) = ks.any fun kv => decide (kv.1 = k)
  | [], _, h => by have e := h; subst e; rfl
  | (kd, dd) :: kvs, _, ⟨k', v', ks', e, ek, h, t⟩ => by
    subst e ek
    rw [List.any_cons, List.any_cons, anyT t, beqD_keys]
theorem mapT {K : PySem.W.Frag} {F : Hp} {k : List Key} {d : Q1.D} {v : V} (r : Rep K F d v) : ∀ {kvs : List (Q1.D × Q1.D)} {ks : List (List Key × V)}, RepTv K F kvs ks →
    RepTv K F (kvs.map fun kv => if beqD kv.1 (.tuple (k.map keyD)) then (kv.1, d) else kv) (ks.map fun kv => if kv.1 = k then (kv.1, v) else kv)
  | [], _, h => by have e := h; subst e; rfl
  | (kd, dd) :: kvs, _, ⟨k', v', ks', e, ek, h, t⟩ => by
    subst e ek
    rw [List.map_cons, List.map_cons]
    by_cases q : k' = k
    · rw [if_pos q, show beqD (PyData.tuple (k'.map keyD), dd).1 (.tuple (k.map keyD)) = true by rw [beqD_keys]; exact decide_eq_true q, if_pos rfl]
      exact ⟨k', v, _, rfl, rfl, r, mapT r t⟩
    · rw [if_neg q, show beqD (PyData.tuple (k'.map keyD), dd).1 (.tuple (k.map keyD)) = false by rw [beqD_keys]; exact decide_eq_false q, if_neg Bool.false_ne_true]
      exact ⟨k', v', _, rfl, rfl, h, mapT r t⟩
theorem snocT {K : PySem.W.Frag} {F : Hp} {k : List Key} {d : Q1.D} {v : V} (r : Rep K F d v) : ∀ {kvs : List (Q1.D × Q1.D)} {ks : List (List Key × V)}, RepTv K F kvs ks → RepTv K F (kvs ++ [(.tuple (k.map keyD), d)]) (ks ++ [(k, v)])
  | [], _, h => by have e := h; subst e; exact ⟨k, v, [], rfl, rfl, r, rfl⟩
  | (kd, dd) :: kvs, _, ⟨k', v', ks', e, ek, h, t⟩ => by
    subst e ek
    exact ⟨k', v', _, rfl, rfl, h, snocT r t⟩
theorem putT_rep {K : PySem.W.Frag} {F : Hp} {k : List Key} {d : Q1.D} {v : V} (r : Rep K F d v) {kvs : List (Q1.D × Q1.D)} {ks : List (List Key × V)} (h : RepTv K F kvs ks) : RepTv K F (dputD kvs (.tuple (k.map keyD)) d) (putK ks k v) := by
  unfold dputD putK
  rw [anyT h]
  split
  · exact mapT r h
  · exact snocT r h
theorem snd_dput {i : Nat} {a e : Ex} {x : Str} {ea ex : Expr} {p p1 p2 : Pos} (hu : X.A.units + 1 < cLine) (hn : X.N[i]? = some x) (hv : Vis X.env.scope x) (h1 : (x == ("__debug__" : Str)) = false) (h2 : (x == ("__classdict__" : Str)) = false) (hs : notComp ex = true) (hsl : notSlice ea = true)
    (ha : PE X ea (tX (EV X G0 C cls) W (evX C a))) (he : PE X ex (tX (EV X G0 C cls) W (evX C e))) : PS X (.Assign [.Subscript (.Name x p1) ea p2] ex p) (tS (EV X G0 C cls) W pr (evS C pr (.dput i a e))) := by
  have pe : PE X (.Name x p1) (tVar i) := pe_var hn hv h1 h2
  refine PS.imp (ps_asg he (pg_sub pe ha (set_dict hu) (fun v => by cases ea <;> first | rfl | cases hsl)) (soleC hs) rfl rfl) fun D σ H ⟨G, pv, F, env, S, hp, h⟩ => ⟨G, pv, F, env, S, ?_⟩
  unfold evS at h
  refine Post.imp (PostS.bind (σ := σ) h) Ext.refl fun m e1 h1 => PM.frozen fun v F1 H1 S1 x1 r1 => ?_
  cases el : look e1 i with
  | none => rw [el] at h1; exact h1.elim
  | some m1 =>
    rw [el] at h1
    cases m1 with
    | od xs0 =>
      obtain ⟨v0, hv0, a0, rfl, _⟩ := S1.rep i _ el
      refine ⟨_, hv0, G, pv, F1, e1, S1, ?_⟩
      refine Post.imp (PostS.bind (σ := σ) h1) x1 fun j e2 h2 => PM.frozen fun y F2 H2 S2 x2 r2 => ?_
      obtain ⟨r, er, h3⟩ := Post.ofO (PostS.bind (σ := σ) h2)
      cases e2l : look e2 i with
      | none => rw [e2l] at er; cases er
      | some m2 =>
        rw [e2l] at er
        cases m2 with
        | od t kvs =>
          unfold dputO at er
          dsimp only at er
          split at er
          · rename_i hz
            cases er
            obtain ⟨v2, hv2, a2, rfl, rr, nf⟩ := S2.rep i _ e2l
            rw [hv0] at hv2; cases hv2
            rcases rr with ⟨rfl, ks, hH2, rr⟩ | ⟨rfl, ks, hH2, rr⟩
            · obtain ⟨k, ek⟩ := isKey_of hz.2
              rw [ek] at r2 h3
              refine ⟨a0, _, rfl, .inl ⟨ks, k, hH2, Rep.key r2, by rw [← rr.len]; exact hz.1, rfl⟩, ?_⟩
              exact h3 σ F2 _ (S2.write e2l rfl hv0 (m' := .od false (dputD kvs (keyD k) m.toD)) ⟨a0, rfl, .inl ⟨rfl, _, upd_same, putK_rep (Rep.ext x2 r1) rr⟩, nf⟩) (x1.trans x2)
            · obtain ⟨k, ek⟩ := keyT_of hz.2
              rw [ek] at r2 h3
              obtain ⟨b, vs, rfl, hb, rk⟩ := r2
              have ev := rk.keys
              subst ev
              refine ⟨a0, _, rfl, .inr ⟨ks, k, b, hH2, rfl, S2.fh _ _ hb, by rw [← rr.len]; exact hz.1, rfl⟩, ?_⟩
              exact h3 σ F2 _ (S2.write e2l rfl hv0 (m' := .od true (dputD kvs (.tuple (k.map keyD)) m.toD)) ⟨a0, rfl, .inr ⟨rfl, _, upd_same, putT_rep (Rep.ext x2 r1) rr⟩, nf⟩) (x1.trans x2)
          · cases er
        | _ => cases er
    | _ => exact h1.elim
end
end Q1

set_option maxHeartbeats 4000000
/-! Q16: errors; several names; lists walked while they may grow. -/
namespace Q1
open PySem PySem.Spec PyProof.Rows L2 PySem.SeqAt
section
variable {X : Cx} {G0 : Gh} {C : PC} {cls : Nat → Value} {W : WX} {pr : List Nat}
theorem snd_raise {k : Nat} {A : Addr} {e : Expr} {p : Pos} (hc : X.calm = true) (tk : Takes X W) (hcl : cls k = .ref A) (hm : PMk X e (fun _ H Q => Q (.ref A) none H)) : PS X (.Raise (some e) none p) (tS (EV X G0 C cls) W pr (evS C pr (.raise k))) := by
  refine PS.imp (ps_raise hc tk hm) fun D σ H ⟨G, pv, F, env, S, hp, h⟩ => ?_
  have h' := h σ F H S Ext.refl
  rw [show ((EV X G0 C cls).at G).cls k = .ref A from hcl] at h'
  exact h'
theorem PostS.quiet {T : Ev} {pv : List (Nat × V)} {F : Hp} {r : Res Fl} {D : Ends} (h : PostS T pv W F (noExc r) D) : PostS T pv WF F r D := by
  cases r with
  | bad => exact h
  | exc c e => exact h.elim
  | ok f e => cases f <;> exact h
theorem tryx_imp {body hs : Sms} {k : Nat} {D : Ends} {σ : St} {H : Hp} (exm : ∀ i b, C.sub i k = some b → PySem.W.exmOne X.K (cls i) (cls k) = some b)
    (h : tS (EV X G0 C cls) W pr (evS C pr (.tryx body k hs)) D σ H) : tS (EV X G0 C cls) (wOnly X.K (cls k) (fun _ _ _ => tS (EV X G0 C cls) WF pr (evSs C pr hs)) W D) pr (evSs C pr body) D σ H := by
  obtain ⟨G, pv, F, env, S, hp, h⟩ := h
  refine ⟨G, pv, F, env, S, hp, ?_⟩
  unfold evS at h
  cases q : evSs C pr body env with
  | bad => rw [q] at h; exact h
  | ok f e => rw [q] at h; cases f <;> exact h
  | exc c e =>
    rw [q] at h
    intro σ' F' H' S' x'
    cases es : C.sub c k with
    | none => simp only [es] at h; exact h.elim
    | some b =>
      simp only [es] at h
      refine ⟨b, exm c b es, fun hb a _ => ?_, fun hb => ?_⟩
      · subst hb
        exact ⟨G, pv, F', e, S', hp, PostS.quiet (PostS.ext h x')⟩
      · subst hb
        exact h σ' F' H' S' x'
theorem tryy_imp {body hs hs2 : Sms} {k k2 : Nat} {D : Ends} {σ : St} {H : Hp} (exm : ∀ i b, C.sub i k = some b → PySem.W.exmOne X.K (cls i) (cls k) = some b) (exm2 : ∀ i b, C.sub i k2 = some b → PySem.W.exmOne X.K (cls i) (cls k2) = some b)
    (h : tS (EV X G0 C cls) W pr (evS C pr (.tryy body k hs k2 hs2)) D σ H) :
    tS (EV X G0 C cls) (wMany X.K W D [(cls k, fun _ _ _ => tS (EV X G0 C cls) WF pr (evSs C pr hs)), (cls k2, fun _ _ _ => tS (EV X G0 C cls) WF pr (evSs C pr hs2))]) pr (evSs C pr body) D σ H := by
  obtain ⟨G, pv, F, env, S, hp, h⟩ := h
  refine ⟨G, pv, F, env, S, hp, ?_⟩
  unfold evS at h
  cases q : evSs C pr body env with
  | bad => rw [q] at h; exact h
  | ok f e => rw [q] at h; cases f <;> exact h
  | exc c e =>
    rw [q] at h
    intro σ' F' H' S' x'
    cases es : C.sub c k with
    | none => simp only [es] at h; exact h.elim
    | some b =>
      simp only [es] at h
      refine ⟨b, exm c b es, fun hb a _ => ?_, fun hb => ?_⟩
      · subst hb
        exact ⟨G, pv, F', e, S', hp, PostS.quiet (PostS.ext h x')⟩
      · subst hb
        cases es2 : C.sub c k2 with
        | none => simp only [es2] at h; exact h.elim
        | some b =>
          simp only [es2] at h
          refine ⟨b, exm2 c b es2, fun hb a _ => ?_, fun hb => ?_⟩
          · subst hb
            exact ⟨G, pv, F', e, S', hp, PostS.quiet (PostS.ext h x')⟩
          · subst hb
            exact h σ' F' H' S' x'
/-! several names -/
def swNone (ts : List Expr) : Expr → Bool
  | .Tuple vs _ _ => (!(ts.length == 2 || ts.length == 3)) || vs.all (foldedForSure 8)
  | .ListComp .. => false
  | .SetComp .. => false
  | .DictComp .. => false
  | _ => true
theorem swNone_of {ts : List Expr} {e : Expr} {env : Env} {k : Nat} {pt : Pos} (h : swNone ts e = true) : swappedStores [.Tuple ts k pt] e env = pure none := by
  cases e with
  | Tuple vs k2 p2 =>
    unfold swNone at h
    rw [Bool.or_eq_true] at h
    unfold swappedStores
    dsimp only
    split
    · rfl
    · rename_i z1
      split
      · rfl
      · split
        · rfl
        · split
          · rfl
          · rename_i z2
            rcases h with h | h
            · exact absurd (by rw [h]; rfl) z1
            · exact absurd h z2
  | _ => rfl
theorem snd_unp {is : List Nat} {e : Ex} {ts : List Expr} {ex : Expr} {k : Nat} {pt p : Pos} (hc : X.calm = true) (hs : swNone ts ex = true) (hg : PG X (.Tuple ts k pt) (tG X.K (.tup is))) (he : PE X ex (tX (EV X G0 C cls) W (evX C e))) :
    PS X (.Assign [.Tuple ts k pt] ex p) (tS (EV X G0 C cls) W pr (evS C pr (.unp is e))) := by
  have hn : notComp ex = true := by cases ex <;> first | rfl | cases hs
  refine PS.imp (ps_asg he hg (soleC hn) (swNone_of hs) rfl) fun D σ H ⟨G, pv, F, env, S, hp, h⟩ => ⟨G, pv, F, env, S, ?_⟩
  unfold evS at h
  refine Post.imp (PostS.bind (σ := σ) h) Ext.refl fun m e1 h1 => PM.frozen fun v F1 H1 S1 x1 r1 => ?_
  cases hc2 : is.any pr.contains with
  | true => rw [hc2, if_pos rfl] at h1; exact h1.elim
  | false =>
    rw [hc2, if_neg Bool.false_ne_true] at h1
    generalize ed : m.toD = d at h1 r1
    cases d with
    | tuple ds =>
      cases ep : puts e1 is ds with
      | none => simp only [ep] at h1; exact h1.elim
      | some e2 =>
        simp only [ep] at h1
        exact ⟨G, pv, F1, e1, .tuple ds, e2, S1, r1, ep, fun q hq z => any_false hc2 _ z (hp q hq), fun σ' S' _ _ => h1 σ' F1 H1 S' x1⟩
    | _ => exact h1.elim
/-- a, b = x, y stored from the right -/
def swTwo (sc : Scope) (x y : Str) (px py : Pos) (a b : Expr) : Bool :=
  px.line == py.line && !(x == y) && notStar a && notStar b && !(foldedForSure 8 a && foldedForSure 8 b) && !(constantsAlone 8 a && constantsAlone 8 b)
theorem swTwo_of {x y : Str} {px py : Pos} {a b : Expr} {env : Env} {k k2 : Nat} {pt p2 : Pos} {sc : Scope} (hk : env.scope.kind = .function) (hx : env.scope.names.lookup x = some .local) (hy : env.scope.names.lookup y = some .local) (h : swTwo sc x y px py a b = true) :
    swappedStores [.Tuple [.Name x px, .Name y py] k pt] (.Tuple [a, b] k2 p2) env = pure (some [x, y]) := by
  unfold swTwo at h
  simp only [Bool.and_eq_true, Bool.not_eq_true', Bool.and_eq_false_iff] at h
  obtain ⟨⟨⟨⟨⟨h1, h2⟩, h3⟩, h4⟩, h5⟩, h6⟩ := h
  have hb : env.blockKind = .function := by unfold Env.blockKind; rw [hk]; rfl
  have kx : env.kindOf x = some .local := hx
  have ky : env.kindOf y = some .local := hy
  have h1' : py.line = px.line := (eq_of_beq h1).symm
  have hne : (y == x) = false := by
    cases q : y == x with
    | false => rfl
    | true => rw [eq_of_beq q] at h2; simp at h2
  unfold swappedStores
  dsimp only
  split
  · rename_i z
    simp [hb] at z
  · split
    · rename_i z
      simp only [List.any_cons, List.any_nil, Bool.or_false, Bool.or_eq_true] at z
      rcases z with z | z
      · cases a <;> first | (cases h3; done) | (cases z; done)
      · cases b <;> first | (cases h4; done) | (cases z; done)
    · split
      · rename_i z
        simp [kx, ky, Expr.pos, h1', List.eraseDups, List.eraseDupsBy, List.eraseDupsBy.loop, hne] at z
      · split
        · rename_i z
          rcases h5 with q | q <;> simp [q] at z
        · split
          · rename_i z
            rcases h6 with q | q <;> simp [q] at z
          · simp [kx, ky, Expr.pos, h1']
theorem snd_par {i j : Nat} {a b : Ex} {x y : Str} {ea eb : Expr} {px py pt pos p2 : Pos} {k k2 : Nat} (hc : X.calm = true) (hN : X.N.Nodup) (hi : X.N[i]? = some x) (hj : X.N[j]? = some y) (hij : i ≠ j) (hk : X.env.scope.kind = .function)
    (hx : X.env.scope.names.lookup x = some .local) (hy : X.env.scope.names.lookup y = some .local) (hs : swTwo X.env.scope x y px py ea eb = true) (hsa : notStar ea = true) (hsb : notStar eb = true)
    (ha : PE X ea (tX (EV X G0 C cls) W (evX C a))) (hb : PE X eb (tX (EV X G0 C cls) W (evX C b))) : PS X (.Assign [.Tuple [.Name x px, .Name y py] k pt] (.Tuple [ea, eb] k2 p2) pos) (tS (EV X G0 C cls) W pr (evS C pr (.par i j a b))) := by
  refine PS.imp (ps_par hc hN hi hj hij hx hy (pa_cons ha (pa_cons hb pa_nil (star_of hsb)) (star_of hsa)) (swTwo_of hk hx hy hs) rfl) fun D σ H ⟨G, pv, F, env, S, hp, h⟩ => ⟨G, pv, F, env, S, ?_⟩
  unfold evS at h
  refine Post.imp (PostS.bind (σ := σ) h) Ext.refl fun m1 e1 h1 => PM.frozen fun v F1 H1 S1 x1 r1 => ⟨G, pv, F1, e1, S1, ?_⟩
  refine Post.imp (PostS.bind (σ := σ) h1) x1 fun m2 e2 h2 => PM.frozen fun u F2 H2 S2 x2 r2 => ?_
  cases hc2 : (pr.contains i || pr.contains j || i == j) with
  | true => rw [hc2, if_pos rfl] at h2; exact h2.elim
  | false =>
    rw [hc2, if_neg Bool.false_ne_true] at h2
    simp only [Bool.or_eq_false_iff] at hc2
    obtain ⟨⟨c1, c2⟩, c3⟩ := hc2
    have np : ∀ q ∈ pv, q.1 ≠ i := fun q hq z => contains_mem c1 (by rw [← z]; exact hp q hq)
    have np2 : ∀ q ∈ pv, q.1 ≠ j := fun q hq z => contains_mem c2 (by rw [← z]; exact hp q hq)
    have s1 := S2.stored (i := i) (m := .p m1.toD) (v := v) (Rep.ext x2 r1) (fun z => by cases z) np
    have s2 := s1.stored (i := j) (m := .p m2.toD) (v := u) r2 (fun z => by cases z) np2
    exact ⟨v, u, rfl, h2 _ F2 H2 s2 (x1.trans x2)⟩
/-- a, b = [], [] -/
def swDuo (x y : Str) (px py : Pos) : Bool := px.line == py.line && !(x == y)
theorem swDuo_of {x y : Str} {px py : Pos} {env : Env} {k k2 : Nat} {pt p2 q1 q2 : Pos} (hk : env.scope.kind = .function) (hx : env.scope.names.lookup x = some .local) (hy : env.scope.names.lookup y = some .local)
    (h : swDuo x y px py = true) : swappedStores [.Tuple [.Name x px, .Name y py] k pt] (.Tuple [.List [] q1, .List [] q2] k2 p2) env = pure (some [x, y]) := by
  unfold swDuo at h
  simp only [Bool.and_eq_true, Bool.not_eq_true'] at h
  obtain ⟨h1, h3⟩ := h
  have hb : env.blockKind = .function := by unfold Env.blockKind; rw [hk]; rfl
  have kx : env.kindOf x = some .local := hx
  have ky : env.kindOf y = some .local := hy
  have h1' : py.line = px.line := (eq_of_beq h1).symm
  have n1 : x ≠ y := fun e => by rw [e] at h3; simp at h3
  unfold swappedStores
  dsimp only
  simp [hb, kx, ky, Expr.pos, h1', List.eraseDups_cons, n1, n1.symm, foldedForSure, constantsAlone]
theorem snd_emp2 {i j : Nat} {x y : Str} {px py pt pos p2 q1 q2 : Pos} {k k2 : Nat} (hc : X.calm = true) (hN : X.N.Nodup) (hi : X.N[i]? = some x) (hj : X.N[j]? = some y) (hij : i ≠ j) (hk : X.env.scope.kind = .function)
    (hx : X.env.scope.names.lookup x = some .local) (hy : X.env.scope.names.lookup y = some .local) (hs : swDuo x y px py = true) :
    PS X (.Assign [.Tuple [.Name x px, .Name y py] k pt] (.Tuple [.List [] q1, .List [] q2] k2 p2) pos) (tS (EV X G0 C cls) W pr (evS C pr (.emp2 i j))) := by
  refine PS.imp (ps_par hc hN hi hj hij hx hy (pa_cons (pe_lst pa_nil) (pa_cons (pe_lst pa_nil) pa_nil)) (swDuo_of hk hx hy hs) rfl) fun D σ H ⟨G, pv, F, env, S, hp, h⟩ => ?_
  unfold evS at h
  cases hc2 : (pr.contains i || pr.contains j || i == j) with
  | true => rw [hc2, if_pos rfl] at h; exact h.elim
  | false =>
    rw [hc2, if_neg Bool.false_ne_true] at h
    simp only [Bool.or_eq_false_iff] at hc2
    obtain ⟨⟨c1, c2⟩, _⟩ := hc2
    have np : ∀ q ∈ pv, q.1 ≠ i := fun q hq z => contains_mem c1 (by rw [← z]; exact hp q hq)
    have np2 : ∀ q ∈ pv, q.1 ≠ j := fun q hq z => contains_mem c2 (by rw [← z]; exact hp q hq)
    have step : ∀ {env : En} {σ : St} {H : Hp} {i : Nat} {p : Addr}, Sim X.K G pv F env σ H → (∀ q ∈ pv, q.1 ≠ i) → H p = none → Sim X.K G pv F (put env i (some (.ol []))) (σ.set i (some (.ref p))) (upd H p (.lst [])) := fun {env σ H i p} S np hp => by
      have S1 := S.laid (o := .lst []) hp
      refine S1.stored (i := i) (m := .ol []) (v := .ref p) ?_ (fun _ => ⟨fun j m' hj oj ej => ?_, fun a ea => ?_⟩) np
      · exact ⟨p, [], rfl, upd_same, rfl, S.fh.no hp⟩
      · obtain ⟨a, u, e2, hu, _⟩ := S.own hj oj
        rw [ej] at e2; cases e2
        rw [hp] at hu; cases hu
      · cases ea
        exact S.newH hp
    refine ⟨by decide, fun p1 h1 => ⟨by decide, fun p2 h2 => ?_⟩⟩
    have s2 := step (step S np h1) np2 h2
    exact ⟨_, _, rfl, h _ F _ s2 Ext.refl⟩
/-- a, b, c = .. -/
def swTri (x y z : Str) (px py pz : Pos) (a b c : Expr) : Bool :=
  px.line == py.line && px.line == pz.line && !(x == y) && !(x == z) && !(y == z) && notStar a && notStar b && notStar c && !(foldedForSure 8 a && foldedForSure 8 b && foldedForSure 8 c) && !(constantsAlone 8 a && constantsAlone 8 b && constantsAlone 8 c)
theorem swTri_of {x y z : Str} {px py pz : Pos} {a b c : Expr} {env : Env} {k k2 : Nat} {pt p2 : Pos} (hk : env.scope.kind = .function) (hx : env.scope.names.lookup x = some .local) (hy : env.scope.names.lookup y = some .local) (hz : env.scope.names.lookup z = some .local)
    (h : swTri x y z px py pz a b c = true) : swappedStores [.Tuple [.Name x px, .Name y py, .Name z pz] k pt] (.Tuple [a, b, c] k2 p2) env = pure (some [x, y, z]) := by
  unfold swTri at h
  simp only [Bool.and_eq_true, Bool.not_eq_true', Bool.and_eq_false_iff] at h
  obtain ⟨⟨⟨⟨⟨⟨⟨⟨⟨h1, h2⟩, h3⟩, h4⟩, h5⟩, s1⟩, s2⟩, s3⟩, h6⟩, h7⟩ := h
  have hb : env.blockKind = .function := by unfold Env.blockKind; rw [hk]; rfl
  have kx : env.kindOf x = some .local := hx
  have ky : env.kindOf y = some .local := hy
  have kz : env.kindOf z = some .local := hz
  have h1' : py.line = px.line := (eq_of_beq h1).symm
  have h2' : pz.line = px.line := (eq_of_beq h2).symm
  have n1 : x ≠ y := fun e => by rw [e] at h3; simp at h3
  have n2 : x ≠ z := fun e => by rw [e] at h4; simp at h4
  have n3 : y ≠ z := fun e => by rw [e] at h5; simp at h5
  unfold swappedStores
  dsimp only
  split
  · rename_i z
    simp [hb] at z
  · split
    · rename_i z
      simp only [List.any_cons, List.any_nil, Bool.or_false, Bool.or_eq_true] at z
      rcases z with z | z | z
      · cases a <;> first | (cases s1; done) | (cases z; done)
      · cases b <;> first | (cases s2; done) | (cases z; done)
      · cases c <;> first | (cases s3; done) | (cases z; done)
    · split
      · rename_i z
        simp [kx, ky, kz, Expr.pos, h1', h2', List.eraseDups_cons, n1, n2, n3, n1.symm, n2.symm, n3.symm] at z
      · split
        · rename_i z
          rcases h6 with (q | q) | q <;> simp [q] at z
        · split
          · rename_i z
            rcases h7 with (q | q) | q <;> simp [q] at z
          · simp [kx, ky, kz, Expr.pos, h1', h2']
theorem snd_par3 {i j l : Nat} {a b c : Ex} {x y z : Str} {ea eb ec : Expr} {px py pz pt pos p2 : Pos} {k k2 : Nat} (hc : X.calm = true) (hN : X.N.Nodup) (hi : X.N[i]? = some x) (hj : X.N[j]? = some y) (hl : X.N[l]? = some z) (hij : i ≠ j) (hil : i ≠ l) (hjl : j ≠ l) (hk : X.env.scope.kind = .function)
    (hx : X.env.scope.names.lookup x = some .local) (hy : X.env.scope.names.lookup y = some .local) (hz : X.env.scope.names.lookup z = some .local) (hs : swTri x y z px py pz ea eb ec = true) (hsa : notStar ea = true) (hsb : notStar eb = true) (hsc : notStar ec = true)
    (ha : PE X ea (tX (EV X G0 C cls) W (evX C a))) (hb : PE X eb (tX (EV X G0 C cls) W (evX C b))) (hcc : PE X ec (tX (EV X G0 C cls) W (evX C c))) : PS X (.Assign [.Tuple [.Name x px, .Name y py, .Name z pz] k pt] (.Tuple [ea, eb, ec] k2 p2) pos) (tS (EV X G0 C cls) W pr (evS C pr (.par3 i j l a b c))) := by
  refine PS.imp (ps_par3 hc hN hi hj hl hij hil hjl hx hy hz (pa_cons ha (pa_cons hb (pa_cons hcc pa_nil (star_of hsc)) (star_of hsb)) (star_of hsa)) (swTri_of hk hx hy hz hs) rfl) fun D σ H ⟨G, pv, F, env, S, hp, h⟩ => ⟨G, pv, F, env, S, ?_⟩
  unfold evS at h
  refine Post.imp (PostS.bind (σ := σ) h) Ext.refl fun m1 e1 h1 => PM.frozen fun v F1 H1 S1 x1 r1 => ⟨G, pv, F1, e1, S1, ?_⟩
  refine Post.imp (PostS.bind (σ := σ) h1) x1 fun m2 e2 h2 => PM.frozen fun u F2 H2 S2 x2 r2 => ⟨G, pv, F2, e2, S2, ?_⟩
  refine Post.imp (PostS.bind (σ := σ) h2) (x1.trans x2) fun m3 e3 h3 => PM.frozen fun w F3 H3 S3 x3 r3 => ?_
  cases hc2 : (pr.contains i || pr.contains j || pr.contains l || i == j || i == l || j == l) with
  | true => rw [hc2, if_pos rfl] at h3; exact h3.elim
  | false =>
    rw [hc2, if_neg Bool.false_ne_true] at h3
    simp only [Bool.or_eq_false_iff] at hc2
    obtain ⟨⟨⟨⟨⟨c1, c2⟩, c3⟩, _⟩, _⟩, _⟩ := hc2
    have np : ∀ q ∈ pv, q.1 ≠ i := fun q hq z => contains_mem c1 (by rw [← z]; exact hp q hq)
    have np2 : ∀ q ∈ pv, q.1 ≠ j := fun q hq z => contains_mem c2 (by rw [← z]; exact hp q hq)
    have np3 : ∀ q ∈ pv, q.1 ≠ l := fun q hq z => contains_mem c3 (by rw [← z]; exact hp q hq)
    have s1 := S3.stored (i := i) (m := .p m1.toD) (v := v) (Rep.ext (x2.trans x3) r1) (fun z => by cases z) np
    have s2 := s1.stored (i := j) (m := .p m2.toD) (v := u) (Rep.ext x3 r2) (fun z => by cases z) np2
    have s3 := s2.stored (i := l) (m := .p m3.toD) (v := w) r3 (fun z => by cases z) np3
    exact ⟨v, u, w, rfl, h3 _ F3 H3 s3 (x1.trans (x2.trans x3))⟩
/-- a, b, c = [], [], [] -/
def swThree (x y z : Str) (px py pz : Pos) : Bool := px.line == py.line && px.line == pz.line && !(x == y) && !(x == z) && !(y == z)
theorem swThree_of {x y z : Str} {px py pz : Pos} {env : Env} {k k2 : Nat} {pt p2 q1 q2 q3 : Pos} (hk : env.scope.kind = .function) (hx : env.scope.names.lookup x = some .local) (hy : env.scope.names.lookup y = some .local) (hz : env.scope.names.lookup z = some .local)
    (h : swThree x y z px py pz = true) : swappedStores [.Tuple [.Name x px, .Name y py, .Name z pz] k pt] (.Tuple [.List [] q1, .List [] q2, .List [] q3] k2 p2) env = pure (some [x, y, z]) := by
  unfold swThree at h
  simp only [Bool.and_eq_true, Bool.not_eq_true'] at h
  obtain ⟨⟨⟨⟨h1, h2⟩, h3⟩, h4⟩, h5⟩ := h
  have hb : env.blockKind = .function := by unfold Env.blockKind; rw [hk]; rfl
  have kx : env.kindOf x = some .local := hx
  have ky : env.kindOf y = some .local := hy
  have kz : env.kindOf z = some .local := hz
  have h1' : py.line = px.line := (eq_of_beq h1).symm
  have h2' : pz.line = px.line := (eq_of_beq h2).symm
  have n1 : x ≠ y := fun e => by rw [e] at h3; simp at h3
  have n2 : x ≠ z := fun e => by rw [e] at h4; simp at h4
  have n3 : y ≠ z := fun e => by rw [e] at h5; simp at h5
  unfold swappedStores
  dsimp only
  simp [hb, kx, ky, kz, Expr.pos, h1', h2', List.eraseDups_cons, n1, n2, n3, n1.symm, n2.symm, n3.symm, foldedForSure, constantsAlone]
section
variable {X : Cx} {G0 : Gh} {C : PC} {cls : Nat → Value} {W : WX} {pr : List Nat}
theorem snd_emp3 {i j l : Nat} {x y z : Str} {px py pz pt pos p2 q1 q2 q3 : Pos} {k k2 : Nat} (hc : X.calm = true) (hN : X.N.Nodup) (hi : X.N[i]? = some x) (hj : X.N[j]? = some y) (hl : X.N[l]? = some z) (hij : i ≠ j) (hil : i ≠ l) (hjl : j ≠ l) (hk : X.env.scope.kind = .function)
    (hx : X.env.scope.names.lookup x = some .local) (hy : X.env.scope.names.lookup y = some .local) (hz : X.env.scope.names.lookup z = some .local) (hs : swThree x y z px py pz = true) :
    PS X (.Assign [.Tuple [.Name x px, .Name y py, .Name z pz] k pt] (.Tuple [.List [] q1, .List [] q2, .List [] q3] k2 p2) pos) (tS (EV X G0 C cls) W pr (evS C pr (.emp3 i j l))) := by
  refine PS.imp (ps_par3 hc hN hi hj hl hij hil hjl hx hy hz (pa_cons (pe_lst pa_nil) (pa_cons (pe_lst pa_nil) (pa_cons (pe_lst pa_nil) pa_nil))) (swThree_of hk hx hy hz hs) rfl) fun D σ H ⟨G, pv, F, env, S, hp, h⟩ => ?_
  unfold evS at h
  cases hc2 : (pr.contains i || pr.contains j || pr.contains l || i == j || i == l || j == l) with
  | true => rw [hc2, if_pos rfl] at h; exact h.elim
  | false =>
    rw [hc2, if_neg Bool.false_ne_true] at h
    simp only [Bool.or_eq_false_iff] at hc2
    obtain ⟨⟨⟨⟨⟨c1, c2⟩, c3⟩, _⟩, _⟩, _⟩ := hc2
    have np : ∀ q ∈ pv, q.1 ≠ i := fun q hq z => contains_mem c1 (by rw [← z]; exact hp q hq)
    have np2 : ∀ q ∈ pv, q.1 ≠ j := fun q hq z => contains_mem c2 (by rw [← z]; exact hp q hq)
    have np3 : ∀ q ∈ pv, q.1 ≠ l := fun q hq z => contains_mem c3 (by rw [← z]; exact hp q hq)
    have step : ∀ {env : En} {σ : St} {H : Hp} {i : Nat} {p : Addr}, Sim X.K G pv F env σ H → (∀ q ∈ pv, q.1 ≠ i) → H p = none → Sim X.K G pv F (put env i (some (.ol []))) (σ.set i (some (.ref p))) (upd H p (.lst [])) := fun {env σ H i p} S np hp => by
      have S1 := S.laid (o := .lst []) hp
      refine S1.stored (i := i) (m := .ol []) (v := .ref p) ?_ (fun _ => ⟨fun j m' hj oj ej => ?_, fun a ea => ?_⟩) np
      · exact ⟨p, [], rfl, upd_same, rfl, S.fh.no hp⟩
      · obtain ⟨a, u, e2, hu, _⟩ := S.own hj oj
        rw [ej] at e2; cases e2
        rw [hp] at hu; cases hu
      · cases ea
        exact S.newH hp
    refine ⟨by decide, fun p1 h1 => ⟨by decide, fun p2 h2 => ⟨by decide, fun p3 h3 => ?_⟩⟩⟩
    have s3 := step (step (step S np h1) np2 h2) np3 h3
    exact ⟨_, _, _, rfl, h _ F _ s3 Ext.refl⟩
end
end
end Q1

set_option maxHeartbeats 8000000
/-! Q17: every statement whose text is its code; defs; the program. -/
namespace Q1
open PySem PySem.Spec PyProof.Rows L2 PySem.SeqAt

def setOk : Ex → Expr → Bool
  | _, .SetComp .. => false
  | _, .DictComp .. => false
  | .comp .., .ListComp .. => true
  | _, .ListComp .. => false
  | _, _ => true
def locOnly (sc : Scope) (x : Str) : Bool := match sc.names.lookup x with
  | some .local => true
  | _ => false
def isAddSub : Bop → Bool
  | .add => true
  | .sub => true
  | _ => false
def okSw (Θ : Txt) (N : List Str) (cm : Bool) (sc : Scope) (i : Nat) : Exs → List Expr → Bool
  | .nil, [] => true
  | .cons a as, .Subscript (.Name x p1) ea _ :: ts => okName N sc i (.Name x p1) && notSlice ea && okX Θ N cm a sc ea && okSw Θ N cm sc i as ts
  | _, _ => false
mutual
def okS (Θ : Txt) (N : List Str) (cm : Bool) (sc : Scope) : Sm → Stmt → Bool
  | .set i own e, st => match st with
    | .Assign [.Name x _] ex _ => decide (N[i]? = some x) && locB sc x && okX Θ N cm e sc ex && setOk e ex
    | _ => false
  | .aug i op e, st => match st with
    | .AugAssign (.Name x _) o ex _ => decide (o = opA op) && isAddSub op && decide (N[i]? = some x) && locB sc x && okX Θ N cm e sc ex
    | _ => false
  | .unp is e, st => match st with
    | .Assign [.Tuple ts _ _] ex _ => cm && swNone ts ex && okNames N sc is ts && okX Θ N cm e sc ex
    | _ => false
  | .par i j a b, st => match st with
    | .Assign [.Tuple [.Name x px, .Name y py] _ _] (.Tuple [ea, eb] _ _) _ => cm && decide (N[i]? = some x) && decide (N[j]? = some y) && decide (i ≠ j) && locOnly sc x && locOnly sc y && swTwo sc x y px py ea eb && notStar ea && notStar eb &&
      okX Θ N cm a sc ea && okX Θ N cm b sc eb
    | _ => false
  | .emp3 i j l, st => match st with
    | .Assign [.Tuple [.Name x px, .Name y py, .Name z pz] _ _] (.Tuple [.List [] _, .List [] _, .List [] _] _ _) _ => cm && decide (N[i]? = some x) && decide (N[j]? = some y) && decide (N[l]? = some z) && decide (i ≠ j) && decide (i ≠ l) && decide (j ≠ l) &&
      locOnly sc x && locOnly sc y && locOnly sc z && swThree x y z px py pz
    | _ => false
  | .emp2 i j, st => match st with
    | .Assign [.Tuple [.Name x px, .Name y py] _ _] (.Tuple [.List [] _, .List [] _] _ _) _ => cm && decide (N[i]? = some x) && decide (N[j]? = some y) && decide (i ≠ j) && locOnly sc x && locOnly sc y && swDuo x y px py
    | _ => false
  | .par3 i j l a b c, st => match st with
    | .Assign [.Tuple [.Name x px, .Name y py, .Name z pz] _ _] (.Tuple [ea, eb, ec] _ _) _ => cm && decide (N[i]? = some x) && decide (N[j]? = some y) && decide (N[l]? = some z) && decide (i ≠ j) && decide (i ≠ l) && decide (j ≠ l) &&
      locOnly sc x && locOnly sc y && locOnly sc z && swTri x y z px py pz ea eb ec && (notStar ea && notStar eb && notStar ec) && okX Θ N cm a sc ea && okX Θ N cm b sc eb && okX Θ N cm c sc ec
    | _ => false
  | .ext i e, st => match st with
    | .Expr (.Call (.Attribute (.Name x p1) m p2) [ex] [] p3) _ => okName N sc i (.Name x p1) && m == ("extend" : Str) && notStar ex && p2.endLine == p3.line && okX Θ N cm e sc ex
    | _ => false
  | .app i e, st => match st with
    | .Expr (.Call (.Attribute (.Name x p1) m p2) [ex] [] p3) _ => okName N sc i (.Name x p1) && m == ("append" : Str) && notStar ex && p2.endLine == p3.line && okX Θ N cm e sc ex
    | _ => false
  | .setix i a e, st => match st with
    | .Assign [.Subscript (.Name x p1) ea _] ex _ => okName N sc i (.Name x p1) && notComp ex && notSlice ea && okX Θ N cm a sc ea && okX Θ N cm e sc ex
    | _ => false
  | .swp i as es, st => match st with
    | .Assign [.Tuple (.Subscript o1 o2 p1 :: ts) _ _] (.Tuple ees _ _) _ => cm && okSw Θ N cm sc i as (.Subscript o1 o2 p1 :: ts) && okXs Θ N cm es sc ees
    | _ => false
  | .dput i a e, st => match st with
    | .Assign [.Subscript (.Name x p1) ea _] ex _ => okName N sc i (.Name x p1) && notComp ex && notSlice ea && okX Θ N cm a sc ea && okX Θ N cm e sc ex
    | _ => false
  | .expr e, st => match st with
    | .Expr ex _ => notComp ex && okX Θ N cm e sc ex
    | _ => false
  | .ret own e, st => match st with
    | .Return (some ex) _ => okX Θ N cm e sc ex
    | _ => false
  | .retN, st => match st with
    | .Return none _ => true
    | _ => false
  | .ite t a b, st => match st with
    | .If et ea eb _ => okT Θ N cm t sc et && okSs Θ N cm sc a ea && okSs Θ N cm sc b eb
    | _ => false
  | .loop g it body, st => match st with
    | .For tg iter eb [] _ => cm && notSet iter && okI Θ N cm it sc iter && okTg N sc g tg && okSs Θ N cm sc body eb
    | _ => false
  | .whil n t body, st => match st with
    | .While et eb [] _ => cm && okT Θ N cm t sc et && okSs Θ N cm sc body eb
    | _ => false
  | .raise k, st => match st with
    | .Raise (some (.Call (.Name x _) [.Constant (.str m) _ _] [] _)) none _ => cm && glB sc x && !(x == ("__debug__" : Str)) && decide (Θ.excs[k]? = some x)
    | _ => false
  | .tryx body k h, st => match st with
    | .Try b [.ExceptHandler (some (.Name x _)) none (s :: suite) _] [] [] _ => cm && glB sc x && !(x == ("__debug__" : Str)) && decide (Θ.excs[k]? = some x) && okSs Θ N cm sc body b && okSs Θ N false sc h (s :: suite)
    | _ => false
  | .tryy body k h k2 h2, st => match st with
    | .Try b [.ExceptHandler (some (.Name x _)) none (s :: suite) _, .ExceptHandler (some (.Name x2 _)) none (s2 :: suite2) _] [] [] _ => cm && glB sc x && !(x == ("__debug__" : Str)) && decide (Θ.excs[k]? = some x) &&
      glB sc x2 && !(x2 == ("__debug__" : Str)) && decide (Θ.excs[k2]? = some x2) && okSs Θ N cm sc body b && okSs Θ N false sc h (s :: suite) && okSs Θ N false sc h2 (s2 :: suite2)
    | _ => false
  | .brk, st => match st with
    | .Break _ => true
    | _ => false
  | .cnt, st => match st with
    | .Continue _ => true
    | _ => false
  | .pass, st => match st with
    | .Pass _ => true
    | _ => false
  | .loopv .., _ => false
def okSs (Θ : Txt) (N : List Str) (cm : Bool) (sc : Scope) : Sms → List Stmt → Bool
  | .nil, [] => true
  | .cons s r, st :: sts => okS Θ N cm sc s st && okSs Θ N cm sc r sts
  | .kill _ r, sts => okSs Θ N cm sc r sts
  | _, _ => false
end
abbrev veBases : List Value := [.type "ValueError", .type "Exception", .type "BaseException", .type "object"]
structure XS (Θ : Txt) (N : List Str) (C : PC) (cls : Nat → Value) (k : Nat) (X : Cx) (sc : Scope) (cm : Bool) : Prop where
  x : XOk Θ N C cls k X sc cm
  fnl : ∀ y, locB sc y = true → Loc X.env.scope y ∧ (X.fn y = true ∨ X.env.scope.names.lookup y = some .local)
  knd : sc.kind = .function
  po : cm = true → PassesOwn (model X.prog X.w) X.A X.env X.xe
  stk : cm = true → X.stack = X.env :: X.outer
  frm : cm = true → X.env.frame = some X.env.locals
  exs : ∀ (i : Nat) (y : Str), Θ.excs[i]? = some y → ∃ A, cls i = .ref A ∧ X.mg y = some (.ref A) ∧ PySem.W.excIn X.K A veBases "ValueError.__new__" = true ∧ PySem.W.keepIn X.K (.ref A) = true ∧
    PySem.W.subIn X.K (.ref A) (.type "BaseException") = some true ∧ PySem.W.typeIn X.K (.ref A) = some (.type "type")
  exm : ∀ i j b, C.sub i j = some b → PySem.W.exmOne X.K (cls i) (cls j) = some b
section
variable {Θ : Txt} {N : List Str} {C : PC} {cls : Nat → Value} {k : Nat}
theorem XOk.tr {X : Cx} {sc : Scope} {cm : Bool} (x : XOk Θ N C cls k X sc cm) {pn : List (Addr × Obj)} {xe : Value → Shared → Prop} : XOk Θ N C cls k (X.tr pn xe) sc cm :=
  ⟨x.nm, x.nd, x.scp, x.calm, x.room, x.un, x.cst, x.fns, x.blt⟩
theorem XOk.suite {X : Cx} {sc : Scope} {cm : Bool} (x : XOk Θ N C cls k X sc cm) {a : Addr} {pn : List (Addr × Obj)} : XOk Θ N C cls k (X.suite a pn) sc false :=
  ⟨x.nm, x.nd, x.scp, (fun z => by cases z), (fun z => by cases z), x.un, x.cst, x.fns, x.blt⟩
theorem XS.tr {X : Cx} {sc : Scope} {cm : Bool} (s : XS Θ N C cls k X sc cm) {pn : List (Addr × Obj)} {xe : Value → Shared → Prop} (po : PassesOwn (model X.prog X.w) X.A X.env xe) : XS Θ N C cls k (X.tr pn xe) sc cm :=
  ⟨s.x.tr, s.fnl, s.knd, fun _ => po, s.stk, s.frm, s.exs, s.exm⟩
theorem XS.suite {X : Cx} {sc : Scope} {cm : Bool} (s : XS Θ N C cls k X sc cm) {a : Addr} {pn : List (Addr × Obj)} : XS Θ N C cls k (X.suite a pn) sc false :=
  ⟨s.x.suite, s.fnl, s.knd, (fun z => by cases z), (fun z => by cases z), (fun z => by cases z), s.exs, s.exm⟩
/-- the parts of a comprehension -/
theorem comp_parts {own : List Nat} {g : Tg} {it : Itx} {c : Tx} {e : Ex} {cm : Bool} {X : Cx} {W : WX} {sc : Scope} {elt : Expr} {gens : List Comprehension} {scope : Scope} {p : Pos} (h : okX Θ N cm (.comp own g it c e) sc (.ListComp elt gens scope p) = true) (x : XOk Θ N C cls k X sc cm) (tk : Takes X W) :
    ∃ tg iter ifs, gens = [⟨tg, iter, ifs, 0⟩] ∧ X.calm = true ∧ notSet iter = true ∧ (∀ j ∈ tgSlots g, j ∈ own) ∧ PI X tg iter (tI (EV X g0 C cls) W (evI C it)) ∧ BlkOk X.N X.env.scope scope (ownN N own) ∧
    (∀ (s : Shared) (H : Hp) (cA : Addr) (cl : List (Str × Addr)) (fp : List Addr), PG (X.blk s H scope (compEnvC scope cl cA X.env) fp) tg (tG X.K g)) ∧
    (∀ (s : Shared) (H : Hp) (cA : Addr) (cl : List (Str × Addr)) (fp : List Addr), PTs (X.blk s H scope (compEnvC scope cl cA X.env) fp) ifs (tT (EV X g0 C cls) WF (evT C c))) ∧
    (∀ (s : Shared) (H : Hp) (cA : Addr) (cl : List (Str × Addr)) (fp : List Addr), PE (X.blk s H scope (compEnvC scope cl cA X.env) fp) elt (tX (EV X g0 C cls) WF (evX C e))) := by
  cases gens with
  | nil => (unfold okX at h; cases h)
  | cons gen gens =>
    cases gens with
    | cons _ _ => obtain ⟨a1, a2, a3, a4⟩ := gen; (unfold okX at h; cases h)
    | nil =>
      obtain ⟨tg, iter, ifs, as⟩ := gen
      by_cases ha : as = 0
      · subst ha
        unfold okX at h
        simp only [Bool.and_eq_true] at h
        obtain ⟨⟨⟨⟨⟨⟨⟨⟨h0, h1⟩, h2⟩, h3⟩, h4⟩, h5⟩, h6⟩, h7⟩, h8⟩ := h
        have hg : ∀ j ∈ tgSlots g, j ∈ own := fun j hj => by
          cases g with
          | name i =>
            have e := List.mem_singleton.mp hj
            subst e
            exact List.contains_iff_mem.mp h6
          | tup is => exact List.contains_iff_mem.mp (List.all_eq_true.mp h6 j hj)
        refine ⟨tg, iter, ifs, rfl, x.calm h1, h2, hg, sndI it h3 x tk, by rw [x.nm, x.scp]; exact blkOk_by h4, fun s H cA cl fp =>
          snd_tg (X := X.blk s H scope (compEnvC scope cl cA X.env) fp) (x.calm h1) x.nd x.nm (fun y hy => by
            have e1 : (X.blk s H scope (compEnvC scope cl cA X.env) fp).env.scope = relS scope sc := by rw [← x.scp]; rfl
            rcases locOk hy with q | q
            · have := relS_lookup (sc := sc) (by decide) q
              exact ⟨.inl (by rw [e1]; exact this), .inr (by rw [e1]; exact this)⟩
            · have := relS_lookup (sc := sc) (by decide) q
              exact ⟨.inr (by rw [e1]; exact this), .inl (by show (scope.names.lookup y == some .cell) = true; rw [q]; rfl)⟩) h5, fun s H cA cl fp => ?_, fun s H cA cl fp => sndX e (X := X.blk s H scope (compEnvC scope cl cA X.env) fp) (W := WF) h8 x.blk takes0⟩
        cases ifs with
        | nil =>
          cases c with
          | yes => exact ⟨fun pins s σ H Q I ⟨G, pv, F, env, S, q⟩ => pts_nil.run pins s σ H Q I (q F H S Ext.refl)⟩
          | _ => simp at h7
        | cons f fs =>
          cases fs with
          | cons _ _ => cases c <;> simp at h7
          | nil =>
            have h7' : okT Θ N cm c (relS scope sc) f = true := by
              cases c <;> first | (simp at h7; done) | exact h7
            exact pts_one (sndT c (X := X.blk s H scope (compEnvC scope cl cA X.env) fp) (W := WF) h7' x.blk takes0)
      · (unfold okX at h; simp [ha] at h)
theorem sndS_set {cm : Bool} {i : Nat} {own : Bool} {e : Ex} {X : Cx} {W : WX} {sc : Scope} {pr : List Nat} {x : Str} {ex : Expr} {p p2 : Pos} (hi : N[i]? = some x) (hl : locB sc x = true) (h : okX Θ N cm e sc ex = true) (hs : setOk e ex = true) (s : XS Θ N C cls k X sc cm) (tk : Takes X W) :
    PS X (.Assign [.Name x p2] ex p) (tS (EV X g0 C cls) W pr (evS C pr (.set i own e))) := by
  obtain ⟨f1, f2⟩ := s.fnl x hl
  have hi' : X.N[i]? = some x := by rw [s.x.nm]; exact hi
  by_cases hc : notComp ex = true
  · exact snd_set s.x.nd hi' f1 f2 (noSwapC hc) (sndX e h s.x tk)
  · cases ex with
    | ListComp elt gens scope cp =>
      have sw : swapsWith (.ListComp elt gens scope cp) (some (.Name x p2)) p.line X.env = pure (X.env.blockKind == .function && X.env.kindOf x == some .local && p2.line == cp.line && !(scope.names.any fun (n, k) => n == x && (k == .local || k == .cell))) := rfl
      cases q : (X.env.blockKind == .function && X.env.kindOf x == some .local && p2.line == cp.line && !(scope.names.any fun (n, k) => n == x && (k == .local || k == .cell))) with
      | false =>
        rw [q] at sw
        exact snd_set s.x.nd hi' f1 f2 sw (sndX e h s.x tk)
      | true =>
        rw [q] at sw
        have kx : X.env.scope.names.lookup x = some .local := by
          simp only [Bool.and_eq_true] at q
          have := q.1.1.2
          exact eq_of_beq this
        cases e with
        | comp own2 g it c e =>
          obtain ⟨tg, iter, ifs, rfl, a1, a2, a3, a4, a5, a6, a7, a8⟩ := comp_parts h s.x tk
          have key := ps_setLc (own := ownN N own2) (py := p2) (pos := cp) (spos := p) a1 s.x.nd hi' kx sw a4 a5 a6 a7 a8 (fold_of a2)
          rw [own_map] at key
          exact PS.imp key fun D σ H q => comp_imp a3 (set_imp q)
        | _ => cases hs
    | SetComp _ _ _ _ => cases e <;> cases hs
    | DictComp _ _ _ _ _ => cases e <;> cases hs
    | _ => exact absurd rfl hc

theorem okOpnd {sc : Scope} {i : Nat} {x : Str} {p : Pos} {X : Cx} {cm : Bool} (h : okName N sc i (.Name x p) = true) (s : XS Θ N C cls k X sc cm) : X.N[i]? = some x ∧ Vis X.env.scope x ∧ (x == ("__debug__" : Str)) = false ∧ (x == ("__classdict__" : Str)) = false := by
  obtain ⟨y, p', e, h1, h2, h3, h4⟩ := nameOk h
  cases e
  exact ⟨by rw [s.x.nm]; exact h1, by rw [s.x.scp]; exact h2, h3, h4⟩
theorem sw_pgs {cm : Bool} {X : Cx} {W : WX} {sc : Scope} {i : Nat} (s : XS Θ N C cls k X sc cm) (tk : Takes X W) : ∀ (as : Exs) {ts : List Expr}, okSw Θ N cm sc i as ts = true →
    PGs X ts (gSw X g0 C cls W i as) ∧ (assignEach ts X.env).length = exsLen as ∧ (assignEach ts X.env).findIdx? (·.1) = none
  | .nil, ts, h => by
    cases ts with
    | nil => exact ⟨pgs_nil, rfl, rfl⟩
    | cons _ _ => (unfold okSw at h; cases h)
  | .cons a as, ts, h => by
    unfold okSw at h
    split at h
    · cases ‹Exs.cons a as = Exs.nil›
    · rename_i a' as' x p1 ea p2 ts' e
      cases e
      simp only [Bool.and_eq_true] at h
      obtain ⟨⟨⟨h1, h2⟩, h3⟩, h4⟩ := h
      obtain ⟨a1, a2, a3, a4⟩ := okOpnd h1 s
      obtain ⟨k1, k2, k3⟩ := sw_pgs s tk as h4
      have pe : PE X (.Name x p1) (tVar i) := pe_var a1 a2 a3 a4
      refine ⟨pgs_cons (pg_sub pe (sndX a h3 s.x tk) set_list (fun v => by cases ea <;> first | rfl | cases h2)) k1 rfl, ?_, ?_⟩
      · show (assignEach ts' X.env).length + 1 = _
        rw [k2]; rfl
      · show List.findIdx? (·.1) ((false, assign (.Subscript (.Name x p1) ea p2) X.env) :: assignEach ts' X.env) = none
        rw [List.findIdx?_cons]
        simp [k3]
    · cases h
mutual
theorem sndS : ∀ (c : Sm) {cm : Bool} {X : Cx} {W : WX} {sc : Scope} {pr : List Nat} {st : Stmt}, okS Θ N cm sc c st = true → XS Θ N C cls k X sc cm → Takes X W → PS X st (tS (EV X g0 C cls) W pr (evS C pr c))
  | .set i own e, cm, X, W, sc, pr, st, h, s, tk => by
    unfold okS at h
    split at h
    · simp only [Bool.and_eq_true, decide_eq_true_eq] at h
      exact sndS_set h.1.1.1 h.1.1.2 h.1.2 h.2 s tk
    · cases h
  | .aug i op e, cm, X, W, sc, pr, st, h, s, tk => by
    unfold okS at h
    split at h
    · simp only [Bool.and_eq_true, decide_eq_true_eq] at h
      obtain ⟨⟨⟨⟨rfl, h2⟩, h3⟩, h4⟩, h5⟩ := h
      obtain ⟨f1, f2⟩ := s.fnl _ h4
      exact snd_aug (by cases op <;> first | exact .inl rfl | exact .inr rfl | cases h2) s.x.nd (by rw [s.x.nm]; exact h3) f1 f2 (sndX e h5 s.x tk)
    · cases h
  | .unp is e, cm, X, W, sc, pr, st, h, s, tk => by
    unfold okS at h
    split at h
    · simp only [Bool.and_eq_true] at h
      obtain ⟨⟨⟨h1, h2⟩, h3⟩, h4⟩ := h
      exact snd_unp (s.x.calm h1) h2 (snd_tg (s.x.calm h1) s.x.nd s.x.nm s.fnl (g := .tup is) (by unfold okTg; exact h3)) (sndX e h4 s.x tk)
    · cases h
  | .par i j a b, cm, X, W, sc, pr, st, h, s, tk => by
    unfold okS at h
    split at h
    · simp only [Bool.and_eq_true, decide_eq_true_eq] at h
      obtain ⟨⟨⟨⟨⟨⟨⟨⟨⟨⟨h1, h2⟩, h3⟩, h4⟩, h5⟩, h6⟩, h7⟩, h8⟩, h9⟩, h10⟩, h11⟩ := h
      have lo : ∀ {y : Str}, locOnly sc y = true → X.env.scope.names.lookup y = some .local := fun {y} hy => by
        rw [s.x.scp]
        unfold locOnly at hy
        split at hy
        · assumption
        · cases hy
      exact snd_par (s.x.calm h1) s.x.nd (by rw [s.x.nm]; exact h2) (by rw [s.x.nm]; exact h3) h4 (by rw [s.x.scp]; exact s.knd) (lo h5) (lo h6) (by rw [s.x.scp]; exact h7) h8 h9 (sndX a h10 s.x tk) (sndX b h11 s.x tk)
    · cases h
  | .emp3 i j l, cm, X, W, sc, pr, st, h, s, tk => by
    unfold okS at h
    split at h
    · simp only [Bool.and_eq_true, decide_eq_true_eq] at h
      obtain ⟨⟨⟨⟨⟨⟨⟨⟨⟨⟨h1, h2⟩, h3⟩, h4⟩, h5⟩, h6⟩, h7⟩, h8⟩, h9⟩, h10⟩, h11⟩ := h
      have lo : ∀ {y : Str}, locOnly sc y = true → X.env.scope.names.lookup y = some .local := fun {y} hy => by
        rw [s.x.scp]
        unfold locOnly at hy
        split at hy
        · assumption
        · cases hy
      exact snd_emp3 (s.x.calm h1) s.x.nd (by rw [s.x.nm]; exact h2) (by rw [s.x.nm]; exact h3) (by rw [s.x.nm]; exact h4) h5 h6 h7 (by rw [s.x.scp]; exact s.knd) (lo h8) (lo h9) (lo h10) h11
    · cases h
  | .emp2 i j, cm, X, W, sc, pr, st, h, s, tk => by
    unfold okS at h
    split at h
    · simp only [Bool.and_eq_true, decide_eq_true_eq] at h
      obtain ⟨⟨⟨⟨⟨⟨h1, h2⟩, h3⟩, h4⟩, h5⟩, h6⟩, h7⟩ := h
      have lo : ∀ {y : Str}, locOnly sc y = true → X.env.scope.names.lookup y = some .local := fun {y} hy => by
        rw [s.x.scp]
        unfold locOnly at hy
        split at hy
        · assumption
        · cases hy
      exact snd_emp2 (s.x.calm h1) s.x.nd (by rw [s.x.nm]; exact h2) (by rw [s.x.nm]; exact h3) h4 (by rw [s.x.scp]; exact s.knd) (lo h5) (lo h6) h7
    · cases h
  | .par3 i j l a b c, cm, X, W, sc, pr, st, h, s, tk => by
    unfold okS at h
    split at h
    · simp only [Bool.and_eq_true, decide_eq_true_eq] at h
      obtain ⟨⟨⟨⟨⟨⟨⟨⟨⟨⟨⟨⟨⟨⟨h1, h2⟩, h3⟩, h4⟩, h5⟩, h6⟩, h7⟩, h8⟩, h9⟩, h10⟩, h11⟩, h12⟩, h13⟩, h14⟩, h15⟩ := h
      have lo : ∀ {y : Str}, locOnly sc y = true → X.env.scope.names.lookup y = some .local := fun {y} hy => by
        rw [s.x.scp]
        unfold locOnly at hy
        split at hy
        · assumption
        · cases hy
      exact snd_par3 (s.x.calm h1) s.x.nd (by rw [s.x.nm]; exact h2) (by rw [s.x.nm]; exact h3) (by rw [s.x.nm]; exact h4) h5 h6 h7 (by rw [s.x.scp]; exact s.knd) (lo h8) (lo h9) (lo h10) h11 h12.1.1 h12.1.2 h12.2 (sndX a h13 s.x tk) (sndX b h14 s.x tk) (sndX c h15 s.x tk)
    · cases h
  | .ext i e, cm, X, W, sc, pr, st, h, s, tk => by
    unfold okS at h
    split at h
    · simp only [Bool.and_eq_true] at h
      obtain ⟨⟨⟨⟨h1, h2⟩, h3⟩, h4⟩, h5⟩ := h
      obtain ⟨a1, a2, a3, a4⟩ := okOpnd h1 s
      have e1 := strEq h2
      subst e1
      exact snd_ext a1 a2 a3 a4 h3 h4 (sndX e h5 s.x tk)
    · cases h
  | .app i e, cm, X, W, sc, pr, st, h, s, tk => by
    unfold okS at h
    split at h
    · simp only [Bool.and_eq_true] at h
      obtain ⟨⟨⟨⟨h1, h2⟩, h3⟩, h4⟩, h5⟩ := h
      obtain ⟨a1, a2, a3, a4⟩ := okOpnd h1 s
      have e1 := strEq h2
      subst e1
      exact snd_app a1 a2 a3 a4 h3 h4 (sndX e h5 s.x tk)
    · cases h
  | .setix i a e, cm, X, W, sc, pr, st, h, s, tk => by
    unfold okS at h
    split at h
    · simp only [Bool.and_eq_true] at h
      obtain ⟨⟨⟨⟨h1, h2⟩, h3⟩, h4⟩, h5⟩ := h
      obtain ⟨a1, a2, a3, a4⟩ := okOpnd h1 s
      exact snd_setix a1 a2 a3 a4 h2 h3 (sndX a h4 s.x tk) (sndX e h5 s.x tk)
    · cases h
  | .swp i as es, cm, X, W, sc, pr, st, h, s, tk => by
    unfold okS at h
    split at h
    · simp only [Bool.and_eq_true] at h
      obtain ⟨⟨h1, h2⟩, h3⟩ := h
      obtain ⟨k1, k2, k3⟩ := sw_pgs s tk as h2
      exact snd_swp (s.x.calm h1) k1 k2 k3 (sndXs es h3 s.x tk)
    · cases h
  | .dput i a e, cm, X, W, sc, pr, st, h, s, tk => by
    unfold okS at h
    split at h
    · simp only [Bool.and_eq_true] at h
      obtain ⟨⟨⟨⟨h1, h2⟩, h3⟩, h4⟩, h5⟩ := h
      obtain ⟨a1, a2, a3, a4⟩ := okOpnd h1 s
      exact snd_dput (by have := s.x.un; omega) a1 a2 a3 a4 h2 h3 (sndX a h4 s.x tk) (sndX e h5 s.x tk)
    · cases h
  | .expr e, cm, X, W, sc, pr, st, h, s, tk => by
    unfold okS at h
    split at h
    · simp only [Bool.and_eq_true] at h
      exact snd_expr h.1 (sndX e h.2 s.x tk)
    · cases h
  | .ret own e, cm, X, W, sc, pr, st, h, s, tk => by
    unfold okS at h
    split at h
    · exact snd_ret (sndX e h s.x tk)
    · cases h
  | .retN, cm, X, W, sc, pr, st, h, s, tk => by
    unfold okS at h
    split at h
    · exact snd_retN
    · cases h
  | .ite t a b, cm, X, W, sc, pr, st, h, s, tk => by
    unfold okS at h
    split at h
    · simp only [Bool.and_eq_true] at h
      exact snd_ite (sndT t h.1.1 s.x tk) (sndSs a h.1.2 s tk) (sndSs b h.2 s tk)
    · cases h
  | .loop g it body, cm, X, W, sc, pr, st, h, s, tk => by
    unfold okS at h
    split at h
    · simp only [Bool.and_eq_true] at h
      obtain ⟨⟨⟨⟨h1, h2⟩, h3⟩, h4⟩, h5⟩ := h
      exact snd_loop (s.po h1) (s.x.calm h1) (sndI it h3 s.x tk) (snd_tg (s.x.calm h1) s.x.nd s.x.nm s.fnl h4) (sndSs body h5 s tk) (fold_of h2)
    · cases h
  | .loopv _ _ _ _, cm, X, W, sc, pr, st, h, s, tk => by
    unfold okS at h
    cases h
  | .whil n t body, cm, X, W, sc, pr, st, h, s, tk => by
    unfold okS at h
    split at h
    · simp only [Bool.and_eq_true] at h
      exact snd_while (s.po h.1.1) (sndT t h.1.2 s.x tk) (sndSs body h.2 s tk)
    · cases h
  | .raise k', cm, X, W, sc, pr, st, h, s, tk => by
    unfold okS at h
    split at h
    · simp only [Bool.and_eq_true, Bool.not_eq_true', decide_eq_true_eq] at h
      obtain ⟨⟨⟨h1, h2⟩, h3⟩, h4⟩ := h
      obtain ⟨A, a1, a2, a3, a4, a5, a6⟩ := s.exs _ _ h4
      exact snd_raise (s.x.calm h1) tk a1 (pmk_own PySem.F.excBase_ValueError a3 a2 a4 (raises_own a5 a6) (glOk s.x.scp h2) h3)
    · cases h
  | .tryx body k' hs, cm, X, W, sc, pr, st, h, s, tk => by
    unfold okS at h
    split at h
    · simp only [Bool.and_eq_true, Bool.not_eq_true', decide_eq_true_eq] at h
      obtain ⟨⟨⟨⟨⟨h1, h2⟩, h3⟩, h4⟩, h5⟩, h6⟩ := h
      obtain ⟨A, a1, a2, _⟩ := s.exs _ _ h4
      refine PS.imp (ps_try_only (c := cls k') (tb := fun W' => tS (EV X g0 C cls) W' pr (evSs C pr body)) (ts := fun _ _ _ => tS (EV X g0 C cls) WF pr (evSs C pr hs)) (s.stk h1) (s.frm h1) ⟨glOk s.x.scp h2, h3, .inl (by rw [a1]; exact a2)⟩ tk
        (fun W' pn xe tk' po => sndSs body h5 (X := X.tr pn xe) (s.tr po) tk') (fun a oe cl d pn _ _ => sndSs hs h6 (X := X.suite a ((a, oe) :: pn)) (W := WF) s.suite takes0)) fun D σ H q => tryx_imp (fun i b => s.exm i k' b) q
    · cases h
  | .tryy body k' hs k2 hs2, cm, X, W, sc, pr, st, h, s, tk => by
    unfold okS at h
    split at h
    · simp only [Bool.and_eq_true, Bool.not_eq_true', decide_eq_true_eq] at h
      obtain ⟨⟨⟨⟨⟨⟨⟨⟨⟨h1, h2⟩, h3⟩, h4⟩, h5⟩, h6⟩, h7⟩, h8⟩, h9⟩, h10⟩ := h
      obtain ⟨A, a1, a2, _⟩ := s.exs _ _ h4
      obtain ⟨B, b1, b2, _⟩ := s.exs _ _ h7
      refine PS.imp (ps_try_many (tb := fun W' => tS (EV X g0 C cls) W' pr (evSs C pr body)) (s.stk h1) (s.frm h1) tk
        (fun W' pn xe tk' po => sndSs body h8 (X := X.tr pn xe) (s.tr po) tk')
        (.cons (c := cls k') ⟨glOk s.x.scp h2, h3, .inl (by rw [a1]; exact a2)⟩ (ts := fun _ _ _ => tS (EV X g0 C cls) WF pr (evSs C pr hs)) (fun a oe cl d pn _ _ => sndSs hs h9 (X := X.suite a ((a, oe) :: pn)) (W := WF) s.suite takes0)
          (.cons (c := cls k2) ⟨glOk s.x.scp h5, h6, .inl (by rw [b1]; exact b2)⟩ (ts := fun _ _ _ => tS (EV X g0 C cls) WF pr (evSs C pr hs2)) (fun a oe cl d pn _ _ => sndSs hs2 h10 (X := X.suite a ((a, oe) :: pn)) (W := WF) s.suite takes0) .nil)))
        fun D σ H q => tryy_imp (fun i b => s.exm i k' b) (fun i b => s.exm i k2 b) q
    · cases h
  | .brk, cm, X, W, sc, pr, st, h, s, tk => by
    unfold okS at h
    split at h
    · exact snd_brk
    · cases h
  | .cnt, cm, X, W, sc, pr, st, h, s, tk => by
    unfold okS at h
    split at h
    · exact snd_cnt
    · cases h
  | .pass, cm, X, W, sc, pr, st, h, s, tk => by
    unfold okS at h
    split at h
    · exact snd_pass
    · cases h
theorem sndSs : ∀ (c : Sms) {cm : Bool} {X : Cx} {W : WX} {sc : Scope} {pr : List Nat} {st : List Stmt}, okSs Θ N cm sc c st = true → XS Θ N C cls k X sc cm → Takes X W → PSs X st (tS (EV X g0 C cls) W pr (evSs C pr c))
  | .nil, cm, X, W, sc, pr, st, h, s, tk => by
    cases st with
    | nil => exact snd_snil
    | cons _ _ => (unfold okSs at h; cases h)
  | .cons a r, cm, X, W, sc, pr, st, h, s, tk => by
    cases st with
    | nil => (unfold okSs at h; cases h)
    | cons st sts =>
      simp only [okSs, Bool.and_eq_true] at h
      exact snd_scons (sndS a h.1 s tk) (sndSs r h.2 s tk)
  | .kill is r, cm, X, W, sc, pr, st, h, s, tk => snd_kill (sndSs r (by simpa only [okSs] using h) s tk)
end
end
end Q1

set_option maxHeartbeats 8000000
/-! Q18: defs, the program, the law. -/
namespace Q1
open PySem PySem.Spec PyProof.Rows L2 PySem.SeqAt

theorem byRef_mem : ∀ {ms : List M} {k i : Nat} {m : M}, ms[i]? = some m → m.isOwn = true → k + i ∈ byRef k ms
  | [], _, _, _, h, _ => by simp at h
  | m' :: ms, k, 0, m, h, ow => by
    simp at h; subst h
    unfold byRef
    rw [if_pos ow]
    exact List.mem_cons_self
  | m' :: ms, k, i + 1, m, h, ow => by
    have q : (k + 1) + i ∈ byRef (k + 1) ms := byRef_mem (by simpa using h) ow
    have e : k + (i + 1) = (k + 1) + i := by omega
    unfold byRef
    split
    · rw [e]; exact List.mem_cons_of_mem _ q
    · rw [e]; exact q
/-- the protected slots -/
def pvOf (ms : List M) (vs : List V) : List (Nat × V) := (byRef 0 ms).filterMap fun i => (vs[i]?).map fun v => (i, v)
theorem pvOf_pr {ms : List M} {vs : List V} : ∀ q ∈ pvOf ms vs, q.1 ∈ byRef 0 ms := fun q hq => by
  obtain ⟨i, hi, e⟩ := List.mem_filterMap.mp hq
  obtain ⟨v, hv, e2⟩ := Option.map_eq_some_iff.mp e
  rw [← e2]; exact hi
theorem pvOf_get {ms : List M} {vs : List V} : ∀ q ∈ pvOf ms vs, vs[q.1]? = some q.2 := fun q hq => by
  obtain ⟨i, hi, e⟩ := List.mem_filterMap.mp hq
  obtain ⟨v, hv, e2⟩ := Option.map_eq_some_iff.mp e
  rw [← e2]; exact hv
theorem pvOf_mem {ms : List M} {vs : List V} {i : Nat} {m : M} {v : V} (h : ms[i]? = some m) (ow : m.isOwn = true) (e : vs[i]? = some v) : (i, v) ∈ pvOf ms vs :=
  List.mem_filterMap.mpr ⟨i, by have := byRef_mem (k := 0) h ow; simpa using this, by rw [e]; rfl⟩
theorem look_get : ∀ {e : En} {i : Nat} {m : M}, look e i = some m ↔ e[i]? = some (some m)
  | [], i, m => by cases i <;> simp [look]
  | x :: e, 0, m => by simp [look]
  | x :: e, i + 1, m => by simp [look, look_get (e := e)]
theorem look_take {e : En} {n i : Nat} {m : M} (h : look (e.take n) i = some m) : look e i = some m := by
  rw [look_get] at h ⊢
  rw [List.getElem?_take] at h
  split at h
  · exact h
  · cases h
theorem look_start {ms : List M} {n i : Nat} {m : M} (h : look (ms.map some ++ List.replicate n none) i = some m) : ms[i]? = some m := by
  rw [look_get, List.getElem?_append] at h
  split at h
  · rename_i q
    rw [List.getElem?_map] at h
    obtain ⟨x, e1, e2⟩ := Option.map_eq_some_iff.mp h
    cases e2; exact e1
  · rw [List.getElem?_replicate] at h
    split at h
    · cases h
    · cases h
theorem start_get {N : List Str} {vs : List V} {i : Nat} {v : V} (h : vs[i]? = some v) : (L2.start N vs)[i]? = some (some v) := by
  have hi : i < vs.length := (List.getElem?_eq_some_iff.mp h).1
  unfold L2.start
  rw [List.getElem?_append_left (by simpa using hi), List.getElem?_map, h]
  rfl
theorem start_inv {N : List Str} {vs : List V} {i : Nat} {v : V} (h : (L2.start N vs)[i]? = some (some v)) : vs[i]? = some v := by
  unfold L2.start at h
  rw [List.getElem?_append] at h
  split at h
  · rw [List.getElem?_map] at h
    obtain ⟨x, e1, e2⟩ := Option.map_eq_some_iff.mp h
    cases e2; exact e1
  · rw [List.getElem?_replicate] at h
    split at h
    · cases h
    · cases h
section
variable {K : PySem.W.Frag} {F H : Hp} {ms : List M} {vs : List V} {N : List Str} {n : Nat}
/-- the state at a def's entry -/
theorem Inn.sim (I : Inn K F H ms vs) (hn : ms.length + n = N.length) : Sim K ⟨F, H, ownA ms vs⟩ (pvOf ms vs) F (ms.map some ++ List.replicate n none) (L2.start N vs) H where
  fh := I.fh
  f0 := Ext.refl
  fn := fun a h => .inl h
  fr := fun a o e _ => e
  rep := fun i m h => by
    have e := look_start h
    have hi : i < vs.length := by rw [← I.len]; exact (List.getElem?_eq_some_iff.mp e).1
    have ev : vs[i]? = some vs[i] := by simp [hi]
    exact ⟨_, start_get ev, I.rep i m _ e ev⟩
  dis := fun i j m m' v n h1 h2 o1 o2 e1 e2 => I.dis i j m m' v n (look_start h1) (look_start h2) o1 o2 (start_inv e1) (start_inv e2)
  new := fun i m a h ow e => .inl ⟨i, m, look_start h, ow, start_inv e⟩
  prot := fun q hq => start_get (pvOf_get q hq)
  len := by
    unfold L2.start
    simp only [List.length_append, List.length_map, List.length_replicate]
    have := I.len
    omega
/-- .. at its end -/
theorem Sim.out {F' H' : Hp} {e : En} {σ : St} {p : Nat} (I : Inn K F H ms vs) (S : Sim K ⟨F, H, ownA ms vs⟩ (pvOf ms vs) F' e σ H') : Out K F H ms vs (e.take p) F' H' where
  x := S.f0
  fh := S.fh
  fn := fun a h => by
    rcases S.fn a h with q | q | q
    · exact .inl q
    · exact .inr (.inl q)
    · exact .inr (.inr q)
  fr := S.fr
  rep := fun i m m' h ow l => by
    obtain ⟨v, e1, r⟩ := S.rep i m' (look_take l)
    have hi : i < vs.length := by rw [← I.len]; exact (List.getElem?_eq_some_iff.mp h).1
    have ev : vs[i]? = some vs[i] := by simp [hi]
    have e2 : σ[i]? = some (some vs[i]) := S.prot _ (pvOf_mem h ow ev)
    rw [e2] at e1; cases e1
    exact ⟨_, ev, r⟩
theorem Sim.outV {F' H' : Hp} {e : En} {σ : St} {p : Nat} {m : M} {v : V} (S : Sim K ⟨F, H, ownA ms vs⟩ (pvOf ms vs) F' e σ H') (r : RepM K F' H' m v) (f : m.isOwn = true → Fresh ⟨F, H, ownA ms vs⟩ e σ v) : OutV K H ms vs (e.take p) F' H' m v where
  rep := r
  dis := fun ow i m0 m' h o0 l o' ev => (f ow).1 i m' (look_take l) o' (S.prot _ (pvOf_mem h o0 ev))
  new := fun ow a ea => (f ow).2 a ea
end
/-- what the written part says around a def -/
structure Wor (Θ : Txt) (sub : Nat → Nat → Option Bool) (cls : Nat → Value) (K : PySem.W.Frag) (mg : Str → Option Value) : Prop where
  cst : ∀ p ∈ Θ.cst, ∃ u v, mg p.1 = some u ∧ RelV v u ∧ Rep K (fun _ => none) p.2 v
  blt : ∀ x ∈ bltNames, mg x = none
  exs : ∀ (i : Nat) (y : Str), Θ.excs[i]? = some y → ∃ A, cls i = .ref A ∧ mg y = some (.ref A) ∧ PySem.W.excIn K A veBases "ValueError.__new__" = true ∧ PySem.W.keepIn K (.ref A) = true ∧
    PySem.W.subIn K (.ref A) (.type "BaseException") = some true ∧ PySem.W.typeIn K (.ref A) = some (.type "type")
  exm : ∀ i j b, sub i j = some b → PySem.W.exmOne K (cls i) (cls j) = some b
section
variable {Pr : Program} {w : World} {K : PySem.W.Frag} {mg : Str → Option Value} {base : Heap} {Θ : Txt} {N ps : List Str} {P : Pg} {sub : Nat → Nat → Option Bool} {cls : Nat → Value} {k f : Nat} {d : FD} {x qual : Str} {st : Stmt} {fa : Addr} {fd : FuncData}
theorem fn_zero {j : Nat} : FnOk Pr w K mg base (L2.CX Pr w) j fa fd ps (spF K cls (run P sub 0 f)) :=
  ⟨fun vs H Q E ⟨_, _, _, h⟩ => by unfold run at h; exact h.elim, fun A outer s H args us vs Q E _ _ _ _ ⟨_, _, _, h⟩ => by unfold run at h; exact h.elim⟩
theorem fn_ok (Fn : Fun K x qual st fa fd) (S : FnScope N ps (defScope st)) (hd : P f = some d) (hp : d.pars = ps.length) (hs : d.slots = N.length) (ok : okSs Θ N true (defScope st) d.body (defBody st) = true) (Wo : Wor Θ sub cls K mg)
    (fns : ∀ (i : Nat) (y : Str), Θ.fns[i]? = some y → ∃ f fd ps, mg y = some (.ref f) ∧ PySem.W.keepIn K (.ref f) = true ∧ Binds K fd ps [] ∧ FnOk Pr w K mg base (L2.CX Pr w) k f fd ps (spF K cls (run P sub k i))) :
    FnOk Pr w K mg base (L2.CX Pr w) (k + 1) fa fd ps (spF K cls (run P sub (k + 1) f)) := by
  have len0 : ∀ {ms : List M} {vs : List V} {F H : Hp}, Inn K F H ms vs → ms.length = d.pars → vs.length = ps.length := fun I e => by rw [← I.len, e, hp]
  have hpre : ps.length ≤ N.length := by
    have := congrArg List.length S.pre
    rw [List.length_take] at this
    omega
  refine Fn.okX S (fun vs H Q E ⟨F, ms, I, h⟩ => ?_) fun cdv A outer s H vs Q E hr ⟨F, ms, I, h⟩ => ?_
  · unfold run at h
    rw [hd] at h
    by_cases e : ms.length = d.pars
    · exact len0 I e
    · simp only [if_neg e] at h
  · unfold run at h
    rw [hd] at h
    by_cases e : ms.length = d.pars
    · simp only [if_pos e] at h
      refine ⟨tS (EV (cxOf (L2.CX Pr w) Pr w K mg base N qual (defScope st) fa cdv A outer s H E) g0 ⟨run P sub k, sub⟩ cls) (fun c d _ H => E c d H) (byRef 0 ms) (evSs ⟨run P sub k, sub⟩ (byRef 0 ms) d.body),
        sndSs d.body (C := ⟨run P sub k, sub⟩) (cls := cls) (k := k) (sc := defScope st) ok ⟨⟨rfl, S.nd, rfl, fun _ => rfl, fun _ => hr, by have := hr.un; show (A.deeper _).units + 65 < cLine; omega, Wo.cst, fns, Wo.blt⟩, fun y hy => ⟨locOk hy, .inl rfl⟩, S.kind, fun _ => passes_of rfl, fun _ => rfl, fun _ => rfl, Wo.exs, Wo.exm⟩ (takes_of rfl rfl rfl rfl), ?_⟩
      refine ⟨⟨F, H, ownA ms vs⟩, pvOf ms vs, F, _, I.sim (n := d.slots - d.pars) (by omega), pvOf_pr, ?_⟩
      cases r : evSs ⟨run P sub k, sub⟩ (byRef 0 ms) d.body (ms.map some ++ List.replicate (d.slots - d.pars) none) with
      | bad => rw [r] at h; exact h.elim
      | exc c e1 =>
        rw [r] at h
        exact fun σ' F' H' S' _ => h F' H' (S'.out I)
      | ok fl e1 =>
        rw [r] at h
        cases fl with
        | nx => exact fun σ' F' H' S' _ => h .non F' H' (S'.out I) (S'.outV (m := .p .none) rfl fun z => by cases z)
        | bk => exact h.elim
        | ct => exact h.elim
        | rt m => exact fun v σ' F' H' S' _ rm fr => h v F' H' (S'.out I) (S'.outV rm fr)
    · simp only [if_neg e] at h
end
/-! ### the program -/
structure Row where
  x : Str
  st : Stmt
  N : List Str
  np : Nat
  body : Sms
def Row.ps (r : Row) : List Str := r.N.take r.np
def scopeOk (N P : List Str) (sc : Scope) : Bool :=
  decide (sc.kind = .function) && !sc.isCoroutine && !sc.isGenerator && decide N.Nodup && decide (N.take P.length = P) && P.all (fun x => sc.names.lookup x == some .local || sc.names.lookup x == some .cell) && sc.names.all fun y => !(y.2 == .free)
theorem scopeOk_is {N P : List Str} {sc : Scope} (h : scopeOk N P sc = true) : FnScope N P sc := by
  unfold scopeOk at h
  simp only [Bool.and_eq_true, decide_eq_true_eq, Bool.not_eq_true', List.all_eq_true, Bool.or_eq_true] at h
  obtain ⟨⟨⟨⟨⟨⟨h1, h2⟩, h3⟩, h4⟩, h5⟩, h6⟩, h7⟩ := h
  refine ⟨h1, h2, h3, h4, h5, fun x hx => ?_, fun y hy e => ?_⟩
  · rcases h6 x hx with q | q
    · exact .inl (eq_of_beq q)
    · exact .inr (eq_of_beq q)
  · have := h7 y hy
    rw [e] at this
    exact absurd this (by decide)
def rowOk (Θ : Txt) (r : Row) : Bool := decide (r.np ≤ r.N.length) && scopeOk r.N r.ps (defScope r.st) && okSs Θ r.N true (defScope r.st) r.body (defBody r.st)
def pgOf (rows : List Row) : Pg := fun i => (rows[i]?).map fun r => ⟨r.N.length, r.np, r.body⟩
structure Fns (K : PySem.W.Frag) (mg : Str → Option Value) (r : Row) (fa : Addr) (fd : FuncData) : Prop where
  g : mg r.x = some (.ref fa)
  f : Fun K r.x r.x r.st fa fd
  b : Binds K fd r.ps []
section
variable {Pr : Program} {w : World} {K : PySem.W.Frag} {mg : Str → Option Value} {base : Heap} {Θ : Txt} {sub : Nat → Nat → Option Bool} {cls : Nat → Value} {rows : List Row}
theorem all_ok (hx : Θ.fns = rows.map Row.x) (hrows : ∀ r ∈ rows, rowOk Θ r = true) (Wo : Wor Θ sub cls K mg) (Fs : ∀ r ∈ rows, ∃ fa fd, Fns K mg r fa fd) : ∀ (k i : Nat) (r : Row) (fa : Addr) (fd : FuncData), rows[i]? = some r → Fns K mg r fa fd →
    FnOk Pr w K mg base (L2.CX Pr w) k fa fd r.ps (spF K cls (run (pgOf rows) sub k i))
  | 0, _, _, _, _, _, _ => fn_zero
  | k + 1, i, r, fa, fd, e, T => by
    have ro := hrows r (List.mem_of_getElem? e)
    unfold rowOk at ro
    simp only [Bool.and_eq_true, decide_eq_true_eq] at ro
    refine fn_ok (d := ⟨r.N.length, r.np, r.body⟩) T.f (scopeOk_is ro.1.2) (by unfold pgOf; rw [e]; rfl) (by unfold Row.ps; rw [List.length_take]; exact (Nat.min_eq_left ro.1.1).symm) rfl ro.2 Wo fun j y hj => ?_
    rw [hx, List.getElem?_map] at hj
    obtain ⟨r2, e2, rfl⟩ := Option.map_eq_some_iff.mp hj
    obtain ⟨f2, fd2, T2⟩ := Fs r2 (List.mem_of_getElem? e2)
    exact ⟨f2, fd2, r2.ps, T2.g, T2.f.kp, T2.b, all_ok hx hrows Wo Fs k j r2 f2 fd2 e2 T2⟩
end
/-- a list of ints as it is handed in -/
theorem reps_ints {K : PySem.W.Frag} {F : Hp} : ∀ (ns : List Int), Reps K F (ns.map .int) (ns.map V.int)
  | [] => rfl
  | n :: ns => ⟨_, _, rfl, rfl, reps_ints ns⟩
theorem law_sp {K : PySem.W.Frag} {cls : Nat → Value} {g : List M → Res M} {H : Hp} {a : Addr} {ns : List Int} (h : ∃ r, g [.p (.list (ns.map .int))] = .ok (.p (.bool true)) r) (s : SqL K H a (ns.map V.int)) :
    spF K cls g [.ref a] H (fun v _ => v = .bl true) fun _ _ _ => False := by
  obtain ⟨r, e⟩ := h
  refine ⟨H, [.p (.list (ns.map .int))], ⟨Ext.refl, rfl, fun i m v e1 e2 => ?_, fun i j m m' v n e1 e2 o1 o2 v1 v2 => ?_⟩, ?_⟩
  · cases i with
    | zero => simp at e1 e2; subst e1 e2; exact ⟨a, _, rfl, s, reps_ints ns⟩
    | succ i => simp at e1
  · cases i with
    | zero => simp at e1; subst e1; cases o1
    | succ i => simp at e1
  · rw [e]
    exact fun v F' H' _ V => V.rep
end Q1
namespace Q1
open PySem PySem.Spec PyProof.Rows L2
theorem no_exc {P : Program} {w : World} {o : List Env} {H : Hp} {s s' : Shared} {e : Value} (h : L2.CX P w o H s (fun _ _ _ => False) e s') : False := by
  obtain ⟨_, _, _, _, _, _, _, _, _, _, _, _, z⟩ := h
  exact z.elim
end Q1
namespace Q1
open PySem PySem.Spec PyProof.Rows L2
theorem exm_of {K : PySem.W.Frag} {S R : Addr} {b : Bool} (h1 : PySem.W.subIn K (.ref S) (.type "BaseException") = some true) (h2 : PySem.W.isClsIn K S = true) (h3 : PySem.W.typeIn K (.ref S) = some (.type "type")) (h4 : PySem.W.subIn K (.ref R) (.ref S) = some b) :
    PySem.W.exmOne K (.ref R) (.ref S) = some b := by
  have e1 : (PySem.W.subIn K (.ref S) (.type "BaseException") == some true) = true := by rw [h1] <;> rfl
  have e2 : ((PySem.W.clsIn K S).isSome && PySem.W.typeIn K (.ref S) == some (.type "type")) = true := by
    have h2' : (PySem.W.clsIn K S).isSome = true := h2
    rw [h2', h3] <;> rfl
  show (if (PySem.W.subIn K (.ref S) (.type "BaseException") == some true) = true then (if ((PySem.W.clsIn K S).isSome && PySem.W.typeIn K (.ref S) == some (.type "type")) = true then PySem.W.subIn K (.ref R) (.ref S) else none) else none) = some b
  rw [if_pos e1, if_pos e2]
  exact h4
end Q1

/-! M1: running the evaluator. -/
namespace Q1
open PySem
@[simp] theorem toD_p (d : D) : (M.p d).toD = d := rfl
@[simp] theorem toD_ol (xs : List D) : (M.ol xs).toD = .list xs := rfl
@[simp] theorem toD_od (t : Bool) (kvs : List (D × D)) : (M.od t kvs).toD = .dict kvs := rfl
@[simp] theorem isOwn_p (d : D) : (M.p d).isOwn = false := rfl
@[simp] theorem isOwn_ol (xs : List D) : (M.ol xs).isOwn = true := rfl
@[simp] theorem isOwn_od (t : Bool) (kvs : List (D × D)) : (M.od t kvs).isOwn = true := rfl
@[simp] theorem bind_m {α β : Type} {r : Res α} {f : α → En → Res β} : r.bind f = (match r with | .ok a e => f a e | .exc c e => .exc c e | .bad => .bad) := by cases r <;> rfl
@[simp] theorem look_q1 : type_of% @look.eq_1 := @look.eq_1
@[simp] theorem look_q2 : type_of% @look.eq_2 := @look.eq_2
@[simp] theorem look_q3 : type_of% @look.eq_3 := @look.eq_3
@[simp] theorem put_q1 : type_of% @put.eq_1 := @put.eq_1
@[simp] theorem put_q2 : type_of% @put.eq_2 := @put.eq_2
@[simp] theorem put_q3 : type_of% @put.eq_3 := @put.eq_3
@[simp] theorem kills_q1 : type_of% @kills.eq_1 := @kills.eq_1
@[simp] theorem kills_q2 : type_of% @kills.eq_2 := @kills.eq_2
@[simp] theorem fetch_q1 : type_of% @fetch.eq_1 := @fetch.eq_1
@[simp] theorem fetch_q2 : type_of% @fetch.eq_2 := @fetch.eq_2
@[simp] theorem fetchM_q1 : type_of% @fetchM.eq_1 := @fetchM.eq_1
@[simp] theorem fetchM_q2 : type_of% @fetchM.eq_2 := @fetchM.eq_2
@[simp] theorem fetchs_q1 : type_of% @fetchs.eq_1 := @fetchs.eq_1
@[simp] theorem fetchs_q2 : type_of% @fetchs.eq_2 := @fetchs.eq_2
@[simp] theorem fetchMs_q1 : type_of% @fetchMs.eq_1 := @fetchMs.eq_1
@[simp] theorem fetchMs_q2 : type_of% @fetchMs.eq_2 := @fetchMs.eq_2
@[simp] theorem vals_q1 : type_of% @vals.eq_1 := @vals.eq_1
@[simp] theorem vals_q2 : type_of% @vals.eq_2 := @vals.eq_2
@[simp] theorem vals_q3 : type_of% @vals.eq_3 := @vals.eq_3
@[simp] theorem outs_q1 : type_of% @outs.eq_1 := @outs.eq_1
@[simp] theorem outs_q2 : type_of% @outs.eq_2 := @outs.eq_2
@[simp] theorem outs_q3 : type_of% @outs.eq_3 := @outs.eq_3
@[simp] theorem ofO_q1 : type_of% @ofO.eq_1 := @ofO.eq_1
@[simp] theorem ofO_q2 : type_of% @ofO.eq_2 := @ofO.eq_2
@[simp] theorem noExc_q1 : type_of% @noExc.eq_1 := @noExc.eq_1
@[simp] theorem noExc_q2 : type_of% @noExc.eq_2 := @noExc.eq_2
@[simp] theorem lates_q1 : type_of% @lates.eq_1 := @lates.eq_1
@[simp] theorem lates_q2 : type_of% @lates.eq_2 := @lates.eq_2
@[simp] theorem lates_q3 : type_of% @lates.eq_3 := @lates.eq_3
@[simp] theorem dup_q1 : type_of% @dup.eq_1 := @dup.eq_1
@[simp] theorem dup_q2 : type_of% @dup.eq_2 := @dup.eq_2
@[simp] theorem retM_q1 : type_of% @retM.eq_1 := @retM.eq_1
@[simp] theorem isDictM_q1 : type_of% @isDictM.eq_1 := @isDictM.eq_1
@[simp] theorem isDictM_q2 : type_of% @isDictM.eq_2 := @isDictM.eq_2
@[simp] theorem isDictM_q3 : type_of% @isDictM.eq_3 := @isDictM.eq_3
@[simp] theorem tgSlots_q1 : type_of% @tgSlots.eq_1 := @tgSlots.eq_1
@[simp] theorem tgSlots_q2 : type_of% @tgSlots.eq_2 := @tgSlots.eq_2
section
variable {r : En → Res M} {env : En}
@[simp] theorem opd_rf {i : Nat} : opd (.rf i) r env = match look env i with | some _ => .ok (.late i) env | none => .bad := rfl
@[simp] theorem opd_var {i : Nat} : opd (.var i) r env = (r env).bind fun m e => .ok (.val m.toD) e := rfl
@[simp] theorem opd_lit {d : D} : opd (.lit d) r env = (r env).bind fun m e => .ok (.val m.toD) e := rfl
@[simp] theorem opd_glob {x : Str} {d : D} : opd (.glob x d) r env = (r env).bind fun m e => .ok (.val m.toD) e := rfl
@[simp] theorem opd_bin {op : Bop} {a b : Ex} : opd (.bin op a b) r env = (r env).bind fun m e => .ok (.val m.toD) e := rfl
@[simp] theorem opd_neg {a : Ex} : opd (.neg a) r env = (r env).bind fun m e => .ok (.val m.toD) e := rfl
@[simp] theorem opd_tv {t : Tx} : opd (.tv t) r env = (r env).bind fun m e => .ok (.val m.toD) e := rfl
@[simp] theorem opd_ifx {t : Tx} {a b : Ex} : opd (.ifx t a b) r env = (r env).bind fun m e => .ok (.val m.toD) e := rfl
@[simp] theorem opd_call {f : Nat} {as : Exs} : opd (.call f as) r env = (r env).bind fun m e => .ok (.val m.toD) e := rfl
@[simp] theorem opd_bi {b : Bi} {as : Exs} : opd (.bi b as) r env = (r env).bind fun m e => .ok (.val m.toD) e := rfl
@[simp] theorem opd_met {m : Mt} {o : Ex} {as : Exs} : opd (.met m o as) r env = (r env).bind fun m e => .ok (.val m.toD) e := rfl
@[simp] theorem opd_ix {a i : Ex} : opd (.ix a i) r env = (r env).bind fun m e => .ok (.val m.toD) e := rfl
@[simp] theorem opd_dget {a b : Ex} : opd (.dget a b) r env = (r env).bind fun m e => .ok (.val m.toD) e := rfl
@[simp] theorem opd_dgm1 {a b : Ex} : opd (.dgm1 a b) r env = (r env).bind fun m e => .ok (.val m.toD) e := rfl
@[simp] theorem opd_dgm2 {a b c : Ex} : opd (.dgm2 a b c) r env = (r env).bind fun m e => .ok (.val m.toD) e := rfl
@[simp] theorem opd_sl {a : Ex} {l h : Ox} : opd (.sl a l h) r env = (r env).bind fun m e => .ok (.val m.toD) e := rfl
@[simp] theorem opd_rev {a : Ex} : opd (.rev a) r env = (r env).bind fun m e => .ok (.val m.toD) e := rfl
@[simp] theorem opd_tup {es : Exs} : opd (.tup es) r env = (r env).bind fun m e => .ok (.val m.toD) e := rfl
@[simp] theorem opd_lst {es : Exs} : opd (.lst es) r env = (r env).bind fun m e => .ok (.val m.toD) e := rfl
@[simp] theorem opd_rep {es : Exs} {b : Ex} : opd (.rep es b) r env = (r env).bind fun m e => .ok (.val m.toD) e := rfl
@[simp] theorem opd_rep2 {a b : Ex} : opd (.rep2 a b) r env = (r env).bind fun m e => .ok (.val m.toD) e := rfl
@[simp] theorem opd_rgl {es : Exs} : opd (.rgl es) r env = (r env).bind fun m e => .ok (.val m.toD) e := rfl
@[simp] theorem opd_rgt {es : Exs} : opd (.rgt es) r env = (r env).bind fun m e => .ok (.val m.toD) e := rfl
@[simp] theorem opd_pop {i : Nat} : opd (.pop i) r env = (r env).bind fun m e => .ok (.val m.toD) e := rfl
@[simp] theorem opd_popi {i : Nat} {a : Ex} : opd (.popi i a) r env = (r env).bind fun m e => .ok (.val m.toD) e := rfl
@[simp] theorem opd_sset {a : Ex} : opd (.sset a) r env = (r env).bind fun m e => .ok (.val m.toD) e := rfl
@[simp] theorem opd_lset {a : Ex} : opd (.lset a) r env = (r env).bind fun m e => .ok (.val m.toD) e := rfl
@[simp] theorem opd_dict0 {t : Bool} : opd (.dict0 t) r env = (r env).bind fun m e => .ok (.val m.toD) e := rfl
@[simp] theorem opd_comp {o : List Nat} {g : Tg} {i : Itx} {c : Tx} {e : Ex} : opd (.comp o g i c e) r env = (r env).bind fun m e => .ok (.val m.toD) e := rfl
end
@[simp] theorem evX_var {C : PC} {i : Nat} {env : En} : evX C (.var i) env = match look env i with
    | some (.p d) => .ok (.p d) env
    | some m => .ok (.p m.toD) (put env i (some (.p m.toD)))
    | none => .bad := by (rw [evX]; try rfl)
@[simp] theorem evX_rf {C : PC} {i : Nat} {env : En} : evX C (.rf i) env = match look env i with
    | some (.p d) => .ok (.p d) env
    | some m => .ok m (put env i none)
    | none => .bad := by (rw [evX]; try rfl)
@[simp] theorem evX_lit {C : PC} {d : D} {env : En} : evX C (.lit d) env = .ok (.p d) env := by (rw [evX]; try rfl)
@[simp] theorem evX_glob {C : PC} {u0 : Str} {d : D} {env : En} : evX C (.glob u0 d) env = .ok (.p d) env := by (rw [evX]; try rfl)
@[simp] theorem evX_bin {C : PC} {op : Bop} {a : Ex} {b : Ex} {env : En} : evX C (.bin op a b) env = (opd a (evX C a) env).bind fun x e1 => (opd b (evX C b) e1).bind fun y e2 =>
      ofO ((fetch e2 x).bind fun dx => (fetch e2 y).bind fun dy => binO op dx dy) e2 := by (rw [evX]; try rfl)
@[simp] theorem evX_neg {C : PC} {a : Ex} {env : En} : evX C (.neg a) env = (evX C a env).bind fun m e1 => match m.toD with
    | .int i => .ok (.p (.int (-i))) e1
    | _ => .bad := by (rw [evX]; try rfl)
@[simp] theorem evX_tv {C : PC} {t : Tx} {env : En} : evX C (.tv t) env = (evT C t env).bind fun b e1 => .ok (.p (.bool b)) e1 := by (rw [evX]; try rfl)
@[simp] theorem evX_ifx {C : PC} {t : Tx} {a : Ex} {b : Ex} {env : En} : evX C (.ifx t a b) env = (evT C t env).bind fun c e1 => if c then evX C a e1 else evX C b e1 := by (rw [evX]; try rfl)
@[simp] theorem evX_call {C : PC} {f : Nat} {as : Exs} {env : En} : evX C (.call f as) env = (evOs C as env).bind fun os e1 => match fetchMs e1 os with
    | some ms => if dup (lates os) then .bad else match C.call f ms with
      | .ok m r => .ok m (outs e1 os r)
      | .exc c r => .exc c (outs e1 os r)
      | .bad => .bad
    | none => .bad := by (rw [evX]; try rfl)
@[simp] theorem opsOf_len {e : En} {os : List Opd} : opsOf .len e os = fetchs e os := rfl
@[simp] theorem opsOf_abs {e : En} {os : List Opd} : opsOf .abs e os = fetchs e os := rfl
@[simp] theorem opsOf_min2 {e : En} {os : List Opd} : opsOf .min2 e os = fetchs e os := rfl
@[simp] theorem opsOf_max2 {e : En} {os : List Opd} : opsOf .max2 e os = fetchs e os := rfl
@[simp] theorem opsOf_minl {e : En} {os : List Opd} : opsOf .minl e os = fetchs e os := rfl
@[simp] theorem opsOf_maxl {e : En} {os : List Opd} : opsOf .maxl e os = fetchs e os := rfl
@[simp] theorem opsOf_list {e : En} {os : List Opd} : opsOf .list e os = fetchs e os := rfl
@[simp] theorem opsOf_tuple {e : En} {os : List Opd} : opsOf .tuple e os = fetchs e os := rfl
@[simp] theorem opsOf_sorted {e : En} {os : List Opd} : opsOf .sorted e os = fetchs e os := rfl
@[simp] theorem opsOf_sum {e : En} {os : List Opd} : opsOf .sum e os = fetchs e os := rfl
@[simp] theorem opsOf_str {e : En} {os : List Opd} : opsOf .str e os = fetchs e os := rfl
@[simp] theorem opsOf_int {e : En} {os : List Opd} : opsOf .int e os = fetchs e os := rfl
@[simp] theorem opsOf_isInt {e : En} {os : List Opd} : opsOf .isInt e os = fetchs e os := rfl
@[simp] theorem opsOf_isBool {e : En} {os : List Opd} : opsOf .isBool e os = fetchs e os := rfl
@[simp] theorem opsOf_isStr {e : En} {os : List Opd} : opsOf .isStr e os = fetchs e os := rfl
@[simp] theorem opsOf_isList {e : En} {os : List Opd} : opsOf .isList e os = fetchs e os := rfl
@[simp] theorem opsOf_isTuple {e : En} {os : List Opd} : opsOf .isTuple e os = fetchs e os := rfl
@[simp] theorem opsOf_isDict {e : En} {os : List Opd} : opsOf .isDict e os = fetchs e os := rfl
@[simp] theorem opsOf_min2d {e : En} {os : List Opd} : opsOf .min2d e os = vals os := rfl
@[simp] theorem evX_bi {C : PC} {b : Bi} {as : Exs} {env : En} : evX C (.bi b as) env = (evOs C as env).bind fun os e1 => ofO ((opsOf b e1 os).bind (biO b)) e1 := by (rw [evX]; try rfl)
@[simp] theorem evX_met {C : PC} {m : Mt} {o : Ex} {as : Exs} {env : En} : evX C (.met m o as) env = (evX C o env).bind fun x e1 => if recvOk m x.toD then (evOs C as e1).bind fun os e2 => ofO ((fetchs e2 os).bind (metO m x.toD)) e2 else .bad := by (rw [evX]; try rfl)
@[simp] theorem evX_rgl {C : PC} {es : Exs} {env : En} : evX C (.rgl es) env = (evOs C es env).bind fun os e1 => ofO (((fetchs e1 os).bind rangeO).map M.ol) e1 := by (rw [evX]; try rfl)
@[simp] theorem evX_rgt {C : PC} {es : Exs} {env : En} : evX C (.rgt es) env = (evOs C es env).bind fun os e1 => ofO (((fetchs e1 os).bind rangeO).map fun xs => M.p (.tuple xs)) e1 := by (rw [evX]; try rfl)
@[simp] theorem evX_pop {C : PC} {i : Nat} {env : En} : evX C (.pop i) env = match look env i with
    | some (.ol xs) => (match xs[xs.length - 1]? with
      | some d => .ok (.p d) (put env i (some (.ol xs.dropLast)))
      | none => .bad)
    | _ => .bad := by (rw [evX]; try rfl)
@[simp] theorem evX_popi {C : PC} {i : Nat} {k : Ex} {env : En} : evX C (.popi i k) env = match look env i with
    | some (.ol _) => (evX C k env).bind fun m e1 => (ofO (popO (look e1 i) m.toD) e1).bind fun r e2 => .ok (.p r.1) (put e2 i (some (.ol r.2)))
    | _ => .bad := by (rw [evX]; try rfl)
@[simp] theorem popO_q1 : type_of% @popO.eq_1 := @popO.eq_1
@[simp] theorem strsOf_q1 : type_of% @strsOf.eq_1 := @strsOf.eq_1
@[simp] theorem strsOf_q2 : type_of% @strsOf.eq_2 := @strsOf.eq_2
@[simp] theorem recvOk_q1 : type_of% @recvOk.eq_1 := @recvOk.eq_1
@[simp] theorem recvOk_q2 : type_of% @recvOk.eq_2 := @recvOk.eq_2
@[simp] theorem recvOk_q3 : type_of% @recvOk.eq_3 := @recvOk.eq_3
@[simp] theorem recvOk_q4 : type_of% @recvOk.eq_4 := @recvOk.eq_4
@[simp] theorem metO_q4 : type_of% @metO.eq_4 := @metO.eq_4
@[simp] theorem biO_str {i : Int} : biO .str [.int i] = @ite _ (i.natAbs.log2 < 1920) (Classical.propDecidable _) (some (.p (.str (toString i)))) none := by rw [biO]
@[simp] theorem evX_sset {C : PC} {a : Ex} {env : En} : evX C (.sset a) env = (evX C a env).bind fun m e1 => ofO (ssetO m.toD) e1 := by (rw [evX]; try rfl)
@[simp] theorem evX_lset {C : PC} {a : Ex} {env : En} : evX C (.lset a) env = (evX C a env).bind fun m e1 => ofO (lsetO m.toD) e1 := by (rw [evX]; try rfl)
@[simp] theorem evX_ix {C : PC} {a : Ex} {i : Ex} {env : En} : evX C (.ix a i) env = (opd a (evX C a) env).bind fun x e1 => (opd i (evX C i) e1).bind fun y e2 =>
      ofO ((fetch e2 x).bind fun dx => (fetch e2 y).bind fun dy => (ixO dx dy).map M.p) e2 := by (rw [evX]; try rfl)
@[simp] theorem evX_dget {C : PC} {d : Ex} {k : Ex} {env : En} : evX C (.dget d k) env = (opd d (evX C d) env).bind fun x e1 => (opd k (evX C k) e1).bind fun y e2 =>
      ofO ((fetchM e2 x).bind fun dm => (fetch e2 y).bind fun dk => (dgetO dm dk).bind fun r => r.map M.p) e2 := by (rw [evX]; try rfl)
@[simp] theorem evX_dgm1 {C : PC} {d : Ex} {k : Ex} {env : En} : evX C (.dgm1 d k) env = (opd d (evX C d) env).bind fun x e1 => if isDictM (fetchM e1 x) then (opd k (evX C k) e1).bind fun y e2 =>
      ofO ((fetchM e2 x).bind fun dm => (fetch e2 y).bind fun dk => (dgetO dm dk).map fun r => .p (r.getD .none)) e2 else .bad := by (rw [evX]; try rfl)
@[simp] theorem evX_dgm2 {C : PC} {d : Ex} {k : Ex} {z : Ex} {env : En} : evX C (.dgm2 d k z) env = (opd d (evX C d) env).bind fun x e1 => if isDictM (fetchM e1 x) then (opd k (evX C k) e1).bind fun y e2 => (evX C z e2).bind fun zm e3 =>
      ofO ((fetchM e3 x).bind fun dm => (fetch e3 y).bind fun dk => (dgetO dm dk).map fun r => .p (r.getD zm.toD)) e3 else .bad := by (rw [evX]; try rfl)
@[simp] theorem evX_sl {C : PC} {a : Ex} {lo : Ox} {hi : Ox} {env : En} : evX C (.sl a lo hi) env = (opd a (evX C a) env).bind fun x e1 => (evO C lo e1).bind fun l e2 => (evO C hi e2).bind fun h e3 =>
      ofO ((fetch e3 x).bind fun dx => slO dx l h) e3 := by (rw [evX]; try rfl)
@[simp] theorem evX_rev {C : PC} {a : Ex} {env : En} : evX C (.rev a) env = (evX C a env).bind fun m e1 => ofO (revO m.toD) e1 := by (rw [evX]; try rfl)
@[simp] theorem evX_tup {C : PC} {es : Exs} {env : En} : evX C (.tup es) env = (evOs C es env).bind fun os e1 => ofO ((vals os).bind fun ds => @ite _ (ds.length ≤ sizeLine) (Classical.propDecidable _) (some (.p (.tuple ds))) none) e1 := by (rw [evX]; try rfl)
@[simp] theorem evX_lst {C : PC} {es : Exs} {env : En} : evX C (.lst es) env = (evOs C es env).bind fun os e1 => ofO ((vals os).bind fun ds => @ite _ (ds.length ≤ sizeLine) (Classical.propDecidable _) (some (.ol ds)) none) e1 := by (rw [evX]; try rfl)
@[simp] theorem evX_rep {C : PC} {es : Exs} {b : Ex} {env : En} : evX C (.rep es b) env = (evOs C es env).bind fun os e1 => (ofO ((vals os).bind fun ds => @ite _ (ds.length ≤ sizeLine) (Classical.propDecidable _) (some ds) none) e1).bind fun ds e2 => (evX C b e2).bind fun m e3 => ofO (match m.toD with
      | .int k => @ite _ ((-(2 ^ 63) ≤ k ∧ k < 2 ^ 63) ∧ ds.length * k.toNat ≤ sizeLine) (Classical.propDecidable _) (some (.ol (List.replicate k.toNat ds).flatten)) none
      | _ => none) e3 := by (rw [evX]; try rfl)
@[simp] theorem evX_rep2 {C : PC} {a : Ex} {b : Ex} {env : En} : evX C (.rep2 a b) env = (evX C a env).bind fun m0 e1 => match m0 with
    | .ol ds => (evX C b e1).bind fun m e2 => ofO (match m.toD with
      | .int k => @ite _ ((-(2 ^ 63) ≤ k ∧ k < 2 ^ 63) ∧ ds.length * k.toNat ≤ sizeLine) (Classical.propDecidable _) (some (.ol (List.replicate k.toNat ds).flatten)) none
      | _ => none) e2
    | _ => .bad := by (rw [evX]; try rfl)
@[simp] theorem evX_dict0 {C : PC} {t : Bool} {env : En} : evX C (.dict0 t) env = .ok (.od t []) env := by (rw [evX]; try rfl)
@[simp] theorem evX_comp {C : PC} {own : List Nat} {g : Tg} {it : Itx} {c : Tx} {e : Ex} {env : En} : evX C (.comp own g it c e) env = (evI C it env).bind fun xs e1 => if plainAt e1 own then
      (noExc (compL (compT own g (evT C c) (evX C e)) xs e1)).bind fun ys e5 => .ok (.ol ys) (restore e5 e1 own)
    else .bad := by (rw [evX]; try rfl)
@[simp] theorem evOs_nil {C : PC}  {env : En} : evOs C (.nil) env = .ok [] env := by (rw [evOs]; try rfl)
@[simp] theorem evOs_cons {C : PC} {e : Ex} {es : Exs} {env : En} : evOs C (.cons e es) env = (opd e (evX C e) env).bind fun o e1 => (evOs C es e1).bind fun os e2 => .ok (o :: os) e2 := by (rw [evOs]; try rfl)
@[simp] theorem evO_none {C : PC}  {env : En} : evO C (.none) env = .ok none env := by (rw [evO]; try rfl)
@[simp] theorem evO_some {C : PC} {e : Ex} {env : En} : evO C (.some e) env = (evX C e env).bind fun m e1 => match m.toD with
    | .int i => .ok (some i) e1
    | _ => .bad := by (rw [evO]; try rfl)
@[simp] theorem evT_yes {C : PC}  {env : En} : evT C (.yes) env = .ok true env := by (rw [evT]; try rfl)
@[simp] theorem evT_val {C : PC} {e : Ex} {env : En} : evT C (.val e) env = (evX C e env).bind fun m e1 => match m.toD with
    | .bool b => .ok b e1
    | _ => .bad := by (rw [evT]; try rfl)
@[simp] theorem evT_tru {C : PC} {e : Ex} {env : En} : evT C (.tru e) env = (opd e (evX C e) env).bind fun o e1 => ofO ((fetch e1 o).bind truO) e1 := by (rw [evT]; try rfl)
@[simp] theorem evT_cmp {C : PC} {op : Cop} {a : Ex} {b : Ex} {env : En} : evT C (.cmp op a b) env = (opd a (evX C a) env).bind fun x e1 => (opd b (evX C b) e1).bind fun y e2 =>
      ofO ((fetch e2 x).bind fun dx => (fetch e2 y).bind fun dy => cmpO op dx dy) e2 := by (rw [evT]; try rfl)
@[simp] theorem evT_din {C : PC} {neg : Bool} {k : Ex} {d : Ex} {env : En} : evT C (.din neg k d) env = (opd k (evX C k) env).bind fun x e1 => (opd d (evX C d) e1).bind fun y e2 =>
      ofO ((fetch e2 x).bind fun dk => (fetchM e2 y).bind fun dm => (dgetO dm dk).map fun r => if neg then !r.isSome else r.isSome) e2 := by (rw [evT]; try rfl)
@[simp] theorem evT_chain {C : PC} {op : Cop} {op2 : Cop} {a : Ex} {b : Ex} {c : Ex} {env : En} : evT C (.chain op op2 a b c) env = (evX C a env).bind fun x e1 => (evX C b e1).bind fun y e2 => (ofO (cmpO op x.toD y.toD) e2).bind fun r e3 =>
      if r then (evX C c e3).bind fun z e4 => ofO (cmpO op2 y.toD z.toD) e4 else .ok false e3 := by (rw [evT]; try rfl)
@[simp] theorem evT_and {C : PC} {a : Tx} {b : Tx} {env : En} : evT C (.and a b) env = (evT C a env).bind fun r e1 => if r then evT C b e1 else .ok false e1 := by (rw [evT]; try rfl)
@[simp] theorem evT_or {C : PC} {a : Tx} {b : Tx} {env : En} : evT C (.or a b) env = (evT C a env).bind fun r e1 => if r then .ok true e1 else evT C b e1 := by (rw [evT]; try rfl)
@[simp] theorem evT_one {C : PC} {a : Tx} {env : En} : evT C (.one a) env = evT C a env := by (rw [evT]; try rfl)
@[simp] theorem evT_not {C : PC} {a : Tx} {env : En} : evT C (.not a) env = (evT C a env).bind fun r e1 => .ok (!r) e1 := by (rw [evT]; try rfl)
@[simp] theorem evI_seq {C : PC} {e : Ex} {env : En} : evI C (.seq e) env = (evX C e env).bind fun m e1 => ofO (itO m.toD) e1 := by (rw [evI]; try rfl)
@[simp] theorem evI_range {C : PC} {es : Exs} {env : En} : evI C (.range es) env = (evOs C es env).bind fun os e1 => ofO ((fetchs e1 os).bind rangeO) e1 := by (rw [evI]; try rfl)
@[simp] theorem evI_chars {C : PC} {e : Ex} {env : En} : evI C (.chars e) env = (evX C e env).bind fun m e1 => ofO (charsO m.toD) e1 := by (rw [evI]; try rfl)
@[simp] theorem evI_rev {C : PC} {e : Ex} {env : En} : evI C (.rev e) env = (evX C e env).bind fun m e1 => ofO ((itO m.toD).bind fun xs => @ite _ (xs.length ≤ sizeLine) (Classical.propDecidable _) (some xs.reverse) none) e1 := by (rw [evI]; try rfl)
@[simp] theorem evS_set {C : PC} {pr : List Nat} {i : Nat} {own : Bool} {e : Ex} {env : En} : evS C pr (.set i own e) env = (evX C e env).bind fun m e1 => if pr.contains i then .bad else .ok .nx (put e1 i (some (retM own m))) := by (rw [evS]; try rfl)
@[simp] theorem evS_aug {C : PC} {pr : List Nat} {i : Nat} {op : Bop} {e : Ex} {env : En} : evS C pr (.aug i op e) env = if pr.contains i then .bad else match look env i with
    | some (.p (.int a)) => (evX C e env).bind fun m e1 => (ofO (augO op a m.toD) e1).bind fun r e2 => .ok .nx (put e2 i (some (.p (.int r))))
    | _ => .bad := by (rw [evS]; try rfl)
@[simp] theorem evS_unp {C : PC} {pr : List Nat} {is : List Nat} {e : Ex} {env : En} : evS C pr (.unp is e) env = (evX C e env).bind fun m e1 => if is.any pr.contains then .bad else match m.toD with
    | .tuple ds => (match puts e1 is ds with | some e2 => .ok .nx e2 | none => .bad)
    | _ => .bad := by (rw [evS]; try rfl)
@[simp] theorem evS_par {C : PC} {pr : List Nat} {i : Nat} {j : Nat} {a : Ex} {b : Ex} {env : En} : evS C pr (.par i j a b) env = (evX C a env).bind fun x e1 => (evX C b e1).bind fun y e2 => if pr.contains i || pr.contains j || i == j then .bad else
      .ok .nx (put (put e2 i (some (.p x.toD))) j (some (.p y.toD))) := by (rw [evS]; try rfl)
@[simp] theorem evS_emp3 {C : PC} {pr : List Nat} {i : Nat} {j : Nat} {l : Nat} {env : En} : evS C pr (.emp3 i j l) env = if pr.contains i || pr.contains j || pr.contains l || i == j || i == l || j == l then .bad else
      .ok .nx (put (put (put env i (some (.ol []))) j (some (.ol []))) l (some (.ol []))) := by (rw [evS]; try rfl)
@[simp] theorem evS_emp2 {C : PC} {pr : List Nat} {i : Nat} {j : Nat} {env : En} : evS C pr (.emp2 i j) env = if pr.contains i || pr.contains j || i == j then .bad else .ok .nx (put (put env i (some (.ol []))) j (some (.ol []))) := by (rw [evS]; try rfl)
@[simp] theorem evS_par3 {C : PC} {pr : List Nat} {i : Nat} {j : Nat} {l : Nat} {a : Ex} {b : Ex} {c : Ex} {env : En} : evS C pr (.par3 i j l a b c) env = (evX C a env).bind fun x e1 => (evX C b e1).bind fun y e2 => (evX C c e2).bind fun z e3 => if pr.contains i || pr.contains j || pr.contains l || i == j || i == l || j == l then .bad else
      .ok .nx (put (put (put e3 i (some (.p x.toD))) j (some (.p y.toD))) l (some (.p z.toD))) := by (rw [evS]; try rfl)
@[simp] theorem evS_ext {C : PC} {pr : List Nat} {i : Nat} {e : Ex} {env : En} : evS C pr (.ext i e) env = match look env i with
    | some (.ol _) => (evX C e env).bind fun m e1 => (match m, look e1 i with
      | .ol zs, some (.ol xs) => @ite _ (xs.length + zs.length ≤ sizeLine) (Classical.propDecidable _) (.ok .nx (put e1 i (some (.ol (xs ++ zs))))) .bad
      | _, _ => .bad)
    | _ => .bad := by (rw [evS]; try rfl)
@[simp] theorem evS_app {C : PC} {pr : List Nat} {i : Nat} {e : Ex} {env : En} : evS C pr (.app i e) env = match look env i with
    | some (.ol _) => (evX C e env).bind fun m e1 => (match look e1 i with
      | some (.ol xs) => @ite _ (xs.length < sizeLine) (Classical.propDecidable _) (.ok .nx (put e1 i (some (.ol (xs ++ [m.toD]))))) .bad
      | _ => .bad)
    | _ => .bad := by (rw [evS]; try rfl)
@[simp] theorem evS_setix {C : PC} {pr : List Nat} {i : Nat} {a : Ex} {e : Ex} {env : En} : evS C pr (.setix i a e) env = (evX C e env).bind fun m e1 => match look e1 i with
    | some (.ol _) => (evX C a e1).bind fun j e2 => (ofO (setO (look e2 i) j.toD m.toD) e2).bind fun r e3 => .ok .nx (put e3 i (some r))
    | _ => .bad := by (rw [evS]; try rfl)
@[simp] theorem evS_swp {C : PC} {pr : List Nat} {i : Nat} {as : Exs} {es : Exs} {env : En} : evS C pr (.swp i as es) env = (evOs C es env).bind fun os e1 => (ofO ((vals os).bind fun ds => @ite _ (ds.length ≤ sizeLine ∧ ds.length = exsLen as) (Classical.propDecidable _) (some ds) none) e1).bind fun ds e2 => swpL (evX C) i as ds e2 := by (rw [evS]; try rfl)
@[simp] theorem evS_dput {C : PC} {pr : List Nat} {i : Nat} {k : Ex} {e : Ex} {env : En} : evS C pr (.dput i k e) env = (evX C e env).bind fun m e1 => match look e1 i with
    | some (.od _ _) => (evX C k e1).bind fun j e2 => (ofO (dputO (look e2 i) j.toD m.toD) e2).bind fun r e3 => .ok .nx (put e3 i (some r))
    | _ => .bad := by (rw [evS]; try rfl)
@[simp] theorem evS_expr {C : PC} {pr : List Nat} {e : Ex} {env : En} : evS C pr (.expr e) env = (evX C e env).bind fun _ e1 => .ok .nx e1 := by (rw [evS]; try rfl)
@[simp] theorem evS_ret {C : PC} {pr : List Nat} {own : Bool} {e : Ex} {env : En} : evS C pr (.ret own e) env = (evX C e env).bind fun m e1 => .ok (.rt (retM own m)) e1 := by (rw [evS]; try rfl)
@[simp] theorem evS_retN {C : PC} {pr : List Nat}  {env : En} : evS C pr (.retN) env = .ok (.rt (.p .none)) env := by (rw [evS]; try rfl)
@[simp] theorem evS_ite {C : PC} {pr : List Nat} {t : Tx} {a : Sms} {b : Sms} {env : En} : evS C pr (.ite t a b) env = (evT C t env).bind fun c e1 => if c then evSs C pr a e1 else evSs C pr b e1 := by (rw [evS]; try rfl)
@[simp] theorem evS_loop {C : PC} {pr : List Nat} {g : Tg} {it : Itx} {body : Sms} {env : En} : evS C pr (.loop g it body) env = (evI C it env).bind fun xs e1 => forL (loopT pr g (evSs C pr body)) xs e1 := by (rw [evS]; try rfl)
@[simp] theorem evS_loopv {C : PC} {pr : List Nat} {n : Nat} {g : Tg} {i : Nat} {body : Sms} {env : En} : evS C pr (.loopv n g i body) env = if pr.contains i then .bad else forV (loopT (i :: pr) g (evSs C (i :: pr) body)) i n 0 env := by (rw [evS]; try rfl)
@[simp] theorem evS_whil {C : PC} {pr : List Nat} {n : Nat} {t : Tx} {body : Sms} {env : En} : evS C pr (.whil n t body) env = whileL (evT C t) (evSs C pr body) n env := by (rw [evS]; try rfl)
@[simp] theorem evS_raise {C : PC} {pr : List Nat} {k : Nat} {env : En} : evS C pr (.raise k) env = .exc k env := by (rw [evS]; try rfl)
@[simp] theorem evS_tryx {C : PC} {pr : List Nat} {body : Sms} {k : Nat} {h : Sms} {env : En} : evS C pr (.tryx body k h) env = match evSs C pr body env with
    | .exc c e => (match C.sub c k with
      | some true => noExc (evSs C pr h e)
      | some false => .exc c e
      | none => .bad)
    | r => r := by (rw [evS]; try rfl)
@[simp] theorem evS_tryy {C : PC} {pr : List Nat} {body : Sms} {k : Nat} {h : Sms} {k2 : Nat} {h2 : Sms} {env : En} : evS C pr (.tryy body k h k2 h2) env = match evSs C pr body env with
    | .exc c e => (match C.sub c k with
      | some true => noExc (evSs C pr h e)
      | some false => (match C.sub c k2 with
        | some true => noExc (evSs C pr h2 e)
        | some false => .exc c e
        | none => .bad)
      | none => .bad)
    | r => r := by (rw [evS]; try rfl)
@[simp] theorem evS_brk {C : PC} {pr : List Nat}  {env : En} : evS C pr (.brk) env = .ok .bk env := by (rw [evS]; try rfl)
@[simp] theorem evS_cnt {C : PC} {pr : List Nat}  {env : En} : evS C pr (.cnt) env = .ok .ct env := by (rw [evS]; try rfl)
@[simp] theorem evS_pass {C : PC} {pr : List Nat}  {env : En} : evS C pr (.pass) env = .ok .nx env := by (rw [evS]; try rfl)
@[simp] theorem evSs_nil {C : PC} {pr : List Nat}  {env : En} : evSs C pr (.nil) env = .ok .nx env := by (rw [evSs]; try rfl)
@[simp] theorem evSs_cons {C : PC} {pr : List Nat} {s : Sm} {r : Sms} {env : En} : evSs C pr (.cons s r) env = match evS C pr s env with
    | .ok .nx e => evSs C pr r e
    | q => q := by (rw [evSs]; try rfl)
@[simp] theorem evSs_kill {C : PC} {pr : List Nat} {is : List Nat} {r : Sms} {env : En} : evSs C pr (.kill is r) env = if is.any pr.contains then .bad else evSs C pr r (kills env is) := by (rw [evSs]; try rfl)
@[simp] theorem binO_q1 : type_of% @binO.eq_1 := @binO.eq_1
@[simp] theorem binO_q2 : type_of% @binO.eq_2 := @binO.eq_2
@[simp] theorem binO_q3 : type_of% @binO.eq_3 := @binO.eq_3
@[simp] theorem binO_q4 : type_of% @binO.eq_4 := @binO.eq_4
@[simp] theorem binO_q5 : type_of% @binO.eq_5 := @binO.eq_5
@[simp] theorem binO_q6 : type_of% @binO.eq_6 := @binO.eq_6
@[simp] theorem binO_q7 : type_of% @binO.eq_7 := @binO.eq_7
@[simp] theorem binO_q8 : type_of% @binO.eq_8 := @binO.eq_8
@[simp] theorem binO_q9 : type_of% @binO.eq_9 := @binO.eq_9
@[simp] theorem binO_q10 : type_of% @binO.eq_10 := @binO.eq_10
@[simp] theorem binO_q11 : type_of% @binO.eq_11 := @binO.eq_11
@[simp] theorem cmpO_q1 : type_of% @cmpO.eq_1 := @cmpO.eq_1
@[simp] theorem cmpO_q2 : type_of% @cmpO.eq_2 := @cmpO.eq_2
@[simp] theorem cmpO_q3 : type_of% @cmpO.eq_3 := @cmpO.eq_3
@[simp] theorem cmpO_q4 : type_of% @cmpO.eq_4 := @cmpO.eq_4
@[simp] theorem cmpO_q5 : type_of% @cmpO.eq_5 := @cmpO.eq_5
@[simp] theorem cmpO_q6 : type_of% @cmpO.eq_6 := @cmpO.eq_6
@[simp] theorem cmpO_q7 : type_of% @cmpO.eq_7 := @cmpO.eq_7
@[simp] theorem cmpO_q8 : type_of% @cmpO.eq_8 := @cmpO.eq_8
@[simp] theorem cmpO_q9 : type_of% @cmpO.eq_9 := @cmpO.eq_9
@[simp] theorem cmpO_q10 : type_of% @cmpO.eq_10 := @cmpO.eq_10
@[simp] theorem cmpO_q11 : type_of% @cmpO.eq_11 := @cmpO.eq_11
@[simp] theorem cmpO_q12 : type_of% @cmpO.eq_12 := @cmpO.eq_12
@[simp] theorem cmpO_q13 : type_of% @cmpO.eq_13 := @cmpO.eq_13
@[simp] theorem cmpO_q14 : type_of% @cmpO.eq_14 := @cmpO.eq_14
@[simp] theorem cmpO_q15 : type_of% @cmpO.eq_15 := @cmpO.eq_15
@[simp] theorem eqO_q1 : type_of% @eqO.eq_1 := @eqO.eq_1
@[simp] theorem eqO_q2 : type_of% @eqO.eq_2 := @eqO.eq_2
@[simp] theorem eqO_q3 : type_of% @eqO.eq_3 := @eqO.eq_3
theorem eqO_q4 : type_of% @eqO.eq_4 := @eqO.eq_4
@[simp] theorem truO_q1 : type_of% @truO.eq_1 := @truO.eq_1
@[simp] theorem truO_q2 : type_of% @truO.eq_2 := @truO.eq_2
@[simp] theorem truO_q3 : type_of% @truO.eq_3 := @truO.eq_3
@[simp] theorem truO_q4 : type_of% @truO.eq_4 := @truO.eq_4
@[simp] theorem truO_q5 : type_of% @truO.eq_5 := @truO.eq_5
@[simp] theorem truO_q6 : type_of% @truO.eq_6 := @truO.eq_6
@[simp] theorem truO_q7 : type_of% @truO.eq_7 := @truO.eq_7
@[simp] theorem isTy_q1 : type_of% @isTy.eq_1 := @isTy.eq_1
@[simp] theorem isTy_q2 : type_of% @isTy.eq_2 := @isTy.eq_2
@[simp] theorem isTy_q3 : type_of% @isTy.eq_3 := @isTy.eq_3
@[simp] theorem isTy_q4 : type_of% @isTy.eq_4 := @isTy.eq_4
@[simp] theorem isTy_q5 : type_of% @isTy.eq_5 := @isTy.eq_5
@[simp] theorem isTy_q6 : type_of% @isTy.eq_6 := @isTy.eq_6
@[simp] theorem isTy_q7 : type_of% @isTy.eq_7 := @isTy.eq_7
@[simp] theorem isTy_q8 : type_of% @isTy.eq_8 := @isTy.eq_8
@[simp] theorem isTy_q9 : type_of% @isTy.eq_9 := @isTy.eq_9
@[simp] theorem isTy_q10 : type_of% @isTy.eq_10 := @isTy.eq_10
@[simp] theorem isTy_q11 : type_of% @isTy.eq_11 := @isTy.eq_11
@[simp] theorem isTy_q12 : type_of% @isTy.eq_12 := @isTy.eq_12
@[simp] theorem isTy_q13 : type_of% @isTy.eq_13 := @isTy.eq_13
@[simp] theorem isTy_q14 : type_of% @isTy.eq_14 := @isTy.eq_14
@[simp] theorem biO_q1 : type_of% @biO.eq_1 := @biO.eq_1
@[simp] theorem biO_q2 : type_of% @biO.eq_2 := @biO.eq_2
@[simp] theorem biO_q3 : type_of% @biO.eq_3 := @biO.eq_3
@[simp] theorem biO_q4 : type_of% @biO.eq_4 := @biO.eq_4
@[simp] theorem biO_q5 : type_of% @biO.eq_5 := @biO.eq_5
@[simp] theorem biO_q6 : type_of% @biO.eq_6 := @biO.eq_6
@[simp] theorem biO_q7 : type_of% @biO.eq_7 := @biO.eq_7
@[simp] theorem biO_q8 : type_of% @biO.eq_8 := @biO.eq_8
@[simp] theorem biO_q9 : type_of% @biO.eq_9 := @biO.eq_9
@[simp] theorem biO_q10 : type_of% @biO.eq_10 := @biO.eq_10
@[simp] theorem biO_q11 : type_of% @biO.eq_11 := @biO.eq_11
@[simp] theorem biO_q12 : type_of% @biO.eq_12 := @biO.eq_12
@[simp] theorem biO_q13 : type_of% @biO.eq_13 := @biO.eq_13
@[simp] theorem biO_q14 : type_of% @biO.eq_14 := @biO.eq_14
@[simp] theorem biO_q15 : type_of% @biO.eq_15 := @biO.eq_15
@[simp] theorem biO_q16 : type_of% @biO.eq_16 := @biO.eq_16
@[simp] theorem biO_q17 : type_of% @biO.eq_17 := @biO.eq_17
@[simp] theorem biO_q18 : type_of% @biO.eq_18 := @biO.eq_18
@[simp] theorem biO_q19 : type_of% @biO.eq_19 := @biO.eq_19
@[simp] theorem biO_q20 : type_of% @biO.eq_20 := @biO.eq_20
@[simp] theorem biO_q21 : type_of% @biO.eq_21 := @biO.eq_21
@[simp] theorem biO_q22 : type_of% @biO.eq_22 := @biO.eq_22
@[simp] theorem biO_q23 : type_of% @biO.eq_23 := @biO.eq_23
@[simp] theorem biO_q24 : type_of% @biO.eq_24 := @biO.eq_24
theorem biO_sd {kv : D × D} {kvs : List (D × D)} : biO .sorted [.dict (kv :: kvs)] = sdO (kv :: kvs) := by rw [biO]
theorem biO_minT {xs : List D} : biO .minl [.tuple xs] = mnO xs := by rw [biO]
theorem biO_maxT {xs : List D} : biO .maxl [.tuple xs] = mxO xs := by rw [biO]
@[simp] theorem ixO_q1 : type_of% @ixO.eq_1 := @ixO.eq_1
@[simp] theorem ixO_q2 : type_of% @ixO.eq_2 := @ixO.eq_2
@[simp] theorem ixO_q3 : type_of% @ixO.eq_3 := @ixO.eq_3
@[simp] theorem ixO_q4 : type_of% @ixO.eq_4 := @ixO.eq_4
@[simp] theorem slO_q1 : type_of% @slO.eq_1 := @slO.eq_1
@[simp] theorem slO_q2 : type_of% @slO.eq_2 := @slO.eq_2
@[simp] theorem slO_q3 : type_of% @slO.eq_3 := @slO.eq_3
@[simp] theorem slO_q4 : type_of% @slO.eq_4 := @slO.eq_4
@[simp] theorem augO_q1 : type_of% @augO.eq_1 := @augO.eq_1
@[simp] theorem augO_q2 : type_of% @augO.eq_2 := @augO.eq_2
@[simp] theorem augO_q3 : type_of% @augO.eq_3 := @augO.eq_3
@[simp] theorem setO_q1 : type_of% @setO.eq_1 := @setO.eq_1
@[simp] theorem setO_q2 : type_of% @setO.eq_2 := @setO.eq_2
@[simp] theorem isNon_q1 : type_of% @isNon.eq_1 := @isNon.eq_1
@[simp] theorem isNon_q2 : type_of% @isNon.eq_2 := @isNon.eq_2
@[simp] theorem itO_q1 : type_of% @itO.eq_1 := @itO.eq_1
@[simp] theorem itO_q2 : type_of% @itO.eq_2 := @itO.eq_2
@[simp] theorem itO_q3 : type_of% @itO.eq_3 := @itO.eq_3
@[simp] theorem mnO_q1 : type_of% @mnO.eq_1 := @mnO.eq_1
@[simp] theorem mnO_q2 : type_of% @mnO.eq_2 := @mnO.eq_2
@[simp] theorem mxO_q1 : type_of% @mxO.eq_1 := @mxO.eq_1
@[simp] theorem mxO_q2 : type_of% @mxO.eq_2 := @mxO.eq_2
@[simp] theorem intsE_q1 : type_of% @intsE.eq_1 := @intsE.eq_1
@[simp] theorem intsE_q2 : type_of% @intsE.eq_2 := @intsE.eq_2
@[simp] theorem puts_q1 : type_of% @puts.eq_1 := @puts.eq_1
@[simp] theorem puts_q2 : type_of% @puts.eq_2 := @puts.eq_2
@[simp] theorem puts_q3 : type_of% @puts.eq_3 := @puts.eq_3
@[simp] theorem metO_q1 : type_of% @metO.eq_1 := @metO.eq_1
@[simp] theorem metO_q2 : type_of% @metO.eq_2 := @metO.eq_2
@[simp] theorem metO_q3 : type_of% @metO.eq_3 := @metO.eq_3
@[simp] theorem ssetO_q1 : type_of% @ssetO.eq_1 := @ssetO.eq_1
@[simp] theorem ssetO_q2 : type_of% @ssetO.eq_2 := @ssetO.eq_2
@[simp] theorem lsetO_q1 : type_of% @lsetO.eq_1 := @lsetO.eq_1
@[simp] theorem lsetO_q2 : type_of% @lsetO.eq_2 := @lsetO.eq_2
@[simp] theorem isListD_q1 : type_of% @isListD.eq_1 := @isListD.eq_1
@[simp] theorem isListD_q2 : type_of% @isListD.eq_2 := @isListD.eq_2
@[simp] theorem exsLen_q1 : type_of% @exsLen.eq_1 := @exsLen.eq_1
@[simp] theorem exsLen_q2 : type_of% @exsLen.eq_2 := @exsLen.eq_2
@[simp] theorem swpL_q1 : type_of% @swpL.eq_1 := @swpL.eq_1
@[simp] theorem swpL_q2 : type_of% @swpL.eq_2 := @swpL.eq_2
@[simp] theorem swpL_q3 : type_of% @swpL.eq_3 := @swpL.eq_3
@[simp] theorem revO_q1 : type_of% @revO.eq_1 := @revO.eq_1
@[simp] theorem revO_q2 : type_of% @revO.eq_2 := @revO.eq_2
@[simp] theorem charsO_q1 : type_of% @charsO.eq_1 := @charsO.eq_1
@[simp] theorem charsO_q2 : type_of% @charsO.eq_2 := @charsO.eq_2
@[simp] theorem dgetO_q1 : type_of% @dgetO.eq_1 := @dgetO.eq_1
@[simp] theorem dgetO_q2 : type_of% @dgetO.eq_2 := @dgetO.eq_2
@[simp] theorem dgetO_q3 : type_of% @dgetO.eq_3 := @dgetO.eq_3
@[simp] theorem dputO_q1 : type_of% @dputO.eq_1 := @dputO.eq_1
@[simp] theorem dputO_q2 : type_of% @dputO.eq_2 := @dputO.eq_2
@[simp] def finR (n : Nat) : Res Fl → Res M
  | .ok (.rt m) e => .ok m (e.take n)
  | .ok .nx e => .ok (.p .none) (e.take n)
  | .ok .bk _ => .bad
  | .ok .ct _ => .bad
  | .exc c e => .exc c (e.take n)
  | .bad => .bad
theorem run_succ {P : Pg} {sub : Nat → Nat → Option Bool} {k f : Nat} {as : List M} {d : FD} (h : P f = some d) (hl : as.length = d.pars) : run P sub (k + 1) f as =
    finR d.pars (evSs ⟨run P sub k, sub⟩ (byRef 0 as) d.body (as.map some ++ List.replicate (d.slots - d.pars) none)) := by
  rw [run, h]
  simp only [if_pos hl]
  generalize evSs ⟨run P sub k, sub⟩ (byRef 0 as) d.body (as.map some ++ List.replicate (d.slots - d.pars) none) = r
  cases r with
  | bad => rfl
  | exc c e => rfl
  | ok a e => cases a <;> rfl
@[simp] theorem byRef_q1 : type_of% @byRef.eq_1 := @byRef.eq_1
@[simp] theorem byRef_q2 : type_of% @byRef.eq_2 := @byRef.eq_2
/-! loops -/
theorem forL_inv {body : D → En → Res Fl} : ∀ {xs : List D} {e : En} (I : Nat → En → Prop) (n : Nat), I n e → (∀ (i : Nat) (x : D) (e : En), xs[i]? = some x → I (n + i) e → ∃ e', body x e = .ok .nx e' ∧ I (n + i + 1) e') → ∃ e', forL body xs e = .ok .nx e' ∧ I (n + xs.length) e'
  | [], e, I, n, h0, _ => ⟨e, rfl, h0⟩
  | x :: xs, e, I, n, h0, hs => by
    obtain ⟨e1, h1, h2⟩ := hs 0 x e rfl h0
    obtain ⟨e2, h3, h4⟩ := forL_inv (xs := xs) (e := e1) I (n + 1) h2 fun i y e' hy hi => by
      have := hs (i + 1) y e' (by simpa using hy) (by rw [show n + (i + 1) = n + 1 + i by omega]; exact hi)
      obtain ⟨e3, h5, h6⟩ := this
      exact ⟨e3, h5, by rw [show n + 1 + i + 1 = n + (i + 1) + 1 by omega]; exact h6⟩
    refine ⟨e2, ?_, by rw [List.length_cons, show n + (xs.length + 1) = n + 1 + xs.length by omega]; exact h4⟩
    unfold forL
    rw [h1]
    exact h3
/-- a loop that keeps the slots as they are, or leaves with the same answer -/
theorem forL_all {body : D → En → Res Fl} {e : En} {fl : Fl} (er : D → En) (p : D → Bool) : ∀ {xs : List D}, (∀ x ∈ xs, body x e = if p x then .ok .nx e else .ok fl (er x)) → fl ≠ .nx → fl ≠ .ct → fl ≠ .bk → forL body xs e = match xs.find? (fun x => !p x) with
    | none => .ok .nx e
    | some x => .ok fl (er x)
  | [], _, _, _, _ => rfl
  | x :: xs, h, n1, n2, n3 => by
    unfold forL
    rw [h x List.mem_cons_self]
    cases q : p x with
    | true =>
      simp only [if_true, List.find?_cons, q, Bool.not_true]
      exact forL_all er p (fun y hy => h y (List.mem_cons_of_mem _ hy)) n1 n2 n3
    | false =>
      simp only [List.find?_cons, q, Bool.not_false]
      cases fl with
      | nx => exact absurd rfl n1
      | ct => exact absurd rfl n2
      | bk => exact absurd rfl n3
      | rt m => rfl
theorem whileL_inv {t : En → Res Bool} {body : En → Res Fl} (μ : En → Nat) (I : En → Prop) (hs : ∀ e, I e → ∃ b e1, t e = .ok b e1 ∧ if b then ∃ e2, body e1 = .ok .nx e2 ∧ I e2 ∧ μ e2 < μ e else I e1) (R : En → Prop) (hR : ∀ e e1, I e → t e = .ok false e1 → R e1) :
    ∀ (n : Nat) (e : En), μ e < n → I e → ∃ e', whileL t body n e = .ok .nx e' ∧ R e'
  | 0, _, h, _ => absurd h (Nat.not_lt_zero _)
  | n + 1, e, h, hI => by
    obtain ⟨b, e1, h1, h2⟩ := hs e hI
    unfold whileL
    rw [h1]
    cases b with
    | true =>
      obtain ⟨e2, h3, h4, h5⟩ := h2
      obtain ⟨e', h6, h7⟩ := whileL_inv μ I hs R hR n e2 (by omega) h4
      refine ⟨e', ?_, h7⟩
      simp only [Res.bind, if_true, h3]
      exact h6
    | false => exact ⟨e1, rfl, hR e e1 hI h1⟩
/-! comprehensions -/
theorem kills_len : ∀ {is : List Nat} {e : En}, (kills e is).length = e.length
  | [], _ => rfl
  | i :: is, e => (kills_len (is := is)).trans put_length
theorem look_put_eq : ∀ {e : En} {i j : Nat} {m : Option M}, look (put e i m) j = if j = i ∧ i < e.length then m else look e j
  | [], _, _, _ => by simp [put]
  | x :: e, 0, 0, m => by simp [put, look]
  | x :: e, 0, j + 1, m => by simp [put, look]
  | x :: e, i + 1, 0, m => by simp [put, look]
  | x :: e, i + 1, j + 1, m => by simp [put, look, look_put_eq (e := e)]
theorem look_ge : ∀ {e : En} {i : Nat}, e.length ≤ i → look e i = none
  | [], _, _ => rfl
  | _ :: _, 0, h => absurd h (Nat.not_succ_le_zero _)
  | x :: e, i + 1, h => look_ge (e := e) (by simpa using h)
theorem look_kills_eq : ∀ {is : List Nat} {e : En} {j : Nat}, look (kills e is) j = if j ∈ is then none else look e j
  | [], _, _ => by simp [kills]
  | i :: is, e, j => by
    show look (kills (put e i none) is) j = _
    rw [look_kills_eq, look_put_eq]
    by_cases h : j ∈ is
    · simp [h]
    · by_cases h2 : j = i
      · subst h2
        by_cases h3 : j < e.length
        · simp [h3]
        · simp [look_ge (Nat.le_of_not_lt h3)]
      · simp [h, h2]
theorem restore_len : ∀ {is : List Nat} {e old : En}, (restore e old is).length = e.length
  | [], _, _ => rfl
  | i :: is, e, old => (restore_len (is := is)).trans put_length
theorem look_restore_eq : ∀ {is : List Nat} {e old : En} {j : Nat}, e.length = old.length → look (restore e old is) j = if j ∈ is then look old j else look e j
  | [], _, _, _, _ => by simp [restore]
  | i :: is, e, old, j, hl => by
    show look (restore (put e i (look old i)) old is) j = _
    rw [look_restore_eq (by rw [put_length]; exact hl), look_put_eq]
    by_cases h : j ∈ is
    · simp [h]
    · by_cases h2 : j = i
      · subst h2
        by_cases h3 : j < e.length
        · simp [h3]
        · simp [look_ge (Nat.le_of_not_lt h3), look_ge (e := old) (by omega : old.length ≤ j)]
      · simp [h, h2]
theorem ext_look : ∀ {e e' : En}, e.length = e'.length → (∀ i, look e i = look e' i) → e = e'
  | [], [], _, _ => rfl
  | [], _ :: _, h, _ => by cases h
  | _ :: _, [], h, _ => by cases h
  | x :: e, y :: e', h, k => by
    have h0 : x = y := k 0
    rw [h0, ext_look (e := e) (e' := e') (by simpa using h) fun i => k (i + 1)]
theorem restore_eq {is : List Nat} {e old : En} (h : kills e is = kills old is) : restore e old is = old := by
  have hl : e.length = old.length := by rw [← kills_len (is := is) (e := e), h, kills_len]
  refine ext_look (by rw [restore_len, hl]) fun i => ?_
  rw [look_restore_eq hl]
  by_cases hi : i ∈ is
  · simp [hi]
  · have := congrArg (fun e => look e i) h
    simp only [look_kills_eq, hi, if_false] at this
    simp [hi, this]
theorem kills_kills {is : List Nat} {e : En} : kills (kills e is) is = kills e is :=
  ext_look (by rw [kills_len]) fun i => by rw [look_kills_eq, look_kills_eq]; split <;> rfl
/-- what a comprehension makes of its items -/
theorem compL_pure {f : D → En → Res (Option D)} {own : List Nat} {e0 : En} (o : D → Option D) : ∀ {xs : List D} {e : En}, kills e own = kills e0 own → (∀ x ∈ xs, ∀ e, kills e own = kills e0 own → ∃ e', f x e = .ok (o x) e' ∧ kills e' own = kills e0 own) →
    ∃ e', compL f xs e = .ok (xs.filterMap o) e' ∧ kills e' own = kills e0 own
  | [], e, h, _ => ⟨e, rfl, h⟩
  | x :: xs, e, h, hf => by
    obtain ⟨e1, h1, h2⟩ := hf x List.mem_cons_self e h
    obtain ⟨e2, h3, h4⟩ := compL_pure o (xs := xs) h2 fun y hy => hf y (List.mem_cons_of_mem _ hy)
    refine ⟨e2, ?_, h4⟩
    unfold compL
    rw [h1]
    simp only [Res.bind, h3]
    cases ho : o x with
    | none => simp [consO, ho]
    | some y => simp [consO, ho]
theorem ev_comp {C : PC} {own : List Nat} {g : Tg} {it : Itx} {c : Tx} {e : Ex} {env env1 : En} {xs : List D} (o : D → Option D) (hi : evI C it env = .ok xs env1) (hp : plainAt env1 own = true)
    (hb : ∀ x ∈ xs, ∃ e', (match setTg (kills env1 own) g x with
      | some e2 => (evT C c e2).bind fun b e3 => if b then (evX C e e3).bind fun m e4 => .ok (some m.toD) e4 else .ok none e3
      | none => .bad) = Res.ok (o x) e' ∧ kills e' own = kills env1 own) : evX C (.comp own g it c e) env = .ok (.ol (xs.filterMap o)) env1 := by
  obtain ⟨e5, h1, h2⟩ := compL_pure (f := compT own g (evT C c) (evX C e)) (own := own) (e0 := env1) o (xs := xs) (e := env1) rfl fun x hx e0 he => by
    obtain ⟨e', h1, h2⟩ := hb x hx
    exact ⟨e', by unfold compT; rw [he]; exact h1, h2⟩
  unfold evX
  rw [hi]
  simp only [Res.bind, hp, if_true, h1, noExc, restore_eq h2]
/-- .. whose parts change what is around -/
theorem compL_inv {f : D → En → Res (Option D)} (I : Nat → List D → En → Prop) : ∀ {xs : List D} {e : En} {n : Nat} {ys : List D}, I n ys e → (∀ (i : Nat) (x : D) (zs : List D) (e : En), xs[i]? = some x → I (n + i) zs e → ∃ o e', f x e = .ok o e' ∧ I (n + i + 1) (zs ++ consO o []) e') →
    ∃ zs e', compL f xs e = .ok zs e' ∧ I (n + xs.length) (ys ++ zs) e'
  | [], e, n, ys, h, _ => ⟨[], e, rfl, by simpa using h⟩
  | x :: xs, e, n, ys, h, hf => by
    obtain ⟨o, e1, h1, h2⟩ := hf 0 x ys e rfl h
    obtain ⟨zs, e2, h3, h4⟩ := compL_inv I (xs := xs) (e := e1) (n := n + 1) h2 fun i y zs e' hy hI => by
      have := hf (i + 1) y zs e' (by simpa using hy) (by rw [show n + (i + 1) = n + 1 + i by omega]; exact hI)
      rw [show n + 1 + i + 1 = n + (i + 1) + 1 by omega]
      exact this
    refine ⟨consO o zs, e2, ?_, ?_⟩
    · unfold compL
      rw [h1]
      simp only [Res.bind, h3]
    · rw [List.length_cons, show n + (xs.length + 1) = n + 1 + xs.length by omega]
      cases o with
      | none => simpa [consO] using h4
      | some y => simpa [consO] using h4
end Q1
namespace Q1
open PySem
/-- number * 48271 .. -/
def bMixed : Sms := (.cons (.set 2 true (.bin .mod (.bin .add (.bin .add (.bin .mul (.rf 0) (.lit (.int 48271))) (.bin .mul (.rf 1) (.lit (.int 69621)))) (.lit (.int 12345))) (.lit (.int 2147483647))))
 (.cons (.ret true (.bin .mod (.bin .add (.bin .mul (.rf 2) (.bin .add (.bin .div (.rf 2) (.lit (.int 65536))) (.lit (.int 3)))) (.rf 1)) (.lit (.int 2147483647))))
 .nil))
def mixStep (a k : Int) : Int := (a * 48271 + k * 69621 + 12345) % 2147483647
def mixed (a k : Int) : Int := (mixStep a k * (mixStep a k / 65536 + 3) + k) % 2147483647
theorem mixStep_bd (a k : Int) : 0 ≤ mixStep a k ∧ mixStep a k < 2147483647 := ⟨Int.emod_nonneg _ (by decide), Int.emod_lt_of_pos _ (by decide)⟩
theorem mixed_bd (a k : Int) : 0 ≤ mixed a k ∧ mixed a k < 2147483647 := ⟨Int.emod_nonneg _ (by decide), Int.emod_lt_of_pos _ (by decide)⟩
theorem run_mixed {P : Pg} {sub : Nat → Nat → Option Bool} {k f : Nat} (h : P f = some ⟨3, 2, bMixed⟩) (a b : Int) : run P sub (k + 1) f [.p (.int a), .p (.int b)] = .ok (.p (.int (mixed a b))) [some (.p (.int a)), some (.p (.int b))] := by
  have hb := mixStep_bd a b
  have hm : (-18446744073709551616 < mixStep a b ∧ mixStep a b < 18446744073709551616) := by omega
  rw [run_succ h rfl]
  simp [bMixed, byRef]
  rw [show (a * 48271 + b * 69621 + 12345) % 2147483647 = mixStep a b from rfl]
  simp [hm]
  rfl
end Q1
namespace Q1
open PySem
/-! ### what is drawn -/
/-- the numbers: a list of ints, each of six digits at most; where it stands -/
structure Drawn (m : M) : Prop where
  is : ∃ (ns : List Int) (at' : Int), m = .ol [.list (ns.map .int), .int at'] ∧ (∀ n ∈ ns, 0 ≤ n ∧ n < 1000000) ∧ 0 ≤ at'
def bDraw (g : Nat) : Sms := (.cons (.set 1 true (.ix (.rf 0) (.lit (.int 1))))
 (.cons (.setix 0 (.lit (.int 1)) (.bin .add (.rf 1) (.lit (.int 1))))
 (.cons (.ite (.cmp .lt (.rf 1) (.bi .len (.cons (.ix (.rf 0) (.lit (.int 0))) .nil)))
 (.cons (.ret true (.ix (.ix (.rf 0) (.lit (.int 0))) (.rf 1)))
 .nil)
 .nil)
 (.cons (.set 2 true (.bin .add (.lit (.int 1)) (.rf 1)))
 (.cons (.ite (.cmp .gt (.bi .len (.cons (.ix (.rf 0) (.lit (.int 0))) .nil)) (.lit (.int 0)))
 (.cons (.set 2 true (.bin .add (.rf 2) (.bin .mul (.lit (.int 1009)) (.ix (.ix (.rf 0) (.lit (.int 0))) (.lit (.int 0))))))
 .nil)
 .nil)
 (.cons (.ret true (.bin .mod (.call g (.cons (.call g (.cons (.rf 2) (.cons (.rf 1) .nil))) (.cons (.lit (.int 5)) .nil))) (.lit (.int 1000000))))
 .nil))))))
theorem atI_nat {α : Type} {xs : List α} {i : Int} (h : 0 ≤ i) : L2.atI xs i = xs[i.toNat]? := by
  unfold L2.atI L2.ixN
  rw [if_pos h]
  by_cases hl : i < xs.length
  · rw [if_pos hl]; rfl
  · rw [if_neg hl, List.getElem?_eq_none (by omega)]; rfl
theorem run_draw {P : Pg} {sub : Nat → Nat → Option Bool} {k f g : Nat} (hg : P g = some ⟨3, 2, bMixed⟩) (h : P f = some ⟨3, 1, bDraw g⟩) {m : M} (hd : Drawn m) :
    ∃ (v : Int) (m' : M), run P sub (k + 2) f [m] = .ok (.p (.int v)) [some m'] ∧ Drawn m' ∧ 0 ≤ v ∧ v < 1000000 := by
  obtain ⟨ns, at', rfl, hns, hat⟩ := hd.is
  have dr : Drawn (.ol [.list (ns.map .int), .int (at' + 1)]) := ⟨⟨ns, at' + 1, rfl, hns, by omega⟩⟩
  rw [run_succ h rfl]
  by_cases hlt : at' < ns.length
  · have hlt' : at'.toNat < ns.length := by omega
    refine ⟨ns[at'.toNat], _, ?_, dr, hns _ (List.getElem_mem hlt')⟩
    simp [bDraw, atI_nat, L2.ixN, hat, hlt, hlt']
  · cases ns with
    | nil =>
      refine ⟨_, _, ?_, dr, Int.emod_nonneg (mixed (mixed (1 + at') at') 5) (by decide : (1000000 : Int) ≠ 0), Int.emod_lt_of_pos _ (by decide)⟩
      simp [bDraw, atI_nat, L2.ixN, hat, run_mixed hg, Int.not_lt.mpr hat]
    | cons n ns =>
      refine ⟨_, _, ?_, dr, Int.emod_nonneg (mixed (mixed (1 + at' + 1009 * n) at') 5) (by decide : (1000000 : Int) ≠ 0), Int.emod_lt_of_pos _ (by decide)⟩
      simp at hlt
      have hpos : (0 : Int) < ns.length + 1 := by omega
      simp [bDraw, atI_nat, L2.ixN, hat, run_mixed hg, Int.not_lt.mpr hlt, hpos]
end Q1
namespace Q1
open PySem
/-! ### the numbers of a script -/
def bNumIn : Sms := (.cons (.ite (.cmp .gt (.rf 3) (.lit (.int 0)))
 (.cons (.app 1 (.bin .mod (.rf 3) (.lit (.int 1000000))))
 (.kill [4] (.cons (.set 3 true (.bin .div (.rf 3) (.lit (.int 1000000))))
 .nil)))
 .nil)
 (.kill [4] .nil))
def bNumSm (g : Nat) : Sms := (.cons (.app 1 (.bin .mod (.call g (.cons (.call g (.cons (.bin .mod (.rf 2) (.lit (.int 2147483647))) (.cons (.rf 4) .nil))) (.cons (.bin .add (.rf 4) (.lit (.int 7))) .nil))) (.lit (.int 1000000))))
 (.kill [4] .nil))
def bNumOut (g : Nat) : Sms := (.cons (.ite (.cmp .ge (.rf 2) (.bin .pow (.lit (.int 10)) (.lit (.int 18))))
 (.cons (.set 3 true (.var 2))
 (.kill [2, 4] (.cons (.loop (.name 4) (.range (.cons (.lit (.int 60)) .nil)) bNumIn)
 (.kill [3, 4] .nil))))
 (.cons (.app 1 (.bin .mod (.rf 2) (.lit (.int 1000000))))
 (.kill [3, 4] (.cons (.loop (.name 4) (.range (.cons (.lit (.int 5)) .nil)) (bNumSm g))
 (.kill [2, 4] .nil)))))
 (.kill [2, 3, 4] .nil))
def bNumbers (g : Nat) : Sms := (.cons (.set 1 true (.lst .nil))
 (.cons (.loop (.name 2) (.seq (.var 0)) (bNumOut g))
 (.kill [2, 3, 4] (.cons (.ret true (.var 1))
 .nil))))
def Six (ns : List Int) : Prop := ∀ n ∈ ns, 0 ≤ n ∧ n < 1000000
theorem Six.snoc {ns : List Int} {v : Int} (h : Six ns) (hv : 0 ≤ v ∧ v < 1000000) : Six (ns ++ [v]) := fun n hn => by
  rcases List.mem_append.mp hn with q | q
  · exact h n q
  · rw [List.mem_singleton.mp q]; exact hv
theorem mod6 (a : Int) : 0 ≤ a % 1000000 ∧ a % 1000000 < 1000000 := ⟨Int.emod_nonneg _ (by decide), Int.emod_lt_of_pos _ (by decide)⟩
theorem ups_get? : ∀ {n : Nat} {lo : Int} {i : Nat} {x : D}, (ups lo n)[i]? = some x → x = .int (lo + i) ∧ i < n
  | 0, _, _, _, h => by simp [ups] at h
  | n + 1, lo, 0, x, h => by simp [ups] at h; subst h; simp
  | n + 1, lo, i + 1, x, h => by
    have := ups_get? (n := n) (lo := lo + 1) (i := i) (by simpa [ups] using h)
    refine ⟨by rw [this.1]; congr 1; omega, by omega⟩
theorem ups_mem {n : Nat} {lo : Int} {x : D} (h : x ∈ ups lo n) : ∃ i : Nat, x = .int (lo + i) ∧ i < n := by
  obtain ⟨i, hi⟩ := List.mem_iff_getElem?.mp h
  exact ⟨i, ups_get? hi⟩
theorem ups_eq : ∀ (n : Nat) (lo : Int), ups lo n = (List.range n).map fun i : Nat => .int (lo + i)
  | 0, _ => rfl
  | n + 1, lo => by
    rw [List.range_succ_eq_map, List.map_cons, List.map_map, ups, ups_eq n (lo + 1)]
    simp
    intro a _
    omega
@[simp] theorem ups_length {n : Nat} {lo : Int} : (ups lo n).length = n := by rw [ups_eq]; simp
@[simp] theorem sizeLine_is : sizeLine = 16777216 := sizeLine_eq
@[simp] theorem rangeO_1 {j : Int} : rangeO [.int j] = (@ite _ (j ≤ 16777216 ∧ -4611686018427387904 ≤ j) (Classical.propDecidable _) (some (ups 0 j.toNat)) none) := by rw [rangeO]; simp
@[simp] theorem rangeO_2 {i j : Int} : rangeO [.int i, .int j] = (@ite _ ((-4611686018427387904 ≤ i ∧ i < 4611686018427387904 ∧ -4611686018427387904 ≤ j ∧ j < 4611686018427387904) ∧ j - i ≤ 16777216) (Classical.propDecidable _) (some (ups i (j - i).toNat)) none) := by rw [rangeO]; simp
@[simp] theorem setTg_q1 : type_of% @setTg.eq_1 := @setTg.eq_1
@[simp] theorem setTg_q2 : type_of% @setTg.eq_2 := @setTg.eq_2
@[simp] theorem setTg_q3 : type_of% @setTg.eq_3 := @setTg.eq_3
theorem num_in {C : PC} {s0 : Option M} {ns : List Int} {v : Int} (hs : Six ns) (hl : ns.length ≤ 1000000) : ∃ (ns' : List Int) (v' : Int), forL (loopT [] (.name 4) (evSs C [] bNumIn)) (ups 0 60) [s0, some (.ol (ns.map .int)), none, some (.p (.int v)), none] = .ok .nx [s0, some (.ol (ns'.map .int)), none, some (.p (.int v')), none] ∧ Six ns' ∧ ns'.length ≤ ns.length + 60 := by
  obtain ⟨e', h1, h2⟩ := forL_inv (body := loopT [] (.name 4) (evSs C [] bNumIn)) (xs := ups 0 60) (e := [s0, some (.ol (ns.map .int)), none, some (.p (.int v)), none])
    (fun i e => ∃ (ns' : List Int) (v' : Int), e = [s0, some (.ol (ns'.map .int)), none, some (.p (.int v')), none] ∧ Six ns' ∧ ns'.length ≤ ns.length + i) 0 ⟨ns, v, rfl, hs, Nat.le_refl _⟩ fun i x e hx ⟨ns', v', he, h1, h2⟩ => by
      have hi := (ups_get? hx).2
      subst he
      by_cases hv : 0 < v'
      · refine ⟨_, ?_, ns' ++ [v' % 1000000], v' / 1000000, rfl, h1.snoc (mod6 v'), by simp; omega⟩
        have : ns'.length < 16777216 := by omega
        simp [loopT, bNumIn, hv, this]
      · refine ⟨_, ?_, ns', v', rfl, h1, by omega⟩
        simp [loopT, bNumIn, hv]
  obtain ⟨ns', v', h3, h4, h5⟩ := h2
  exact ⟨ns', v', by rw [h1, h3], h4, by simpa using h5⟩
theorem num_sm {P : Pg} {sub : Nat → Nat → Option Bool} {k g : Nat} (hg : P g = some ⟨3, 2, bMixed⟩) {s0 : Option M} {ns : List Int} {v : Int} (hs : Six ns) (hl : ns.length ≤ 1000000) :
    ∃ (ns' : List Int), forL (loopT [] (.name 4) (evSs ⟨run P sub (k + 1), sub⟩ [] (bNumSm g))) (ups 0 5) [s0, some (.ol (ns.map .int)), some (.p (.int v)), none, none] = .ok .nx [s0, some (.ol (ns'.map .int)), some (.p (.int v)), none, none] ∧ Six ns' ∧ ns'.length ≤ ns.length + 5 := by
  obtain ⟨e', h1, h2⟩ := forL_inv (body := loopT [] (.name 4) (evSs ⟨run P sub (k + 1), sub⟩ [] (bNumSm g))) (xs := ups 0 5) (e := [s0, some (.ol (ns.map .int)), some (.p (.int v)), none, none])
    (fun i e => ∃ (ns' : List Int), e = [s0, some (.ol (ns'.map .int)), some (.p (.int v)), none, none] ∧ Six ns' ∧ ns'.length ≤ ns.length + i) 0 ⟨ns, rfl, hs, Nat.le_refl _⟩ fun i x e hx ⟨ns', he, h1, h2⟩ => by
      have hi := (ups_get? hx)
      obtain ⟨rfl, hi⟩ := hi
      subst he
      refine ⟨_, ?_, ns' ++ [mixed (mixed (v % 2147483647) (0 + i)) (0 + i + 7) % 1000000], rfl, h1.snoc (mod6 _), by simp; omega⟩
      have : ns'.length < 16777216 := by omega
      simp [loopT, bNumSm, this, run_mixed hg]
  obtain ⟨ns', h3, h4, h5⟩ := h2
  exact ⟨ns', by rw [h1, h3], h4, by simpa using h5⟩
theorem run_numbers {P : Pg} {sub : Nat → Nat → Option Bool} {k f g : Nat} (hg : P g = some ⟨3, 2, bMixed⟩) (h : P f = some ⟨5, 1, bNumbers g⟩) (cs : List Int) (hc : cs.length ≤ 1000) :
    ∃ (ns : List Int), run P sub (k + 2) f [.p (.list (cs.map .int))] = .ok (.p (.list (ns.map .int))) [some (.p (.list (cs.map .int)))] ∧ Six ns := by
  rw [run_succ h rfl]
  obtain ⟨e', h1, h2⟩ := forL_inv (body := loopT [] (.name 2) (evSs ⟨run P sub (k + 1), sub⟩ [] (bNumOut g))) (xs := cs.map .int) (e := [some (.p (.list (cs.map .int))), some (.ol []), none, none, none])
    (fun i e => ∃ (ns' : List Int), e = [some (.p (.list (cs.map .int))), some (.ol (ns'.map .int)), none, none, none] ∧ Six ns' ∧ ns'.length ≤ 60 * i ∧ i ≤ 1000) 0 ⟨[], rfl, (fun _ h => by simp at h), Nat.le_refl _, Nat.zero_le _⟩ fun i x e hx ⟨ns', he, h1, h2, h3⟩ => by
      have hi : i < cs.length := by
        have := (List.getElem?_eq_some_iff.mp hx).1
        simpa using this
      rw [List.getElem?_map] at hx
      obtain ⟨c, hc', rfl⟩ := Option.map_eq_some_iff.mp hx
      subst he
      by_cases hv : 1000000000000000000 ≤ c
      · obtain ⟨ns2, v2, h4, h5, h6⟩ := num_in (C := ⟨run P sub (k + 1), sub⟩) (s0 := some (.p (.list (cs.map .int)))) (v := c) h1 (by omega)
        refine ⟨_, ?_, ns2, rfl, h5, by omega, by omega⟩
        simp [loopT, bNumOut, hv, h4]
      · obtain ⟨ns2, h4, h5, h6⟩ := num_sm (k := k) (sub := sub) hg (s0 := some (.p (.list (cs.map .int)))) (v := c) (h1.snoc (mod6 c)) (by simp; omega)
        simp at h6
        refine ⟨_, ?_, ns2, rfl, h5, by omega, by omega⟩
        have hz : ns'.length < 16777216 := by omega
        simp at h4
        simp [loopT, bNumOut, hv, hz, h4]
  obtain ⟨ns', h3, h4, _⟩ := h2
  refine ⟨ns', ?_, h4⟩
  subst h3
  simp [bNumbers, h1]
end Q1

set_option maxHeartbeats 2000000
/-! M2: the laws' own equality; changes drawn. -/
namespace Q1
open PySem
mutual
def dpt : D → Nat
  | .list xs => dpts xs + 1
  | .tuple xs => dpts xs + 1
  | .dict _ => 0
  | _ => 0
def dpts : List D → Nat
  | [] => 0
  | x :: xs => max (dpt x) (dpts xs)
end
mutual
def plainD : D → Bool
  | .list xs => decide (xs.length ≤ 16777216) && plainDs xs
  | .tuple xs => decide (xs.length ≤ 16777216) && plainDs xs
  | .dict _ => false
  | _ => true
def plainDs : List D → Bool
  | [] => true
  | x :: xs => plainD x && plainDs xs
end
theorem dpts_mem : ∀ {xs : List D} {x : D}, x ∈ xs → dpt x ≤ dpts xs
  | y :: ys, x, h => by
    rcases List.mem_cons.mp h with q | q
    · rw [q, dpts]; exact Nat.le_max_left _ _
    · rw [dpts]; exact Nat.le_trans (dpts_mem q) (Nat.le_max_right _ _)
theorem plainDs_mem : ∀ {xs : List D} {x : D}, plainDs xs = true → x ∈ xs → plainD x = true
  | y :: ys, x, h, hm => by
    rw [plainDs, Bool.and_eq_true] at h
    rcases List.mem_cons.mp hm with q | q
    · rw [q]; exact h.1
    · exact plainDs_mem h.2 q
def bAllIn (f : Nat) : Sms := (.cons (.ite (.not (.tru (.call f (.cons (.ix (.rf 0) (.rf 2)) (.cons (.ix (.rf 1) (.rf 2)) .nil)))))
 (.cons (.ret true (.lit (.bool false)))
 .nil)
 .nil)
 (.kill [2] .nil))
def bAll (f : Nat) : Sms := (.cons (.loop (.name 2) (.range (.cons (.bi .len (.cons (.rf 1) .nil)) .nil)) (bAllIn f))
 (.kill [2] (.cons (.ret true (.lit (.bool true)))
 .nil)))
def bEqual (g : Nat) : Sms := (.cons (.ite (.tru (.bi .isList (.cons (.rf 1) .nil)))
 (.cons (.ret true (.tv (.and (.val (.bi .isList (.cons (.rf 0) .nil))) (.and (.cmp .eq (.bi .len (.cons (.rf 0) .nil)) (.bi .len (.cons (.rf 1) .nil))) (.one (.val (.call g (.cons (.rf 0) (.cons (.rf 1) .nil)))))))))
 .nil)
 .nil)
 (.cons (.ite (.tru (.bi .isTuple (.cons (.rf 1) .nil)))
 (.cons (.ret true (.tv (.and (.val (.bi .isTuple (.cons (.rf 0) .nil))) (.and (.cmp .eq (.bi .len (.cons (.rf 0) .nil)) (.bi .len (.cons (.rf 1) .nil))) (.one (.val (.call g (.cons (.rf 0) (.cons (.rf 1) .nil)))))))))
 .nil)
 .nil)
 (.cons (.ite (.tru (.bi .isBool (.cons (.rf 1) .nil)))
 (.cons (.ret true (.tv (.and (.val (.bi .isBool (.cons (.rf 0) .nil))) (.one (.cmp .eq (.rf 0) (.rf 1))))))
 .nil)
 .nil)
 (.cons (.ite (.tru (.bi .isInt (.cons (.rf 1) .nil)))
 (.cons (.ret true (.tv (.and (.val (.bi .isInt (.cons (.rf 0) .nil))) (.and (.not (.tru (.bi .isBool (.cons (.rf 0) .nil)))) (.one (.cmp .eq (.rf 0) (.rf 1)))))))
 .nil)
 .nil)
 (.cons (.ite (.tru (.bi .isStr (.cons (.rf 1) .nil)))
 (.cons (.ret true (.tv (.and (.val (.bi .isStr (.cons (.rf 0) .nil))) (.one (.cmp .eq (.rf 0) (.rf 1))))))
 .nil)
 .nil)
 (.cons (.ret true (.tv (.cmp .is (.rf 0) (.lit .none))))
 .nil))))))
/-- items, one by one -/
def sqD (xs : List D) : D → Prop := fun d => d = .list xs ∨ d = .tuple xs
theorem run_all {P : Pg} {sub : Nat → Nat → Option Bool} {k f g : Nat} (hA : P g = some ⟨3, 2, bAll f⟩) {m1 m2 : M} {xs : List D} (hl : xs.length ≤ 16777216) (h1 : sqD xs m1.toD) (h2 : sqD xs m2.toD)
    (ih : ∀ x ∈ xs, run P sub k f [.p x, .p x] = .ok (.p (.bool true)) [some (.p x), some (.p x)]) : run P sub (k + 1) g [m1, m2] = .ok (.p (.bool true)) [some m1, some m2] := by
  rw [run_succ hA rfl]
  obtain ⟨e', h3, h4⟩ := forL_inv (body := loopT (byRef 0 [m1, m2]) (.name 2) (evSs ⟨run P sub k, sub⟩ (byRef 0 [m1, m2]) (bAllIn f))) (xs := ups 0 xs.length) (e := [some m1, some m2, none])
    (fun i e => e = [some m1, some m2, none]) 0 rfl fun i x e hx he => by
      obtain ⟨rfl, hi⟩ := ups_get? hx
      subst he
      have hm : xs[i] ∈ xs := List.getElem_mem hi
      have i1 := ih _ hm
      have a1 : ixO m1.toD (.int (i : Int)) = some xs[i] := by
        rcases h1 with q | q <;> rw [q] <;> simp [atI_nat, hi]
      have a2 : ixO m2.toD (.int (i : Int)) = some xs[i] := by
        rcases h2 with q | q <;> rw [q] <;> simp [atI_nat, hi]
      have nb : ¬ (2 ∈ byRef 0 [m1, m2]) := by
        unfold byRef byRef byRef
        split <;> split <;> simp
      refine ⟨_, ?_, rfl⟩
      simp [loopT, bAllIn, -byRef_q1, -byRef_q2, a1, a2, i1, nb]
  subst h4
  have b2 : biO .len [m2.toD] = some (.p (.int xs.length)) := by
    rcases h2 with q | q <;> rw [q] <;> simp
  have nb : ¬ (2 ∈ byRef 0 [m1, m2]) := by
    unfold byRef byRef byRef
    split <;> split <;> simp
  have hl' : (xs.length : Int) ≤ 16777216 := by omega
  have hl2 : (-4611686018427387904 : Int) ≤ xs.length := by omega
  simp [-byRef_q1, -byRef_q2, bAll, b2, hl', hl2, h3, nb]
theorem run_equal {P : Pg} {sub : Nat → Nat → Option Bool} {f g : Nat} (hE : P f = some ⟨2, 2, bEqual g⟩) (hA : P g = some ⟨3, 2, bAll f⟩) : ∀ (n : Nat) (d : D), plainD d = true → dpt d ≤ n → ∀ (k : Nat) (m1 m2 : M), m1.toD = d → m2.toD = d → run P sub (k + 2 * n + 1) f [m1, m2] = .ok (.p (.bool true)) [some m1, some m2]
  | n, .none, _, _, k, m1, m2, h1, h2 => by
    rw [run_succ hE rfl]
    simp [bEqual, -byRef_q1, -byRef_q2, h1, h2]
  | n, .bool b, _, _, k, m1, m2, h1, h2 => by
    rw [run_succ hE rfl]
    simp [bEqual, -byRef_q1, -byRef_q2, h1, h2]
  | n, .int b, _, _, k, m1, m2, h1, h2 => by
    rw [run_succ hE rfl]
    simp [bEqual, -byRef_q1, -byRef_q2, h1, h2]
  | n, .str b, _, _, k, m1, m2, h1, h2 => by
    rw [run_succ hE rfl]
    simp [bEqual, -byRef_q1, -byRef_q2, h1, h2]
  | n, .dict b, h, _, k, m1, m2, h1, h2 => by cases h
  | 0, .list xs, _, h, _, _, _, _, _ => by simp [dpt] at h
  | 0, .tuple xs, _, h, _, _, _, _, _ => by simp [dpt] at h
  | n + 1, .list xs, hp, hd, k, m1, m2, h1, h2 => by
    rw [plainD, Bool.and_eq_true, decide_eq_true_eq] at hp
    rw [dpt] at hd
    have key := run_all (sub := sub) (k := k + 2 * n + 1) hA hp.1 (.inl h1) (.inl h2) fun x hx => run_equal hE hA n x (plainDs_mem hp.2 hx) (by have := dpts_mem hx; omega) k (.p x) (.p x) rfl rfl
    rw [run_succ hE rfl]
    rw [show k + 2 * (n + 1) = k + 2 * n + 1 + 1 by omega]
    simp [bEqual, -byRef_q1, -byRef_q2, h1, h2, key]
    cases m1 <;> cases m2 <;> simp
  | n + 1, .tuple xs, hp, hd, k, m1, m2, h1, h2 => by
    rw [plainD, Bool.and_eq_true, decide_eq_true_eq] at hp
    rw [dpt] at hd
    have key := run_all (sub := sub) (k := k + 2 * n + 1) hA hp.1 (.inr h1) (.inr h2) fun x hx => run_equal hE hA n x (plainDs_mem hp.2 hx) (by have := dpts_mem hx; omega) k (.p x) (.p x) rfl rfl
    rw [run_succ hE rfl]
    rw [show k + 2 * (n + 1) = k + 2 * n + 1 + 1 by omega]
    simp [bEqual, -byRef_q1, -byRef_q2, h1, h2, key]
    cases m1 <;> cases m2 <;> simp
end Q1

set_option maxHeartbeats 2000000
/-! M3: changes drawn; turned over. -/
namespace Q1
open PySem
abbrev dI (i : Int) : D := .int i
abbrev dIs (c : List Int) : List D := c.map .int
abbrev dC (c : List Int) : D := .tuple (c.map .int)
structure ValidC (n : Int) (c : List Int) : Prop where
  bd : ∀ x ∈ c, 1 ≤ x ∧ x < n
  pw : c.Pairwise fun a b => a + 2 ≤ b
  len : c.length ≤ 2000000
theorem eqvAll_ints : ∀ (a b : List Int), PyData.eqvAll (a.map .int) (b.map .int) = decide (a = b)
  | [], [] => by simp [PyData.eqvAll]
  | [], _ :: _ => by simp [PyData.eqvAll]
  | _ :: _, [] => by simp [PyData.eqvAll]
  | x :: a, y :: b => by
    simp only [List.map_cons, PyData.eqvAll, PyData.eqv, eqvAll_ints a b]
    by_cases h : x = y <;> simp [h]
theorem lay_ints : ∀ (a : List Int), PyData.canLayAll0 (a.map .int) = true
  | [] => by simp [PyData.canLayAll0]
  | x :: a => by simp [PyData.canLayAll0, PyData.canLay0, lay_ints a]
theorem depth_ints : ∀ (a : List Int), PyData.depthAll (a.map .int) = 0
  | [] => by simp [PyData.depthAll]
  | x :: a => by simp [PyData.depthAll, PyData.depth, depth_ints a]
theorem okEq_dC (c : List Int) : okEq (.tuple (c.map .int)) = true := by
  unfold okEq
  rw [PyData.canLay0, lay_ints, PyData.depth, depth_ints]
  decide
theorem okEq_dL (c : List Int) : okEq (.list (c.map .int)) = true := by
  unfold okEq
  rw [PyData.canLay0, lay_ints, PyData.depth, depth_ints]
  decide
@[simp] theorem eqO_dC (a b : List Int) : eqO (.tuple (a.map .int)) (.tuple (b.map .int)) = some (decide (a = b)) := by
  simp [eqO, okEq_dC, PyData.eqv, eqvAll_ints]
@[simp] theorem eqO_dL (a b : List Int) : eqO (.list (a.map .int)) (.list (b.map .int)) = some (decide (a = b)) := by
  simp [eqO, okEq_dL, PyData.eqv, eqvAll_ints]
def bChIn (g : Nat) : Sms := (.cons (.ite (.cmp .lt (.bin .mod (.call g (.cons (.rf 0) .nil)) (.lit (.int 5))) (.lit (.int 3)))
 (.cons (.app 2 (.var 3))
 (.cons (.set 3 true (.bin .add (.rf 3) (.lit (.int 2))))
 .nil))
 (.cons (.set 3 true (.bin .add (.rf 3) (.lit (.int 1))))
 .nil))
 .nil)
def tCh : Tx := .cmp .lt (.rf 3) (.rf 1)
def bChange (g : Nat) : Sms := (.cons (.set 2 true (.lst .nil))
 (.cons (.set 3 true (.lit (.int 1)))
 (.cons (.whil 1000000000 tCh (bChIn g))
 (.kill [3] (.cons (.ret true (.bi .tuple (.cons (.rf 2) .nil)))
 .nil)))))
abbrev mD (ns : List Int) (a : Int) : M := .ol [.list (ns.map .int), .int a]
/-- the number drawn -/
noncomputable def dwn (ns : List Int) (a : Int) : Int := if a < ns.length then ns[a.toNat]?.getD 0 else match ns with
  | [] => mixed (mixed (1 + a) a) 5 % 1000000
  | n :: _ => mixed (mixed (1 + a + 1009 * n) a) 5 % 1000000
theorem dwn_bd {ns : List Int} (hns : Six ns) (a : Int) : 0 ≤ dwn ns a ∧ dwn ns a < 1000000 := by
  unfold dwn
  split
  · by_cases h : a.toNat < ns.length
    · rw [List.getElem?_eq_getElem h]
      exact hns _ (List.getElem_mem h)
    · rw [List.getElem?_eq_none (by omega)]
      decide
  · split <;> exact mod6 _
theorem run_dwn {P : Pg} {sub : Nat → Nat → Option Bool} {k f g : Nat} (hg : P g = some ⟨3, 2, bMixed⟩) (h : P f = some ⟨3, 1, bDraw g⟩) {ns : List Int} {a : Int} (ha : 0 ≤ a) :
    run P sub (k + 2) f [mD ns a] = .ok (.p (.int (dwn ns a))) [some (mD ns (a + 1))] := by
  rw [run_succ h rfl]
  unfold dwn
  by_cases hlt : a < ns.length
  · have hlt' : a.toNat < ns.length := by omega
    simp [bDraw, atI_nat, L2.ixN, ha, hlt, hlt']
  · cases ns with
    | nil =>
      simp [bDraw, atI_nat, L2.ixN, ha, run_mixed hg, Int.not_lt.mpr ha]
    | cons n ns =>
      simp at hlt
      have hpos : (0 : Int) < ns.length + 1 := by omega
      simp [bDraw, atI_nat, L2.ixN, ha, run_mixed hg, Int.not_lt.mpr hlt, hpos]
def ChInv (ns : List Int) (n : Int) (e : En) : Prop := ∃ (a : Int) (c : List Int) (p : Int), e = [some (mD ns a), some (.p (.int n)), some (.ol (c.map .int)), some (.p (.int p))] ∧ 0 ≤ a ∧ 1 ≤ p ∧ ValidC n c ∧ (∀ x ∈ c, x + 2 ≤ p) ∧ (c.length ≤ p ∧ c.length ≤ 1000001)
def chMu (e : En) : Nat := match e with
  | [_, some (.p (.int n)), _, some (.p (.int p))] => (n - p).toNat
  | _ => 0
theorem run_change {P : Pg} {sub : Nat → Nat → Option Bool} {k f g x : Nat} (hx : P x = some ⟨3, 2, bMixed⟩) (hg : P g = some ⟨3, 1, bDraw x⟩) (h : P f = some ⟨4, 2, bChange g⟩) {ns : List Int} {a : Int} (ha : 0 ≤ a) {n : Int} (hn : n ≤ 1000000) :
    ∃ (c : List Int) (a' : Int), run P sub (k + 3) f [mD ns a, .p (.int n)] = .ok (.p (dC c)) [some (mD ns a'), some (.p (.int n))] ∧ 0 ≤ a' ∧ ValidC n c := by
  rw [run_succ h rfl]
  obtain ⟨e', h1, h2⟩ := whileL_inv (t := evT ⟨run P sub (k + 2), sub⟩ tCh) (body := evSs ⟨run P sub (k + 2), sub⟩ [0] (bChIn g)) chMu (ChInv ns n) (fun e ⟨a, c, p, he, hd, hp, hv, hb, hl⟩ => by
      subst he
      by_cases hlt : p < n
      · refine ⟨true, [some (mD ns a), some (.p (.int n)), some (.ol (c.map .int)), some (.p (.int p))], by simp [tCh, hlt], ?_⟩
        have h3 := run_dwn (sub := sub) (k := k) hx hg (ns := ns) hd
        generalize dwn ns a = v at h3
        by_cases hv5 : v % 5 < 3
        · refine ⟨[some (mD ns (a + 1)), some (.p (.int n)), some (.ol ((c ++ [p]).map .int)), some (.p (.int (p + 2)))], ?_, ⟨a + 1, c ++ [p], p + 2, rfl, by omega, by omega, ⟨fun x hx => ?_, ?_, ?_⟩, fun x hx => ?_, ?_⟩, ?_⟩
          · have : c.length < 16777216 := by omega
            simp [bChIn, h3, hv5, this]
          · rcases List.mem_append.mp hx with q | q
            · exact hv.bd x q
            · rw [List.mem_singleton.mp q]; exact ⟨hp, hlt⟩
          · rw [List.pairwise_append]
            exact ⟨hv.pw, by simp, fun a ha b hb' => by rw [List.mem_singleton.mp hb']; exact hb a ha⟩
          · simp; omega
          · rcases List.mem_append.mp hx with q | q
            · have := hb x q; omega
            · rw [List.mem_singleton.mp q]; omega
          · simp; omega
          · simp [chMu]; omega
        · refine ⟨[some (mD ns (a + 1)), some (.p (.int n)), some (.ol (c.map .int)), some (.p (.int (p + 1)))], ?_, ⟨a + 1, c, p + 1, rfl, by omega, by omega, hv, fun x hx => by have := hb x hx; omega, by omega⟩, ?_⟩
          · simp [bChIn, h3, hv5]
          · simp [chMu]; omega
      · exact ⟨false, _, by simp [tCh, hlt], a, c, p, rfl, hd, hp, hv, hb, hl⟩) (fun e => ∃ (a : Int) (c : List Int) (p : Int), e = [some (mD ns a), some (.p (.int n)), some (.ol (c.map .int)), some (.p (.int p))] ∧ 0 ≤ a ∧ ValidC n c) (fun e e1 ⟨a, c, p, he, hd, hp, hv, hb, hl⟩ ht => by
        subst he
        by_cases hlt : p < n
        · simp [tCh, hlt] at ht
        · simp [tCh, hlt] at ht
          exact ⟨a, c, p, ht.symm, hd, hv⟩) 1000000000 [some (mD ns a), some (.p (.int n)), some (.ol []), some (.p (.int 1))] (by simp [chMu]; omega) ⟨_, [], 1, rfl, ha, by omega, ⟨by simp, by simp, by simp⟩, by simp, by simp⟩
  obtain ⟨a', c, p, he, hd', hv⟩ := h2
  refine ⟨c, a', ?_, hd', hv⟩
  subst he
  simp [bChange, h1]
def cOver : Ex := .comp [2] (.name 2) (.seq (.var 1)) .yes (.bin .sub (.rf 0) (.rf 2))
@[simp] theorem opd_cOver {r : En → Res M} {e : En} : opd cOver r e = (r e).bind fun m e => .ok (.val m.toD) e := rfl
def bOver : Sms := (.cons (.ret true (.bi .tuple (.cons (.bi .sorted (.cons cOver .nil)) .nil)))
 .nil)
def over (n : Int) (c : List Int) : List Int := (c.map (n - ·)).reverse
theorem intsOf_map : ∀ (c : List Int), intsOf (c.map .int) = some c
  | [] => rfl
  | x :: c => by simp [intsOf, intsOf_map c]
theorem filterMap_some {α β : Type} {xs : List α} (f : α → β) : xs.filterMap (fun x => some (f x)) = xs.map f := by simp
theorem ev_cOver {C : PC} {n : Int} {c : List Int} : evX C cOver [some (.p (.int n)), some (.p (dC c)), none] = .ok (.ol ((c.map (n - ·)).map .int)) [some (.p (.int n)), some (.p (dC c)), none] := by
  have := ev_comp (C := C) (own := [2]) (g := .name 2) (it := .seq (.var 1)) (c := .yes) (e := .bin .sub (.rf 0) (.rf 2)) (env := [some (.p (.int n)), some (.p (dC c)), none]) (env1 := [some (.p (.int n)), some (.p (dC c)), none]) (xs := c.map .int)
    (fun d => match d with | .int i => some (.int (n - i)) | _ => none) (by simp) (by simp [plainAt]) fun x hx => by
      obtain ⟨i, _, rfl⟩ := List.mem_map.mp hx
      exact ⟨_, by simp; rfl, by simp⟩
  unfold cOver
  rw [this]
  congr 2
  rw [List.filterMap_map, List.map_map]
  exact congrFun List.filterMap_eq_map _
theorem over_sorted {n : Int} {c : List Int} (h : ValidC n c) : (over n c).Pairwise (· ≤ ·) := by
  unfold over
  rw [List.pairwise_reverse, List.pairwise_map]
  exact h.pw.imp fun {a b} h => by omega
theorem over_valid {n : Int} {c : List Int} (h : ValidC n c) : ValidC n (over n c) := by
  constructor
  · intro x hx
    unfold over at hx
    rw [List.mem_reverse] at hx
    obtain ⟨y, hy, rfl⟩ := List.mem_map.mp hx
    have := h.bd y hy
    omega
  · unfold over
    rw [List.pairwise_reverse, List.pairwise_map]
    exact h.pw.imp fun {a b} h => by omega
  · unfold over; simp; exact h.len
theorem run_over {P : Pg} {sub : Nat → Nat → Option Bool} {k f : Nat} (h : P f = some ⟨3, 2, bOver⟩) {n : Int} {c : List Int} (hv : ValidC n c) : run P sub (k + 1) f [.p (.int n), .p (dC c)] = .ok (.p (dC (over n c))) [some (.p (.int n)), some (.p (dC c))] := by
  rw [run_succ h rfl]
  have hs : (c.map (n - ·)).mergeSort (fun a b => decide (a ≤ b)) = over n c :=
    sorted_uniq ((List.mergeSort_perm _ _).trans (List.reverse_perm _).symm) (mergeSort_le _) (over_sorted hv)
  simp [bOver, ev_cOver, intsOf_map, -List.map_map]
  rw [hs]
end Q1

set_option maxHeartbeats 2000000
/-! M4: comprehensions and loops over typed items. -/
namespace Q1
open PySem
theorem filterMap_ite {α β : Type} (p : α → Bool) (ψ : α → β) : ∀ (ys : List α), ys.filterMap (fun y => if p y then some (ψ y) else none) = (ys.filter p).map ψ
  | [] => rfl
  | y :: ys => by
    cases h : p y <;> simp [List.filterMap_cons, List.filter_cons, h, filterMap_ite p ψ ys]
/-- what a comprehension makes of typed items -/
theorem compL_typed {α : Type} {f : D → En → Res (Option D)} {own : List Nat} {e0 : En} (φ : α → D) (o : α → Option D) : ∀ {ys : List α} {e : En}, kills e own = kills e0 own → (∀ y ∈ ys, ∀ e, kills e own = kills e0 own → ∃ e', f (φ y) e = .ok (o y) e' ∧ kills e' own = kills e0 own) →
    ∃ e', compL f (ys.map φ) e = .ok (ys.filterMap o) e' ∧ kills e' own = kills e0 own
  | [], e, h, _ => ⟨e, rfl, h⟩
  | y :: ys, e, h, hf => by
    obtain ⟨e1, h1, h2⟩ := hf y List.mem_cons_self e h
    obtain ⟨e2, h3, h4⟩ := compL_typed φ o (ys := ys) h2 fun z hz => hf z (List.mem_cons_of_mem _ hz)
    refine ⟨e2, ?_, h4⟩
    rw [List.map_cons]
    unfold compL
    rw [h1]
    simp only [Res.bind, h3]
    cases ho : o y with
    | none => simp [consO, ho]
    | some z => simp [consO, ho]
theorem ev_compT {α : Type} {C : PC} {own : List Nat} {g : Tg} {it : Itx} {c : Tx} {e : Ex} {env env1 : En} (ys : List α) (φ : α → D) (p : α → Bool) (ψ : α → D) (hi : evI C it env = .ok (ys.map φ) env1) (hp : plainAt env1 own = true)
    (hb : ∀ y ∈ ys, ∃ e', (match setTg (kills env1 own) g (φ y) with
      | some e2 => (evT C c e2).bind fun b e3 => if b then (evX C e e3).bind fun m e4 => .ok (some m.toD) e4 else .ok none e3
      | none => .bad) = Res.ok (if p y then some (ψ y) else none) e' ∧ kills e' own = kills env1 own) : evX C (.comp own g it c e) env = .ok (.ol ((ys.filter p).map ψ)) env1 := by
  obtain ⟨e5, h1, h2⟩ := compL_typed (f := compT own g (evT C c) (evX C e)) (own := own) (e0 := env1) φ (fun y => if p y then some (ψ y) else none) (ys := ys) (e := env1) rfl fun x hx e0 he => by
    obtain ⟨e', h1, h2⟩ := hb x hx
    exact ⟨e', by unfold compT; rw [he]; exact h1, h2⟩
  rw [filterMap_ite] at h1
  rw [evX_comp, hi]
  simp only [Res.bind, hp, if_true, h1, noExc, restore_eq h2]
theorem ev_compA {α : Type} {C : PC} {own : List Nat} {g : Tg} {it : Itx} {c : Tx} {e : Ex} {env env1 : En} (ys : List α) (φ : α → D) (ψ : α → D) (hi : evI C it env = .ok (ys.map φ) env1) (hp : plainAt env1 own = true)
    (hb : ∀ y ∈ ys, ∃ e', (match setTg (kills env1 own) g (φ y) with
      | some e2 => (evT C c e2).bind fun b e3 => if b then (evX C e e3).bind fun m e4 => .ok (some m.toD) e4 else .ok none e3
      | none => .bad) = Res.ok (some (ψ y)) e' ∧ kills e' own = kills env1 own) : evX C (.comp own g it c e) env = .ok (.ol (ys.map ψ)) env1 := by
  have := ev_compT (C := C) (c := c) (e := e) (g := g) ys φ (fun _ => true) ψ hi hp (by simpa using hb)
  rw [this, List.filter_eq_self.mpr (fun _ _ => rfl)]
theorem ev_compN {α : Type} {C : PC} {own : List Nat} {g : Tg} {it : Itx} {c : Tx} {e : Ex} {env env1 : En} (ys : List α) (φ : α → D) (hi : evI C it env = .ok (ys.map φ) env1) (hp : plainAt env1 own = true)
    (hb : ∀ y ∈ ys, ∃ e', (match setTg (kills env1 own) g (φ y) with
      | some e2 => (evT C c e2).bind fun b e3 => if b then (evX C e e3).bind fun m e4 => .ok (some m.toD) e4 else .ok none e3
      | none => .bad) = Res.ok none e' ∧ kills e' own = kills env1 own) : evX C (.comp own g it c e) env = .ok (.ol []) env1 := by
  have := ev_compT (C := C) (c := c) (e := e) (g := g) ys φ (fun _ => false) (fun _ => .none) hi hp (by simpa using hb)
  rw [this, List.filter_eq_nil_iff.mpr (fun _ _ => Bool.false_ne_true)]
  rfl
theorem restore_congr : ∀ {is : List Nat} {e a b : En}, (∀ i ∈ is, look a i = look b i) → restore e a is = restore e b is
  | [], _, _, _, _ => rfl
  | i :: is, e, a, b, h => by
    show restore (put e i (look a i)) a is = restore (put e i (look b i)) b is
    rw [h i List.mem_cons_self]
    exact restore_congr fun j hj => h j (List.mem_cons_of_mem _ hj)
/-- one whose parts change what is around: the state goes along -/
theorem ev_compS {α σ : Type} {C : PC} {own : List Nat} {g : Tg} {it : Itx} {c : Tx} {e : Ex} {env : En} (ys : List α) (φ : α → D) (E : σ → En) (inv : σ → Prop) (s0 : σ) (Q : D → Prop) (h0 : inv s0) (hi : evI C it env = .ok (ys.map φ) (E s0)) (hp : plainAt (E s0) own = true)
    (hr : ∀ s, ∀ i ∈ own, look (E s0) i = look (E s) i)
    (hb : ∀ y ∈ ys, ∀ s, inv s → ∃ v s' e', inv s' ∧ (match setTg (kills (E s) own) g (φ y) with
      | some e2 => (evT C c e2).bind fun b e3 => if b then (evX C e e3).bind fun m e4 => .ok (some m.toD) e4 else .ok none e3
      | none => .bad) = Res.ok (some v) e' ∧ Q v ∧ kills e' own = kills (E s') own) : ∃ (vs : List D) (s' : σ), evX C (.comp own g it c e) env = .ok (.ol vs) (E s') ∧ inv s' ∧ vs.length = ys.length ∧ ∀ v ∈ vs, Q v := by
  have key : ∀ (zs : List α) (e0 : En) (s : σ), (∀ y ∈ zs, y ∈ ys) → inv s → kills e0 own = kills (E s) own → ∃ vs e' s', inv s' ∧ compL (compT own g (evT C c) (evX C e)) (zs.map φ) e0 = .ok vs e' ∧ kills e' own = kills (E s') own ∧ vs.length = zs.length ∧ ∀ v ∈ vs, Q v := by
    intro zs
    induction zs with
    | nil => intro e0 s _ hs h; exact ⟨[], e0, s, hs, rfl, h, rfl, fun _ h => by cases h⟩
    | cons y zs ih =>
      intro e0 s hm hs h
      obtain ⟨v, s1, e1, hs1, h1, h2, h3⟩ := hb y (hm y List.mem_cons_self) s hs
      obtain ⟨vs, e2, s2, hs2, h4, h5, h6, h7⟩ := ih e1 s1 (fun z hz => hm z (List.mem_cons_of_mem _ hz)) hs1 h3
      refine ⟨v :: vs, e2, s2, hs2, ?_, h5, by simp [h6], fun w hw => ?_⟩
      · rw [List.map_cons]
        unfold compL
        rw [show compT own g (evT C c) (evX C e) (φ y) e0 = .ok (some v) e1 by unfold compT; rw [h]; exact h1]
        simp only [Res.bind, h4, consO]
      · rcases List.mem_cons.mp hw with q | q
        · rw [q]; exact h2
        · exact h7 w q
  obtain ⟨vs, e', s', hs, h1, h2, h3, h4⟩ := key ys (E s0) s0 (fun _ h => h) h0 rfl
  refine ⟨vs, s', ?_, hs, h3, h4⟩
  rw [evX_comp, hi]
  simp only [Res.bind, hp, if_true, h1, noExc, restore_congr (hr s'), restore_eq h2]
/-- a loop over typed items, its state by a function -/
theorem forL_fold {α σ : Type} {body : D → En → Res Fl} (φ : α → D) (E : σ → En) (inv : σ → Prop) (step : σ → α → σ) : ∀ (ys : List α) (s : σ), inv s → (∀ y ∈ ys, ∀ s, inv s → body (φ y) (E s) = .ok .nx (E (step s y)) ∧ inv (step s y)) → forL body (ys.map φ) (E s) = .ok .nx (E (ys.foldl step s)) ∧ inv (ys.foldl step s)
  | [], s, h, _ => ⟨rfl, h⟩
  | y :: ys, s, h, hb => by
    obtain ⟨h1, h2⟩ := hb y List.mem_cons_self s h
    rw [List.map_cons]
    unfold forL
    rw [h1]
    exact forL_fold φ E inv step ys _ h2 fun z hz => hb z (List.mem_cons_of_mem _ hz)
/-- a loop that looks for the first item at which it leaves -/
theorem forL_find {α : Type} {body : D → En → Res Fl} (φ : α → D) {e : En} {fl : Fl} (er : α → En) (p : α → Bool) (n1 : fl ≠ .nx) (n2 : fl ≠ .ct) (n3 : fl ≠ .bk) : ∀ {ys : List α}, (∀ y ∈ ys, body (φ y) e = if p y then .ok .nx e else .ok fl (er y)) → forL body (ys.map φ) e = match ys.find? (fun y => !p y) with
    | none => .ok .nx e
    | some y => .ok fl (er y)
  | [], _ => rfl
  | y :: ys, h => by
    rw [List.map_cons]
    unfold forL
    rw [h y List.mem_cons_self]
    cases q : p y with
    | true =>
      simp only [if_true, List.find?_cons, q, Bool.not_true]
      exact forL_find φ er p n1 n2 n3 (fun y hy => h y (List.mem_cons_of_mem _ hy))
    | false =>
      simp only [List.find?_cons, q, Bool.not_false]
      cases fl with
      | nx => exact absurd rfl n1
      | ct => exact absurd rfl n2
      | bk => exact absurd rfl n3
      | rt m => rfl
theorem unmap {α : Type} {f : α → D} {P : α → Prop} : ∀ {vs : List D}, (∀ v ∈ vs, ∃ c, v = f c ∧ P c) → ∃ cs : List α, vs = cs.map f ∧ ∀ c ∈ cs, P c
  | [], _ => ⟨[], rfl, fun _ h => by cases h⟩
  | v :: vs, h => by
    obtain ⟨c, rfl, hc⟩ := h v List.mem_cons_self
    obtain ⟨cs, rfl, hcs⟩ := unmap (vs := vs) fun w hw => h w (List.mem_cons_of_mem _ hw)
    refine ⟨c :: cs, rfl, fun d hd => ?_⟩
    rcases List.mem_cons.mp hd with q | q
    · rw [q]; exact hc
    · exact hcs d q
theorem ups0 (n : Nat) : ups 0 n = (List.range n).map fun i : Nat => .int i := by
  rw [ups_eq]; congr 1; funext i; simp
theorem atI_map {α : Type} {xs : List α} {f : α → D} {i : Nat} : L2.atI (xs.map f) (i : Int) = xs[i]?.map f := by
  rw [atI_nat (by omega)]; simp
theorem sIx_pos {n d : Nat} {k : Int} (h : 0 ≤ k) : HT.sIx n d (some k) = min k.toNat n := by
  obtain ⟨m, rfl⟩ := Int.eq_ofNat_of_zero_le h
  exact HT.sIx_nat n d m
theorem cutD_to {xs : List D} {k : Int} (h : 0 ≤ k) : cutD xs none (some k) = xs.take k.toNat := by
  unfold cutD
  rw [HT.sIx_none, sIx_pos h, List.drop_zero, Nat.sub_zero]
  by_cases q : k.toNat ≤ xs.length
  · rw [Nat.min_eq_left q]
  · rw [Nat.min_eq_right (by omega), List.take_of_length_le (by omega), List.take_of_length_le (by omega)]
theorem cutD_from {xs : List D} {k : Int} (h : 0 ≤ k) : cutD xs (some k) none = xs.drop k.toNat := by
  unfold cutD
  rw [HT.sIx_none, sIx_pos h]
  by_cases q : k.toNat ≤ xs.length
  · rw [Nat.min_eq_left q, List.take_of_length_le (by simp)]
  · rw [Nat.min_eq_right (by omega), List.drop_of_length_le (i := k.toNat) (by omega)]
    simp
theorem cutD_both {xs : List D} {i j : Int} (h : 0 ≤ i) (h2 : 0 ≤ j) : cutD xs (some i) (some j) = (xs.drop i.toNat).take (j.toNat - i.toNat) := by
  unfold cutD
  rw [sIx_pos h, sIx_pos h2]
  by_cases q : i.toNat ≤ xs.length
  · rw [Nat.min_eq_left q]
    by_cases q2 : j.toNat ≤ xs.length
    · rw [Nat.min_eq_left q2]
    · rw [Nat.min_eq_right (by omega), List.take_of_length_le (by simp), List.take_of_length_le (by simp; omega)]
  · rw [Nat.min_eq_right (show xs.length ≤ i.toNat by omega), List.drop_of_length_le (i := i.toNat) (by omega)]
    simp
theorem ixN_pos {n : Nat} {k : Int} (h : 0 ≤ k) (h2 : k < n) : L2.ixN n k = some k.toNat := by
  unfold L2.ixN
  rw [if_pos h, if_pos h2]
theorem range_ok {C : PC} {e : En} {es : Exs} {os : List Opd} {x : Nat} (h : evOs C es e = .ok os e) (h2 : fetchs e os = some [.int x]) (h3 : x ≤ 16777216) : evI C (.range es) e = .ok ((List.range x).map fun i : Nat => .int i) e := by
  have q1 : (x : Int) ≤ 16777216 := by omega
  have q2 : (-4611686018427387904 : Int) ≤ x := by omega
  rw [evI_range, h]
  simp only [Res.bind, h2]
  simp [q1, q2, ups0]
theorem plainDs_map {α : Type} {f : α → D} : ∀ {xs : List α}, (∀ x ∈ xs, plainD (f x) = true) → plainDs (xs.map f) = true
  | [], _ => by simp [plainDs]
  | x :: xs, h => by
    rw [List.map_cons, plainDs, h x List.mem_cons_self, plainDs_map fun y hy => h y (List.mem_cons_of_mem _ hy)]
    rfl
theorem dpts_map {α : Type} {f : α → D} {n : Nat} : ∀ {xs : List α}, (∀ x ∈ xs, dpt (f x) ≤ n) → dpts (xs.map f) ≤ n
  | [], _ => by simp [dpts]
  | x :: xs, h => by
    rw [List.map_cons, dpts]
    exact Nat.max_le.mpr ⟨h x List.mem_cons_self, dpts_map fun y hy => h y (List.mem_cons_of_mem _ hy)⟩
theorem plain_list {α : Type} {f : α → D} {xs : List α} (hl : xs.length ≤ 16777216) (h : ∀ x ∈ xs, plainD (f x) = true) : plainD (.list (xs.map f)) = true := by
  rw [plainD, plainDs_map h]; simp [hl]
theorem plain_tuple {α : Type} {f : α → D} {xs : List α} (hl : xs.length ≤ 16777216) (h : ∀ x ∈ xs, plainD (f x) = true) : plainD (.tuple (xs.map f)) = true := by
  rw [plainD, plainDs_map h]; simp [hl]
theorem plain_int {i : Int} : plainD (.int i) = true := by simp [plainD]
theorem dpt_int {i : Int} {n : Nat} : dpt (.int i) ≤ n := by simp [dpt]
theorem dpt_list {α : Type} {f : α → D} {xs : List α} {n : Nat} (h : ∀ x ∈ xs, dpt (f x) ≤ n) : dpt (.list (xs.map f)) ≤ n + 1 := by
  rw [dpt]; exact Nat.succ_le_succ (dpts_map h)
theorem dpt_tuple {α : Type} {f : α → D} {xs : List α} {n : Nat} (h : ∀ x ∈ xs, dpt (f x) ≤ n) : dpt (.tuple (xs.map f)) ≤ n + 1 := by
  rw [dpt]; exact Nat.succ_le_succ (dpts_map h)
theorem plain_two {a b : D} (ha : plainD a = true) (hb : plainD b = true) : plainD (.tuple [a, b]) = true := by
  simp [plainD, plainDs, ha, hb]
theorem dpt_two {a b : D} {n : Nat} (ha : dpt a ≤ n) (hb : dpt b ≤ n) : dpt (.tuple [a, b]) ≤ n + 1 := by
  simp [dpt, dpts]; omega
theorem ex_ok {X : Res M} {v : M} (h : (match X with | .ok m _ => some m | _ => none) = some v) : ∃ r, X = .ok v r := by
  cases X with
  | ok m r => cases h; exact ⟨r, rfl⟩
  | exc c e => cases h
  | bad => cases h
end Q1

set_option maxHeartbeats 4000000
/-! M5: rows, changes, methods. -/
namespace Q1
open PySem

/-- is_number(value, low, high); slots: 0=value 1=low 2=high -/
abbrev B_is_number : FD := ⟨3, 3,
 (.cons (.ret true (.tv (.and (.val (.bi .isInt (.cons (.rf 0) .nil))) (.and (.not (.tru (.bi .isBool (.cons (.rf 0) .nil)))) (.one (.chain .le .le (.var 1) (.var 0) (.var 2)))))))
 .nil)⟩
def C_is_change_1 (i_is_number : Nat) : Ex := .comp [2] (.name 2) (.seq (.var 1)) (.not (.tru (.call i_is_number (.cons (.var 2) (.cons (.lit (.int 1)) (.cons (.bin .sub (.rf 0) (.lit (.int 1))) .nil)))))) (.var 2)
@[simp] theorem opd_C_is_change_1 {i_is_number : Nat} {r : En → Res M} {e : En} : opd (C_is_change_1 i_is_number) r e = (r e).bind fun m e => .ok (.val m.toD) e := rfl
def C_is_change_2 (i_is_number : Nat) : Ex := .comp [3] (.name 3) (.range (.cons (.lit (.int 1)) (.cons (.bi .len (.cons (.rf 1) .nil)) .nil))) (.cmp .lt (.bin .sub (.ix (.rf 1) (.rf 3)) (.ix (.rf 1) (.bin .sub (.rf 3) (.lit (.int 1))))) (.lit (.int 2))) (.var 3)
@[simp] theorem opd_C_is_change_2 {i_is_number : Nat} {r : En → Res M} {e : En} : opd (C_is_change_2 i_is_number) r e = (r e).bind fun m e => .ok (.val m.toD) e := rfl
/-- is_change(n, value); slots: 0=n 1=value 2=p 3=k -/
abbrev B_is_change (i_is_number : Nat) : FD := ⟨4, 2,
 (.cons (.ite (.or (.not (.tru (.bi .isTuple (.cons (.rf 1) .nil)))) (.one (.tru (C_is_change_1 i_is_number))))
 (.cons (.ret true (.lit (.bool false)))
 .nil)
 .nil)
 (.cons (.ret true (.tv (.not (.tru (C_is_change_2 i_is_number)))))
 .nil))⟩

/-- check_change(n, value); slots: 0=n 1=value -/
abbrev B_check_change (i_is_change e_BadChange : Nat) : FD := ⟨2, 2,
 (.cons (.ite (.not (.tru (.call i_is_change (.cons (.var 0) (.cons (.var 1) .nil)))))
 (.cons (.raise e_BadChange)
 .nil)
 .nil)
 .nil)⟩
def B_moved_1 : Sms := (.cons (.swp 2 (.cons (.bin .sub (.rf 3) (.lit (.int 1))) (.cons (.var 3) .nil)) (.cons (.ix (.rf 0) (.rf 3)) (.cons (.ix (.rf 0) (.bin .sub (.rf 3) (.lit (.int 1)))) .nil)))
 (.kill [3] .nil))
/-- moved(row, change); slots: 0=row 1=change 2=found 3=p -/
abbrev B_moved : FD := ⟨4, 2,
 (.cons (.set 2 true (.bi .list (.cons (.rf 0) .nil)))
 (.cons (.loop (.name 3) (.seq (.var 1)) B_moved_1)
 (.kill [3] (.cons (.ret true (.var 2))
 .nil))))⟩
def B_rows_along_1 (i_moved : Nat) : Sms := (.cons (.app 2 (.call i_moved (.cons (.ix (.rf 2) (.neg (.lit (.int 1)))) (.cons (.var 3) .nil))))
 (.kill [3] .nil))
/-- rows_along(row, lead); slots: 0=row 1=lead 2=found 3=change -/
abbrev B_rows_along (i_moved : Nat) : FD := ⟨4, 2,
 (.cons (.set 2 true (.lst (.cons (.bi .list (.cons (.rf 0) .nil)) .nil)))
 (.cons (.loop (.name 3) (.seq (.var 1)) (B_rows_along_1 i_moved))
 (.kill [3] (.cons (.ret true (.var 2))
 .nil))))⟩
def C_is_method_1 (i_is_change i_is_number : Nat) : Ex := .comp [1] (.name 1) (.seq (.ix (.rf 0) (.lit (.int 1)))) (.not (.tru (.call i_is_change (.cons (.ix (.rf 0) (.lit (.int 0))) (.cons (.var 1) .nil))))) (.var 1)
@[simp] theorem opd_C_is_method_1 {i_is_change i_is_number : Nat} {r : En → Res M} {e : En} : opd (C_is_method_1 i_is_change i_is_number) r e = (r e).bind fun m e => .ok (.val m.toD) e := rfl
/-- is_method(value); slots: 0=value 1=change -/
abbrev B_is_method (i_is_change i_is_number : Nat) : FD := ⟨2, 1,
 (.cons (.ite (.or (.not (.tru (.bi .isTuple (.cons (.rf 0) .nil)))) (.or (.cmp .ne (.bi .len (.cons (.rf 0) .nil)) (.lit (.int 2))) (.one (.not (.tru (.call i_is_number (.cons (.ix (.rf 0) (.lit (.int 0))) (.cons (.glob "LEAST_BELLS" (.int 3)) (.cons (.glob "MOST_BELLS" (.int 12)) .nil)))))))))
 (.cons (.ret true (.lit (.bool false)))
 .nil)
 .nil)
 (.cons (.ite (.or (.not (.tru (.bi .isList (.cons (.ix (.rf 0) (.lit (.int 1))) .nil)))) (.one (.not (.chain .le .le (.lit (.int 1)) (.bi .len (.cons (.ix (.rf 0) (.lit (.int 1))) .nil)) (.glob "MOST_CHANGES" (.int 400))))))
 (.cons (.ret true (.lit (.bool false)))
 .nil)
 .nil)
 (.cons (.ret true (.tv (.not (.tru (C_is_method_1 i_is_change i_is_number)))))
 .nil)))⟩

/-- check_method(value); slots: 0=value -/
abbrev B_check_method (i_is_method e_BadMethod : Nat) : FD := ⟨1, 1,
 (.cons (.ite (.not (.tru (.call i_is_method (.cons (.var 0) .nil))))
 (.cons (.raise e_BadMethod)
 .nil)
 .nil)
 .nil)⟩
section
variable {P : Pg} {sub : Nat → Nat → Option Bool}
theorem run_number {f : Nat} (h : P f = some B_is_number) {k : Nat} {v lo hi : Int} : run P sub (k + 1) f [.p (.int v), .p (.int lo), .p (.int hi)] = .ok (.p (.bool (decide (lo ≤ v ∧ v ≤ hi)))) [some (.p (.int v)), some (.p (.int lo)), some (.p (.int hi))] := by
  rw [run_succ h rfl]
  by_cases h1 : lo ≤ v <;> simp [h1]
theorem ev_is_change_1 {g : Nat} (hg : P g = some B_is_number) {k : Nat} {n : Int} {c : List Int} (hv : ValidC n c) : evX ⟨run P sub (k + 1), sub⟩ (C_is_change_1 g) [some (.p (.int n)), some (.p (dC c)), none, none] = .ok (.ol []) [some (.p (.int n)), some (.p (dC c)), none, none] := by
  unfold C_is_change_1
  refine ev_compN c .int (by simp) (by simp [plainAt]) fun i hi => ?_
  have hb := hv.bd i hi
  have hr := run_number hg (sub := sub) (k := k) (v := i) (lo := 1) (hi := n - 1)
  rw [decide_eq_true ⟨hb.1, by omega⟩] at hr
  exact ⟨_, by simp [hr]; rfl, by simp⟩
theorem ev_is_change_2 {g : Nat} {C : PC} {n : Int} {c : List Int} (hv : ValidC n c) : evX C (C_is_change_2 g) [some (.p (.int n)), some (.p (dC c)), none, none] = .ok (.ol []) [some (.p (.int n)), some (.p (dC c)), none, none] := by
  have hl := hv.len
  have hl' : (c.length : Int) ≤ 2000000 := by omega
  unfold C_is_change_2
  refine ev_compN (List.range (c.length - 1)) (fun i => .int (1 + i)) (by
      have q1 : (-4611686018427387904 : Int) ≤ c.length := by omega
      have q2 : (c.length : Int) < 4611686018427387904 := by omega
      have q3 : (c.length : Int) - 1 ≤ 16777216 := by omega
      have q4 : ((c.length : Int) - 1).toNat = c.length - 1 := by omega
      simp [q1, q2, q3, q4, ups_eq]) (by simp [plainAt]) fun i hi => ?_
  have hi := List.mem_range.mp hi
  have h1 : i + 1 < c.length := by omega
  have h0 : i < c.length := by omega
  have hp := List.pairwise_iff_getElem.mp hv.pw i (i + 1) h0 h1 (Nat.lt_succ_self i)
  have a1 : L2.atI (c.map PyData.int) (1 + i) = some (.int c[i + 1]) := by
    rw [atI_nat (by omega), List.getElem?_map, show (1 + (i : Int)).toNat = i + 1 by omega]
    simp [h1]
  have a0 : L2.atI (c.map PyData.int) (1 + i - 1) = some (.int c[i]) := by
    rw [atI_nat (by omega), List.getElem?_map, show (1 + (i : Int) - 1).toNat = i by omega]
    simp [h0]
  have hn : ¬ c[i + 1] - c[i] < 2 := by omega
  exact ⟨_, by simp [a1, a0, hn]; rfl, by simp⟩
theorem run_is_change {f g : Nat} (hg : P g = some B_is_number) (h : P f = some (B_is_change g)) {k : Nat} {n : Int} {c : List Int} (hv : ValidC n c) : run P sub (k + 2) f [.p (.int n), .p (dC c)] = .ok (.p (.bool true)) [some (.p (.int n)), some (.p (dC c))] := by
  rw [run_succ h rfl]
  simp [ev_is_change_1 hg hv, ev_is_change_2 hv]
theorem run_check_change {f g i e : Nat} (hg : P g = some B_is_number) (hi : P i = some (B_is_change g)) (h : P f = some (B_check_change i e)) {k : Nat} {n : Int} {c : List Int} (hv : ValidC n c) : run P sub (k + 3) f [.p (.int n), .p (dC c)] = .ok (.p .none) [some (.p (.int n)), some (.p (dC c))] := by
  rw [run_succ h rfl]
  simp [run_is_change hg hi hv]
abbrev dL (l : List (List Int)) : D := .list (l.map dC)
abbrev dM (n : Int) (l : List (List Int)) : D := .tuple [.int n, dL l]
abbrev dR (r : List Int) : D := .list (r.map .int)
structure ValidM (n : Int) (l : List (List Int)) : Prop where
  n1 : 3 ≤ n
  n2 : n ≤ 12
  l1 : 1 ≤ l.length
  l2 : l.length ≤ 400
  cs : ∀ c ∈ l, ValidC n c
theorem ev_is_method_1 {f g : Nat} (hg : P g = some B_is_number) (h : P f = some (B_is_change g)) {k : Nat} {n : Int} {l : List (List Int)} (hv : ValidM n l) : evX ⟨run P sub (k + 2), sub⟩ (C_is_method_1 f g) [some (.p (dM n l)), none] = .ok (.ol []) [some (.p (dM n l)), none] := by
  unfold C_is_method_1
  refine ev_compN l dC (by simp [atI_nat]) (by simp [plainAt]) fun c hc => ?_
  have hr := run_is_change hg h (sub := sub) (k := k) (hv.cs c hc)
  exact ⟨_, by simp [hr, atI_nat]; rfl, by simp⟩
theorem run_is_method {f g i : Nat} (hg : P g = some B_is_number) (hi : P i = some (B_is_change g)) (h : P f = some (B_is_method i g)) {k : Nat} {n : Int} {l : List (List Int)} (hv : ValidM n l) : run P sub (k + 3) f [.p (dM n l)] = .ok (.p (.bool true)) [some (.p (dM n l))] := by
  rw [run_succ h rfl]
  have h1 := hv.n1
  have h2 := hv.n2
  have h3 := hv.l1
  have h4 := hv.l2
  have h5 : (1 : Int) ≤ l.length := by omega
  have h6 : (l.length : Int) ≤ 400 := by omega
  simp [atI_nat, run_number hg, h1, h2, h5, h6, ev_is_method_1 hg hi hv]
theorem run_check_method {f g i m e : Nat} (hg : P g = some B_is_number) (hi : P i = some (B_is_change g)) (hm : P m = some (B_is_method i g)) (h : P f = some (B_check_method m e)) {k : Nat} {n : Int} {l : List (List Int)} (hv : ValidM n l) : run P sub (k + 4) f [.p (dM n l)] = .ok (.p .none) [some (.p (dM n l))] := by
  rw [run_succ h rfl]
  simp [run_is_method hg hi hm hv]
theorem range_okI {C : PC} {e e1 : En} {es : Exs} {os : List Opd} {v : Int} (h : evOs C es e = .ok os e1) (h2 : fetchs e1 os = some [.int v]) (h3 : v ≤ 16777216) (h4 : 0 ≤ v) : evI C (.range es) e = .ok ((List.range v.toNat).map fun i : Nat => .int i) e1 := by
  have q2 : (-4611686018427387904 : Int) ≤ v := by omega
  rw [evI_range, h]
  simp only [Res.bind, h2]
  simp [h3, q2, ups0]
/-! rows moved -/
def mv1 (row f : List Int) (p : Int) : List Int := (f.set (p - 1).toNat (row[p.toNat]?.getD 0)).set p.toNat (row[(p - 1).toNat]?.getD 0)
/-- a row, moved by a change -/
def mv (row c : List Int) : List Int := c.foldl (mv1 row) row
theorem mv1_len {row f : List Int} {p : Int} : (mv1 row f p).length = f.length := by unfold mv1; simp
theorem mv_len {row c : List Int} : (mv row c).length = row.length := by
  unfold mv
  have : ∀ (c f : List Int), (c.foldl (mv1 row) f).length = f.length := fun c => by
    induction c with
    | nil => intro f; rfl
    | cons p c ih => intro f; rw [List.foldl_cons, ih, mv1_len]
  exact this c row
theorem atI_int {row : List Int} {p : Int} (h0 : 0 ≤ p) (h1 : p < row.length) : L2.atI (row.map PyData.int) p = some (.int (row[p.toNat]?.getD 0)) := by
  rw [atI_nat h0, List.getElem?_map]
  have : p.toNat < row.length := by omega
  simp [this]
theorem run_moved {f : Nat} (h : P f = some B_moved) {k : Nat} {row c : List Int} (hv : ValidC row.length c) : run P sub (k + 1) f [.p (dR row), .p (dC c)] = .ok (.p (dR (mv row c))) [some (.p (dR row)), some (.p (dC c))] := by
  rw [run_succ h rfl]
  have key := forL_fold (body := loopT [] (.name 3) (evSs ⟨run P sub k, sub⟩ [] B_moved_1)) (.int) (fun f : List Int => [some (.p (dR row)), some (.p (dC c)), some (.ol (f.map .int)), none]) (fun f => f.length = row.length) (mv1 row) c row rfl fun p hp f hf => by
    have hb := hv.bd p hp
    have a1 := atI_int (row := row) (p := p) (by omega) (by omega)
    have a0 := atI_int (row := row) (p := p - 1) (by omega) (by omega)
    have b1 : L2.ixN row.length p = some p.toNat := ixN_pos (by omega) (by omega)
    have b0 : L2.ixN row.length (p - 1) = some (p - 1).toNat := ixN_pos (by omega) (by omega)
    refine ⟨?_, by rw [mv1_len]; exact hf⟩
    simp [loopT, B_moved_1, a1, a0, b0, b1, hf, mv1]
  simp [key.1, mv]
/-- a loop over typed items; I: what is still to come, and the state -/
theorem forL_typed {α : Type} {body : D → En → Res Fl} (φ : α → D) (I : List α → En → Prop) : ∀ (ys : List α) (e : En), I ys e → (∀ y ys e, I (y :: ys) e → ∃ e', body (φ y) e = .ok .nx e' ∧ I ys e') → ∃ e', forL body (ys.map φ) e = .ok .nx e' ∧ I [] e'
  | [], e, h, _ => ⟨e, rfl, h⟩
  | y :: ys, e, h, hb => by
    obtain ⟨e1, h1, h2⟩ := hb y ys e h
    obtain ⟨e2, h3, h4⟩ := forL_typed φ I ys e1 h2 hb
    refine ⟨e2, ?_, h4⟩
    rw [List.map_cons]
    unfold forL
    rw [h1]
    exact h3
theorem atI_m1 {α : Type} {xs : List α} {x : α} : L2.atI (xs ++ [x]) (-1) = some x := by
  unfold L2.atI L2.ixN
  rw [if_neg (by decide), if_pos (by simp; omega)]
  simp only [Option.bind_some, List.length_append, List.length_singleton, Int.natCast_add, Int.cast_ofNat_Int]
  rw [show (-1 + ((xs.length : Int) + 1)).toNat = xs.length by omega]
  simp
theorem atI_last {α : Type} {xs : List α} {x : α} (h : xs.getLast? = some x) : L2.atI xs (-1) = some x := by
  obtain ⟨ys, rfl⟩ := List.getLast?_eq_some_iff.mp h
  exact atI_m1
theorem cutD_m1 {xs : List D} : cutD xs none (some (-1)) = xs.dropLast := by
  unfold cutD
  rw [HT.sIx_none]
  unfold HT.sIx
  simp only [show ((-1 : Int) < 0) by decide, if_true]
  rw [List.dropLast_eq_take]
  congr 1
  omega
/-- the rows, from one on -/
def rwA : List Int → List (List Int) → List (List Int)
  | row, [] => [row]
  | row, c :: cs => row :: rwA (mv row c) cs
def ledR (row : List Int) (lead : List (List Int)) : List Int := lead.foldl mv row
theorem ledR_len {row : List Int} : ∀ {lead : List (List Int)}, (ledR row lead).length = row.length := by
  intro lead
  induction lead generalizing row with
  | nil => rfl
  | cons c cs ih =>
    show (ledR (mv row c) cs).length = _
    rw [ih, mv_len]
theorem rwA_last : ∀ {lead : List (List Int)} {row : List Int}, (rwA row lead).getLast? = some (ledR row lead)
  | [], row => rfl
  | c :: cs, row => by
    have := rwA_last (lead := cs) (row := mv row c)
    unfold rwA
    rw [List.getLast?_cons, this]
    rfl
theorem rwA_length : ∀ {lead : List (List Int)} {row : List Int}, (rwA row lead).length = lead.length + 1
  | [], row => rfl
  | c :: cs, row => by unfold rwA; rw [List.length_cons, rwA_length]; rfl
theorem run_rows_along {f g : Nat} (hg : P g = some B_moved) (h : P f = some (B_rows_along g)) {k : Nat} {row : List Int} {lead : List (List Int)} (hl : lead.length ≤ 1000000) (hv : ∀ c ∈ lead, ValidC row.length c) :
    run P sub (k + 2) f [.p (dR row), .p (dL lead)] = .ok (.p (.list ((rwA row lead).map dR))) [some (.p (dR row)), some (.p (dL lead))] := by
  rw [run_succ h rfl]
  obtain ⟨e', h1, fs, cur, he, h2, _⟩ := forL_typed (body := loopT [] (.name 3) (evSs ⟨run P sub (k + 1), sub⟩ [] (B_rows_along_1 g))) dC
    (fun zs e => ∃ (fs : List (List Int)) (cur : List Int), e = [some (.p (dR row)), some (.p (dL lead)), some (.ol ((fs ++ [cur]).map dR)), none] ∧ fs ++ rwA cur zs = rwA row lead ∧ cur.length = row.length ∧ (∀ c ∈ zs, ValidC row.length c) ∧ fs.length + zs.length ≤ 1000000)
    lead [some (.p (dR row)), some (.p (dL lead)), some (.ol [dR row]), none] ⟨[], row, by simp, by simp, rfl, hv, by simpa using hl⟩ fun c zs e ⟨fs, cur, he, h1, h2, h3, h4⟩ => by
      subst he
      have hc := h3 c List.mem_cons_self
      rw [← h2] at hc
      have hm := run_moved hg (sub := sub) (k := k) hc
      have hz : fs.length + 1 < 16777216 := by simp at h4; omega
      have hz' : fs.length < 16777215 := by omega
      have hat : L2.atI (fs.map dR ++ [dR cur]) (-1) = some (dR cur) := atI_m1
      refine ⟨_, ?_, fs ++ [cur], mv cur c, rfl, by rw [List.append_assoc]; exact h1, by rw [mv_len]; exact h2, fun d hd => h3 d (List.mem_cons_of_mem _ hd), by simp at h4 ⊢; omega⟩
      simp [loopT, B_rows_along_1, hat, hm, hz, hz']
  subst he
  have h2' : fs ++ [cur] = rwA row lead := h2
  rw [h2'] at h1
  simp [h1]
/-! the other draw -/
def bDraw2 (g : Nat) : Sms :=  (.cons (.set 2 true (.ix (.rf 0) (.lit (.int 1))))
 (.cons (.setix 0 (.lit (.int 1)) (.bin .add (.rf 2) (.lit (.int 1))))
 (.cons (.ite (.cmp .lt (.rf 2) (.bi .len (.cons (.ix (.rf 0) (.lit (.int 0))) .nil)))
 (.cons (.ret true (.bin .mod (.ix (.ix (.rf 0) (.lit (.int 0))) (.rf 2)) (.rf 1)))
 .nil)
 .nil)
 (.cons (.set 3 true (.bin .add (.lit (.int 1)) (.rf 2)))
 (.cons (.ite (.cmp .gt (.bi .len (.cons (.ix (.rf 0) (.lit (.int 0))) .nil)) (.lit (.int 0)))
 (.cons (.set 3 true (.bin .add (.rf 3) (.bin .mul (.lit (.int 1009)) (.ix (.ix (.rf 0) (.lit (.int 0))) (.lit (.int 0))))))
 .nil)
 .nil)
 (.cons (.ret true (.bin .mod (.bin .div (.call g (.cons (.call g (.cons (.rf 3) (.cons (.rf 2) .nil))) (.cons (.lit (.int 5)) .nil))) (.lit (.int 7))) (.rf 1)))
 .nil))))))
noncomputable def dwn2 (ns : List Int) (a many : Int) : Int := (if a < ns.length then ns[a.toNat]?.getD 0 else match ns with
  | [] => mixed (mixed (1 + a) a) 5 / 7
  | n :: _ => mixed (mixed (1 + a + 1009 * n) a) 5 / 7) % many
theorem dwn2_bd {ns : List Int} {a many : Int} (h : 0 < many) : 0 ≤ dwn2 ns a many ∧ dwn2 ns a many < many := ⟨Int.emod_nonneg _ (by omega), Int.emod_lt_of_pos _ h⟩
theorem run_dwn2 {k f g : Nat} (hg : P g = some ⟨3, 2, bMixed⟩) (h : P f = some ⟨4, 2, bDraw2 g⟩) {ns : List Int} {a many : Int} (ha : 0 ≤ a) (hm : 0 < many) :
    run P sub (k + 2) f [mD ns a, .p (.int many)] = .ok (.p (.int (dwn2 ns a many))) [some (mD ns (a + 1)), some (.p (.int many))] := by
  rw [run_succ h rfl]
  unfold dwn2
  by_cases hlt : a < ns.length
  · have hlt' : a.toNat < ns.length := by omega
    simp [bDraw2, atI_nat, L2.ixN, ha, hlt, hlt', hm]
  · cases ns with
    | nil =>
      simp [bDraw2, atI_nat, L2.ixN, ha, run_mixed hg, Int.not_lt.mpr ha, hm]
    | cons n ns =>
      simp at hlt
      have hpos : (0 : Int) < ns.length + 1 := by omega
      simp [bDraw2, atI_nat, L2.ixN, ha, run_mixed hg, Int.not_lt.mpr hlt, hpos, hm]
def B__law_moved_1 : Sms := (.cons (.swp 2 (.cons (.bin .sub (.rf 3) (.lit (.int 1))) (.cons (.var 3) .nil)) (.cons (.ix (.rf 2) (.rf 3)) (.cons (.ix (.rf 2) (.bin .sub (.rf 3) (.lit (.int 1)))) .nil)))
 (.kill [3] .nil))
/-- _law_moved(row, change); slots: 0=row 1=change 2=found 3=p -/
abbrev B__law_moved : FD := ⟨4, 2,
 (.cons (.set 2 true (.bi .list (.cons (.rf 0) .nil)))
 (.cons (.loop (.name 3) (.seq (.var 1)) B__law_moved_1)
 (.kill [3] (.cons (.ret true (.var 2))
 .nil))))⟩

theorem run_law_moved {f : Nat} (h : P f = some B__law_moved) {k : Nat} {row c : List Int} (hv : ValidC row.length c) : run P sub (k + 1) f [.p (dR row), .p (dC c)] = .ok (.p (dR (mv row c))) [some (.p (dR row)), some (.p (dC c))] := by
  rw [run_succ h rfl]
  obtain ⟨e', h1, f, he, h2, h3, _⟩ := forL_typed (body := loopT [] (.name 3) (evSs ⟨run P sub k, sub⟩ [] B__law_moved_1)) (.int)
    (fun zs e => ∃ (f : List Int), e = [some (.p (dR row)), some (.p (dC c)), some (.ol (f.map .int)), none] ∧ f.length = row.length ∧ zs.foldl (mv1 row) f = mv row c ∧ zs.Pairwise (fun a b => a + 2 ≤ b) ∧ (∀ z ∈ zs, (1 ≤ z ∧ z < row.length) ∧ f[z.toNat]? = row[z.toNat]? ∧ f[(z - 1).toNat]? = row[(z - 1).toNat]?))
    c [some (.p (dR row)), some (.p (dC c)), some (.ol (row.map .int)), none] ⟨row, rfl, rfl, rfl, hv.pw, fun z hz => ⟨hv.bd z hz, rfl, rfl⟩⟩ fun p zs e ⟨f, he, h1, h2, h3, h4⟩ => by
      subst he
      obtain ⟨hb, q1, q0⟩ := h4 p List.mem_cons_self
      have a1 := atI_int (row := f) (p := p) (by omega) (by omega)
      have a0 := atI_int (row := f) (p := p - 1) (by omega) (by omega)
      rw [q1] at a1
      rw [q0] at a0
      have b1 : L2.ixN row.length p = some p.toNat := ixN_pos (by omega) (by omega)
      have b0 : L2.ixN row.length (p - 1) = some (p - 1).toNat := ixN_pos (by omega) (by omega)
      refine ⟨_, ?_, mv1 row f p, rfl, by rw [mv1_len]; exact h1, h2, (List.pairwise_cons.mp h3).2, fun z hz => ?_⟩
      · simp [loopT, B__law_moved_1, a1, a0, b0, b1, h1, mv1]
      · obtain ⟨hb2, r1, r0⟩ := h4 z (List.mem_cons_of_mem _ hz)
        have hpz := (List.pairwise_cons.mp h3).1 z hz
        refine ⟨hb2, ?_, ?_⟩
        · unfold mv1
          rw [List.getElem?_set_ne (by omega), List.getElem?_set_ne (by omega)]
          exact r1
        · unfold mv1
          rw [List.getElem?_set_ne (by omega), List.getElem?_set_ne (by omega)]
          exact r0
  subst he
  have h3' : f = mv row c := h3
  subst h3'
  simp [h1]
/-- rounds -/
def rnds (n : Nat) : List Int := (List.range n).map fun i : Nat => 1 + (i : Int)
theorem rnds_len {n : Nat} : (rnds n).length = n := by simp [rnds]
theorem ups_rnds {n : Nat} : ups 1 n = (rnds n).map .int := ups_ints n
end
end Q1

set_option maxHeartbeats 4000000
/-! M6: where a bell stands; places made. -/
namespace Q1
open PySem
def C_made_by_1 : Ex := .comp [2] (.name 2) (.range (.cons (.lit (.int 1)) (.cons (.bin .add (.rf 0) (.lit (.int 1))) .nil))) (.and (.cmp .notin (.rf 2) (.rf 1)) (.one (.cmp .notin (.bin .sub (.rf 2) (.lit (.int 1))) (.rf 1)))) (.var 2)
@[simp] theorem opd_C_made_by_1 {r : En → Res M} {e : En} : opd C_made_by_1 r e = (r e).bind fun m e => .ok (.val m.toD) e := rfl
/-- made_by(n, change); slots: 0=n 1=change 2=p -/
abbrev B_made_by : FD := ⟨3, 2,
 (.cons (.ret true C_made_by_1)
 .nil)⟩
theorem any_ints (p : Int) : ∀ (c : List Int), ((c.map PyData.int).any fun y => PyData.eqv y (.int p)) = decide (p ∈ c)
  | [] => by simp
  | x :: c => by
    rw [List.map_cons, List.any_cons, any_ints p c]
    by_cases h : x = p
    · subst h; simp [PyData.eqv]
    · have h2 : ¬ p = x := fun e => h e.symm
      simp [PyData.eqv, h, h2]
theorem okEq_int {i : Int} : okEq (.int i) = true := by
  unfold okEq
  rw [PyData.canLay0, PyData.depth]
  decide
@[simp] theorem inO_dC (p : Int) (c : List Int) : inO (.int p) (.tuple (c.map .int)) = some (decide (p ∈ c)) := by
  simp only [inO]
  rw [okEq_dC, okEq_int, any_ints]
  rfl
@[simp] theorem inO_dL (p : Int) (c : List Int) : inO (.int p) (.list (c.map .int)) = some (decide (p ∈ c)) := by
  simp only [inO]
  rw [okEq_dL, okEq_int, any_ints]
  rfl
/-- from where the bell at a place comes, and where it goes -/
def tau (c : List Int) (j : Nat) : Nat := if ((j : Int) + 1) ∈ c then j + 1 else if (j : Int) ∈ c then j - 1 else j
theorem mv_fold {n : Int} {row : List Int} (hn : n ≤ row.length) : ∀ (c f : List Int), (∀ x ∈ c, 1 ≤ x ∧ x < n) → c.Pairwise (fun a b => a + 2 ≤ b) → f.length = row.length → ∀ j : Nat,
    (c.foldl (mv1 row) f)[j]? = if ((j : Int) + 1) ∈ c then row[j + 1]? else if (j : Int) ∈ c then row[j - 1]? else f[j]?
  | [], f, _, _, _, j => by simp
  | p :: c, f, hb, hp, hf, j => by
    obtain ⟨h1, h2⟩ := hb p List.mem_cons_self
    obtain ⟨h3, h4⟩ := List.pairwise_cons.mp hp
    rw [List.foldl_cons, mv_fold hn c (mv1 row f p) (fun x hx => hb x (List.mem_cons_of_mem _ hx)) h4 (by rw [mv1_len]; exact hf) j]
    simp only [List.mem_cons]
    have far : ∀ x ∈ c, p + 2 ≤ x := h3
    by_cases q1 : ((j : Int) + 1) ∈ c
    · simp [q1]
    · by_cases q2 : (j : Int) ∈ c
      · have e : ¬ ((j : Int) + 1 = p) := by have := far _ q2; omega
        simp [q1, q2, e]
      · simp only [q1, q2, if_false, or_false]
        unfold mv1
        by_cases e1 : (j : Int) + 1 = p
        · rw [if_pos e1]
          have ej : (p - 1).toNat = j := by omega
          have ep : p.toNat = j + 1 := by omega
          rw [List.getElem?_set_ne (by omega), ej, List.getElem?_set_self (by omega), ep]
          have : j + 1 < row.length := by omega
          simp [this]
        · rw [if_neg e1]
          by_cases e2 : (j : Int) = p
          · rw [if_pos e2]
            have ep : p.toNat = j := by omega
            have ej : (p - 1).toNat = j - 1 := by omega
            rw [ep, ej, List.getElem?_set_self (by simp; omega)]
            have : j - 1 < row.length := by omega
            simp [this]
          · rw [if_neg e2, List.getElem?_set_ne (by omega), List.getElem?_set_ne (by omega)]
theorem mv_get {row c : List Int} (hv : ValidC row.length c) (j : Nat) : (mv row c)[j]? = row[tau c j]? := by
  unfold mv
  rw [mv_fold (n := row.length) (Int.le_refl _) c row hv.bd hv.pw rfl j]
  unfold tau
  split
  · rfl
  · split <;> rfl
theorem tau_tau {n : Int} {c : List Int} (hv : ValidC n c) (j : Nat) : tau c (tau c j) = j := by
  have far : ∀ x y, x ∈ c → y ∈ c → x < y → x + 2 ≤ y := fun x y hx hy hxy => by
    have hp := List.pairwise_iff_getElem.mp hv.pw
    obtain ⟨i, hi, rfl⟩ := List.mem_iff_getElem.mp hx
    obtain ⟨k, hk, rfl⟩ := List.mem_iff_getElem.mp hy
    rcases Nat.lt_trichotomy i k with q | q | q
    · exact hp i k hi hk q
    · subst q; omega
    · have := hp k i hk hi q; omega
  unfold tau
  by_cases h1 : ((j : Int) + 1) ∈ c
  · rw [if_pos h1]
    have h2 : ¬ (((j + 1 : Nat) : Int) + 1) ∈ c := fun h => by have := far _ _ h1 h (by omega); omega
    have h3 : (((j + 1 : Nat) : Int)) ∈ c := by rw [show ((j + 1 : Nat) : Int) = (j : Int) + 1 by omega]; exact h1
    rw [if_neg h2, if_pos h3]
    omega
  · rw [if_neg h1]
    by_cases h2 : (j : Int) ∈ c
    · rw [if_pos h2]
      have hb := hv.bd _ h2
      have h3 : (((j - 1 : Nat) : Int) + 1) ∈ c := by rw [show ((j - 1 : Nat) : Int) + 1 = (j : Int) by omega]; exact h2
      rw [if_pos h3]
      omega
    · rw [if_neg h2, if_neg h1, if_neg h2]
/-- the only place of a bell -/
structure Onl (row : List Int) (b : Int) (i : Nat) : Prop where
  at' : row[i]? = some b
  only : ∀ j, row[j]? = some b → j = i
theorem Onl.idx {row : List Int} {b : Int} {i : Nat} (h : Onl row b i) : row.findIdx? (· == b) = some i := by
  rw [List.findIdx?_eq_some_iff_getElem]
  obtain ⟨hl, he⟩ := List.getElem?_eq_some_iff.mp h.at'
  refine ⟨hl, by simp [he], fun j hj => ?_⟩
  simp only [beq_iff_eq]
  intro e
  have := h.only j (by rw [List.getElem?_eq_getElem (by omega), e])
  omega
theorem Onl.mv {row c : List Int} {b : Int} {i : Nat} (h : Onl row b i) (hv : ValidC row.length c) : Onl (mv row c) b (tau c i) := by
  refine ⟨by rw [mv_get hv, tau_tau hv]; exact h.at', fun j hj => ?_⟩
  rw [mv_get hv] at hj
  have := h.only _ hj
  rw [← this, tau_tau hv]
theorem onl_rnds {n : Nat} {i : Nat} (h : i < n) : Onl (rnds n) (1 + i) i := by
  refine ⟨by simp [rnds, h], fun j hj => ?_⟩
  obtain ⟨hl, he⟩ := List.getElem?_eq_some_iff.mp hj
  simp [rnds] at he
  omega
/-- places of a bell, counted from 1 -/
def pos1 (x : Int) (c : List Int) : Int := if x ∈ c then x + 1 else if x - 1 ∈ c then x - 1 else x
theorem pos1_tau {n : Int} {c : List Int} (hv : ValidC n c) (i : Nat) : pos1 ((i : Int) + 1) c = (tau c i : Nat) + 1 := by
  unfold pos1 tau
  rw [show (i : Int) + 1 - 1 = i by omega]
  split
  · omega
  · split
    · rename_i h
      have := hv.bd _ h
      omega
    · rfl
def atL : Int → List (List Int) → List Int
  | x, [] => [x]
  | x, c :: cs => x :: atL (pos1 x c) cs
theorem atL_len : ∀ {l : List (List Int)} {x : Int}, (atL x l).length = l.length + 1
  | [], _ => rfl
  | c :: cs, x => by unfold atL; rw [List.length_cons, atL_len]; rfl
/-- the bell's places along the rows -/
theorem rwA_idx : ∀ (l : List (List Int)) (row : List Int) (b : Int) (i : Nat), Onl row b i → (∀ c ∈ l, ValidC row.length c) → (rwA row l).map (fun r => ((r.findIdx? (· == b)).map fun j : Nat => (j : Int) + 1)) = (atL ((i : Int) + 1) l).map some
  | [], row, b, i, h, _ => by simp [rwA, atL, h.idx]
  | c :: cs, row, b, i, h, hv => by
    have hc := hv c List.mem_cons_self
    have ih := rwA_idx cs (mv row c) b (tau c i) (h.mv hc) (fun d hd => by rw [mv_len]; exact hv d (List.mem_cons_of_mem _ hd))
    unfold rwA atL
    rw [List.map_cons, List.map_cons, ih, pos1_tau hc, h.idx]
    rfl
theorem upsC_eq : ∀ (n : Nat) (lo c : Int), upsC lo c n = (List.range n).map fun i : Nat => .int (lo + (i : Int) * c) := fun n lo c => by
  apply List.ext_getElem?
  intro i
  by_cases h : i < n
  · rw [upsC_get h]; simp [h]
  · rw [List.getElem?_eq_none (by rw [upsC_len]; omega), List.getElem?_eq_none (by simp; omega)]
theorem range3_ok {C : PC} {e : En} {es : Exs} {os : List Opd} {i j c : Int} (h : evOs C es e = .ok os e) (h2 : fetchs e os = some [.int i, .int j, .int c]) (hi : -1000000 ≤ i ∧ i ≤ 1000000) (hj : -1000000 ≤ j ∧ j ≤ 1000000) (hc : c ≠ 0 ∧ -1000 ≤ c ∧ c ≤ 1000) (hn : rngN i j c ≤ 16777216) :
    evI C (.range es) e = .ok ((List.range (rngN i j c)).map fun k : Nat => .int (i + (k : Int) * c)) e := by
  rw [evI_range, h]
  simp only [Res.bind, h2, Option.bind_some]
  rw [rangeO, if_pos ⟨by omega, by omega, hn⟩, upsC_eq]
  rfl
theorem range12_ok {C : PC} {e : En} {es : Exs} {os : List Opd} {n : Int} (h : evOs C es e = .ok os e) (h2 : fetchs e os = some [.int 1, .int (n + 1)]) (hn : 0 ≤ n ∧ n ≤ 1000000) :
    evI C (.range es) e = .ok ((rnds n.toNat).map .int) e := by
  rw [evI_range, h]
  simp only [Res.bind, h2, Option.bind_some]
  rw [rangeO, if_pos ⟨by omega, by omega⟩, show (n + 1 - 1).toNat = n.toNat by omega, ups_rnds]
  rfl
/-- a loop that may leave with a value -/
theorem forL_ret {body : D → En → Res Fl} (I : Nat → En → Prop) (Q : M → En → Prop) : ∀ (xs : List D) (n : Nat) (e : En), I n e → (∀ (i : Nat) (x : D) (e : En), I (n + i) e → ∃ e', (body x e = .ok .nx e' ∧ I (n + i + 1) e') ∨ ∃ m, body x e = .ok (.rt m) e' ∧ Q m e') →
    ∃ e', (forL body xs e = .ok .nx e' ∧ I (n + xs.length) e') ∨ ∃ m, forL body xs e = .ok (.rt m) e' ∧ Q m e'
  | [], n, e, h, _ => ⟨e, .inl ⟨rfl, h⟩⟩
  | x :: xs, n, e, h, hb => by
    obtain ⟨e1, h1⟩ := hb 0 x e h
    rcases h1 with ⟨h1, h2⟩ | ⟨m, h1, h2⟩
    · obtain ⟨e2, h3⟩ := forL_ret I Q xs (n + 1) e1 h2 fun i y e hi => by
        have := hb (i + 1) y e (by rw [show n + (i + 1) = n + 1 + i by omega]; exact hi)
        rw [show n + (i + 1) + 1 = n + 1 + i + 1 by omega] at this
        exact this
      refine ⟨e2, ?_⟩
      unfold forL
      rw [h1]
      rw [show n + (x :: xs).length = n + 1 + xs.length by simp; omega]
      exact h3
    · refine ⟨e1, .inr ⟨m, ?_, h2⟩⟩
      unfold forL
      rw [h1]
theorem eqO_turn (a u : List Int) : eqO (.list (a.map .int)) (.list ((u.map .int) ++ ((u.map .int).reverse ++ [.int 1]))) = some (decide (a = u ++ (u.reverse ++ [1]))) := by
  have := eqO_dL a (u ++ (u.reverse ++ [1]))
  simpa using this
/-- sorted, far from each other -/
theorem valid_sorted {n : Int} {xs : List Int} (hb : ∀ x ∈ xs, 1 ≤ x ∧ x < n) (hp : xs.Pairwise fun a b => a + 2 ≤ b ∨ b + 2 ≤ a) (hl : xs.length ≤ 2000000) : ValidC n (xs.mergeSort fun a b => decide (a ≤ b)) := by
  have pm := List.mergeSort_perm xs (fun a b => decide (a ≤ b))
  refine ⟨fun x hx => hb x (pm.mem_iff.mp hx), ?_, by rw [List.length_mergeSort]; exact hl⟩
  have h1 : (xs.mergeSort fun a b => decide (a ≤ b)).Pairwise fun a b => a + 2 ≤ b ∨ b + 2 ≤ a := (pm.pairwise_iff (fun {a b} h => h.symm)).mpr hp
  exact (h1.and (mergeSort_le xs)).imp fun {a b} h => by
    have := h.2
    omega
theorem valid_filter {n : Int} {c : List Int} (h : ValidC n c) (p : Int → Bool) : ValidC n (c.filter p) :=
  ⟨fun x hx => h.bd x ((List.mem_filter.mp hx).1), h.pw.sublist (List.filter_sublist), Nat.le_trans (List.length_filter_le _ _) h.len⟩
theorem rangeAB_ok {C : PC} {e e1 : En} {es : Exs} {os : List Opd} {i j : Int} (h : evOs C es e = .ok os e1) (h2 : fetchs e1 os = some [.int i, .int j]) (hi : -1000000 ≤ i ∧ i ≤ 1000000) (hj : -1000000 ≤ j ∧ j ≤ 1000000) :
    evI C (.range es) e = .ok ((List.range (j - i).toNat).map fun k : Nat => .int (i + k)) e1 := by
  rw [evI_range, h]
  simp only [Res.bind, h2, Option.bind_some]
  rw [rangeO, if_pos ⟨by omega, by omega⟩, ups_eq]
  rfl
end Q1

set_option maxHeartbeats 4000000
/-! M7: leads checked; the laws own rows. -/
namespace Q1
open PySem

/-- check_bells(n); slots: 0=n -/
abbrev B_check_bells (i_is_number e_BadArgument : Nat) : FD := ⟨1, 1,
 (.cons (.ite (.not (.tru (.call i_is_number (.cons (.var 0) (.cons (.glob "LEAST_BELLS" (.int 3)) (.cons (.glob "MOST_BELLS" (.int 12)) .nil))))))
 (.cons (.raise e_BadArgument)
 .nil)
 .nil)
 .nil)⟩
def B_check_changes_1 (i_check_change e_BadChange : Nat) : Sms := (.cons (.expr (.call i_check_change (.cons (.var 0) (.cons (.var 2) .nil))))
 (.kill [2] .nil))
/-- check_changes(n, lead); slots: 0=n 1=lead 2=change -/
abbrev B_check_changes (i_check_change e_BadChange : Nat) : FD := ⟨3, 2,
 (.cons (.ite (.not (.tru (.bi .isList (.cons (.rf 1) .nil))))
 (.cons (.raise e_BadChange)
 .nil)
 .nil)
 (.cons (.loop (.name 2) (.seq (.var 1)) (B_check_changes_1 i_check_change e_BadChange))
 (.kill [2] .nil)))⟩

/-- check_lead(n, lead, most); slots: 0=n 1=lead 2=most -/
abbrev B_check_lead (i_check_changes e_BadArgument : Nat) : FD := ⟨3, 3,
 (.cons (.expr (.call i_check_changes (.cons (.var 0) (.cons (.var 1) .nil))))
 (.cons (.ite (.not (.chain .le .le (.lit (.int 1)) (.bi .len (.cons (.rf 1) .nil)) (.var 2)))
 (.cons (.raise e_BadArgument)
 .nil)
 .nil)
 .nil))⟩

/-- rows_from(head, lead); slots: 0=head 1=lead -/
abbrev B_rows_from (i_rows_along : Nat) : FD := ⟨2, 2,
 (.cons (.ret true (.sl (.call i_rows_along (.cons (.var 0) (.cons (.var 1) .nil))) .none (.some (.neg (.lit (.int 1))))))
 .nil)⟩
def B__law_led_1 : Sms := (.cons (.ite (.cmp .inn (.rf 3) (.rf 1))
 (.cons (.app 2 (.ix (.rf 0) (.rf 3)))
 (.kill [3] .nil))
 (.cons (.ite (.cmp .inn (.bin .sub (.rf 3) (.lit (.int 1))) (.rf 1))
 (.cons (.app 2 (.ix (.rf 0) (.bin .sub (.rf 3) (.lit (.int 2)))))
 (.kill [3] .nil))
 (.cons (.app 2 (.ix (.rf 0) (.bin .sub (.rf 3) (.lit (.int 1)))))
 (.kill [3] .nil)))
 (.kill [3] .nil)))
 (.kill [3] .nil))
/-- _law_led(row, change); slots: 0=row 1=change 2=found 3=place -/
abbrev B__law_led : FD := ⟨4, 2,
 (.cons (.set 2 true (.lst .nil))
 (.cons (.loop (.name 3) (.range (.cons (.lit (.int 1)) (.cons (.bin .add (.bi .len (.cons (.rf 0) .nil)) (.lit (.int 1))) .nil))) B__law_led_1)
 (.kill [3] (.cons (.ret true (.var 2))
 .nil))))⟩

/-- _law_round(n); slots: 0=n -/
abbrev B__law_round : FD := ⟨1, 1,
 (.cons (.ret true (.rgl (.cons (.lit (.int 1)) (.cons (.bin .add (.rf 0) (.lit (.int 1))) .nil))))
 .nil)⟩
def B__law_rows_of_1 (i__law_led : Nat) : Sms := (.cons (.app 2 (.call i__law_led (.cons (.ix (.rf 2) (.neg (.lit (.int 1)))) (.cons (.var 3) .nil))))
 (.kill [3] .nil))
/-- _law_rows_of(row, lead); slots: 0=row 1=lead 2=found 3=change -/
abbrev B__law_rows_of (i__law_led : Nat) : FD := ⟨4, 2,
 (.cons (.set 2 true (.lst (.cons (.var 0) .nil)))
 (.cons (.loop (.name 3) (.seq (.var 1)) (B__law_rows_of_1 i__law_led))
 (.kill [3] (.cons (.ret true (.var 2))
 .nil))))⟩
/-- the first of the items let it go on -/
theorem forL_fold_app {α σ : Type} {body : D → En → Res Fl} (φ : α → D) (E : σ → En) (inv : σ → Prop) (step : σ → α → σ) (zs : List D) : ∀ (ys : List α) (s : σ), inv s → (∀ y ∈ ys, ∀ s, inv s → body (φ y) (E s) = .ok .nx (E (step s y)) ∧ inv (step s y)) → forL body (ys.map φ ++ zs) (E s) = forL body zs (E (ys.foldl step s))
  | [], s, h, _ => rfl
  | y :: ys, s, h, hb => by
    obtain ⟨h1, h2⟩ := hb y List.mem_cons_self s h
    rw [List.map_cons, List.cons_append]
    conv => lhs; unfold forL
    rw [h1]
    exact forL_fold_app φ E inv step zs ys _ h2 fun z hz => hb z (List.mem_cons_of_mem _ hz)
section
variable {P : Pg} {sub : Nat → Nat → Option Bool}
/-- no number at all -/
theorem run_number_no {f : Nat} (h : P f = some B_is_number) {k : Nat} {d : D} (hd : (∃ b, d = .bool b) ∨ (∃ x, d = .str x) ∨ d = .none ∨ (∃ x, d = .list x) ∨ (∃ x, d = .tuple x)) {lo hi : Int} : run P sub (k + 1) f [.p d, .p (.int lo), .p (.int hi)] = .ok (.p (.bool false)) [some (.p d), some (.p (.int lo)), some (.p (.int hi))] := by
  rw [run_succ h rfl]
  rcases hd with ⟨b, rfl⟩ | ⟨x, rfl⟩ | rfl | ⟨x, rfl⟩ | ⟨x, rfl⟩ <;> simp
theorem run_check_bells {f g e : Nat} (hg : P g = some B_is_number) (h : P f = some (B_check_bells g e)) {k : Nat} {n : Int} : run P sub (k + 2) f [.p (.int n)] = if 3 ≤ n ∧ n ≤ 12 then .ok (.p .none) [some (.p (.int n))] else .exc e [some (.p (.int n))] := by
  rw [run_succ h rfl]
  by_cases q : 3 ≤ n ∧ n ≤ 12
  · rw [if_pos q]; simp [run_number hg, q.1, q.2]
  · rw [if_neg q]
    have : decide (3 ≤ n ∧ n ≤ 12) = false := decide_eq_false q
    simp [run_number hg, this, -Bool.decide_and]
theorem run_is_change_bad {f g : Nat} (hg : P g = some B_is_number) (h : P f = some (B_is_change g)) {k : Nat} {n p : Int} (hp : ¬ (1 ≤ p ∧ p ≤ n - 1)) : run P sub (k + 2) f [.p (.int n), .p (dC [p])] = .ok (.p (.bool false)) [some (.p (.int n)), some (.p (dC [p]))] := by
  rw [run_succ h rfl]
  have e1 : evX ⟨run P sub (k + 1), sub⟩ (C_is_change_1 g) [some (.p (.int n)), some (.p (dC [p])), none, none] = .ok (.ol [.int p]) [some (.p (.int n)), some (.p (dC [p])), none, none] := by
    unfold C_is_change_1
    have hr := run_number hg (sub := sub) (k := k) (v := p) (lo := 1) (hi := n - 1)
    rw [decide_eq_false hp] at hr
    exact ev_compA [p] .int .int (by simp) (by simp [plainAt]) fun i hi => by
      rw [List.mem_singleton.mp hi]
      exact ⟨_, by simp [hr]; rfl, by simp⟩
  simp [e1]
theorem run_check_change_bad {f g i e : Nat} (hg : P g = some B_is_number) (hi : P i = some (B_is_change g)) (h : P f = some (B_check_change i e)) {k : Nat} {n p : Int} (hp : ¬ (1 ≤ p ∧ p ≤ n - 1)) : run P sub (k + 3) f [.p (.int n), .p (dC [p])] = .exc e [some (.p (.int n)), some (.p (dC [p]))] := by
  rw [run_succ h rfl]
  have := run_is_change_bad hg hi (sub := sub) (k := k) hp
  simp [this]
theorem loop_check_changes {g i j e : Nat} (hg : P g = some B_is_number) (hi : P i = some (B_is_change g)) (hj : P j = some (B_check_change i e)) {k : Nat} {n : Int} {l : List (List Int)} (hv : ∀ c ∈ l, ValidC n c) {d : D} :
    forL (loopT [] (.name 2) (evSs ⟨run P sub (k + 3), sub⟩ [] (B_check_changes_1 j e))) (l.map dC) [some (.p (.int n)), some (.p d), none] = .ok .nx [some (.p (.int n)), some (.p d), none] := by
  have key := forL_fold (body := loopT [] (.name 2) (evSs ⟨run P sub (k + 3), sub⟩ [] (B_check_changes_1 j e))) dC (fun _ : Unit => [some (.p (.int n)), some (.p d), none]) (fun _ => True) (fun _ _ => ()) l () trivial fun c hc _ _ => by
    refine ⟨?_, trivial⟩
    simp [loopT, B_check_changes_1, run_check_change hg hi hj (hv c hc)]
  exact key.1
theorem run_check_changes {f g i j e : Nat} (hg : P g = some B_is_number) (hi : P i = some (B_is_change g)) (hj : P j = some (B_check_change i e)) (h : P f = some (B_check_changes j e)) {k : Nat} {n : Int} {l : List (List Int)} (hv : ∀ c ∈ l, ValidC n c) :
    run P sub (k + 4) f [.p (.int n), .p (dL l)] = .ok (.p .none) [some (.p (.int n)), some (.p (dL l))] := by
  rw [run_succ h rfl]
  simp [loop_check_changes hg hi hj hv]
theorem run_check_changes_bad {f g i j e : Nat} (hg : P g = some B_is_number) (hi : P i = some (B_is_change g)) (hj : P j = some (B_check_change i e)) (h : P f = some (B_check_changes j e)) {k : Nat} {n p : Int} {l : List (List Int)} (hv : ∀ c ∈ l, ValidC n c) (hp : ¬ (1 ≤ p ∧ p ≤ n - 1)) :
    run P sub (k + 4) f [.p (.int n), .p (dL (l ++ [[p]]))] = .exc e [some (.p (.int n)), some (.p (dL (l ++ [[p]])))] := by
  rw [run_succ h rfl]
  have hb := run_check_change_bad hg hi hj (sub := sub) (k := k) hp
  have key := forL_fold_app (body := loopT [] (.name 2) (evSs ⟨run P sub (k + 3), sub⟩ [] (B_check_changes_1 j e))) dC (fun _ : Unit => [some (.p (.int n)), some (.p (dL (l ++ [[p]]))), none]) (fun _ => True) (fun _ _ => ()) [dC [p]] l () trivial fun c hc _ _ => by
    refine ⟨?_, trivial⟩
    simp [loopT, B_check_changes_1, run_check_change hg hi hj (hv c hc)]
  have e2 : forL (loopT [] (.name 2) (evSs ⟨run P sub (k + 3), sub⟩ [] (B_check_changes_1 j e))) [dC [p]] [some (.p (.int n)), some (.p (dL (l ++ [[p]]))), none] = .exc e [some (.p (.int n)), some (.p (dL (l ++ [[p]]))), some (.p (dC [p]))] := by
    simp [forL, loopT, B_check_changes_1, hb]
  rw [e2] at key
  simp [key]
theorem run_check_lead {f g i j c e e2 : Nat} (hg : P g = some B_is_number) (hi : P i = some (B_is_change g)) (hj : P j = some (B_check_change i e)) (hc : P c = some (B_check_changes j e)) (h : P f = some (B_check_lead c e2)) {k : Nat} {n most : Int} {l : List (List Int)} (hv : ∀ c ∈ l, ValidC n c) :
    run P sub (k + 5) f [.p (.int n), .p (dL l), .p (.int most)] = if 1 ≤ l.length ∧ (l.length : Int) ≤ most then .ok (.p .none) [some (.p (.int n)), some (.p (dL l)), some (.p (.int most))] else .exc e2 [some (.p (.int n)), some (.p (dL l)), some (.p (.int most))] := by
  rw [run_succ h rfl]
  have h1 := run_check_changes hg hi hj hc (sub := sub) (k := k) hv
  by_cases q1 : 1 ≤ l.length
  · have q1' : (1 : Int) ≤ l.length := by omega
    by_cases q2 : (l.length : Int) ≤ most
    · rw [if_pos ⟨q1, q2⟩]; simp [h1, q1', q2]
    · rw [if_neg (fun h => q2 h.2)]; simp [h1, q1', q2]
  · have q1' : ¬ (1 : Int) ≤ l.length := by omega
    rw [if_neg (fun h => q1 h.1)]; simp [h1, q1']
theorem run_check_lead_bad {f g i j c e e2 : Nat} (hg : P g = some B_is_number) (hi : P i = some (B_is_change g)) (hj : P j = some (B_check_change i e)) (hc : P c = some (B_check_changes j e)) (h : P f = some (B_check_lead c e2)) {k : Nat} {n most p : Int} {l : List (List Int)} (hv : ∀ c ∈ l, ValidC n c) (hp : ¬ (1 ≤ p ∧ p ≤ n - 1)) :
    run P sub (k + 5) f [.p (.int n), .p (dL (l ++ [[p]])), .p (.int most)] = .exc e [some (.p (.int n)), some (.p (dL (l ++ [[p]]))), some (.p (.int most))] := by
  rw [run_succ h rfl]
  have h1 := run_check_changes_bad hg hi hj hc (sub := sub) (k := k) hv hp
  simp [h1]
theorem run_rows_from {f g a : Nat} (hg : P g = some B_moved) (ha : P a = some (B_rows_along g)) (h : P f = some (B_rows_from a)) {k : Nat} {row : List Int} {lead : List (List Int)} (hl : lead.length ≤ 1000000) (hv : ∀ c ∈ lead, ValidC row.length c) :
    run P sub (k + 3) f [.p (dR row), .p (dL lead)] = .ok (.ol ((rwA row lead).dropLast.map dR)) [some (.p (dR row)), some (.p (dL lead))] := by
  rw [run_succ h rfl]
  have h1 := run_rows_along hg ha (sub := sub) (k := k) hl hv
  simp [h1, cutD_m1]
theorem run_law_led {f : Nat} (h : P f = some B__law_led) {k : Nat} {row c : List Int} (hv : ValidC row.length c) (hl : row.length ≤ 1000000) : run P sub (k + 1) f [.p (dR row), .p (dC c)] = .ok (.p (dR (mv row c))) [some (.p (dR row)), some (.p (dC c))] := by
  rw [run_succ h rfl]
  obtain ⟨e', h1, h2⟩ := forL_inv (body := loopT [] (.name 3) (evSs ⟨run P sub k, sub⟩ [] B__law_led_1)) (xs := ups 1 row.length) (e := [some (.p (dR row)), some (.p (dC c)), some (.ol []), none])
    (fun i e => e = [some (.p (dR row)), some (.p (dC c)), some (.ol (((mv row c).take i).map .int)), none]) 0 (by simp) fun i x e hx he => by
      obtain ⟨rfl, hi⟩ := ups_get? hx
      simp only [Nat.zero_add] at he ⊢
      subst he
      have hm : i < (mv row c).length := by rw [mv_len]; exact hi
      have hg : (mv row c)[i]? = row[tau c i]? := mv_get hv i
      have htk : (mv row c).take (i + 1) = (mv row c).take i ++ [(mv row c)[i]] := by rw [List.take_succ_eq_append_getElem hm]
      have hsome : row[tau c i]? = some (mv row c)[i] := by rw [← hg]; simp [hm]
      have w : min i (mv row c).length < 16777216 := by omega
      have htk2 : ((mv row c).map PyData.int).take (i + 1) = ((mv row c).map PyData.int).take i ++ [PyData.int (mv row c)[i]] := by
        rw [← List.map_take, htk, List.map_append, List.map_take]; rfl
      refine ⟨_, ?_, rfl⟩
      by_cases q1 : (1 + (i : Int)) ∈ c
      · have q1' : ((i : Int) + 1) ∈ c := by rw [Int.add_comm]; exact q1
        have ht : tau c i = i + 1 := by unfold tau; rw [if_pos q1']
        rw [ht] at hsome
        have at1 : L2.atI (row.map PyData.int) (1 + (i : Int)) = some (.int (mv row c)[i]) := by
          rw [atI_nat (by omega), show (1 + (i : Int)).toNat = i + 1 by omega, List.getElem?_map, hsome]; rfl
        simp [loopT, B__law_led_1, q1, at1, w, htk2]
      · have q1' : ¬ ((i : Int) + 1) ∈ c := by rw [Int.add_comm]; exact q1
        by_cases q2 : (1 + (i : Int) - 1) ∈ c
        · have q2' : (i : Int) ∈ c := by rw [show (1 + (i : Int) - 1) = i by omega] at q2; exact q2
          have ht : tau c i = i - 1 := by unfold tau; rw [if_neg q1', if_pos q2']
          rw [ht] at hsome
          have hb := hv.bd _ q2'
          have at1 : L2.atI (row.map PyData.int) (1 + (i : Int) - 2) = some (.int (mv row c)[i]) := by
            rw [atI_nat (by omega), show (1 + (i : Int) - 2).toNat = i - 1 by omega, List.getElem?_map, hsome]; rfl
          simp [loopT, B__law_led_1, q1, q2, at1, w, htk2]
        · have q2' : ¬ (i : Int) ∈ c := by rw [show (1 + (i : Int) - 1) = i by omega] at q2; exact q2
          have ht : tau c i = i := by unfold tau; rw [if_neg q1', if_neg q2']
          rw [ht] at hsome
          have at1 : L2.atI (row.map PyData.int) (1 + (i : Int) - 1) = some (.int (mv row c)[i]) := by
            rw [atI_nat (by omega), show (1 + (i : Int) - 1).toNat = i by omega, List.getElem?_map, hsome]; rfl
          simp [loopT, B__law_led_1, q1, q2, at1, w, htk2]
  subst h2
  rw [ups_len, Nat.zero_add, List.take_of_length_le (by rw [mv_len]; exact Nat.le_refl _)] at h1
  have g1 : (row.length : Int) + 1 < 4611686018427387904 := by omega
  have g2 : (-4611686018427387904 : Int) ≤ (row.length : Int) + 1 := by omega
  have g3 : (row.length : Int) ≤ 16777216 := by omega
  simp [h1, g1, g2, g3, show ((row.length : Int) + 1 - 1) = row.length by omega]
theorem run_law_round {f : Nat} (h : P f = some B__law_round) {k : Nat} {n : Int} (hn : 0 ≤ n ∧ n ≤ 1000) : run P sub (k + 1) f [.p (.int n)] = .ok (.ol ((rnds n.toNat).map .int)) [some (.p (.int n))] := by
  rw [run_succ h rfl]
  have g1 : (-4611686018427387904 : Int) ≤ n + 1 := by omega
  have g2 : n + 1 < 4611686018427387904 := by omega
  have g3 : n ≤ 16777216 := by omega
  simp [g1, g2, g3, show n + 1 - 1 = n by omega, ups_rnds]
theorem run_law_rows_of {f g : Nat} (hg : P g = some B__law_led) (h : P f = some (B__law_rows_of g)) {k : Nat} {row : List Int} {lead : List (List Int)} (hr : row.length ≤ 1000000) (hl : lead.length ≤ 1000000) (hv : ∀ c ∈ lead, ValidC row.length c) :
    run P sub (k + 2) f [.p (dR row), .p (dL lead)] = .ok (.p (.list ((rwA row lead).map dR))) [some (.p (dR row)), some (.p (dL lead))] := by
  rw [run_succ h rfl]
  obtain ⟨e', h1, fs, cur, he, h2, _⟩ := forL_typed (body := loopT [] (.name 3) (evSs ⟨run P sub (k + 1), sub⟩ [] (B__law_rows_of_1 g))) dC
    (fun zs e => ∃ (fs : List (List Int)) (cur : List Int), e = [some (.p (dR row)), some (.p (dL lead)), some (.ol ((fs ++ [cur]).map dR)), none] ∧ fs ++ rwA cur zs = rwA row lead ∧ cur.length = row.length ∧ (∀ c ∈ zs, ValidC row.length c) ∧ fs.length + zs.length ≤ 1000000)
    lead [some (.p (dR row)), some (.p (dL lead)), some (.ol [dR row]), none] ⟨[], row, by simp, by simp, rfl, hv, by simpa using hl⟩ fun c zs e ⟨fs, cur, he, h1, h2, h3, h4⟩ => by
      subst he
      have hc := h3 c List.mem_cons_self
      rw [← h2] at hc
      have hm := run_law_led hg (sub := sub) (k := k) hc (by omega)
      have hz : fs.length + 1 < 16777216 := by simp at h4; omega
      have hz' : fs.length < 16777215 := by omega
      have hat : L2.atI (fs.map dR ++ [dR cur]) (-1) = some (dR cur) := atI_m1
      refine ⟨_, ?_, fs ++ [cur], mv cur c, rfl, by rw [List.append_assoc]; exact h1, by rw [mv_len]; exact h2, fun d hd => h3 d (List.mem_cons_of_mem _ hd), by simp at h4 ⊢; omega⟩
      simp [loopT, B__law_rows_of_1, hat, hm, hz, hz']
  subst he
  have h2' : fs ++ [cur] = rwA row lead := h2
  rw [h2'] at h1
  simp [h1]
end
end Q1

set_option maxHeartbeats 4000000
/-! M8: the other form of `equal`. -/
namespace Q1
open PySem
def bEqual2 (g : Nat) : Sms := (.cons (.ite (.tru (.bi .isList (.cons (.rf 1) .nil)))
 (.cons (.ite (.or (.not (.tru (.bi .isList (.cons (.rf 0) .nil)))) (.one (.cmp .ne (.bi .len (.cons (.rf 0) .nil)) (.bi .len (.cons (.rf 1) .nil)))))
 (.cons (.ret true (.lit (.bool false)))
 .nil)
 .nil)
 (.cons (.ret true (.call g (.cons (.rf 0) (.cons (.rf 1) .nil))))
 .nil))
 .nil)
 (.cons (.ite (.tru (.bi .isTuple (.cons (.rf 1) .nil)))
 (.cons (.ite (.or (.not (.tru (.bi .isTuple (.cons (.rf 0) .nil)))) (.one (.cmp .ne (.bi .len (.cons (.rf 0) .nil)) (.bi .len (.cons (.rf 1) .nil)))))
 (.cons (.ret true (.lit (.bool false)))
 .nil)
 .nil)
 (.cons (.ret true (.call g (.cons (.rf 0) (.cons (.rf 1) .nil))))
 .nil))
 .nil)
 (.cons (.ite (.tru (.bi .isBool (.cons (.rf 1) .nil)))
 (.cons (.ret true (.tv (.and (.val (.bi .isBool (.cons (.rf 0) .nil))) (.one (.cmp .eq (.rf 0) (.rf 1))))))
 .nil)
 .nil)
 (.cons (.ite (.tru (.bi .isInt (.cons (.rf 1) .nil)))
 (.cons (.ret true (.tv (.and (.val (.bi .isInt (.cons (.rf 0) .nil))) (.and (.not (.tru (.bi .isBool (.cons (.rf 0) .nil)))) (.one (.cmp .eq (.rf 0) (.rf 1)))))))
 .nil)
 .nil)
 (.cons (.ite (.tru (.bi .isStr (.cons (.rf 1) .nil)))
 (.cons (.ret true (.tv (.and (.val (.bi .isStr (.cons (.rf 0) .nil))) (.one (.cmp .eq (.rf 0) (.rf 1))))))
 .nil)
 .nil)
 (.cons (.ret true (.tv (.cmp .is (.rf 0) (.lit .none))))
 .nil))))))
theorem run_equal2 {P : Pg} {sub : Nat → Nat → Option Bool} {f g : Nat} (hE : P f = some ⟨2, 2, bEqual2 g⟩) (hA : P g = some ⟨3, 2, bAll f⟩) : ∀ (n : Nat) (d : D), plainD d = true → dpt d ≤ n → ∀ (k : Nat) (m1 m2 : M), m1.toD = d → m2.toD = d → run P sub (k + 2 * n + 1) f [m1, m2] = .ok (.p (.bool true)) [some m1, some m2]
  | n, .none, _, _, k, m1, m2, h1, h2 => by
    rw [run_succ hE rfl]
    simp [bEqual2, -byRef_q1, -byRef_q2, h1, h2]
  | n, .bool b, _, _, k, m1, m2, h1, h2 => by
    rw [run_succ hE rfl]
    simp [bEqual2, -byRef_q1, -byRef_q2, h1, h2]
  | n, .int b, _, _, k, m1, m2, h1, h2 => by
    rw [run_succ hE rfl]
    simp [bEqual2, -byRef_q1, -byRef_q2, h1, h2]
  | n, .str b, _, _, k, m1, m2, h1, h2 => by
    rw [run_succ hE rfl]
    simp [bEqual2, -byRef_q1, -byRef_q2, h1, h2]
  | n, .dict b, h, _, k, m1, m2, h1, h2 => by cases h
  | 0, .list xs, _, h, _, _, _, _, _ => by simp [dpt] at h
  | 0, .tuple xs, _, h, _, _, _, _, _ => by simp [dpt] at h
  | n + 1, .list xs, hp, hd, k, m1, m2, h1, h2 => by
    rw [plainD, Bool.and_eq_true, decide_eq_true_eq] at hp
    rw [dpt] at hd
    have key := run_all (sub := sub) (k := k + 2 * n + 1) hA hp.1 (.inl h1) (.inl h2) fun x hx => run_equal2 hE hA n x (plainDs_mem hp.2 hx) (by have := dpts_mem hx; omega) k (.p x) (.p x) rfl rfl
    rw [run_succ hE rfl]
    rw [show k + 2 * (n + 1) = k + 2 * n + 1 + 1 by omega]
    simp [bEqual2, -byRef_q1, -byRef_q2, h1, h2, key]
    cases m1 <;> cases m2 <;> simp
  | n + 1, .tuple xs, hp, hd, k, m1, m2, h1, h2 => by
    rw [plainD, Bool.and_eq_true, decide_eq_true_eq] at hp
    rw [dpt] at hd
    have key := run_all (sub := sub) (k := k + 2 * n + 1) hA hp.1 (.inr h1) (.inr h2) fun x hx => run_equal2 hE hA n x (plainDs_mem hp.2 hx) (by have := dpts_mem hx; omega) k (.p x) (.p x) rfl rfl
    rw [run_succ hE rfl]
    rw [show k + 2 * (n + 1) = k + 2 * n + 1 + 1 by omega]
    simp [bEqual2, -byRef_q1, -byRef_q2, h1, h2, key]
    cases m1 <;> cases m2 <;> simp
end Q1

set_option maxHeartbeats 4000000
/-! M9: rows as steps: products, cycles, order. -/
namespace Q1
open PySem
/-! steps, again and again -/
def itr (f : Int → Int) : Nat → Int → Int
  | 0, x => x
  | k + 1, x => f (itr f k x)
theorem itr_add (f : Int → Int) : ∀ (a b : Nat) (x : Int), itr f (a + b) x = itr f a (itr f b x)
  | 0, b, x => by rw [Nat.zero_add]; rfl
  | a + 1, b, x => by
    rw [show a + 1 + b = a + b + 1 by omega]
    show f (itr f (a + b) x) = f (itr f a (itr f b x))
    rw [itr_add f a b x]
theorem itr_fix {f : Int → Int} {j : Nat} {x : Int} (h : itr f j x = x) : ∀ k : Nat, itr f (j * k) x = x
  | 0 => rfl
  | k + 1 => by rw [Nat.mul_succ, itr_add, h, itr_fix h k]
/-- a permutation's step on 1..n -/
structure Prm (n : Nat) (f : Int → Int) : Prop where
  bd : ∀ x : Int, 1 ≤ x → x ≤ n → 1 ≤ f x ∧ f x ≤ n
  inj : ∀ x y : Int, 1 ≤ x → x ≤ n → 1 ≤ y → y ≤ n → f x = f y → x = y
theorem Prm.itr_bd {n : Nat} {f : Int → Int} (h : Prm n f) : ∀ (k : Nat) {x : Int}, 1 ≤ x → x ≤ n → 1 ≤ itr f k x ∧ itr f k x ≤ n
  | 0, x, a, b => ⟨a, b⟩
  | k + 1, x, a, b => by
    obtain ⟨c, d⟩ := h.itr_bd k a b
    exact h.bd _ c d
theorem Prm.itr {n : Nat} {f : Int → Int} (h : Prm n f) : ∀ k : Nat, Prm n (itr f k)
  | 0 => ⟨fun x a b => ⟨a, b⟩, fun x y _ _ _ _ e => e⟩
  | k + 1 => by
    have ih := h.itr k
    refine ⟨fun x a b => h.itr_bd (k + 1) a b, fun x y a b c d e => ?_⟩
    have h1 := ih.bd x a b
    have h2 := ih.bd y c d
    exact ih.inj x y a b c d (h.inj _ _ h1.1 h1.2 h2.1 h2.2 e)
/-- the orbit's first places -/
def orb (f : Int → Int) (p : Int) (j : Nat) : List Int := (List.range j).map fun i => itr f i p
theorem orb_succ (f : Int → Int) (p : Int) (j : Nat) : orb f p (j + 1) = orb f p j ++ [itr f j p] := by
  unfold orb; rw [List.range_succ, List.map_append]; rfl
theorem mem_orb {f : Int → Int} {p x : Int} {j : Nat} : x ∈ orb f p j ↔ ∃ i, i < j ∧ itr f i p = x := by
  unfold orb
  rw [List.mem_map]
  constructor
  · rintro ⟨i, hi, rfl⟩; exact ⟨i, List.mem_range.mp hi, rfl⟩
  · rintro ⟨i, hi, rfl⟩; exact ⟨i, List.mem_range.mpr hi, rfl⟩
theorem orb_len {f : Int → Int} {p : Int} {j : Nat} : (orb f p j).length = j := by simp [orb]
theorem orb_ne {f : Int → Int} {p : Int} {j : Nat} (h : (orb f p j).Nodup) {a b : Nat} (hab : a < b) (hb : b < j) : itr f a p ≠ itr f b p := by
  unfold orb at h
  rw [List.nodup_iff_pairwise_ne, List.pairwise_map] at h
  have := List.pairwise_iff_getElem.mp h a b (by simpa using Nat.lt_trans hab hb) (by simpa using hb) hab
  simpa using this
/-- a cycle -/
structure Cyc (f : Int → Int) (p : Int) (j : Nat) : Prop where
  one : 1 ≤ j
  back : itr f j p = p
  nd : (orb f p j).Nodup
theorem Cyc.dvd {f : Int → Int} {p : Int} {j : Nat} (h : Cyc f p j) (m : Nat) : itr f m p = p ↔ j ∣ m := by
  have e : itr f m p = itr f (m % j) p := by
    have := itr_add f (m % j) (j * (m / j)) p
    rw [itr_fix h.back, Nat.mod_add_div] at this
    exact this
  constructor
  · intro q
    rw [e] at q
    by_cases z : m % j = 0
    · exact Nat.dvd_of_mod_eq_zero z
    · exact absurd q.symm (orb_ne h.nd (a := 0) (by omega) (Nat.mod_lt _ h.one))
  · rintro ⟨k, rfl⟩
    exact itr_fix h.back k
theorem Cyc.dvd_mem {n : Nat} {f : Int → Int} (hp : Prm n f) {p : Int} (p1 : 1 ≤ p) (p2 : p ≤ n) {j : Nat} (h : Cyc f p j) {q : Int} (hq : q ∈ orb f p j) (m : Nat) : itr f m q = q ↔ j ∣ m := by
  obtain ⟨i, hi, rfl⟩ := mem_orb.mp hq
  rw [← h.dvd m, ← itr_add, Nat.add_comm, itr_add]
  have b1 := hp.itr_bd m p1 p2
  exact ⟨fun e => (hp.itr i).inj _ _ b1.1 b1.2 p1 p2 e, fun e => by rw [e]⟩
/-- what is told once and lies in 1..n is no more than n -/
theorem pigeon : ∀ (n : Nat) {xs : List Int}, xs.Nodup → (∀ x ∈ xs, 1 ≤ x ∧ x ≤ n) → xs.length ≤ n
  | 0, xs, _, hb => by
    cases xs with
    | nil => exact Nat.le_refl _
    | cons x xs => have := hb x List.mem_cons_self; omega
  | n + 1, xs, hn, hb => by
    have h1 := pigeon n (xs := xs.erase ((n + 1 : Nat) : Int)) (hn.erase _) fun x hx => by
      have h2 := hb x (List.mem_of_mem_erase hx)
      have h3 : x ≠ ((n + 1 : Nat) : Int) := fun e => by
        subst e
        exact (List.Nodup.not_mem_erase hn) hx
      omega
    rw [List.length_erase] at h1
    split at h1 <;> omega
/-! rows as steps -/
structure IsP (r : List Int) : Prop where
  bd : ∀ x ∈ r, 1 ≤ x ∧ x ≤ r.length
  nd : r.Nodup
def sg (r : List Int) (p : Int) : Int := r[(p - 1).toNat]?.getD 0
theorem sg_get {r : List Int} {p : Int} (h1 : 1 ≤ p) (h2 : p ≤ r.length) : r[(p - 1).toNat]? = some (sg r p) := by
  have : (p - 1).toNat < r.length := by omega
  unfold sg
  rw [List.getElem?_eq_getElem this]
  rfl
theorem atI_sg {r : List Int} {p : Int} (h1 : 1 ≤ p) (h2 : p ≤ r.length) : L2.atI (r.map PyData.int) (p - 1) = some (.int (sg r p)) := by
  rw [atI_nat (by omega), List.getElem?_map, sg_get h1 h2]
  rfl
theorem IsP.prm {r : List Int} (h : IsP r) : Prm r.length (sg r) := by
  refine ⟨fun x a b => h.bd _ (List.mem_of_getElem? (sg_get a b)), fun x y a b c d e => ?_⟩
  have g1 := sg_get a b
  have g2 := sg_get c d
  rw [← e] at g2
  have h1 : (x - 1).toNat < r.length := by omega
  have := (List.getElem?_inj h1 h.nd).mp (g1.trans g2.symm)
  omega
/-! products -/
def prd (row other : List Int) : List Int := other.map (sg row)
theorem prd_len {row other : List Int} : (prd row other).length = other.length := by simp [prd]
def C_product_1 : Ex := .comp [2] (.name 2) (.seq (.var 1)) .yes (.ix (.rf 0) (.bin .sub (.rf 2) (.lit (.int 1))))
@[simp] theorem opd_C_product_1 {r : En → Res M} {e : En} : opd C_product_1 r e = (r e).bind fun m e => .ok (.val m.toD) e := rfl
/-- product(row, other); slots: 0=row 1=other 2=place -/
abbrev B_product : FD := ⟨3, 2,
 (.cons (.ret true C_product_1)
 .nil)⟩
section
variable {P : Pg} {sub : Nat → Nat → Option Bool}
theorem run_product {f : Nat} (h : P f = some B_product) {k : Nat} {row other : List Int} (hb : ∀ x ∈ other, 1 ≤ x ∧ x ≤ row.length) : run P sub (k + 1) f [.p (dR row), .p (dR other)] = .ok (.ol ((prd row other).map .int)) [some (.p (dR row)), some (.p (dR other))] := by
  rw [run_succ h rfl]
  have h1 : evX ⟨run P sub k, sub⟩ C_product_1 [some (.p (dR row)), some (.p (dR other)), none] = .ok (.ol ((prd row other).map .int)) [some (.p (dR row)), some (.p (dR other)), none] := by
    unfold C_product_1 prd
    rw [List.map_map]
    exact ev_compA other .int (fun x => .int (sg row x)) (by simp) (by simp [plainAt]) fun x hx => by
      have := hb x hx
      have hat := atI_sg this.1 this.2
      exact ⟨_, by simp [hat]; rfl, by simp⟩
  simp [h1]
end

/-! what has been seen -/
def dK (xs : List Int) : List (D × D) := xs.map fun p => (.int p, .bool true)
theorem dget_dK (xs : List Int) (p : Int) : dgetO (.od false (dK xs)) (.int p) = some (if p ∈ xs then some (.bool true) else none) := by
  show (if keyKind false (.int p) then some (dlook (dK xs) (.int p)) else none) = _
  have hk : keyKind false (.int p) = true := rfl
  rw [hk, if_pos rfl]
  congr 1
  unfold dlook dK
  rw [List.find?_map]
  have e : ((fun kv : D × D => beqD kv.1 (.int p)) ∘ fun q : Int => (PyData.int q, PyData.bool true)) = fun q => q == p := by
    funext q; rfl
  rw [e]
  by_cases h : p ∈ xs
  · rw [if_pos h]
    cases q : xs.find? fun q => q == p with
    | some y => rfl
    | none => exact absurd (List.find?_eq_none.mp q p h) (by simp)
  · rw [if_neg h]
    cases q : xs.find? fun q => q == p with
    | none => rfl
    | some y =>
      have h1 := List.mem_of_find?_eq_some q
      have h2 := List.find?_some q
      simp at h2
      rw [h2] at h1
      exact absurd h1 h
theorem dput_dK {xs : List Int} {p : Int} (h : p ∉ xs) (hl : xs.length < 16777216) : dputO (some (.od false (dK xs))) (.int p) (.bool true) = some (.od false (dK (xs ++ [p]))) := by
  unfold dputO
  dsimp only
  rw [if_pos ⟨by simpa [dK] using hl, rfl⟩]
  unfold dputD
  have hn : ((dK xs).any fun kv => beqD kv.1 (.int p)) = false := by
    rw [List.any_eq_false]
    intro kv hkv
    obtain ⟨q, hq, rfl⟩ := List.mem_map.mp hkv
    show ¬ (q == p) = true
    intro hb
    simp at hb
    rw [hb] at hq
    exact h hq
  rw [hn, if_neg Bool.false_ne_true]
  simp [dK]
/-! cycles -/
def per (f : Int → Int) (n : Nat) (p : Int) : Nat := (((List.range n).find? fun m => itr f (m + 1) p == p).map (· + 1)).getD 0
theorem Cyc.per {f : Int → Int} {p : Int} {j n : Nat} (h : Cyc f p j) (hj : j ≤ n) : per f n p = j := by
  have : (List.range n).find? (fun m => itr f (m + 1) p == p) = some (j - 1) := by
    rw [List.find?_range_eq_some]
    have := h.one
    refine ⟨?_, by simp; omega, fun i hi => ?_⟩
    · rw [show j - 1 + 1 = j by omega, h.back]; simp
    · have := orb_ne h.nd (a := 0) (b := i + 1) (by omega) (by omega)
      simp
      exact fun e => this e.symm
  unfold Q1.per
  rw [this]
  have := h.one
  show j - 1 + 1 = j
  omega
def cstep (f : Int → Int) (n : Nat) (cs : List (List Int)) (p : Int) : List (List Int) := if p ∈ cs.flatten then cs else cs ++ [orb f p (per f n p)]
def cycs (r : List Int) : List (List Int) := (rnds r.length).foldl (cstep (sg r) r.length) []
structure Good (n : Nat) (f : Int → Int) (cs : List (List Int)) : Prop where
  nd : cs.flatten.Nodup
  bd : ∀ x ∈ cs.flatten, 1 ≤ x ∧ x ≤ n
  cyc : ∀ c ∈ cs, ∃ p j, c = orb f p j ∧ Cyc f p j ∧ 1 ≤ p ∧ p ≤ n
theorem Good.closed {n : Nat} {f : Int → Int} (hp : Prm n f) {cs : List (List Int)} (h : Good n f cs) {x : Int} (x1 : 1 ≤ x) (x2 : x ≤ n) (hx : f x ∈ cs.flatten) : x ∈ cs.flatten := by
  obtain ⟨c, hc, hm⟩ := List.mem_flatten.mp hx
  obtain ⟨p, j, rfl, hy, p1, p2⟩ := h.cyc c hc
  refine List.mem_flatten.mpr ⟨_, hc, ?_⟩
  obtain ⟨i, hi, e⟩ := mem_orb.mp hm
  have j1 := hy.one
  cases i with
  | zero =>
    have e' : f (itr f (j - 1) p) = f x := by
      rw [← e]
      have := hy.back
      rw [show j = j - 1 + 1 by omega] at this
      exact this
    have b := hp.itr_bd (j - 1) p1 p2
    exact mem_orb.mpr ⟨j - 1, by omega, hp.inj _ _ b.1 b.2 x1 x2 e'⟩
  | succ i =>
    have b := hp.itr_bd i p1 p2
    exact mem_orb.mpr ⟨i, by omega, hp.inj _ _ b.1 b.2 x1 x2 e⟩
/-- a walk that has come where it had been is a cycle -/
theorem Good.walk {n : Nat} {f : Int → Int} (hp : Prm n f) {cs : List (List Int)} (h : Good n f cs) {p : Int} (p1 : 1 ≤ p) (p2 : p ≤ n) {j : Nat} (j1 : 1 ≤ j) (hn : (cs.flatten ++ orb f p j).Nodup) (hx : itr f j p ∈ cs.flatten ++ orb f p j) : Cyc f p j := by
  have hno := (List.nodup_append.mp hn).2.1
  have hdis := (List.nodup_append.mp hn).2.2
  have b := hp.itr_bd (j - 1) p1 p2
  have ej : itr f j p = f (itr f (j - 1) p) := by
    conv => lhs; rw [show j = j - 1 + 1 by omega]
    rfl
  rcases List.mem_append.mp hx with q | q
  · rw [ej] at q
    have := h.closed hp b.1 b.2 q
    exact absurd rfl (hdis _ this _ (mem_orb.mpr ⟨j - 1, by omega, rfl⟩))
  · obtain ⟨i, hi, e⟩ := mem_orb.mp q
    cases i with
    | zero => exact ⟨j1, e.symm, hno⟩
    | succ i =>
      rw [ej] at e
      have b2 := hp.itr_bd i p1 p2
      have := hp.inj _ _ b2.1 b2.2 b.1 b.2 e
      exact absurd this (orb_ne hno (by omega) (by omega))
def T_cycles_of_1 : Tx := (.din true (.rf 5) (.rf 2))
def B_cycles_of_1 : Sms := (.cons (.dput 2 (.var 5) (.lit (.bool true)))
 (.cons (.app 4 (.var 5))
 (.cons (.set 5 true (.ix (.rf 0) (.bin .sub (.rf 5) (.lit (.int 1)))))
 .nil)))
def B_cycles_of_2 : Sms := (.cons (.ite (.din true (.rf 3) (.rf 2))
 (.cons (.set 4 true (.lst .nil))
 (.kill [5] (.cons (.set 5 true (.var 3))
 (.kill [3] (.cons (.whil 1000000000 T_cycles_of_1 B_cycles_of_1)
 (.kill [5] (.cons (.app 1 (.var 4))
 (.kill [4] .nil))))))))
 .nil)
 (.kill [3, 4, 5] .nil))
/-- cycles_of(row); slots: 0=row 1=found 2=seen 3=place 4=cycle 5=at -/
abbrev B_cycles_of : FD := ⟨6, 1,
 (.cons (.set 1 true (.lst .nil))
 (.cons (.set 2 true (.dict0 false))
 (.cons (.loop (.name 3) (.range (.cons (.lit (.int 1)) (.cons (.bin .add (.bi .len (.cons (.rf 0) .nil)) (.lit (.int 1))) .nil))) B_cycles_of_2)
 (.kill [2, 3, 4, 5] (.cons (.ret true (.var 1))
 .nil)))))⟩
def cyMu (e : En) : Nat := match e with
  | [_, _, _, _, some (.ol xs), _] => 2000000 - xs.length
  | _ => 0
section
variable {P : Pg} {sub : Nat → Nat → Option Bool}
theorem cyc_walk {C : PC} {r : List Int} (hr : IsP r) (hl : r.length ≤ 1000000) {cs : List (List Int)} (h : Good r.length (sg r) cs) {p : Int} (p1 : 1 ≤ p) (p2 : p ≤ r.length) (hps : p ∉ cs.flatten) {m1 : Option M} :
    ∃ j, Cyc (sg r) p j ∧ (cs.flatten ++ orb (sg r) p j).Nodup ∧ whileL (evT C T_cycles_of_1) (evSs C [] B_cycles_of_1) 1000000000 [some (.p (dR r)), m1, some (.od false (dK cs.flatten)), none, some (.ol []), some (.p (.int p))]
      = .ok .nx [some (.p (dR r)), m1, some (.od false (dK (cs.flatten ++ orb (sg r) p j))), none, some (.ol ((orb (sg r) p j).map .int)), some (.p (.int (itr (sg r) j p)))] := by
  have hp := hr.prm
  have hbd : ∀ j, ∀ x ∈ cs.flatten ++ orb (sg r) p j, 1 ≤ x ∧ x ≤ r.length := fun j x hx => by
    rcases List.mem_append.mp hx with q | q
    · exact h.bd x q
    · obtain ⟨i, _, rfl⟩ := mem_orb.mp q
      exact hp.itr_bd i p1 p2
  obtain ⟨e', h1, j, he, j1, hn, hx⟩ := whileL_inv (t := evT C T_cycles_of_1) (body := evSs C [] B_cycles_of_1) cyMu
    (fun e => ∃ j, e = [some (.p (dR r)), m1, some (.od false (dK (cs.flatten ++ orb (sg r) p j))), none, some (.ol ((orb (sg r) p j).map .int)), some (.p (.int (itr (sg r) j p)))] ∧ (cs.flatten ++ orb (sg r) p j).Nodup) (fun e ⟨j, he, hn⟩ => by
      subst he
      have hle := pigeon _ hn (hbd j)
      have b := hp.itr_bd j p1 p2
      have hget := dget_dK (cs.flatten ++ orb (sg r) p j) (itr (sg r) j p)
      by_cases q : itr (sg r) j p ∈ cs.flatten ++ orb (sg r) p j
      · rw [if_pos q] at hget
        exact ⟨false, _, by simp [T_cycles_of_1, hget, -dgetO_q1, -dputO_q1], j, rfl, hn⟩
      · rw [if_neg q] at hget
        have hput := dput_dK q (by omega)
        have hat := atI_sg b.1 b.2
        have hn' : (cs.flatten ++ orb (sg r) p (j + 1)).Nodup := by
          rw [orb_succ, ← List.append_assoc, List.nodup_append]
          exact ⟨hn, by simp, fun x hx y hy => by rw [List.mem_singleton.mp hy]; exact fun e => q (e ▸ hx)⟩
        have hj : j < 16777216 := by
          rw [List.length_append, orb_len] at hle
          omega
        rw [List.append_assoc] at hput
        refine ⟨true, _, by simp [T_cycles_of_1, hget, -dgetO_q1, -dputO_q1]; rfl, [some (.p (dR r)), m1, some (.od false (dK (cs.flatten ++ orb (sg r) p (j + 1)))), none, some (.ol ((orb (sg r) p (j + 1)).map .int)), some (.p (.int (itr (sg r) (j + 1) p)))], ?_, ⟨j + 1, rfl, hn'⟩, ?_⟩
        · have hol : ((orb (sg r) p j).map PyData.int).length < 16777216 := by rw [List.length_map, orb_len]; exact hj
          have hol2 : (orb (sg r) p j).length < 16777216 := by rw [orb_len]; exact hj
          rw [orb_succ]
          simp [B_cycles_of_1, hput, hat, hol, hol2, orb_len, hj, itr, -dgetO_q1, -dputO_q1]
        · have hle' := pigeon _ hn' (hbd (j + 1))
          rw [List.length_append, orb_len] at hle'
          simp [cyMu, orb_len]
          omega) (fun e => ∃ j, e = [some (.p (dR r)), m1, some (.od false (dK (cs.flatten ++ orb (sg r) p j))), none, some (.ol ((orb (sg r) p j).map .int)), some (.p (.int (itr (sg r) j p)))] ∧ 1 ≤ j ∧ (cs.flatten ++ orb (sg r) p j).Nodup ∧ itr (sg r) j p ∈ cs.flatten ++ orb (sg r) p j) (fun e e1 ⟨j, he, hn⟩ ht => by
        subst he
        have hget := dget_dK (cs.flatten ++ orb (sg r) p j) (itr (sg r) j p)
        by_cases q : itr (sg r) j p ∈ cs.flatten ++ orb (sg r) p j
        · rw [if_pos q] at hget
          simp [T_cycles_of_1, hget, -dgetO_q1, -dputO_q1] at ht
          refine ⟨j, ht.symm, ?_, hn, q⟩
          cases j with
          | zero => exact absurd q (by simpa [orb, itr] using hps)
          | succ j => omega
        · rw [if_neg q] at hget
          simp [T_cycles_of_1, hget, -dgetO_q1, -dputO_q1] at ht) 1000000000 [some (.p (dR r)), m1, some (.od false (dK cs.flatten)), none, some (.ol []), some (.p (.int p))] (by simp [cyMu]) ⟨0, by simp [orb, itr], by simpa [orb] using h.nd⟩
  subst he
  exact ⟨j, h.walk hp p1 p2 j1 hn hx, hn, h1⟩

theorem good_step {r : List Int} (hr : IsP r) {cs : List (List Int)} (h : Good r.length (sg r) cs) {p : Int} (p1 : 1 ≤ p) (p2 : p ≤ r.length) {j : Nat} (hc : Cyc (sg r) p j) (hn : (cs.flatten ++ orb (sg r) p j).Nodup) : Good r.length (sg r) (cs ++ [orb (sg r) p j]) ∧ j ≤ r.length := by
  have hb : ∀ x ∈ cs.flatten ++ orb (sg r) p j, 1 ≤ x ∧ x ≤ r.length := fun x hx => by
    rcases List.mem_append.mp hx with q | q
    · exact h.bd x q
    · obtain ⟨i, _, rfl⟩ := mem_orb.mp q
      exact hr.prm.itr_bd i p1 p2
  have e : (cs ++ [orb (sg r) p j]).flatten = cs.flatten ++ orb (sg r) p j := by simp
  refine ⟨⟨by rw [e]; exact hn, by rw [e]; exact hb, fun c hc' => ?_⟩, ?_⟩
  · rcases List.mem_append.mp hc' with q | q
    · exact h.cyc c q
    · rw [List.mem_singleton.mp q]; exact ⟨p, j, rfl, hc, p1, p2⟩
  · have := pigeon _ hn hb
    rw [List.length_append, orb_len] at this
    omega
theorem good_len {n : Nat} {f : Int → Int} {cs : List (List Int)} (h : Good n f cs) : cs.length ≤ n := by
  have h1 := pigeon _ h.nd h.bd
  have h2 : ∀ (cs : List (List Int)), (∀ c ∈ cs, 1 ≤ c.length) → cs.length ≤ cs.flatten.length := fun cs => by
    induction cs with
    | nil => intro _; simp
    | cons c cs ih =>
      intro hc
      have a := hc c List.mem_cons_self
      have b := ih fun x hx => hc x (List.mem_cons_of_mem _ hx)
      simp only [List.length_cons, List.flatten_cons, List.length_append]
      omega
  have h3 := h2 cs fun c hc => by
    obtain ⟨p, j, rfl, hy, _⟩ := h.cyc c hc
    rw [orb_len]
    exact hy.one
  omega
abbrev dCs (cs : List (List Int)) : List D := cs.map dR
theorem run_cycles_of {f : Nat} (h : P f = some B_cycles_of) {k : Nat} {r : List Int} (hr : IsP r) (hl : r.length ≤ 1000000) : run P sub (k + 1) f [.p (dR r)] = .ok (.p (.list (dCs (cycs r)))) [some (.p (dR r))] ∧ Good r.length (sg r) (cycs r) ∧ ∀ x : Int, 1 ≤ x → x ≤ r.length → x ∈ (cycs r).flatten := by
  rw [run_succ h rfl]
  have key := forL_typed (body := loopT [] (.name 3) (evSs ⟨run P sub k, sub⟩ [] B_cycles_of_2)) PyData.int
    (fun zs e => ∃ cs, e = [some (.p (dR r)), some (.ol (dCs cs)), some (.od false (dK cs.flatten)), none, none, none] ∧ Good r.length (sg r) cs ∧ zs.foldl (cstep (sg r) r.length) cs = cycs r ∧ (∀ z ∈ zs, 1 ≤ z ∧ z ≤ (r.length : Int)) ∧ ∀ x ∈ rnds r.length, x ∈ cs.flatten ∨ x ∈ zs)
    (rnds r.length) [some (.p (dR r)), some (.ol []), some (.od false (dK [])), none, none, none] ⟨[], rfl, ⟨by simp, by simp, by simp⟩, rfl, fun z hz => by
      obtain ⟨i, hi, rfl⟩ := List.mem_map.mp hz
      have := List.mem_range.mp hi
      omega, fun x hx => .inr hx⟩ fun p zs e ⟨cs, he, hg, hf, hz, ha⟩ => by
      subst he
      have hp := hz p List.mem_cons_self
      have hget := dget_dK cs.flatten p
      have hz' : ∀ z ∈ zs, 1 ≤ z ∧ z ≤ (r.length : Int) := fun z h => hz z (List.mem_cons_of_mem _ h)
      rw [List.foldl_cons] at hf
      by_cases q : p ∈ cs.flatten
      · rw [if_pos q] at hget
        have ec : cstep (sg r) r.length cs p = cs := if_pos q
        rw [ec] at hf
        refine ⟨_, ?_, cs, rfl, hg, hf, hz', fun x hx => ?_⟩
        · simp [loopT, B_cycles_of_2, hget, -dgetO_q1, -dputO_q1]
        · rcases ha x hx with a | a
          · exact .inl a
          · rcases List.mem_cons.mp a with b | b
            · rw [b]; exact .inl q
            · exact .inr b
      · rw [if_neg q] at hget
        obtain ⟨j, hc, hn, hw⟩ := cyc_walk (C := ⟨run P sub k, sub⟩) hr hl hg hp.1 hp.2 q (m1 := some (.ol (dCs cs)))
        obtain ⟨g1, g2⟩ := good_step hr hg hp.1 hp.2 hc hn
        have ec : cstep (sg r) r.length cs p = cs ++ [orb (sg r) p j] := by
          unfold cstep
          rw [if_neg q, hc.per g2]
        rw [ec] at hf
        have hlen := good_len hg
        have hsz : cs.length < 16777216 := by omega
        have e2 : (cs ++ [orb (sg r) p j]).flatten = cs.flatten ++ orb (sg r) p j := by simp
        refine ⟨_, ?_, cs ++ [orb (sg r) p j], rfl, g1, hf, hz', fun x hx => ?_⟩
        · rw [e2]
          simp [loopT, B_cycles_of_2, hget, hw, hsz, -dgetO_q1, -dputO_q1]
        · rw [e2]
          rcases ha x hx with a | a
          · exact .inl (List.mem_append_left _ a)
          · rcases List.mem_cons.mp a with b | b
            · rw [b]; exact .inl (List.mem_append_right _ (mem_orb.mpr ⟨0, hc.one, rfl⟩))
            · exact .inr b
  obtain ⟨e', h1, cs, he, hg, hf, _, ha⟩ := key
  subst he
  have hf : cs = cycs r := hf
  subst hf
  rw [← ups_rnds] at h1
  have e0 : dK [] = [] := rfl
  rw [e0] at h1
  have g1 : (r.length : Int) + 1 < 4611686018427387904 := by omega
  have g2 : (-4611686018427387904 : Int) ≤ (r.length : Int) + 1 := by omega
  have g3 : (r.length : Int) ≤ 16777216 := by omega
  refine ⟨?_, hg, fun x x1 x2 => ?_⟩
  · simp [h1, g1, g2, g3, show ((r.length : Int) + 1 - 1) = r.length by omega]
  · have hx : x ∈ rnds r.length := List.mem_map.mpr ⟨(x - 1).toNat, List.mem_range.mpr (by omega), by omega⟩
    rcases ha x hx with a | a
    · exact a
    · cases a
end
/-! the common divisor -/
def T_common_divisor_1 : Tx := (.cmp .ne (.rf 1) (.lit (.int 0)))
def B_common_divisor_1 : Sms := (.cons (.par 0 1 (.var 1) (.bin .mod (.rf 0) (.rf 1)))
 .nil)
/-- common_divisor(x, y); slots: 0=x 1=y -/
abbrev B_common_divisor : FD := ⟨2, 2,
 (.cons (.whil 1000000000 T_common_divisor_1 B_common_divisor_1)
 (.cons (.ret true (.var 0))
 .nil))⟩
def B_order_of_1 (i_common_divisor i_cycles_of : Nat) : Sms := (.cons (.set 1 true (.bin .mul (.bin .div (.rf 1) (.call i_common_divisor (.cons (.var 1) (.cons (.bi .len (.cons (.rf 2) .nil)) .nil)))) (.bi .len (.cons (.rf 2) .nil))))
 (.kill [2] .nil))
/-- order_of(row); slots: 0=row 1=found 2=cycle -/
abbrev B_order_of (i_common_divisor i_cycles_of : Nat) : FD := ⟨3, 1,
 (.cons (.set 1 true (.lit (.int 1)))
 (.cons (.loop (.name 2) (.seq (.call i_cycles_of (.cons (.var 0) .nil))) (B_order_of_1 i_common_divisor i_cycles_of))
 (.kill [2] (.cons (.ret true (.var 1))
 .nil))))⟩
def gcMu (e : En) : Nat := match e with
  | [_, some (.p (.int y))] => y.toNat
  | _ => 0
section
variable {P : Pg} {sub : Nat → Nat → Option Bool}
theorem run_gcd {f : Nat} (h : P f = some B_common_divisor) {k : Nat} {a b : Nat} (hb : b ≤ 1000000) : ∃ r, run P sub (k + 1) f [.p (.int a), .p (.int b)] = .ok (.p (.int (Nat.gcd a b : Nat))) r ∧ r.length = 2 := by
  rw [run_succ h rfl]
  obtain ⟨e', h1, x, he, hx⟩ := whileL_inv (t := evT ⟨run P sub k, sub⟩ T_common_divisor_1) (body := evSs ⟨run P sub k, sub⟩ [] B_common_divisor_1) gcMu
    (fun e => ∃ x y : Nat, e = [some (.p (.int x)), some (.p (.int y))] ∧ Nat.gcd x y = Nat.gcd a b) (fun e ⟨x, y, he, hg⟩ => by
      subst he
      by_cases q : y = 0
      · exact ⟨false, _, by simp [T_common_divisor_1, q]; rfl, x, y, by simp [q], hg⟩
      · have hy : (0 : Int) < y := by omega
        have hy0 : (y : Int) ≠ 0 := by omega
        have hy2 : 0 < y := by omega
        refine ⟨true, [some (.p (.int x)), some (.p (.int y))], by simp [T_common_divisor_1, q], [some (.p (.int y)), some (.p (.int (x % y : Nat)))], by simp [B_common_divisor_1, hy, hy0, hy2], ⟨y, x % y, rfl, ?_⟩, ?_⟩
        · rw [← hg, Nat.gcd_comm x y, Nat.gcd_rec y x, Nat.gcd_comm]
        · have := Nat.mod_lt x hy2
          simp only [gcMu]
          omega) (fun e => ∃ x : Nat, e = [some (.p (.int x)), some (.p (.int 0))] ∧ x = Nat.gcd a b) (fun e e1 ⟨x, y, he, hg⟩ ht => by
        subst he
        by_cases q : y = 0
        · subst q
          simp [T_common_divisor_1] at ht
          exact ⟨x, ht.symm, by rw [← hg, Nat.gcd_zero_right]⟩
        · simp [T_common_divisor_1, q] at ht) 1000000000 [some (.p (.int a)), some (.p (.int b))] (by simp [gcMu]; omega) ⟨a, b, rfl, rfl⟩
  subst he
  subst hx
  exact ⟨[some (.p (.int (Nat.gcd a b : Nat))), some (.p (.int 0))], by simp [h1], rfl⟩
def lcmS (a : Nat) (c : List Int) : Nat := a / Nat.gcd a c.length * c.length
def ordN (r : List Int) : Nat := (cycs r).foldl lcmS 1
theorem lcmS_eq {a : Nat} {c : List Int} : lcmS a c = Nat.lcm a c.length := by
  unfold lcmS Nat.lcm
  rw [Nat.div_mul_right_comm (Nat.gcd_dvd_left _ _)]
theorem lcms_dvd : ∀ (cs : List (List Int)) (a m : Nat), cs.foldl lcmS a ∣ m ↔ a ∣ m ∧ ∀ c ∈ cs, c.length ∣ m
  | [], a, m => by simp
  | c :: cs, a, m => by
    rw [List.foldl_cons, lcms_dvd cs, lcmS_eq, Nat.lcm_dvd_iff]
    simp [and_assoc]
theorem lcms_pos : ∀ (cs : List (List Int)) (a : Nat), 0 < a → (∀ c ∈ cs, 0 < c.length) → 0 < cs.foldl lcmS a
  | [], a, h, _ => h
  | c :: cs, a, h, hc => by
    rw [List.foldl_cons]
    refine lcms_pos cs _ ?_ fun x hx => hc x (List.mem_cons_of_mem _ hx)
    rw [lcmS_eq]
    exact Nat.lcm_pos h (hc c List.mem_cons_self)
theorem run_order_of {f g c : Nat} (hg : P g = some B_common_divisor) (hc : P c = some B_cycles_of) (h : P f = some (B_order_of g c)) {k : Nat} {r : List Int} (hr : IsP r) (hl : r.length ≤ 1000000) : run P sub (k + 2) f [.p (dR r)] = .ok (.p (.int (ordN r))) [some (.p (dR r))] := by
  rw [run_succ h rfl]
  obtain ⟨h1, h2, _⟩ := run_cycles_of hc (sub := sub) (k := k) hr hl
  have key := forL_fold (body := loopT [] (.name 2) (evSs ⟨run P sub (k + 1), sub⟩ [] (B_order_of_1 g c))) dR (fun a : Nat => [some (.p (dR r)), some (.p (.int a)), none]) (fun a => 0 < a) lcmS (cycs r) 1 (by decide) fun cc hcc a ha => by
    obtain ⟨p, j, rfl, hy, p1, p2⟩ := h2.cyc cc hcc
    have j1 := hy.one
    have hj : j ≤ r.length := by
      have := pigeon _ hy.nd fun x hx => by
        obtain ⟨i, _, rfl⟩ := mem_orb.mp hx
        exact hr.prm.itr_bd i p1 p2
      rw [orb_len] at this
      exact this
    obtain ⟨rr, hgc, hrl⟩ := run_gcd hg (sub := sub) (k := k) (a := a) (b := j) (by omega)
    have hgp : 0 < Nat.gcd a j := Nat.gcd_pos_of_pos_left _ ha
    have hgb : ((Nat.gcd a j : Nat) : Int) < 1073741824 := by have := Nat.gcd_le_right a (n := j) (by omega); omega
    refine ⟨?_, ?_⟩
    · obtain ⟨r0, r1, rfl⟩ : ∃ r0 r1, rr = [r0, r1] := by
        match rr, hrl with
        | [r0, r1], _ => exact ⟨r0, r1, rfl⟩
      have hj1 : (-18446744073709551616 : Int) < j := by omega
      have hj2 : (j : Int) < 18446744073709551616 := by omega
      simp [loopT, B_order_of_1, orb_len, hgc, hgp, hgb, lcmS, hj1, hj2]
    · rw [lcmS_eq, orb_len]
      exact Nat.lcm_pos ha j1
  simp only [ordN]
  have k1 : forL (loopT [] (.name 2) (evSs ⟨run P sub (k + 1), sub⟩ [] (B_order_of_1 g c))) (dCs (cycs r)) [some (.p (dR r)), some (.p (.int 1)), none] = .ok .nx [some (.p (dR r)), some (.p (.int (((cycs r).foldl lcmS 1 : Nat) : Int))), none] := key.1
  simp [h1, k1]
end
theorem Good.dvd {r : List Int} (hr : IsP r) (h : Good r.length (sg r) (cycs r)) (ha : ∀ x : Int, 1 ≤ x → x ≤ r.length → x ∈ (cycs r).flatten) (m : Nat) : ordN r ∣ m ↔ ∀ x : Int, 1 ≤ x → x ≤ r.length → itr (sg r) m x = x := by
  unfold ordN
  rw [lcms_dvd]
  constructor
  · rintro ⟨_, hc⟩ x x1 x2
    obtain ⟨c, hcm, hx⟩ := List.mem_flatten.mp (ha x x1 x2)
    obtain ⟨p, j, rfl, hy, p1, p2⟩ := h.cyc c hcm
    have := hc _ hcm
    rw [orb_len] at this
    exact (hy.dvd_mem hr.prm p1 p2 hx m).mpr this
  · intro hx
    refine ⟨Nat.one_dvd m, fun c hc => ?_⟩
    obtain ⟨p, j, rfl, hy, p1, p2⟩ := h.cyc c hc
    rw [orb_len]
    exact (hy.dvd m).mp (hx p p1 p2)
theorem Good.pos {r : List Int} (h : Good r.length (sg r) (cycs r)) : 0 < ordN r := lcms_pos _ _ (by decide) fun c hc => by
  obtain ⟨p, j, rfl, hy, _⟩ := h.cyc c hc
  rw [orb_len]
  exact hy.one
end Q1

set_option maxHeartbeats 4000000
/-! M10: rows moved and multiplied; turned back. -/
namespace Q1
open PySem
theorem ValidC.len_eq {n m : Int} {c : List Int} (h : ValidC n c) (e : n = m) : ValidC m c := e ▸ h
theorem IsP.rnds (n : Nat) : IsP (rnds n) := by
  refine ⟨fun x hx => ?_, ?_⟩
  · obtain ⟨i, hi, rfl⟩ := List.mem_map.mp hx
    have := List.mem_range.mp hi
    rw [rnds_len]
    omega
  · unfold Q1.rnds
    rw [List.nodup_iff_pairwise_ne, List.pairwise_map]
    exact List.pairwise_lt_range.imp fun {a b} h => by omega
theorem IsP.mv {r c : List Int} (h : IsP r) (hv : ValidC r.length c) : IsP (mv r c) := by
  refine ⟨fun x hx => ?_, ?_⟩
  · obtain ⟨i, hi⟩ := List.getElem?_of_mem hx
    rw [mv_get hv] at hi
    rw [mv_len]
    exact h.bd x (List.mem_of_getElem? hi)
  · rw [List.nodup_iff_pairwise_ne, List.pairwise_iff_getElem]
    intro i j hi hj hij e
    have h1 := mv_get hv i
    have h2 := mv_get hv j
    rw [List.getElem?_eq_getElem hi] at h1
    rw [List.getElem?_eq_getElem hj] at h2
    rw [e] at h1
    have h3 := h1.symm.trans h2
    have ht : tau c i < r.length := by
      rcases Nat.lt_or_ge (tau c i) r.length with q | q
      · exact q
      · rw [List.getElem?_eq_none q] at h1; cases h1
    have := (List.getElem?_inj ht h.nd).mp h3
    have e2 := congrArg (tau c) this
    rw [tau_tau hv, tau_tau hv] at e2
    omega
theorem IsP.ledR {r : List Int} : ∀ {l : List (List Int)}, IsP r → (∀ c ∈ l, ValidC r.length c) → IsP (ledR r l) := fun {l} => by
  induction l generalizing r with
  | nil => exact fun h _ => h
  | cons c l ih =>
    intro h hv
    exact ih (r := Q1.mv r c) (h.mv (hv c List.mem_cons_self)) fun d hd => by rw [mv_len]; exact hv d (List.mem_cons_of_mem _ hd)
theorem IsP.rwA {r : List Int} : ∀ {l : List (List Int)}, IsP r → (∀ c ∈ l, ValidC r.length c) → ∀ x ∈ rwA r l, IsP x ∧ x.length = r.length := fun {l} => by
  induction l generalizing r with
  | nil => intro h _ x hx; rw [List.mem_singleton.mp hx]; exact ⟨h, rfl⟩
  | cons c l ih =>
    intro h hv x hx
    unfold Q1.rwA at hx
    rcases List.mem_cons.mp hx with q | q
    · rw [q]; exact ⟨h, rfl⟩
    · have := ih (r := Q1.mv r c) (h.mv (hv c List.mem_cons_self)) (fun d hd => by rw [mv_len]; exact hv d (List.mem_cons_of_mem _ hd)) x q
      rw [mv_len] at this
      exact this
/-! places only -/
theorem mv_map {g : Int → Int} {r c : List Int} (hv : ValidC r.length c) : mv (r.map g) c = (mv r c).map g := by
  apply List.ext_getElem?
  intro j
  rw [mv_get (by rw [List.length_map]; exact hv), List.getElem?_map, List.getElem?_map, mv_get hv]
theorem ledR_map {g : Int → Int} : ∀ {l : List (List Int)} {r : List Int}, (∀ c ∈ l, ValidC r.length c) → ledR (r.map g) l = (ledR r l).map g
  | [], r, _ => rfl
  | c :: l, r, hv => by
    show ledR (mv (r.map g) c) l = (ledR (mv r c) l).map g
    rw [mv_map (hv c List.mem_cons_self)]
    exact ledR_map fun d hd => by rw [mv_len]; exact hv d (List.mem_cons_of_mem _ hd)
theorem rwA_map {g : Int → Int} : ∀ {l : List (List Int)} {r : List Int}, (∀ c ∈ l, ValidC r.length c) → rwA (r.map g) l = (rwA r l).map (·.map g)
  | [], r, _ => rfl
  | c :: l, r, hv => by
    unfold rwA
    rw [mv_map (hv c List.mem_cons_self), rwA_map fun d hd => by rw [mv_len]; exact hv d (List.mem_cons_of_mem _ hd)]
    rfl
/-- powers -/
def pw (E : List Int) (t : Nat) : List Int := (rnds E.length).map (itr (sg E) t)
theorem sg_map_rnds {n : Nat} {g : Int → Int} {p : Int} (h1 : 1 ≤ p) (h2 : p ≤ n) : sg ((rnds n).map g) p = g p := by
  unfold sg rnds
  rw [List.getElem?_map, List.getElem?_map, List.getElem?_range (by omega)]
  show g (1 + ((p - 1).toNat : Int)) = g p
  congr 1
  omega
theorem map_sg_rnds {r : List Int} : (rnds r.length).map (sg r) = r := by
  apply List.ext_getElem?
  intro j
  unfold rnds
  rw [List.map_map, List.getElem?_map]
  by_cases h : j < r.length
  · rw [List.getElem?_range h]
    show some (sg r (1 + (j : Int))) = _
    have := sg_get (r := r) (p := 1 + (j : Int)) (by omega) (by omega)
    rw [show (1 + (j : Int) - 1).toNat = j by omega] at this
    exact this.symm
  · rw [List.getElem?_eq_none (by simpa using h), List.getElem?_eq_none (by omega)]
    rfl
theorem rnds_bd {n : Nat} {x : Int} (h : x ∈ rnds n) : 1 ≤ x ∧ x ≤ n := by
  obtain ⟨i, hi, rfl⟩ := List.mem_map.mp h
  have := List.mem_range.mp hi
  omega
theorem mem_rnds {n : Nat} {x : Int} (h1 : 1 ≤ x) (h2 : x ≤ n) : x ∈ rnds n := List.mem_map.mpr ⟨(x - 1).toNat, List.mem_range.mpr (by omega), by omega⟩
theorem pw_zero {E : List Int} : pw E 0 = rnds E.length := by
  unfold pw
  show (rnds E.length).map (fun x => x) = _
  simp
theorem pw_len {E : List Int} {t : Nat} : (pw E t).length = E.length := by simp [pw, rnds_len]
theorem pw_succ {E : List Int} {t : Nat} : prd E (pw E t) = pw E (t + 1) := by
  unfold prd pw
  rw [List.map_map]
  rfl
/-- a row led from a power on -/
theorem map_pw {E r : List Int} {t : Nat} (h : ∀ x ∈ r, 1 ≤ x ∧ x ≤ E.length) : r.map (sg (pw E t)) = r.map (itr (sg E) t) :=
  List.map_congr_left fun x hx => sg_map_rnds (h x hx).1 (h x hx).2
theorem itr_comm {f : Int → Int} (t : Nat) (x : Int) : itr f t (f x) = itr f (t + 1) x := by
  rw [itr_add f t 1 x]; rfl
theorem pw_led {E : List Int} {l : List (List Int)} (hv : ∀ c ∈ l, ValidC E.length c) (hE : ledR (rnds E.length) l = E) (t : Nat) : ledR (pw E t) l = pw E (t + 1) := by
  unfold pw
  rw [ledR_map (by rw [rnds_len]; exact hv), hE]
  conv => lhs; rw [← map_sg_rnds (r := E), map_sg_rnds (r := E)]
  rw [show (E.map (itr (sg E) t)) = ((rnds E.length).map (sg E)).map (itr (sg E) t) by rw [map_sg_rnds], List.map_map]
  exact List.map_congr_left fun x _ => itr_comm t x
theorem pw_round {E : List Int} {t : Nat} : pw E t = rnds E.length ↔ ∀ x : Int, 1 ≤ x → x ≤ E.length → itr (sg E) t x = x := by
  unfold pw
  constructor
  · intro h x h1 h2
    have := sg_map_rnds (n := E.length) (g := itr (sg E) t) h1 h2
    rw [h] at this
    rw [← this]
    have h3 := sg_map_rnds (n := E.length) (g := fun x => x) h1 h2
    simpa using h3
  · intro h
    have : (rnds E.length).map (itr (sg E) t) = (rnds E.length).map (fun x => x) := List.map_congr_left fun x hx => h x (rnds_bd hx).1 (rnds_bd hx).2
    rw [this]
    simp
/-- of few bells the order is not great -/
theorem ord_840 {r : List Int} (hr : IsP r) (hl : r.length ≤ 8) (h : Good r.length (sg r) (cycs r)) : ordN r ∣ 840 := by
  unfold ordN
  rw [lcms_dvd]
  refine ⟨Nat.one_dvd _, fun c hc => ?_⟩
  obtain ⟨p, j, rfl, hy, p1, p2⟩ := h.cyc c hc
  have : j ≤ r.length := by
    have := pigeon _ hy.nd fun x hx => by
      obtain ⟨i, _, rfl⟩ := mem_orb.mp hx
      exact hr.prm.itr_bd i p1 p2
    rw [orb_len] at this
    exact this
  have j1 := hy.one
  rw [orb_len]
  have : j = 1 ∨ j = 2 ∨ j = 3 ∨ j = 4 ∨ j = 5 ∨ j = 6 ∨ j = 7 ∨ j = 8 := by omega
  rcases this with rfl | rfl | rfl | rfl | rfl | rfl | rfl | rfl <;> decide
/-! turned back -/
structure Back (r b : List Int) : Prop where
  len : b.length = r.length
  bk : ∀ y : Int, 1 ≤ y → y ≤ r.length → sg b (sg r y) = y
  bd : ∀ x : Int, 1 ≤ x → x ≤ r.length → 1 ≤ sg b x ∧ sg b x ≤ r.length
def B_back_of_1 : Sms := (.cons (.setix 1 (.bin .sub (.ix (.rf 0) (.rf 2)) (.lit (.int 1))) (.bin .add (.rf 2) (.lit (.int 1))))
 (.kill [2] .nil))
/-- back_of(row); slots: 0=row 1=found 2=place -/
abbrev B_back_of : FD := ⟨3, 1,
 (.cons (.set 1 true (.bi .list (.cons (.rf 0) .nil)))
 (.cons (.loop (.name 2) (.range (.cons (.bi .len (.cons (.rf 0) .nil)) .nil)) B_back_of_1)
 (.kill [2] (.cons (.ret true (.var 1))
 .nil))))⟩
section
variable {P : Pg} {sub : Nat → Nat → Option Bool}
theorem run_back_of {f : Nat} (h : P f = some B_back_of) {k : Nat} {r : List Int} (hr : IsP r) (hl : r.length ≤ 1000000) : ∃ b, run P sub (k + 1) f [.p (dR r)] = .ok (.p (dR b)) [some (.p (dR r))] ∧ Back r b := by
  rw [run_succ h rfl]
  obtain ⟨e', h1, b, he, hlen, hb, hbd⟩ := forL_inv (body := loopT [] (.name 2) (evSs ⟨run P sub k, sub⟩ [] B_back_of_1)) (xs := ups 0 r.length) (e := [some (.p (dR r)), some (.ol (r.map .int)), none])
    (fun i e => ∃ b : List Int, e = [some (.p (dR r)), some (.ol (b.map .int)), none] ∧ b.length = r.length ∧ (∀ y : Int, 1 ≤ y → y ≤ i → y ≤ r.length → sg b (sg r y) = y) ∧ ∀ x ∈ b, 1 ≤ x ∧ x ≤ r.length) 0 ⟨r, rfl, rfl, fun y h1 h2 _ => by omega, hr.bd⟩ fun i x e hx ⟨b, he, hlen, hb, hbd⟩ => by
      obtain ⟨rfl, hi⟩ := ups_get? hx
      subst he
      have hpb := hr.prm.bd (1 + i) (by omega) (by omega)
      have hat : L2.atI (r.map PyData.int) (i : Int) = some (.int (sg r (1 + i))) := by
        have := atI_sg (r := r) (p := 1 + (i : Int)) (by omega) (by omega)
        rw [show (1 + (i : Int) - 1) = i by omega] at this
        exact this
      have hixn : L2.ixN r.length (sg r (1 + i) - 1) = some (sg r (1 + i) - 1).toNat := ixN_pos (by omega) (by omega)
      refine ⟨_, ?_, b.set (sg r (1 + i) - 1).toNat (1 + i), rfl, by simp [hlen], fun y y1 y2 y3 => ?_, fun x hx => ?_⟩
      · simp [loopT, B_back_of_1, hat, hixn, hlen, List.map_set]
        first | rfl | (congr 1; omega) | skip
        try (rw [Int.add_comm])
      · have hpy := hr.prm.bd y y1 y3
        by_cases q : y = 1 + i
        · subst q
          unfold sg
          rw [List.getElem?_set]
          rw [if_pos (by rfl), if_pos (by unfold sg at hpb; omega)]
          rfl
        · have hne : sg r y ≠ sg r (1 + i) := fun e => q (hr.prm.inj _ _ y1 y3 (by omega) (by omega) e)
          have := hb y y1 (by omega) y3
          unfold sg at this ⊢
          rw [List.getElem?_set, if_neg]
          · exact this
          · unfold sg at hne hpy hpb
            omega
      · rcases List.mem_or_eq_of_mem_set hx with q | q
        · exact hbd x q
        · rw [q]; omega
  subst he
  have hn : (r.length : Int) ≤ 16777216 := by omega
  refine ⟨b, ?_, hlen, fun y y1 y2 => hb y y1 (by simp [ups_len]; omega) y2, fun x x1 x2 => ?_⟩
  · simp [h1, hn]
  · have := hbd (sg b x) (List.mem_of_getElem? (sg_get x1 (by rw [hlen]; exact x2)))
    exact this
end
end Q1

set_option maxHeartbeats 1000000
/-! M11: the order of typed data: sorted, min, max, comparisons. -/
namespace Q1
open PySem
/-- a strict order, total -/
structure SOrd {α : Type} (lt : α → α → Bool) : Prop where
  irr : ∀ a, lt a a = false
  tr : ∀ {a b c}, lt a b = true → lt b c = true → lt a c = true
  tot : ∀ a b, lt a b = true ∨ a = b ∨ lt b a = true
theorem SOrd.asym {α : Type} {lt : α → α → Bool} (h : SOrd lt) {a b : α} (q : lt a b = true) : lt b a = false := by
  cases e : lt b a with
  | false => rfl
  | true => have := h.tr q e; rw [h.irr] at this; cases this
theorem SOrd.ne {α : Type} {lt : α → α → Bool} (h : SOrd lt) {a b : α} (q : lt a b = true) : a ≠ b := fun e => by subst e; rw [h.irr] at q; cases q
def ltI (a b : Int) : Bool := decide (a < b)
theorem sord_I : SOrd ltI where
  irr a := by simp [ltI]
  tr {a b c} h1 h2 := by simp [ltI] at *; omega
  tot a b := by simp [ltI]; omega
def ltP {α β : Type} (l1 : α → α → Bool) (l2 : β → β → Bool) (a b : α × β) : Bool := l1 a.1 b.1 || (!l1 b.1 a.1 && l2 a.2 b.2)
theorem sord_P {α β : Type} {l1 : α → α → Bool} {l2 : β → β → Bool} (h1 : SOrd l1) (h2 : SOrd l2) : SOrd (ltP l1 l2) where
  irr a := by simp [ltP, h1.irr, h2.irr]
  tr {a b c} q1 q2 := by
    simp [ltP] at *
    rcases q1 with q1 | ⟨q1, q1'⟩ <;> rcases q2 with q2 | ⟨q2, q2'⟩
    · exact .inl (h1.tr q1 q2)
    · rcases h1.tot b.1 c.1 with g | g | g
      · exact .inl (h1.tr q1 g)
      · rw [← g]; exact .inl q1
      · rw [g] at q2; cases q2
    · rcases h1.tot a.1 b.1 with g | g | g
      · exact .inl (h1.tr g q2)
      · rw [g]; exact .inl q2
      · rw [g] at q1; cases q1
    · rcases h1.tot a.1 b.1 with g | g | g
      · rcases h1.tot b.1 c.1 with k | k | k
        · exact .inl (h1.tr g k)
        · rw [← k]; exact .inl g
        · rw [k] at q2; cases q2
      · rw [g]
        exact .inr ⟨q2, h2.tr q1' q2'⟩
      · rw [g] at q1; cases q1
  tot a b := by
    simp [ltP]
    rcases h1.tot a.1 b.1 with g | g | g
    · exact .inl (.inl g)
    · rcases h2.tot a.2 b.2 with k | k | k
      · exact .inl (.inr ⟨by rw [g]; exact h1.irr _, k⟩)
      · exact .inr (.inl (Prod.ext g k))
      · exact .inr (.inr (.inr ⟨by rw [g]; exact h1.irr _, k⟩))
    · exact .inr (.inr (.inl g))
def ltL {α : Type} (l : α → α → Bool) : List α → List α → Bool
  | [], [] => false
  | [], _ :: _ => true
  | _ :: _, [] => false
  | a :: as, b :: bs => l a b || (!l b a && ltL l as bs)
theorem sord_L {α : Type} {l : α → α → Bool} (h : SOrd l) : SOrd (ltL l) where
  irr a := by induction a with | nil => rfl | cons x a ih => simp [ltL, h.irr, ih]
  tr := by
    intro a
    induction a with
    | nil => intro b c q1 q2; cases c with | cons _ _ => rfl | nil => cases b <;> simp [ltL] at q1 q2
    | cons x a ih =>
      intro b c q1 q2
      cases b with
      | nil => simp [ltL] at q1
      | cons y b =>
        cases c with
        | nil => simp [ltL] at q2
        | cons z c =>
          simp [ltL] at *
          rcases q1 with q1 | ⟨q1, q1'⟩ <;> rcases q2 with q2 | ⟨q2, q2'⟩
          · exact .inl (h.tr q1 q2)
          · rcases h.tot y z with g | g | g
            · exact .inl (h.tr q1 g)
            · rw [← g]; exact .inl q1
            · rw [g] at q2; cases q2
          · rcases h.tot x y with g | g | g
            · exact .inl (h.tr g q2)
            · rw [g]; exact .inl q2
            · rw [g] at q1; cases q1
          · rcases h.tot x y with g | g | g
            · rcases h.tot y z with k | k | k
              · exact .inl (h.tr g k)
              · rw [← k]; exact .inl g
              · rw [k] at q2; cases q2
            · rw [g]
              exact .inr ⟨q2, ih q1' q2'⟩
            · rw [g] at q1; cases q1
  tot := by
    intro a
    induction a with
    | nil => intro b; cases b <;> simp [ltL]
    | cons x a ih =>
      intro b
      cases b with
      | nil => simp [ltL]
      | cons y b =>
        simp [ltL]
        rcases h.tot x y with g | g | g
        · exact .inl (.inl g)
        · rcases ih b with k | k | k
          · exact .inl (.inr ⟨by rw [g]; exact h.irr _, k⟩)
          · exact .inr (.inl ⟨g, k⟩)
          · exact .inr (.inr (.inr ⟨by rw [g]; exact h.irr _, k⟩))
        · exact .inr (.inr (.inl g))

/-- typed data with its order -/
structure DOrd {α : Type} (f : α → D) (lt : α → α → Bool) (n : Nat) : Prop where
  so : SOrd lt
  al : ∀ a b, PySem.W.alike (f a) (f b) = true
  ltd : ∀ a b, PySem.W.dataLt (f a) (f b) = lt a b
  eqv : ∀ a b, PyData.eqv (f a) (f b) = true ↔ a = b
  lay : ∀ a, (f a).canLay0 = true
  dep : ∀ a, (f a).depth ≤ n
  nn : ∀ a, isNon (f a) = false
section
variable {α β : Type} {f : α → D} {lt : α → α → Bool} {n : Nat}
theorem DOrd.nne (h : DOrd f lt n) (a : α) : f a ≠ .none := fun e => by have := h.nn a; rw [e] at this; cases this
theorem dord_I : DOrd PyData.int ltI 0 where
  so := sord_I
  al a b := by simp [PySem.W.alike]
  ltd a b := PySem.W.dataLt_int a b
  eqv a b := by simp [PyData.eqv]
  lay a := by simp [PyData.canLay0]
  dep a := by simp [PyData.depth]
  nn a := rfl
theorem dord_P {g : β → D} {lg : β → β → Bool} {m : Nat} (h : DOrd f lt n) (k : DOrd g lg m) : DOrd (fun p : α × β => .tuple [f p.1, g p.2]) (ltP lt lg) (max n m + 1) where
  so := sord_P h.so k.so
  al a b := by simp [PySem.W.alike, PySem.W.alikeAll, h.al, k.al]
  ltd a b := by
    show PySem.W.dataLt (.tuple [f a.1, g a.2]) (.tuple [f b.1, g b.2]) = ltP lt lg a b
    rw [PySem.W.dataLt_pair (h.al _ _) (k.al _ _), h.ltd, k.ltd]
    unfold ltP
    by_cases e : a.1 = b.1
    · rw [if_pos ((h.eqv _ _).mpr e), e, h.so.irr]
      by_cases e2 : a.2 = b.2
      · rw [if_pos ((k.eqv _ _).mpr e2), e2, k.so.irr]; rfl
      · rw [if_neg fun q => e2 ((k.eqv _ _).mp q)]; rfl
    · rw [if_neg fun q => e ((h.eqv _ _).mp q)]
      rcases h.so.tot a.1 b.1 with q | q | q
      · rw [q]; rfl
      · exact absurd q e
      · rw [q, h.so.asym q]; rfl
  eqv a b := by
    simp [PyData.eqv, PyData.eqvAll, h.eqv, k.eqv]
    exact Prod.ext_iff.symm
  lay a := by simp [PyData.canLay0, PyData.canLayAll0, h.lay, k.lay]
  dep a := by
    have := h.dep a.1
    have := k.dep a.2
    simp [PyData.depth, PyData.depthAll]
    omega
  nn a := rfl
theorem rowLt_map (h : DOrd f lt n) : ∀ xs ys : List α, PySem.W.rowLt (xs.map f) (ys.map f) = ltL lt xs ys
  | [], [] => (PySem.W.dataLt_ints [] []).trans (by simp [ltL])
  | [], y :: ys => by
    have := PySem.W.dataLt_ints [] [0]
    unfold PySem.W.rowLt at this ⊢
    rw [List.map_nil, List.map_cons, ltL, PySem.W.toks_all_cons, PySem.W.keyToksAll]
    rw [List.map_nil, List.map_cons, PySem.W.toks_all_cons, PySem.W.keyToksAll] at this
    rw [PySem.W.lex_atom (by simp)] at this ⊢
    rw [this]; rfl
  | x :: xs, [] => by
    have := PySem.W.dataLt_ints [0] []
    unfold PySem.W.rowLt at this ⊢
    rw [List.map_nil, List.map_cons, ltL, PySem.W.toks_all_cons, PySem.W.keyToksAll]
    rw [List.map_nil, List.map_cons, PySem.W.toks_all_cons, PySem.W.keyToksAll] at this
    rw [PySem.W.lex_atom (by simp)] at this ⊢
    rw [this]; rfl
  | x :: xs, y :: ys => by
    have ih := rowLt_map h xs ys
    unfold PySem.W.rowLt at ih ⊢
    rw [List.map_cons, List.map_cons, PySem.W.dataLt_cons (h.al _ _), ih, h.ltd, ltL]
    by_cases e : x = y
    · rw [if_pos ((h.eqv _ _).mpr e), e, h.so.irr]; rfl
    · rw [if_neg fun q => e ((h.eqv _ _).mp q)]
      rcases h.so.tot x y with q | q | q
      · rw [q]; rfl
      · exact absurd q e
      · rw [q, h.so.asym q]; rfl
theorem alikeAll_map (h : DOrd f lt n) : ∀ xs ys : List α, PySem.W.alikeAll (xs.map f) (ys.map f) = true
  | [], _ => by simp [PySem.W.alikeAll]
  | _ :: _, [] => by simp [PySem.W.alikeAll]
  | x :: xs, y :: ys => by
    rw [List.map_cons, List.map_cons, PySem.W.alikeAll, h.al, alikeAll_map h xs ys]; rfl
theorem eqvAll_map (h : ∀ a b, PyData.eqv (f a) (f b) = true ↔ a = b) : ∀ xs ys : List α, PyData.eqvAll (xs.map f) (ys.map f) = true ↔ xs = ys
  | [], [] => by simp [PyData.eqvAll]
  | [], _ :: _ => by simp [PyData.eqvAll]
  | _ :: _, [] => by simp [PyData.eqvAll]
  | x :: xs, y :: ys => by
    rw [List.map_cons, List.map_cons, PyData.eqvAll, Bool.and_eq_true, h, eqvAll_map h xs ys]; simp
theorem layAll_map (h : ∀ a, (f a).canLay0 = true) : ∀ xs : List α, PyData.canLayAll0 (xs.map f) = true
  | [] => by simp [PyData.canLayAll0]
  | x :: xs => by rw [List.map_cons, PyData.canLayAll0, h, layAll_map h xs]; rfl
theorem depAll_map (h : ∀ a, (f a).depth ≤ n) : ∀ xs : List α, PyData.depthAll (xs.map f) ≤ n
  | [] => by simp [PyData.depthAll]
  | x :: xs => by
    rw [List.map_cons, PyData.depthAll]
    exact Nat.max_le.mpr ⟨h x, depAll_map h xs⟩
theorem dord_L (h : DOrd f lt n) : DOrd (fun l : List α => .list (l.map f)) (ltL lt) (n + 1) where
  so := sord_L h.so
  al a b := by show PySem.W.alike (.list _) (.list _) = true; rw [PySem.W.alike]; exact alikeAll_map h a b
  ltd a b := by show PySem.W.dataLt (.list _) (.list _) = _; rw [PySem.W.dataLt_list]; exact rowLt_map h a b
  eqv a b := by show PyData.eqv (.list _) (.list _) = true ↔ _; rw [PyData.eqv]; exact eqvAll_map h.eqv a b
  lay a := by show PyData.canLay0 (.list _) = true; rw [PyData.canLay0]; exact layAll_map h.lay a
  dep a := by show PyData.depth (.list _) ≤ _; rw [PyData.depth]; have := depAll_map h.dep a; omega
  nn a := rfl
theorem dord_T (h : DOrd f lt n) : DOrd (fun l : List α => .tuple (l.map f)) (ltL lt) (n + 1) where
  so := sord_L h.so
  al a b := by show PySem.W.alike (.tuple _) (.tuple _) = true; rw [PySem.W.alike]; exact alikeAll_map h a b
  ltd a b := by show PySem.W.dataLt (.tuple _) (.tuple _) = _; rw [PySem.W.dataLt_tuple]; exact rowLt_map h a b
  eqv a b := by show PyData.eqv (.tuple _) (.tuple _) = true ↔ _; rw [PyData.eqv]; exact eqvAll_map h.eqv a b
  lay a := by show PyData.canLay0 (.tuple _) = true; rw [PyData.canLay0]; exact layAll_map h.lay a
  dep a := by show PyData.depth (.tuple _) ≤ _; rw [PyData.depth]; have := depAll_map h.dep a; omega
  nn a := rfl
/-- the order of another type behind an embedding -/
theorem dord_C {g : β → α} (h : DOrd f lt n) (hg : ∀ a b, g a = g b → a = b) : DOrd (fun b => f (g b)) (fun a b => lt (g a) (g b)) n where
  so := ⟨fun a => h.so.irr _, fun q r => h.so.tr q r, fun a b => (h.so.tot (g a) (g b)).imp id (Or.imp (hg a b) id)⟩
  al a b := h.al _ _
  ltd a b := h.ltd _ _
  eqv a b := (h.eqv _ _).trans ⟨hg a b, fun e => by rw [e]⟩
  lay a := h.lay _
  dep a := h.dep _
  nn a := h.nn _
/-! what follows -/
theorem DOrd.okEq (h : DOrd f lt n) (hn : n ≤ 60) (a : α) : okEq (f a) = true := by
  have := h.dep a
  unfold Q1.okEq
  rw [h.lay]
  simp
  omega
theorem DOrd.ordO (h : DOrd f lt n) (hn : n ≤ 60) (a b : α) (r : Bool) : ordO (f a) (f b) r = some r := by
  unfold Q1.ordO
  rw [if_pos ⟨h.al a b, h.nn a, h.okEq hn a, h.okEq hn b⟩]
def leB (lt : α → α → Bool) (a b : α) : Bool := !lt b a
theorem DOrd.srtS (h : DOrd f lt n) (hn : n ≤ 60) {l : List α} (hl : l.length ≤ 16777216) (hs : Sort2 (l.map f)) : srtO (l.map f) = some (.ol ((l.mergeSort (leB lt)).map f)) := by
  unfold srtO
  have hd := depAll_map h.dep l
  rw [if_pos ⟨⟨PySem.W.AllAlike.of h.al, hs⟩, layAll_map h.lay l, by omega, by rw [List.length_map]; simp; exact hl⟩]
  congr 2
  have : ∀ a b : α, PySem.W.dataLe false id (f a) (f b) = leB lt a b := fun a b => by
    rw [PySem.W.dataLe_eq]
    show (!PySem.W.dataLt (f b) (f a)) = _
    rw [h.ltd]; rfl
  exact (List.map_mergeSort (fun a _ b _ => (this a b).symm)).symm
theorem DOrd.srt (h : DOrd f lt n) (hn : n ≤ 60) {l : List α} (hl : l.length ≤ 16777216) (hs : (∀ a, ∃ x r, f a = .tuple (x :: r)) ∨ ∀ a xs, f a ≠ .tuple xs) : srtO (l.map f) = some (.ol ((l.mergeSort (leB lt)).map f)) :=
  h.srtS hn hl (.inl (hs.elim (fun q => PySem.W.Sortable.tuples q) (fun q => PySem.W.Sortable.others fun b => ⟨h.nne b, q b⟩)))
/-- tuples, the first of them empty -/
theorem DOrd.srt0 (h : DOrd f lt n) (hn : n ≤ 60) {x : α} {l : List α} (hl : (x :: l).length ≤ 16777216) (hx : f x = .tuple []) (hs : ∀ a, ∃ xs, f a = .tuple xs) : srtO ((x :: l).map f) = some (.ol (((x :: l).mergeSort (leB lt)).map f)) :=
  h.srtS hn hl (.inr ⟨⟨l.map f, by rw [List.map_cons, hx]⟩, fun d hd => by
    obtain ⟨a, _, rfl⟩ := List.mem_map.mp hd
    exact hs a⟩)
theorem leB_tr (h : SOrd lt) (a b c : α) (q : leB lt a b = true) (r : leB lt b c = true) : leB lt a c = true := by
  simp [leB] at *
  rcases h.tot a b with g | g | g
  · cases e : lt c a with
    | false => rfl
    | true => rw [h.tr e g] at r; cases r
  · rw [g]; exact r
  · rw [g] at q; cases q
theorem leB_tot (h : SOrd lt) (a b : α) : (leB lt a b || leB lt b a) = true := by
  simp [leB]
  rcases h.tot a b with g | g | g
  · exact .inl (h.asym g)
  · rw [g]; exact .inl (h.irr _)
  · exact .inr (h.asym g)
theorem srt_sorted (h : SOrd lt) (l : List α) : (l.mergeSort (leB lt)).Pairwise (fun a b => leB lt a b = true) := List.pairwise_mergeSort (leB_tr h) (leB_tot h) l
theorem leB_anti (h : SOrd lt) {a b : α} (q : leB lt a b = true) (r : leB lt b a = true) : a = b := by
  simp [leB] at *
  rcases h.tot a b with g | g | g
  · rw [g] at r; cases r
  · exact g
  · rw [g] at q; cases q
/-- what is sorted stays -/
theorem srt_id (h : SOrd lt) {l : List α} (hl : l.Pairwise (fun a b => leB lt a b = true)) : l.mergeSort (leB lt) = l :=
  (List.mergeSort_perm l _).eq_of_pairwise (fun a b _ _ q r => leB_anti h q r) (srt_sorted h l) hl
/-- one order for one bag -/
theorem srt_perm (h : SOrd lt) {l m : List α} (p : l.Perm m) : l.mergeSort (leB lt) = m.mergeSort (leB lt) :=
  ((List.mergeSort_perm l _).trans (p.trans (List.mergeSort_perm m _).symm)).eq_of_pairwise (fun a b _ _ q r => leB_anti h q r) (srt_sorted h l) (srt_sorted h m)
theorem srt_eq (h : SOrd lt) {l m : List α} (p : l.Perm m) (hm : m.Pairwise (fun a b => leB lt a b = true)) : l.mergeSort (leB lt) = m := by rw [srt_perm h p, srt_id h hm]
/-- the least -/
def minA (lt : α → α → Bool) (x : α) (xs : List α) : α := xs.foldl (fun a y => if lt y a then y else a) x
def maxA (lt : α → α → Bool) (x : α) (xs : List α) : α := xs.foldl (fun a y => if lt a y then y else a) x
theorem DOrd.mn (h : DOrd f lt n) (hn : n ≤ 60) (x : α) (xs : List α) : mnO ((x :: xs).map f) = some (.p (f (minA lt x xs))) := by
  have hd := depAll_map h.dep (x :: xs)
  have hl := layAll_map h.lay (x :: xs)
  rw [List.map_cons] at hd hl ⊢
  have HA : PySem.W.AlikeAll (f x :: xs.map f) := ⟨fun a ha b hb => by
    rw [← List.map_cons] at ha hb
    obtain ⟨a, _, rfl⟩ := List.mem_map.mp ha
    obtain ⟨b, _, rfl⟩ := List.mem_map.mp hb
    exact h.al a b, fun a ha => by
    rw [← List.map_cons] at ha
    obtain ⟨a, _, rfl⟩ := List.mem_map.mp ha
    exact h.nne a⟩
  rw [mnO.eq_2, if_pos ⟨HA, hl, by omega⟩]
  · congr 2
    unfold minA PySem.W.minD
    have : ∀ (xs : List α) (x : α), (xs.map f).foldl (fun a y => if PySem.W.dataLt y a then y else a) (f x) = f (xs.foldl (fun a y => if lt y a then y else a) x) := fun xs => by
      induction xs with
      | nil => intro x; rfl
      | cons y xs ih =>
        intro x
        rw [List.map_cons, List.foldl_cons, List.foldl_cons, h.ltd]
        cases lt y x <;> exact ih _
    exact this xs x
theorem DOrd.mx (h : DOrd f lt n) (hn : n ≤ 60) (x : α) (xs : List α) : mxO ((x :: xs).map f) = some (.p (f (maxA lt x xs))) := by
  have hd := depAll_map h.dep (x :: xs)
  have hl := layAll_map h.lay (x :: xs)
  rw [List.map_cons] at hd hl ⊢
  have HA : PySem.W.AlikeAll (f x :: xs.map f) := ⟨fun a ha b hb => by
    rw [← List.map_cons] at ha hb
    obtain ⟨a, _, rfl⟩ := List.mem_map.mp ha
    obtain ⟨b, _, rfl⟩ := List.mem_map.mp hb
    exact h.al a b, fun a ha => by
    rw [← List.map_cons] at ha
    obtain ⟨a, _, rfl⟩ := List.mem_map.mp ha
    exact h.nne a⟩
  rw [mxO.eq_2, if_pos ⟨HA, hl, by omega⟩]
  · congr 2
    unfold maxA PySem.W.maxD
    have : ∀ (xs : List α) (x : α), (xs.map f).foldl (fun a y => if PySem.W.dataLt a y then y else a) (f x) = f (xs.foldl (fun a y => if lt a y then y else a) x) := fun xs => by
      induction xs with
      | nil => intro x; rfl
      | cons y xs ih =>
        intro x
        rw [List.map_cons, List.foldl_cons, List.foldl_cons, h.ltd]
        cases lt x y <;> exact ih _
    exact this xs x
theorem minA_is (h : SOrd lt) : ∀ (xs : List α) (x : α), minA lt x xs ∈ x :: xs ∧ ∀ y ∈ x :: xs, lt y (minA lt x xs) = false
  | [], x => ⟨List.mem_cons_self, fun y hy => by rw [List.mem_singleton.mp hy]; exact h.irr x⟩
  | y :: xs, x => by
    show minA lt (if lt y x then y else x) xs ∈ _ ∧ ∀ z ∈ _, lt z (minA lt (if lt y x then y else x) xs) = false
    have ih := minA_is h xs (if lt y x then y else x)
    refine ⟨?_, fun z hz => ?_⟩
    · rcases List.mem_cons.mp ih.1 with q | q
      · rw [q]
        cases lt y x
        · exact List.mem_cons_self
        · exact List.mem_cons_of_mem _ List.mem_cons_self
      · exact List.mem_cons_of_mem _ (List.mem_cons_of_mem _ q)
    · have k := ih.2 _ List.mem_cons_self
      have ax : lt x (minA lt (if lt y x then y else x) xs) = false ∧ lt y (minA lt (if lt y x then y else x) xs) = false := by
        generalize minA lt (if lt y x then y else x) xs = m at k
        cases e : lt y x with
        | false =>
          rw [e] at k
          refine ⟨k, ?_⟩
          cases e2 : lt y m with
          | false => rfl
          | true =>
            rcases h.tot x y with g | g | g
            · rw [← k]; exact (h.tr g e2).symm
            · rw [g] at k; exact (e2.symm.trans k)
            · rw [g] at e; cases e
        | true =>
          rw [e] at k
          refine ⟨?_, k⟩
          cases e2 : lt x m with
          | false => rfl
          | true => rw [← k]; exact (h.tr e e2).symm
      rcases List.mem_cons.mp hz with q | q
      · rw [q]; exact ax.1
      · rcases List.mem_cons.mp q with q | q
        · rw [q]; exact ax.2
        · exact ih.2 z (List.mem_cons_of_mem _ q)
theorem minA_uniq (h : SOrd lt) {xs : List α} {x m : α} (hm : m ∈ x :: xs) (hl : ∀ y ∈ x :: xs, lt y m = false) : minA lt x xs = m := by
  have k := minA_is h xs x
  rcases h.tot (minA lt x xs) m with g | g | g
  · rw [hl _ k.1] at g; cases g
  · exact g
  · rw [k.2 _ hm] at g; cases g
end
@[simp] theorem atI_c0 {α : Type} {x : α} {xs : List α} : L2.atI (x :: xs) 0 = some x := by rw [atI_nat (by decide)]; rfl
@[simp] theorem atI_c1 {α : Type} {x y : α} {xs : List α} : L2.atI (x :: y :: xs) 1 = some y := by rw [atI_nat (by decide)]; rfl
@[simp] theorem atI_c2 {α : Type} {x y z : α} {xs : List α} : L2.atI (x :: y :: z :: xs) 2 = some z := by rw [atI_nat (by decide)]; rfl
theorem whileL_steps {t : En → Res Bool} {body : En → Res Fl} (E : Nat → En) : ∀ (m i n : Nat), (∀ j, i ≤ j → j < i + m → t (E j) = .ok true (E j) ∧ body (E j) = .ok .nx (E (j + 1))) → t (E (i + m)) = .ok false (E (i + m)) → m < n → whileL t body n (E i) = .ok .nx (E (i + m))
  | 0, i, n + 1, _, h, _ => by
    unfold whileL
    rw [Nat.add_zero] at h ⊢
    rw [h]; rfl
  | m + 1, i, n + 1, hs, h, hn => by
    unfold whileL
    obtain ⟨h1, h2⟩ := hs i (Nat.le_refl _) (by omega)
    rw [h1]
    simp only [Res.bind, if_true, h2]
    rw [show i + (m + 1) = (i + 1) + m by omega] at h ⊢
    exact whileL_steps E m (i + 1) n (fun j q1 q2 => hs j (by omega) (by omega)) h (by omega)
  | _, _, 0, _, _, h => absurd h (Nat.not_lt_zero _)
theorem minA_map {α β : Type} {l1 : α → α → Bool} {l2 : β → β → Bool} (g : α → β) (h : ∀ a b, l2 (g a) (g b) = l1 a b) : ∀ (xs : List α) (x : α), minA l2 (g x) (xs.map g) = g (minA l1 x xs)
  | [], x => rfl
  | y :: xs, x => by
    have ih := minA_map g h xs (if l1 y x then y else x)
    unfold minA at ih ⊢
    rw [List.map_cons, List.foldl_cons, List.foldl_cons, h, ← ih]
    cases l1 y x <;> rfl
theorem maxA_map {α β : Type} {l1 : α → α → Bool} {l2 : β → β → Bool} (g : α → β) (h : ∀ a b, l2 (g a) (g b) = l1 a b) : ∀ (xs : List α) (x : α), maxA l2 (g x) (xs.map g) = g (maxA l1 x xs)
  | [], x => rfl
  | y :: xs, x => by
    have ih := maxA_map g h xs (if l1 x y then y else x)
    unfold maxA at ih ⊢
    rw [List.map_cons, List.foldl_cons, List.foldl_cons, h, ← ih]
    cases l1 x y <;> rfl
theorem forL_foldI {α σ : Type} {body : D → En → Res Fl} (φ : α → D) (E : σ → En) (inv : Nat → σ → Prop) (step : σ → α → σ) : ∀ (ys : List α) (n : Nat) (s : σ), inv n s → (∀ i y, ys[i]? = some y → ∀ s, inv (n + i) s → body (φ y) (E s) = .ok .nx (E (step s y)) ∧ inv (n + i + 1) (step s y)) → forL body (ys.map φ) (E s) = .ok .nx (E (ys.foldl step s)) ∧ inv (n + ys.length) (ys.foldl step s)
  | [], n, s, h, _ => ⟨rfl, h⟩
  | y :: ys, n, s, h, hs => by
    obtain ⟨h1, h2⟩ := hs 0 y rfl s h
    obtain ⟨h3, h4⟩ := forL_foldI φ E inv step ys (n + 1) (step s y) h2 fun i z hz s' hi => by
      have := hs (i + 1) z (by simpa using hz) s' (by rw [show n + (i + 1) = n + 1 + i by omega]; exact hi)
      rw [show n + 1 + i + 1 = n + (i + 1) + 1 by omega]
      exact this
    refine ⟨?_, by rw [List.length_cons, show n + (ys.length + 1) = n + 1 + ys.length by omega]; exact h4⟩
    rw [List.map_cons]
    unfold forL
    rw [h1]
    exact h3
end Q1

set_option maxHeartbeats 1000000
/-! M12: each once. -/
namespace Q1
open PySem
def ddS (s : List Int) (k : Int) : List Int := if s.any (· == k) then s else s ++ [k]
theorem any_mem {s : List Int} {k : Int} : (s.any (· == k)) = decide (k ∈ s) := by
  by_cases h : k ∈ s
  · simp [h]
  · simp [h]
    intro x hx e
    exact h (e ▸ hx)
theorem ddS_eq (s : List Int) (k : Int) : ddS s k = if k ∈ s then s else s ++ [k] := by
  unfold ddS
  rw [any_mem]
  by_cases h : k ∈ s <;> simp [h]
theorem dd_go : ∀ (ns s : List Int), s.Nodup → ((s ++ ns).Nodup → ns.foldl ddS s = s ++ ns) ∧ (¬ (s ++ ns).Nodup → (ns.foldl ddS s).length < s.length + ns.length) ∧ (ns.foldl ddS s).length ≤ s.length + ns.length
  | [], s, h => by simp [h]
  | k :: ns, s, h => by
    rw [List.foldl_cons, ddS_eq]
    by_cases hk : k ∈ s
    · rw [if_pos hk]
      have ih := dd_go ns s h
      refine ⟨fun q => ?_, fun _ => ?_, ?_⟩
      · exact absurd rfl ((List.nodup_append.mp q).2.2 k hk k List.mem_cons_self)
      · have := ih.2.2
        simp
        omega
      · have := ih.2.2
        simp
        omega
    · rw [if_neg hk]
      have h2 : (s ++ [k]).Nodup := by
        rw [List.nodup_append]
        exact ⟨h, by simp, fun a ha b hb e => hk (by rw [List.mem_singleton.mp hb] at e; exact e ▸ ha)⟩
      have ih := dd_go ns (s ++ [k]) h2
      have e : s ++ [k] ++ ns = s ++ k :: ns := by simp
      rw [e] at ih
      refine ⟨ih.1, fun q => ?_, ?_⟩
      · have := ih.2.1 q
        simp at this ⊢
        omega
      · have := ih.2.2
        simp at this ⊢
        omega
theorem ddi_is (ns : List Int) : ddi ns = ns.foldl ddS [] := rfl
theorem ddi_eq {ns : List Int} (h : ns.Nodup) : ddi ns = ns := by
  have := (dd_go ns [] List.nodup_nil).1 (by simpa using h)
  rw [ddi_is]
  simpa using this
theorem ddi_lt {ns : List Int} (h : ¬ ns.Nodup) : (ddi ns).length < ns.length := by
  have := (dd_go ns [] List.nodup_nil).2.1 (by simpa using h)
  rw [ddi_is]
  simpa using this
theorem ddi_iff {ns : List Int} : (ddi ns).length = ns.length ↔ ns.Nodup := by
  by_cases h : ns.Nodup
  · rw [ddi_eq h]; exact ⟨fun _ => h, fun _ => rfl⟩
  · exact ⟨fun q => by have := ddi_lt h; omega, fun q => absurd q h⟩
theorem ddi_le {ns : List Int} : (ddi ns).length ≤ ns.length := by
  have := (dd_go ns [] List.nodup_nil).2.2
  rw [ddi_is]
  simpa using this
@[simp] theorem lsetO_list {ns : List Int} : lsetO (.list (ns.map .int)) = @ite _ (ns.length ≤ 4000) (Classical.propDecidable _) (some (.p (.int ((ddi ns).length : Nat)))) none := by
  rw [lsetO, intsOf_map]; rfl
/-- a loop that leaves with the first answer -/
theorem forL_first {α : Type} {body : D → En → Res Fl} (φ : α → D) {e : En} (g : α → Option (Fl × En)) : ∀ {ys : List α}, (∀ y ∈ ys, body (φ y) e = match g y with | none => .ok .nx e | some r => .ok r.1 r.2) → (∀ y ∈ ys, ∀ r, g y = some r → ∃ m, r.1 = .rt m) → forL body (ys.map φ) e = match ys.findSome? g with
    | none => .ok .nx e
    | some r => .ok r.1 r.2
  | [], _, _ => rfl
  | y :: ys, h, k => by
    rw [List.map_cons]
    unfold forL
    rw [h y List.mem_cons_self, List.findSome?_cons]
    cases e1 : g y with
    | none => exact forL_first φ g (fun z hz => h z (List.mem_cons_of_mem _ hz)) (fun z hz => k z (List.mem_cons_of_mem _ hz))
    | some r =>
      obtain ⟨m, hm⟩ := k y List.mem_cons_self r e1
      obtain ⟨a, b⟩ := r
      cases hm
      rfl
theorem minD_ne {ns : List Int} (h : ns ≠ []) : Q1.minD ns = some ((Q1.minD ns).getD 0) := by
  cases ns with
  | nil => exact absurd rfl h
  | cons a r => rfl
theorem maxD_ne {ns : List Int} (h : ns ≠ []) : Q1.maxD ns = some ((Q1.maxD ns).getD 0) := by
  cases ns with
  | nil => exact absurd rfl h
  | cons a r => rfl
def mnI (ns : List Int) : Int := (Q1.minD ns).getD 0
def mxI (ns : List Int) : Int := (Q1.maxD ns).getD 0
theorem mnI_spec {ns : List Int} (h : ns ≠ []) : mnI ns ∈ ns ∧ ∀ y ∈ ns, mnI ns ≤ y := by
  unfold mnI
  cases ns with
  | nil => exact absurd rfl h
  | cons a r => exact fold_min r a
theorem mxI_spec {ns : List Int} (h : ns ≠ []) : mxI ns ∈ ns ∧ ∀ y ∈ ns, y ≤ mxI ns := by
  unfold mxI
  cases ns with
  | nil => exact absurd rfl h
  | cons a r => exact fold_max r a
theorem minl_ints {ns : List Int} (h : ns ≠ []) : biO .minl [.list (ns.map .int)] = some (.p (.int (mnI ns))) := by
  rw [biO, intsOf_map]
  simp only [intsE]
  rw [minD_ne h]; rfl
theorem maxl_ints {ns : List Int} (h : ns ≠ []) : biO .maxl [.list (ns.map .int)] = some (.p (.int (mxI ns))) := by
  rw [biO, intsOf_map]
  simp only [intsE]
  rw [maxD_ne h]; rfl
@[simp] theorem eqO_nil (a : List Int) : eqO (.list (a.map .int)) (.list []) = some (decide (a = [])) := eqO_dL a []
theorem idx_int {ns : List Int} {i : Nat} (h : i < ns.length) : L2.atI (ns.map PyData.int) (i : Int) = some (.int (ns[i]?.getD 0)) := by
  rw [atI_map, List.getElem?_eq_getElem h]; rfl
@[simp] theorem eqO_nn : eqO (.list []) (.list []) = some true := eqO_dL [] []
@[simp] theorem intsOf_ints (ns : List Int) : intsOf (ns.map PyData.int) = some ns := intsOf_map ns
/-- what has each number below n -/
theorem mem_of_nd {l : List Int} {n : Nat} (nd : l.Nodup) (hl : l.length = n) (bd : ∀ x ∈ l, 0 ≤ x ∧ x < n) {k : Int} (h0 : 0 ≤ k) (h1 : k < n) : k ∈ l := Classical.byContradiction fun q => by
  have h3 := pigeon n (xs := (k :: l).map (· + 1)) (by
    rw [List.nodup_iff_pairwise_ne, List.pairwise_map]
    have := List.nodup_cons.mpr ⟨q, nd⟩
    rw [List.nodup_iff_pairwise_ne] at this
    exact this.imp fun {a b} z e => z (by omega)) (fun x hx => by
    obtain ⟨y, hy, rfl⟩ := List.mem_map.mp hx
    rcases List.mem_cons.mp hy with e | e
    · subst e; omega
    · have := bd y e; omega)
  simp at h3
  omega
theorem perm_rng {l : List Int} {n : Nat} (nd : l.Nodup) (hl : l.length = n) (bd : ∀ x ∈ l, 0 ≤ x ∧ x < n) : l.Perm ((List.range n).map fun i : Nat => (i : Int)) := by
  refine (List.perm_ext_iff_of_nodup nd ?_).mpr fun a => ?_
  · rw [List.nodup_iff_pairwise_ne, List.pairwise_map]
    have := List.nodup_range (n := n)
    rw [List.nodup_iff_pairwise_ne] at this
    exact this.imp fun {a b} z e => z (by omega)
  · constructor
    · intro h
      have := bd a h
      exact List.mem_map.mpr ⟨a.toNat, List.mem_range.mpr (by omega), by omega⟩
    · intro h
      obtain ⟨i, hi, rfl⟩ := List.mem_map.mp h
      have := List.mem_range.mp hi
      exact mem_of_nd nd hl bd (by omega) (by omega)
theorem fold_set {α : Type} (ix : Nat → Nat) (v : Nat → α) : ∀ (is : List Nat) (f : List α), is.Pairwise (fun i j => ix i ≠ ix j) → (∀ i ∈ is, ix i < f.length) → (∀ j ∈ is, (is.foldl (fun f i => f.set (ix i) (v i)) f)[ix j]? = some (v j)) ∧ (∀ t, (∀ i ∈ is, ix i ≠ t) → (is.foldl (fun f i => f.set (ix i) (v i)) f)[t]? = f[t]?) ∧ (is.foldl (fun f i => f.set (ix i) (v i)) f).length = f.length
  | [], f, _, _ => ⟨by simp, fun _ _ => rfl, rfl⟩
  | i :: is, f, hp, hl => by
    rw [List.pairwise_cons] at hp
    obtain ⟨h1, h2, h3⟩ := fold_set ix v is (f.set (ix i) (v i)) hp.2 (fun j hj => by rw [List.length_set]; exact hl j (List.mem_cons_of_mem _ hj))
    rw [List.foldl_cons]
    refine ⟨fun j hj => ?_, fun t ht => ?_, by rw [h3, List.length_set]⟩
    · rcases List.mem_cons.mp hj with e | e
      · subst e
        rw [h2 _ fun i hi => (hp.1 i hi).symm, List.getElem?_set_self (hl j List.mem_cons_self)]
      · exact h1 j e
    · rw [h2 t fun j hj => ht j (List.mem_cons_of_mem _ hj), List.getElem?_set_ne (ht i List.mem_cons_self)]
theorem emod_neg_emod (x n : Int) : (0 - x % n) % n = (-x) % n := by
  have h := Int.emod_add_mul_ediv x n
  have : -x = (0 - x % n) + n * (-(x / n)) := by
    rw [Int.mul_neg]; omega
  rw [this, Int.add_mul_emod_self_left]
theorem emod_add_cancel {x y c n : Int} (h : (x + c) % n = (y + c) % n) : x % n = y % n := by
  have := congrArg (fun z => (z - c) % n) h
  simp only [Int.emod_sub_emod] at this
  simpa using this
theorem sum_emod (n : Int) : ∀ l : List Int, (l.map (· % n)).sum % n = l.sum % n
  | [] => by simp
  | x :: l => by
    have ih := sum_emod n l
    rw [List.map_cons, List.sum_cons, List.sum_cons, Int.emod_add_emod, ← Int.add_emod_emod, ih, Int.add_emod_emod]
theorem sum_add {α : Type} (f h : α → Int) : ∀ l : List α, (l.map fun i => f i + h i).sum = (l.map f).sum + (l.map h).sum
  | [] => by simp
  | x :: l => by
    rw [List.map_cons, List.map_cons, List.map_cons, List.sum_cons, List.sum_cons, List.sum_cons, sum_add f h l]
    omega
theorem map_range_get (ts : List Int) : (List.range ts.length).map (fun i => ts[i]?.getD 0) = ts := by
  apply List.ext_getElem?
  intro i
  by_cases h : i < ts.length
  · simp [h]
  · simp [h, List.getElem?_eq_none (Nat.le_of_not_lt h)]
/-- a comprehension whose first turn freezes something -/
theorem ev_compF {α : Type} {C : PC} {own : List Nat} {g : Tg} {it : Itx} {c : Tx} {e : Ex} {env ea eb : En} (ys : List α) (φ : α → D) (ψ : α → D) (hne : ys ≠ []) (hi : evI C it env = .ok (ys.map φ) ea) (hp : plainAt ea own = true) (hab : ∀ i ∈ own, look ea i = look eb i)
    (hb : ∀ y ∈ ys, ∀ e0, e0 = ea ∨ e0 = eb → ∃ e', (match setTg (kills e0 own) g (φ y) with
      | some e2 => (evT C c e2).bind fun b e3 => if b then (evX C e e3).bind fun m e4 => .ok (some m.toD) e4 else .ok none e3
      | none => .bad) = Res.ok (some (ψ y)) e' ∧ kills e' own = kills eb own) : evX C (.comp own g it c e) env = .ok (.ol (ys.map ψ)) eb := by
  cases ys with
  | nil => exact absurd rfl hne
  | cons y ys =>
    obtain ⟨e1, h1, h2⟩ := hb y List.mem_cons_self ea (.inl rfl)
    obtain ⟨e5, h3, h4⟩ := compL_typed (f := compT own g (evT C c) (evX C e)) (own := own) (e0 := eb) φ (fun y => some (ψ y)) (ys := ys) (e := e1) h2 fun x hx e0 he => by
      obtain ⟨e', h1, h2⟩ := hb x (List.mem_cons_of_mem _ hx) eb (.inr rfl)
      exact ⟨e', by unfold compT; rw [he]; exact h1, h2⟩
    have hf : compT own g (evT C c) (evX C e) (φ y) ea = .ok (some (ψ y)) e1 := by unfold compT; exact h1
    have hall : compL (compT own g (evT C c) (evX C e)) ((y :: ys).map φ) ea = .ok ((y :: ys).map ψ) e5 := by
      rw [List.map_cons, compL, hf]
      simp only [Res.bind, h3, consO]
      rw [filterMap_some]; rfl
    rw [evX_comp, hi]
    simp only [Res.bind, hp, if_true, hall, noExc]
    rw [restore_congr hab, restore_eq h4]
theorem perm_sum {l m : List Int} (h : l.Perm m) : l.sum = m.sum := by
  induction h with
  | nil => rfl
  | cons x _ ih => rw [List.sum_cons, List.sum_cons, ih]
  | swap x y l => simp only [List.sum_cons]; omega
  | trans _ _ a b => rw [a, b]
theorem erase_perm {α : Type} {l : List α} {j : Nat} (h : j < l.length) : (l[j] :: l.eraseIdx j).Perm l := by
  have e : l = l.take j ++ l[j] :: l.drop (j + 1) := by rw [List.getElem_cons_drop, List.take_append_drop]
  rw [List.eraseIdx_eq_take_drop_succ]
  exact List.perm_middle.symm.trans (by rw [← e])
end Q1

set_option maxHeartbeats 1000000
/-! M13: decks: permutations of 0..n-1, their rings. -/
namespace Q1
open PySem
theorem pigeon0 {n : Nat} {xs : List Int} (nd : xs.Nodup) (bd : ∀ x ∈ xs, 0 ≤ x ∧ x < n) : xs.length ≤ n := by
  have h3 := pigeon n (xs := xs.map (· + 1)) (by
    rw [List.nodup_iff_pairwise_ne, List.pairwise_map]
    rw [List.nodup_iff_pairwise_ne] at nd
    exact nd.imp fun {a b} z e => z (by omega)) (fun x hx => by
    obtain ⟨y, hy, rfl⟩ := List.mem_map.mp hx
    have := bd y hy; omega)
  simpa using h3
structure Prm0 (n : Nat) (f : Int → Int) : Prop where
  bd : ∀ x : Int, 0 ≤ x → x < n → 0 ≤ f x ∧ f x < n
  inj : ∀ x y : Int, 0 ≤ x → x < n → 0 ≤ y → y < n → f x = f y → x = y
theorem Prm0.itr_bd {n : Nat} {f : Int → Int} (h : Prm0 n f) : ∀ (k : Nat) {x : Int}, 0 ≤ x → x < n → 0 ≤ itr f k x ∧ itr f k x < n
  | 0, x, a, b => ⟨a, b⟩
  | k + 1, x, a, b => by
    obtain ⟨c, d⟩ := h.itr_bd k a b
    exact h.bd _ c d
theorem Prm0.itr {n : Nat} {f : Int → Int} (h : Prm0 n f) : ∀ k : Nat, Prm0 n (itr f k)
  | 0 => ⟨fun x a b => ⟨a, b⟩, fun x y _ _ _ _ e => e⟩
  | k + 1 => by
    have ih := h.itr k
    refine ⟨fun x a b => h.itr_bd (k + 1) a b, fun x y a b c d e => ?_⟩
    have h1 := ih.bd x a b
    have h2 := ih.bd y c d
    exact ih.inj x y a b c d (h.inj _ _ h1.1 h1.2 h2.1 h2.2 e)
theorem Cyc.dvd_mem0 {n : Nat} {f : Int → Int} (hp : Prm0 n f) {p : Int} (p1 : 0 ≤ p) (p2 : p < n) {j : Nat} (h : Cyc f p j) {q : Int} (hq : q ∈ orb f p j) (m : Nat) : itr f m q = q ↔ j ∣ m := by
  obtain ⟨i, _, rfl⟩ := mem_orb.mp hq
  rw [← itr_add, Nat.add_comm, itr_add, ← h.dvd m]
  have hi := hp.itr i
  have b := hp.itr_bd m p1 p2
  exact ⟨fun e => hi.inj _ _ b.1 b.2 p1 p2 e, fun e => by rw [e]⟩
structure IsD (d : List Int) : Prop where
  bd : ∀ x ∈ d, 0 ≤ x ∧ x < d.length
  nd : d.Nodup
/-- the card at a place -/
def dk (d : List Int) (p : Int) : Int := d[p.toNat]?.getD 0
theorem dk_get {d : List Int} {p : Int} (h1 : 0 ≤ p) (h2 : p < d.length) : d[p.toNat]? = some (dk d p) := by
  have : p.toNat < d.length := by omega
  unfold dk
  rw [List.getElem?_eq_getElem this]; rfl
theorem dk_nat {d : List Int} {i : Nat} (h : i < d.length) : d[i]? = some (dk d i) := by
  have := dk_get (d := d) (p := i) (by omega) (by omega)
  simpa using this
theorem atI_dk {d : List Int} {p : Int} (h1 : 0 ≤ p) (h2 : p < d.length) : L2.atI (d.map PyData.int) p = some (.int (dk d p)) := by
  rw [atI_nat h1, List.getElem?_map, dk_get h1 h2]; rfl
theorem dk_mem {d : List Int} {p : Int} (h1 : 0 ≤ p) (h2 : p < d.length) : dk d p ∈ d := List.mem_of_getElem? (dk_get h1 h2)
theorem IsD.prm {d : List Int} (h : IsD d) : Prm0 d.length (dk d) := by
  refine ⟨fun x a b => h.bd _ (dk_mem a b), fun x y a b c e q => ?_⟩
  have g1 := dk_get a b
  have g2 := dk_get c e
  rw [← q] at g2
  have := (List.getElem?_inj (by omega) h.nd).mp (g1.trans g2.symm)
  omega
theorem IsD.surj {d : List Int} (h : IsD d) {y : Int} (h1 : 0 ≤ y) (h2 : y < d.length) : ∃ x : Int, 0 ≤ x ∧ x < d.length ∧ dk d x = y := by
  obtain ⟨i, hi⟩ := List.getElem?_of_mem (mem_of_nd h.nd rfl h.bd h1 h2)
  have hl := (List.getElem?_eq_some_iff.mp hi).1
  refine ⟨i, by omega, by omega, ?_⟩
  have := dk_nat hl
  rw [hi] at this
  exact (Option.some.inj this).symm
theorem dk_map {α : Type} (f : Int → Int) {d : List Int} {p : Int} (h1 : 0 ≤ p) (h2 : p < d.length) : dk (d.map f) p = f (dk d p) := by
  have : (d.map f)[p.toNat]? = some (f (dk d p)) := by rw [List.getElem?_map, dk_get h1 h2]; rfl
  unfold dk at *
  rw [this]; rfl
def rg0 (n : Nat) : List Int := (List.range n).map fun i : Nat => (i : Int)
theorem rg0_len {n : Nat} : (rg0 n).length = n := by simp [rg0]
theorem mem_rg0 {n : Nat} {x : Int} : x ∈ rg0 n ↔ 0 ≤ x ∧ x < n := by
  unfold rg0
  rw [List.mem_map]
  exact ⟨fun ⟨i, hi, e⟩ => by have := List.mem_range.mp hi; omega, fun h => ⟨x.toNat, List.mem_range.mpr (by omega), by omega⟩⟩
theorem dk_rg0 {n : Nat} {p : Int} (h1 : 0 ≤ p) (h2 : p < n) : dk (rg0 n) p = p := by
  unfold dk rg0
  rw [List.getElem?_map, List.getElem?_range (by omega)]
  show ((p.toNat : Nat) : Int) = p
  omega
theorem isD_rg0 (n : Nat) : IsD (rg0 n) := ⟨fun x hx => by rw [rg0_len]; exact mem_rg0.mp hx, by
  unfold rg0
  rw [List.nodup_iff_pairwise_ne, List.pairwise_map]
  have := List.nodup_range (n := n)
  rw [List.nodup_iff_pairwise_ne] at this
  exact this.imp fun {a b} z e => z (by omega)⟩
theorem IsD.of_perm {d e : List Int} (h : IsD d) (p : e.Perm d) : IsD e := ⟨fun x hx => by rw [p.length_eq]; exact h.bd x (p.mem_iff.mp hx), p.nodup_iff.mpr h.nd⟩
theorem ext_dk {a b : List Int} (hl : a.length = b.length) (h : ∀ x : Int, 0 ≤ x → x < a.length → dk a x = dk b x) : a = b := by
  apply List.ext_getElem?
  intro i
  by_cases hi : i < a.length
  · rw [dk_nat hi, dk_nat (by omega), h i (by omega) (by omega)]
  · rw [List.getElem?_eq_none (by omega), List.getElem?_eq_none (by omega)]
/-! undone -/
def inv0 (s : List Int) : List Int := (List.range s.length).foldl (fun f (i : Nat) => f.set (dk s i).toNat (i : Int)) (List.replicate s.length 0)
theorem inv0_spec {s : List Int} (h : IsD s) : (inv0 s).length = s.length ∧ ∀ x : Int, 0 ≤ x → x < s.length → dk (inv0 s) (dk s x) = x := by
  have hp : (List.range s.length).Pairwise (fun i j : Nat => (dk s i).toNat ≠ (dk s j).toNat) := by
    have := List.nodup_range (n := s.length)
    rw [List.nodup_iff_pairwise_ne] at this
    refine List.Pairwise.imp_of_mem ?_ this
    intro a b ha hb hne e
    have ha := List.mem_range.mp ha
    have hb := List.mem_range.mp hb
    have b1 := h.prm.bd a (by omega) (by omega)
    have b2 := h.prm.bd b (by omega) (by omega)
    have := h.prm.inj a b (by omega) (by omega) (by omega) (by omega) (by omega)
    omega
  obtain ⟨h1, _, h3⟩ := fold_set (fun i : Nat => (dk s i).toNat) (fun i : Nat => (i : Int)) (List.range s.length) (List.replicate s.length 0) hp (fun i hi => by
    have hi := List.mem_range.mp hi
    have := h.prm.bd i (by omega) (by omega)
    rw [List.length_replicate]; omega)
  refine ⟨by unfold inv0; rw [h3, List.length_replicate], fun x x1 x2 => ?_⟩
  have := h1 x.toNat (List.mem_range.mpr (by omega))
  rw [show ((x.toNat : Nat) : Int) = x by omega] at this
  unfold inv0
  show (List.getD _ _ _ : Int) = x
  rw [List.getD_eq_getElem?_getD, this]; rfl
theorem inv0_isD {s : List Int} (h : IsD s) : IsD (inv0 s) := by
  obtain ⟨h1, h2⟩ := inv0_spec h
  have key : ∀ i : Nat, i < s.length → ∃ x : Int, 0 ≤ x ∧ x < s.length ∧ dk s x = i ∧ (inv0 s)[i]? = some x := fun i hi => by
    obtain ⟨x, x1, x2, e⟩ := h.surj (y := (i : Int)) (by omega) (by omega)
    refine ⟨x, x1, x2, e, ?_⟩
    rw [dk_nat (by omega), ← e, h2 x x1 x2]
  refine ⟨fun y hy => ?_, ?_⟩
  · obtain ⟨i, hi⟩ := List.getElem?_of_mem hy
    have hl := (List.getElem?_eq_some_iff.mp hi).1
    obtain ⟨x, x1, x2, _, e⟩ := key i (by omega)
    rw [hi] at e
    cases e
    rw [h1]; exact ⟨x1, x2⟩
  · rw [List.nodup_iff_pairwise_ne, List.pairwise_iff_getElem]
    intro i j hi hj hij e
    obtain ⟨x, _, _, ex, gx⟩ := key i (by omega)
    obtain ⟨y, _, _, ey, gy⟩ := key j (by omega)
    rw [List.getElem?_eq_getElem hi] at gx
    rw [List.getElem?_eq_getElem hj] at gy
    have : x = y := by rw [← Option.some.inj gx, ← Option.some.inj gy, e]
    subst this
    omega
theorem inv0_dk {s : List Int} (h : IsD s) {y : Int} (y1 : 0 ≤ y) (y2 : y < s.length) : dk s (dk (inv0 s) y) = y := by
  obtain ⟨x, x1, x2, e⟩ := h.surj y1 y2
  rw [← e, (inv0_spec h).2 x x1 x2]
/-! rings -/
def rgs (g : List Int) : List (List Int) := (rg0 g.length).foldl (cstep (dk g) g.length) []
structure Good0 (n : Nat) (f : Int → Int) (cs : List (List Int)) : Prop where
  nd : cs.flatten.Nodup
  bd : ∀ x ∈ cs.flatten, 0 ≤ x ∧ x < n
  cyc : ∀ c ∈ cs, ∃ p j, c = orb f p j ∧ Cyc f p j ∧ 0 ≤ p ∧ p < n
theorem Good0.closed {n : Nat} {f : Int → Int} (hp : Prm0 n f) {cs : List (List Int)} (h : Good0 n f cs) {x : Int} (x1 : 0 ≤ x) (x2 : x < n) (hx : f x ∈ cs.flatten) : x ∈ cs.flatten := by
  obtain ⟨c, hc, hm⟩ := List.mem_flatten.mp hx
  obtain ⟨p, j, rfl, hy, p1, p2⟩ := h.cyc c hc
  refine List.mem_flatten.mpr ⟨_, hc, ?_⟩
  obtain ⟨i, hi, e⟩ := mem_orb.mp hm
  have j1 := hy.one
  cases i with
  | zero =>
    have e' : f (itr f (j - 1) p) = f x := by
      rw [← e]
      have := hy.back
      rw [show j = j - 1 + 1 by omega] at this
      exact this
    have b := hp.itr_bd (j - 1) p1 p2
    exact mem_orb.mpr ⟨j - 1, by omega, hp.inj _ _ b.1 b.2 x1 x2 e'⟩
  | succ i =>
    have b := hp.itr_bd i p1 p2
    exact mem_orb.mpr ⟨i, by omega, hp.inj _ _ b.1 b.2 x1 x2 e⟩
theorem Good0.walk {n : Nat} {f : Int → Int} (hp : Prm0 n f) {cs : List (List Int)} (h : Good0 n f cs) {p : Int} (p1 : 0 ≤ p) (p2 : p < n) {j : Nat} (j1 : 1 ≤ j) (hn : (cs.flatten ++ orb f p j).Nodup) (hx : itr f j p ∈ cs.flatten ++ orb f p j) : Cyc f p j := by
  have hno := (List.nodup_append.mp hn).2.1
  have hdis := (List.nodup_append.mp hn).2.2
  have b := hp.itr_bd (j - 1) p1 p2
  have ej : itr f j p = f (itr f (j - 1) p) := by
    conv => lhs; rw [show j = j - 1 + 1 by omega]
    rfl
  rcases List.mem_append.mp hx with q | q
  · rw [ej] at q
    have := h.closed hp b.1 b.2 q
    exact absurd rfl (hdis _ this _ (mem_orb.mpr ⟨j - 1, by omega, rfl⟩))
  · obtain ⟨i, hi, e⟩ := mem_orb.mp q
    cases i with
    | zero => exact ⟨j1, e.symm, hno⟩
    | succ i =>
      rw [ej] at e
      have b2 := hp.itr_bd i p1 p2
      have := hp.inj _ _ b2.1 b2.2 b.1 b.2 e
      exact absurd this (orb_ne hno (by omega) (by omega))
/-- every place lies on a ring -/
theorem cyc_ex {n : Nat} {f : Int → Int} (hp : Prm0 n f) {p : Int} (p1 : 0 ≤ p) (p2 : p < n) : ∃ j, Cyc f p j ∧ j ≤ n := by
  have h0 : Good0 n f [] := ⟨by simp, by simp, by simp⟩
  have hb : ∀ j, ∀ x ∈ orb f p j, 0 ≤ x ∧ x < n := fun j x hx => by
    obtain ⟨i, _, rfl⟩ := mem_orb.mp hx
    exact hp.itr_bd i p1 p2
  have key : ∀ t : Nat, (∃ j, Cyc f p j ∧ j ≤ t) ∨ (orb f p (t + 1)).Nodup := fun t => by
    induction t with
    | zero => exact .inr (by simp [orb, itr])
    | succ t ih =>
      rcases ih with ⟨j, h1, h2⟩ | h
      · exact .inl ⟨j, h1, by omega⟩
      · by_cases q : itr f (t + 1) p ∈ orb f p (t + 1)
        · exact .inl ⟨t + 1, h0.walk hp p1 p2 (by omega) (by simpa using h) (by simpa using q), Nat.le_refl _⟩
        · refine .inr ?_
          rw [orb_succ, List.nodup_append]
          exact ⟨h, by simp, fun x hx y hy => by rw [List.mem_singleton.mp hy]; exact fun e => q (e ▸ hx)⟩
  rcases key n with ⟨j, h1, h2⟩ | h
  · exact ⟨j, h1, h2⟩
  · have := pigeon0 h (hb _)
    rw [orb_len] at this
    omega
theorem good0_step {n : Nat} {f : Int → Int} (hp : Prm0 n f) {cs : List (List Int)} (h : Good0 n f cs) {p : Int} (p1 : 0 ≤ p) (p2 : p < n) (hps : p ∉ cs.flatten) : ∃ j, Cyc f p j ∧ j ≤ n ∧ cstep f n cs p = cs ++ [orb f p j] ∧ Good0 n f (cs ++ [orb f p j]) ∧ (∀ i, i < j → itr f i p ∉ cs.flatten) := by
  obtain ⟨j, hc, hj⟩ := cyc_ex hp p1 p2
  have hno : ∀ i, itr f i p ∉ cs.flatten := fun i => by
    induction i with
    | zero => exact hps
    | succ i ih => exact fun q => ih (h.closed hp (hp.itr_bd i p1 p2).1 (hp.itr_bd i p1 p2).2 q)
  have e : (cs ++ [orb f p j]).flatten = cs.flatten ++ orb f p j := by simp
  refine ⟨j, hc, hj, ?_, ⟨?_, ?_, fun c hc' => ?_⟩, fun i _ => hno i⟩
  · unfold cstep
    rw [if_neg hps, hc.per hj]
  · rw [e, List.nodup_append]
    refine ⟨h.nd, hc.nd, fun x hx y hy q => ?_⟩
    obtain ⟨i, _, rfl⟩ := mem_orb.mp hy
    exact hno i (q ▸ hx)
  · rw [e]
    intro x hx
    rcases List.mem_append.mp hx with q | q
    · exact h.bd x q
    · obtain ⟨i, _, rfl⟩ := mem_orb.mp q
      exact hp.itr_bd i p1 p2
  · rcases List.mem_append.mp hc' with q | q
    · exact h.cyc c q
    · rw [List.mem_singleton.mp q]; exact ⟨p, j, rfl, hc, p1, p2⟩
theorem good0_all {n : Nat} {f : Int → Int} (hp : Prm0 n f) : ∀ (zs : List Int) (cs : List (List Int)), Good0 n f cs → (∀ z ∈ zs, 0 ≤ z ∧ z < (n : Int)) → Good0 n f (zs.foldl (cstep f n) cs) ∧ ∀ x, x ∈ cs.flatten ∨ x ∈ zs → x ∈ (zs.foldl (cstep f n) cs).flatten
  | [], cs, h, _ => ⟨h, fun x hx => hx.resolve_right (by simp)⟩
  | z :: zs, cs, h, hz => by
    rw [List.foldl_cons]
    have hz1 := hz z List.mem_cons_self
    have hz2 : ∀ x ∈ zs, 0 ≤ x ∧ x < (n : Int) := fun x hx => hz x (List.mem_cons_of_mem _ hx)
    by_cases q : z ∈ cs.flatten
    · rw [show cstep f n cs z = cs from if_pos q]
      obtain ⟨g1, g2⟩ := good0_all hp zs cs h hz2
      refine ⟨g1, fun x hx => g2 x ?_⟩
      rcases hx with a | a
      · exact .inl a
      · rcases List.mem_cons.mp a with b | b
        · rw [b]; exact .inl q
        · exact .inr b
    · obtain ⟨j, hc, hj, e, hg, _⟩ := good0_step hp h hz1.1 hz1.2 q
      rw [e]
      obtain ⟨g1, g2⟩ := good0_all hp zs _ hg hz2
      refine ⟨g1, fun x hx => g2 x ?_⟩
      have e2 : (cs ++ [orb f z j]).flatten = cs.flatten ++ orb f z j := by simp
      rw [e2]
      rcases hx with a | a
      · exact .inl (List.mem_append_left _ a)
      · rcases List.mem_cons.mp a with b | b
        · rw [b]; exact .inl (List.mem_append_right _ (mem_orb.mpr ⟨0, hc.one, rfl⟩))
        · exact .inr b
theorem rgs_good {g : List Int} (h : IsD g) : Good0 g.length (dk g) (rgs g) ∧ ∀ x : Int, 0 ≤ x → x < g.length → x ∈ (rgs g).flatten := by
  obtain ⟨h1, h2⟩ := good0_all h.prm (rg0 g.length) [] ⟨by simp, by simp, by simp⟩ (fun z hz => mem_rg0.mp hz)
  exact ⟨h1, fun x x1 x2 => h2 x (.inr (mem_rg0.mpr ⟨x1, x2⟩))⟩
theorem good0_len {n : Nat} {f : Int → Int} {cs : List (List Int)} (h : Good0 n f cs) : cs.length ≤ n := by
  have h1 := pigeon0 h.nd h.bd
  have h2 : ∀ (cs : List (List Int)), (∀ c ∈ cs, 1 ≤ c.length) → cs.length ≤ cs.flatten.length := fun cs => by
    induction cs with
    | nil => intro _; simp
    | cons c cs ih =>
      intro hc
      have a := hc c List.mem_cons_self
      have b := ih fun x hx => hc x (List.mem_cons_of_mem _ hx)
      simp only [List.length_cons, List.flatten_cons, List.length_append]
      omega
  have h3 := h2 cs fun c hc => by
    obtain ⟨p, j, rfl, hy, _⟩ := h.cyc c hc
    rw [orb_len]
    exact hy.one
  omega
def ord0 (g : List Int) : Nat := (rgs g).foldl lcmS 1
theorem ord0_dvd {g : List Int} (hg : IsD g) (m : Nat) : ord0 g ∣ m ↔ ∀ x : Int, 0 ≤ x → x < g.length → itr (dk g) m x = x := by
  obtain ⟨h, ha⟩ := rgs_good hg
  unfold ord0
  rw [lcms_dvd]
  constructor
  · rintro ⟨_, hc⟩ x x1 x2
    obtain ⟨c, hcm, hx⟩ := List.mem_flatten.mp (ha x x1 x2)
    obtain ⟨p, j, rfl, hy, p1, p2⟩ := h.cyc c hcm
    have := hc _ hcm
    rw [orb_len] at this
    exact (hy.dvd_mem0 hg.prm p1 p2 hx m).mpr this
  · intro hx
    refine ⟨Nat.one_dvd m, fun c hc => ?_⟩
    obtain ⟨p, j, rfl, hy, p1, p2⟩ := h.cyc c hc
    rw [orb_len]
    exact (hy.dvd m).mp (hx p p1 p2)
theorem ord0_pos {g : List Int} (hg : IsD g) : 0 < ord0 g := lcms_pos _ _ (by decide) fun c hc => by
  obtain ⟨p, j, rfl, hy, _⟩ := (rgs_good hg).1.cyc c hc
  rw [orb_len]
  exact hy.one
theorem rep0 (n : Nat) : (List.replicate n [PyData.int 0]).flatten = (List.replicate n 0).map PyData.int := by
  induction n with
  | zero => rfl
  | succ n ih => rw [List.replicate_succ, List.flatten_cons, ih]; rfl
theorem fold_setG {ι α : Type} (ix : ι → Nat) (v : ι → α) : ∀ (is : List ι) (f : List α), is.Pairwise (fun i j => ix i ≠ ix j) → (∀ i ∈ is, ix i < f.length) → (∀ j ∈ is, (is.foldl (fun f i => f.set (ix i) (v i)) f)[ix j]? = some (v j)) ∧ (∀ t, (∀ i ∈ is, ix i ≠ t) → (is.foldl (fun f i => f.set (ix i) (v i)) f)[t]? = f[t]?) ∧ (is.foldl (fun f i => f.set (ix i) (v i)) f).length = f.length
  | [], f, _, _ => ⟨by simp, fun _ _ => rfl, rfl⟩
  | i :: is, f, hp, hl => by
    rw [List.pairwise_cons] at hp
    obtain ⟨h1, h2, h3⟩ := fold_setG ix v is (f.set (ix i) (v i)) hp.2 (fun j hj => by rw [List.length_set]; exact hl j (List.mem_cons_of_mem _ hj))
    rw [List.foldl_cons]
    refine ⟨fun j hj => ?_, fun t ht => ?_, by rw [h3, List.length_set]⟩
    · rcases List.mem_cons.mp hj with e | e
      · subst e
        rw [h2 _ fun i hi => (hp.1 i hi).symm, List.getElem?_set_self (hl j List.mem_cons_self)]
      · exact h1 j e
    · rw [h2 t fun j hj => ht j (List.mem_cons_of_mem _ hj), List.getElem?_set_ne (ht i List.mem_cons_self)]
/-- t times s -/
def dnk (s : List Int) : Nat → List Int
  | 0 => rg0 s.length
  | t + 1 => s.map (dk (dnk s t))
theorem dnk_len {s : List Int} : ∀ {t : Nat}, (dnk s t).length = s.length
  | 0 => rg0_len
  | t + 1 => by simp [dnk]
theorem itr_front (f : Int → Int) (t : Nat) (x : Int) : itr f t (f x) = itr f (t + 1) x := (itr_add f t 1 x).symm
theorem dnk_dk {s : List Int} (h : IsD s) : ∀ (t : Nat) {y : Int}, 0 ≤ y → y < s.length → dk (dnk s t) y = itr (dk s) t y
  | 0, y, y1, y2 => dk_rg0 y1 y2
  | t + 1, y, y1, y2 => by
    have b := h.prm.bd y y1 y2
    show dk (s.map (dk (dnk s t))) y = _
    rw [dk_map (α := Int) _ y1 y2, dnk_dk h t b.1 b.2, itr_front]
theorem itr_inv {s : List Int} (h : IsD s) : ∀ (t : Nat) {x : Int}, 0 ≤ x → x < s.length → itr (dk s) t (itr (dk (inv0 s)) t x) = x ∧ itr (dk (inv0 s)) t (itr (dk s) t x) = x
  | 0, x, _, _ => ⟨rfl, rfl⟩
  | t + 1, x, x1, x2 => by
    have hi := (inv0_isD h).prm
    rw [(inv0_spec h).1] at hi
    have b1 := hi.itr_bd t x1 x2
    have b2 := h.prm.itr_bd t x1 x2
    have b3 := hi.bd _ b1.1 b1.2
    have b4 := h.prm.bd _ b2.1 b2.2
    refine ⟨?_, ?_⟩
    · rw [← itr_front (dk s)]
      show itr (dk s) t (dk s (dk (inv0 s) (itr (dk (inv0 s)) t x))) = x
      rw [inv0_dk h b1.1 b1.2]
      exact (itr_inv h t x1 x2).1
    · rw [← itr_front (dk (inv0 s))]
      show itr (dk (inv0 s)) t (dk (inv0 s) (dk s (itr (dk s) t x))) = x
      rw [(inv0_spec h).2 _ b2.1 b2.2]
      exact (itr_inv h t x1 x2).2
theorem Cyc.mod {f : Int → Int} {p : Int} {j : Nat} (h : Cyc f p j) (a : Nat) : itr f (a % j) p = itr f a p := by
  have := itr_add f (a % j) (j * (a / j)) p
  rw [itr_fix h.back, Nat.mod_add_div] at this
  exact this.symm
/-- one branch alone -/
theorem one_t {C : PC} {pr : List Nat} {t : Tx} {a b : Sms} {e : En} (h : evT C t e = .ok true e) : evSs C pr (.cons (.ite t a b) .nil) e = evSs C pr a e := by
  rw [evSs_cons, evS_ite, h]
  simp only [Res.bind, if_true, evSs_nil]
  cases evSs C pr a e with
  | ok f e2 => cases f <;> rfl
  | exc _ _ => rfl
  | bad => rfl
theorem one_f {C : PC} {pr : List Nat} {t : Tx} {a b : Sms} {e : En} (h : evT C t e = .ok false e) : evSs C pr (.cons (.ite t a b) .nil) e = evSs C pr b e := by
  rw [evSs_cons, evS_ite, h]
  simp only [Res.bind, Bool.false_eq_true, if_false, evSs_nil]
  cases evSs C pr b e with
  | ok f e2 => cases f <;> rfl
  | exc _ _ => rfl
  | bad => rfl
end Q1

set_option maxHeartbeats 1000000
/-! M14: the sign of a row: pairs that stand wrong, and cycles. -/
namespace Q1
open PySem
/-- every place lies on a ring -/
theorem cyc_ex1 {n : Nat} {f : Int → Int} (hp : Prm n f) {p : Int} (p1 : 1 ≤ p) (p2 : p ≤ n) : ∃ j, Cyc f p j ∧ j ≤ n := by
  have h0 : Good n f [] := ⟨by simp, by simp, by simp⟩
  have hb : ∀ j, ∀ x ∈ orb f p j, 1 ≤ x ∧ x ≤ n := fun j x hx => by
    obtain ⟨i, _, rfl⟩ := mem_orb.mp hx
    exact hp.itr_bd i p1 p2
  have key : ∀ t : Nat, (∃ j, Cyc f p j ∧ j ≤ t) ∨ (orb f p (t + 1)).Nodup := fun t => by
    induction t with
    | zero => exact .inr (by simp [orb, itr])
    | succ t ih =>
      rcases ih with ⟨j, h1, h2⟩ | h
      · exact .inl ⟨j, h1, by omega⟩
      · by_cases q : itr f (t + 1) p ∈ orb f p (t + 1)
        · exact .inl ⟨t + 1, h0.walk hp p1 p2 (by omega) (by simpa using h) (by simpa using q), Nat.le_refl _⟩
        · refine .inr ?_
          rw [orb_succ, List.nodup_append]
          exact ⟨h, by simp, fun x hx y hy => by rw [List.mem_singleton.mp hy]; exact fun e => q (e ▸ hx)⟩
  rcases key n with ⟨j, h1, h2⟩ | h
  · exact ⟨j, h1, h2⟩
  · have := pigeon _ h (hb _)
    rw [orb_len] at this
    omega
theorem good1_step {n : Nat} {f : Int → Int} (hp : Prm n f) {cs : List (List Int)} (h : Good n f cs) {p : Int} (p1 : 1 ≤ p) (p2 : p ≤ n) (hps : p ∉ cs.flatten) : ∃ j, Cyc f p j ∧ j ≤ n ∧ cstep f n cs p = cs ++ [orb f p j] ∧ Good n f (cs ++ [orb f p j]) ∧ (∀ i, i < j → itr f i p ∉ cs.flatten) := by
  obtain ⟨j, hc, hj⟩ := cyc_ex1 hp p1 p2
  have hno : ∀ i, itr f i p ∉ cs.flatten := fun i => by
    induction i with
    | zero => exact hps
    | succ i ih => exact fun q => ih (h.closed hp (hp.itr_bd i p1 p2).1 (hp.itr_bd i p1 p2).2 q)
  have e : (cs ++ [orb f p j]).flatten = cs.flatten ++ orb f p j := by simp
  refine ⟨j, hc, hj, ?_, ⟨?_, ?_, fun c hc' => ?_⟩, fun i _ => hno i⟩
  · unfold cstep
    rw [if_neg hps, hc.per hj]
  · rw [e, List.nodup_append]
    refine ⟨h.nd, hc.nd, fun x hx y hy q => ?_⟩
    obtain ⟨i, _, rfl⟩ := mem_orb.mp hy
    exact hno i (q ▸ hx)
  · rw [e]
    intro x hx
    rcases List.mem_append.mp hx with q | q
    · exact h.bd x q
    · obtain ⟨i, _, rfl⟩ := mem_orb.mp q
      exact hp.itr_bd i p1 p2
  · rcases List.mem_append.mp hc' with q | q
    · exact h.cyc c q
    · rw [List.mem_singleton.mp q]; exact ⟨p, j, rfl, hc, p1, p2⟩

def cnt (x : Int) (l : List Int) : Nat := (l.filter fun y => decide (y < x)).length
def inv : List Int → Nat
  | [] => 0
  | x :: l => cnt x l + inv l
theorem cnt_perm {x : Int} {l m : List Int} (h : l.Perm m) : cnt x l = cnt x m := (h.filter _).length_eq
theorem cnt_cons {x y : Int} {l : List Int} : cnt x (y :: l) = (if y < x then 1 else 0) + cnt x l := by
  unfold cnt
  by_cases h : y < x
  · rw [List.filter_cons_of_pos (by simpa using h), if_pos h, List.length_cons]; omega
  · rw [List.filter_cons_of_neg (by simpa using h), if_neg h]; omega
theorem inv_key {g : Int → Int} {l m : List Int} (p : l.Perm m) : l.Nodup → (∀ x ∈ l, ∀ y ∈ l, g x = g y → x = y) → (inv (l.map g) + inv l) % 2 = (inv (m.map g) + inv m) % 2 := by
  induction p with
  | nil => intro _ _; rfl
  | cons x p ih =>
    intro hn hi
    have := ih (List.nodup_cons.mp hn).2 fun a ha b hb => hi a (List.mem_cons_of_mem _ ha) b (List.mem_cons_of_mem _ hb)
    simp only [List.map_cons, inv]
    rw [cnt_perm (p.map g), cnt_perm p]
    omega
  | swap x y l =>
    intro hn hi
    have hxy : x ≠ y := fun e => by
      subst e
      simp at hn
    have hg : g x ≠ g y := fun e => hxy (hi x (by simp) y (by simp) e)
    simp only [List.map_cons, inv, cnt_cons]
    rcases Int.lt_or_gt_of_ne hxy with a | a <;> rcases Int.lt_or_gt_of_ne hg with b | b
    all_goals
      simp only [a, b, show ¬ (_ : Int) < _ from Int.not_lt.mpr (Int.le_of_lt a), show ¬ (_ : Int) < _ from Int.not_lt.mpr (Int.le_of_lt b), if_true, if_false]
      omega
  | trans p q ih1 ih2 =>
    intro hn hi
    rw [ih1 hn hi]
    exact ih2 (p.nodup_iff.mp hn) fun a ha b hb => hi a (p.mem_iff.mpr ha) b (p.mem_iff.mpr hb)
theorem cnt_zero {x : Int} {l : List Int} (h : ∀ y ∈ l, x ≤ y) : cnt x l = 0 := by
  unfold cnt
  rw [List.length_eq_zero_iff, List.filter_eq_nil_iff]
  intro y hy
  have := h y hy
  simp
  omega
theorem cnt_all {x : Int} {l : List Int} (h : ∀ y ∈ l, y < x) : cnt x l = l.length := by
  unfold cnt
  rw [List.filter_eq_self.mpr fun y hy => by simpa using h y hy]
theorem inv_sorted : ∀ {l : List Int}, l.Pairwise (· < ·) → inv l = 0
  | [], _ => rfl
  | x :: l, h => by
    rw [List.pairwise_cons] at h
    rw [inv, inv_sorted h.2, cnt_zero fun y hy => Int.le_of_lt (h.1 y hy)]
theorem rnds_sorted (n : Nat) : (rnds n).Pairwise (· < ·) := by
  unfold rnds
  rw [List.pairwise_map]
  exact List.pairwise_lt_range.imp fun {a b} h => by omega
theorem IsP.perm {r : List Int} (h : IsP r) : r.Perm (Q1.rnds r.length) := (List.perm_ext_iff_of_nodup h.nd (IsP.rnds r.length).nd).mpr fun a => ⟨fun q => mem_rnds (h.bd a q).1 (h.bd a q).2, fun q => by
  have b := rnds_bd q
  exact Classical.byContradiction fun z => by
    have h3 := pigeon r.length (xs := a :: r) (List.nodup_cons.mpr ⟨z, h.nd⟩) (fun x hx => (List.mem_cons.mp hx).elim (fun e => by rw [e]; exact b) (fun e => h.bd x e))
    rw [List.length_cons] at h3
    omega⟩
theorem inv_mul {a b : List Int} (ha : IsP a) (hb : IsP b) (hl : a.length = b.length) : (inv (prd a b) + inv b) % 2 = inv a % 2 := by
  have hp := ha.prm
  have := inv_key (g := sg a) hb.perm hb.nd fun x hx y hy e => hp.inj x y (hb.bd x hx).1 (by rw [hl]; exact (hb.bd x hx).2) (hb.bd y hy).1 (by rw [hl]; exact (hb.bd y hy).2) e
  rw [inv_sorted (rnds_sorted _), ← hl, map_sg_rnds] at this
  exact this
def cross (l m : List Int) : Nat := (l.map fun x => cnt x m).sum
theorem cnt_app {x : Int} {l m : List Int} : cnt x (l ++ m) = cnt x l + cnt x m := by unfold cnt; rw [List.filter_append, List.length_append]
theorem inv_app : ∀ (l m : List Int), inv (l ++ m) = inv l + inv m + cross l m
  | [], m => by simp [inv, cross]
  | x :: l, m => by
    rw [List.cons_append, inv, inv_app l m, inv, cnt_app]
    simp only [cross, List.map_cons, List.sum_cons]
    omega
theorem cross_congr {l m m' : List Int} (h : ∀ x ∈ l, cnt x m = cnt x m') : cross l m = cross l m' := by
  unfold cross
  rw [List.map_congr_left h]
theorem cross_one {x : Int} : ∀ {l : List Int}, x ∉ l → cross l [x] + cnt x l = l.length
  | [], _ => rfl
  | y :: l, h => by
    have ih := cross_one (x := x) (l := l) fun z => h (List.mem_cons_of_mem _ z)
    have hne : y ≠ x := fun e => h (by rw [e]; exact List.mem_cons_self)
    have e : cross (y :: l) [x] = cnt y [x] + cross l [x] := by simp [cross]
    rw [e, cnt_cons, cnt_cons, List.length_cons]
    have z : cnt y [] = 0 := rfl
    rw [z]
    rcases Int.lt_or_gt_of_ne hne with a | a
    · have b : ¬ x < y := by omega
      simp only [a, b, if_true, if_false]; omega
    · have b : ¬ y < x := by omega
      have c : x < y := a
      simp only [b, c, if_true, if_false]; omega
/-- the last place taken out -/
def byp (r : List Int) : List Int := r.dropLast.map fun v : Int => if v = (r.length : Int) then sg r (r.length : Int) else v
theorem byp_len {r : List Int} : (byp r).length = r.length - 1 := by simp [byp]
theorem last_split {r : List Int} (h : 1 ≤ r.length) : r = r.dropLast ++ [sg r r.length] := by
  have hne : r ≠ [] := fun e => by subst e; simp at h
  have e := (List.dropLast_concat_getLast hne).symm
  have g := sg_get (r := r) (p := r.length) (by omega) (by omega)
  rw [show ((r.length : Int) - 1).toNat = r.length - 1 by omega, List.getElem?_eq_getElem (by omega)] at g
  rw [List.getLast_eq_getElem] at e
  rw [Option.some.inj g] at e
  exact e
theorem IsP.last {r : List Int} (h : IsP r) (h1 : 1 ≤ r.length) : (1 ≤ sg r r.length ∧ sg r r.length ≤ r.length) ∧ sg r r.length ∉ r.dropLast ∧ r.dropLast.Nodup ∧ ∀ x ∈ r.dropLast, 1 ≤ x ∧ x ≤ r.length := by
  have e := last_split h1
  have nd := h.nd
  rw [e, List.nodup_append] at nd
  refine ⟨h.prm.bd _ (by omega) (by omega), fun q => nd.2.2 _ q _ (List.mem_singleton.mpr rfl) rfl, nd.1, fun x hx => h.bd x (by rw [e]; exact List.mem_append_left _ hx)⟩
theorem IsP.byp {r : List Int} (h : IsP r) (h1 : 1 ≤ r.length) : IsP (byp r) := by
  obtain ⟨hb, hm, hn, hd⟩ := h.last h1
  refine ⟨fun x hx => ?_, ?_⟩
  · rw [byp_len]
    obtain ⟨v, hv, rfl⟩ := List.mem_map.mp hx
    have := hd v hv
    split
    · rename_i hz
      have : sg r r.length ≠ r.length := fun e => hm (by rw [e, ← hz]; exact hv)
      omega
    · omega
  · unfold Q1.byp
    rw [List.nodup_iff_pairwise_ne, List.pairwise_map]
    rw [List.nodup_iff_pairwise_ne] at hn
    refine List.Pairwise.imp_of_mem ?_ hn
    intro a b ha hb2 hne e
    split at e <;> split at e
    · omega
    · exact hm (by rw [e]; exact hb2)
    · exact hm (by rw [← e]; exact ha)
    · exact hne e
theorem inv_byp {r : List Int} (h : IsP r) (h1 : 1 ≤ r.length) : (inv r + inv (byp r) + (if sg r r.length = r.length then 0 else 1)) % 2 = 0 := by
  obtain ⟨hb, hm, hn, hd⟩ := h.last h1
  have e := last_split h1
  have hlt : ∀ x ∈ r.dropLast, x ≠ r.length → x < (r.length : Int) := fun x hx hne => by have := hd x hx; omega
  generalize hN : (r.length : Int) = N at *
  generalize hM : sg r N = m at *
  by_cases q : m = N
  · rw [if_pos q]
    have hno : ∀ x ∈ r.dropLast, x ≠ N := fun x hx z => hm (by rw [q, ← z]; exact hx)
    have eb : byp r = r.dropLast := by
      unfold byp
      rw [hN, hM]
      have : r.dropLast.map (fun v => if v = N then m else v) = r.dropLast.map id := List.map_congr_left fun x hx => by rw [if_neg (hno x hx)]; rfl
      rw [this, List.map_id]
    have ei : inv r = inv r.dropLast := by
      conv => lhs; rw [e]
      rw [inv_app]
      have : cross r.dropLast [m] = 0 := by
        unfold cross
        have : r.dropLast.map (fun x => cnt x [m]) = r.dropLast.map (fun _ => 0) := List.map_congr_left fun x hx => cnt_zero fun y hy => by
          rw [List.mem_singleton.mp hy, q]
          have := hlt x hx (hno x hx)
          omega
        rw [this]
        generalize r.dropLast = L
        induction L with
        | nil => rfl
        | cons a L ih => simpa using ih
      rw [this]
      simp [inv, cnt]
    rw [eb, ei]
    omega
  · rw [if_neg q]
    have hin : N ∈ r.dropLast := by
      have : N ∈ r := by
        refine h.perm.mem_iff.mpr (mem_rnds (by omega) (by omega))
      rw [e] at this
      rcases List.mem_append.mp this with z | z
      · exact z
      · exact absurd (List.mem_singleton.mp z).symm q
    obtain ⟨A, B, hAB⟩ := List.append_of_mem hin
    have hnd := hn
    rw [hAB, List.nodup_append, List.nodup_cons] at hnd
    have hA : ∀ x ∈ A, x < N := fun x hx => hlt x (by rw [hAB]; exact List.mem_append_left _ hx) (hnd.2.2 x hx N List.mem_cons_self)
    have hB : ∀ x ∈ B, x < N := fun x hx => hlt x (by rw [hAB]; exact List.mem_append_right _ (List.mem_cons_of_mem _ hx)) fun z => hnd.2.1.1 (z ▸ hx)
    have hmB : m ∉ B := fun z => hm (by rw [hAB]; exact List.mem_append_right _ (List.mem_cons_of_mem _ z))
    have eb : byp r = A ++ m :: B := by
      unfold byp
      rw [hN, hM, hAB, List.map_append, List.map_cons, if_pos rfl]
      have e1 : A.map (fun v => if v = N then m else v) = A.map id := List.map_congr_left fun x hx => by rw [if_neg (by have := hA x hx; omega)]; rfl
      have e2 : B.map (fun v => if v = N then m else v) = B.map id := List.map_congr_left fun x hx => by rw [if_neg (by have := hB x hx; omega)]; rfl
      rw [e1, e2, List.map_id, List.map_id]
    have er : r = A ++ (N :: (B ++ [m])) := by
      conv => lhs; rw [e, hAB]
      simp
    have ei : inv r = inv A + (B.length + 1 + (inv B + cross B [m])) + cross A (m :: B) := by
      rw [er, inv_app, inv, cnt_all (fun y hy => by
        rcases List.mem_append.mp hy with z | z
        · exact hB y z
        · rw [List.mem_singleton.mp z]; omega), inv_app, List.length_append]
      have c1 : cross A (N :: (B ++ [m])) = cross A (m :: B) := cross_congr fun x hx => by
        have := hA x hx
        rw [cnt_cons, if_neg (by omega), cnt_app, cnt_cons, cnt_cons]
        have z : cnt x [] = 0 := rfl
        omega
      have c2 : inv [m] = 0 := rfl
      rw [c1, c2]
      simp
    have eb2 : inv (byp r) = inv A + (cnt m B + inv B) + cross A (m :: B) := by rw [eb, inv_app, inv]
    have hc := cross_one hmB
    rw [ei, eb2]
    omega
/-! the number of cycles: the places that are least on theirs -/
noncomputable def isMin (f : Int → Int) (p : Int) : Bool := @decide (∀ k, p ≤ itr f k p) (Classical.propDecidable _)
theorem isMin_iff {f : Int → Int} {p : Int} : isMin f p = true ↔ ∀ k, p ≤ itr f k p := by unfold isMin; simp
noncomputable def cyn (f : Int → Int) (n : Nat) : Nat := ((rnds n).filter (isMin f)).length
theorem rnds_succ (n : Nat) : rnds (n + 1) = rnds n ++ [(n : Int) + 1] := by
  unfold rnds
  rw [List.range_succ, List.map_append]; simp
  omega
theorem cyc_count {n : Nat} {f : Int → Int} (hp : Prm n f) : ∀ m, m ≤ n → Good n f ((rnds m).foldl (cstep f n) []) ∧ (∀ x ∈ rnds m, x ∈ ((rnds m).foldl (cstep f n) []).flatten) ∧ (∀ x ∈ ((rnds m).foldl (cstep f n) []).flatten, ∃ q : Int, 1 ≤ q ∧ q ≤ m ∧ ∃ i, itr f i q = x) ∧ ((rnds m).foldl (cstep f n) []).length = cyn f m
  | 0, _ => ⟨⟨by simp [rnds], by simp [rnds], by simp [rnds]⟩, by simp [rnds], by simp [rnds], by simp [rnds, cyn]⟩
  | m + 1, hm => by
    obtain ⟨g1, g2, g3, g4⟩ := cyc_count hp m (by omega)
    have ec : cyn f (m + 1) = cyn f m + (if isMin f ((m : Int) + 1) then 1 else 0) := by
      unfold cyn
      rw [rnds_succ, List.filter_append, List.length_append]
      cases h : isMin f ((m : Int) + 1) <;> simp [h]
    rw [ec, rnds_succ, List.foldl_append, List.foldl_cons, List.foldl_nil]
    generalize (rnds m).foldl (cstep f n) [] = cs at *
    have b1 : (1 : Int) ≤ (m : Int) + 1 := by omega
    have b2 : (m : Int) + 1 ≤ n := by omega
    by_cases q : (m : Int) + 1 ∈ cs.flatten
    · rw [show cstep f n cs ((m : Int) + 1) = cs from if_pos q]
      have hmin : isMin f ((m : Int) + 1) = false := by
        rw [← Bool.not_eq_true, isMin_iff]
        intro hall
        obtain ⟨x, x1, x2, i, hi⟩ := g3 _ q
        obtain ⟨j, hc, hj⟩ := cyc_ex1 hp x1 (by omega)
        -- back to x
        have : itr f (j * (i + 1) - i) ((m : Int) + 1) = x := by
          rw [← hi, ← itr_add]
          have j1 := hc.one
          have hle : i ≤ j * (i + 1) := Nat.le_trans (by omega) (Nat.le_mul_of_pos_left (i + 1) j1)
          rw [show j * (i + 1) - i + i = j * (i + 1) by omega]
          exact itr_fix hc.back _
        have := hall (j * (i + 1) - i)
        omega
      rw [hmin]
      refine ⟨g1, fun x hx => ?_, fun x hx => ?_, by rw [g4]; rfl⟩
      · rcases List.mem_append.mp hx with z | z
        · exact g2 x z
        · rw [List.mem_singleton.mp z]; exact q
      · obtain ⟨y, y1, y2, hy⟩ := g3 x hx
        exact ⟨y, y1, by omega, hy⟩
    · obtain ⟨j, hc, hj, e, hg, hno⟩ := good1_step hp g1 b1 b2 q
      have hmin : isMin f ((m : Int) + 1) = true := by
        rw [isMin_iff]
        intro k
        refine Classical.byContradiction fun z => ?_
        have hb := hp.itr_bd k b1 b2
        have hy := g2 (itr f k ((m : Int) + 1)) (mem_rnds hb.1 (by omega))
        have : ∀ k, itr f k ((m : Int) + 1) ∉ cs.flatten := fun k => by
          induction k with
          | zero => exact q
          | succ k ih => exact fun w => ih (g1.closed hp (hp.itr_bd k b1 b2).1 (hp.itr_bd k b1 b2).2 w)
        exact this k hy
      rw [hmin, e]
      have e2 : (cs ++ [orb f ((m : Int) + 1) j]).flatten = cs.flatten ++ orb f ((m : Int) + 1) j := by simp
      refine ⟨hg, fun x hx => ?_, fun x hx => ?_, by rw [List.length_append, g4]; rfl⟩
      · rw [e2]
        rcases List.mem_append.mp hx with z | z
        · exact List.mem_append_left _ (g2 x z)
        · rw [List.mem_singleton.mp z]; exact List.mem_append_right _ (mem_orb.mpr ⟨0, hc.one, rfl⟩)
      · rw [e2] at hx
        rcases List.mem_append.mp hx with z | z
        · obtain ⟨y, y1, y2, hy⟩ := g3 x z
          exact ⟨y, y1, by omega, hy⟩
        · obtain ⟨i, _, rfl⟩ := mem_orb.mp z
          exact ⟨(m : Int) + 1, b1, by omega, i, rfl⟩
theorem cycs_len {r : List Int} (h : IsP r) : (cycs r).length = cyn (sg r) r.length := (cyc_count h.prm r.length (Nat.le_refl _)).2.2.2
theorem byp_sg {r : List Int} {x : Int} (x1 : 1 ≤ x) (x2 : x ≤ (r.length : Int) - 1) : sg (byp r) x = if sg r x = (r.length : Int) then sg r (r.length : Int) else sg r x := by
  have g := sg_get (r := r) (p := x) x1 (by omega)
  have gd : (r.dropLast)[(x - 1).toNat]? = some (sg r x) := by
    rw [List.dropLast_eq_take, List.getElem?_take, if_pos (by omega)]; exact g
  have gb : (byp r)[(x - 1).toNat]? = some (if sg r x = (r.length : Int) then sg r (r.length : Int) else sg r x) := by
    unfold byp
    rw [List.getElem?_map, gd]; rfl
  have g2 := sg_get (r := byp r) (p := x) x1 (by rw [byp_len]; omega)
  rw [gb] at g2
  exact (Option.some.inj g2).symm
theorem byp_to {r : List Int} (h : IsP r) {p : Int} (p1 : 1 ≤ p) (p2 : p ≤ (r.length : Int) - 1) : ∀ k, (itr (sg r) k p ≠ r.length → ∃ k0, itr (sg (byp r)) k0 p = itr (sg r) k p) ∧ (itr (sg r) k p = r.length → ∃ k0, itr (sg (byp r)) k0 p = sg r r.length)
  | 0 => ⟨fun _ => ⟨0, rfl⟩, fun e => by have : p = r.length := e; omega⟩
  | k + 1 => by
    have ih := byp_to h p1 p2 k
    have b := h.prm.itr_bd k p1 (by omega)
    have es : itr (sg r) (k + 1) p = sg r (itr (sg r) k p) := rfl
    by_cases q : itr (sg r) k p = r.length
    · obtain ⟨k0, hk⟩ := ih.2 q
      rw [es, q]
      exact ⟨fun _ => ⟨k0, hk⟩, fun _ => ⟨k0, hk⟩⟩
    · obtain ⟨k0, hk⟩ := ih.1 q
      have hs := byp_sg (r := r) (x := itr (sg r) k p) b.1 (by omega)
      have e0 : itr (sg (byp r)) (k0 + 1) p = sg (byp r) (itr (sg r) k p) := by rw [← hk]; rfl
      rw [es]
      refine ⟨fun z => ⟨k0 + 1, ?_⟩, fun z => ⟨k0 + 1, ?_⟩⟩
      · rw [e0, hs, if_neg z]
      · rw [e0, hs, if_pos z]
theorem byp_from {r : List Int} (h : IsP r) (h1 : 1 ≤ r.length) {p : Int} (p1 : 1 ≤ p) (p2 : p ≤ (r.length : Int) - 1) : ∀ k, ∃ k', itr (sg r) k' p = itr (sg (byp r)) k p
  | 0 => ⟨0, rfl⟩
  | k + 1 => by
    obtain ⟨k', hk⟩ := byp_from h h1 p1 p2 k
    have hb := (h.byp h1).prm
    rw [byp_len] at hb
    have b := hb.itr_bd k p1 (by omega)
    have hs := byp_sg (r := r) (x := itr (sg (byp r)) k p) b.1 (by omega)
    have e0 : itr (sg (byp r)) (k + 1) p = sg (byp r) (itr (sg (byp r)) k p) := rfl
    rw [e0, hs]
    by_cases q : sg r (itr (sg (byp r)) k p) = r.length
    · rw [if_pos q]
      refine ⟨k' + 2, ?_⟩
      show sg r (sg r (itr (sg r) k' p)) = _
      rw [hk, q]
    · rw [if_neg q]
      refine ⟨k' + 1, ?_⟩
      show sg r (itr (sg r) k' p) = _
      rw [hk]
theorem isMin_byp {r : List Int} (h : IsP r) (h1 : 1 ≤ r.length) {p : Int} (p1 : 1 ≤ p) (p2 : p ≤ (r.length : Int) - 1) : isMin (sg r) p = isMin (sg (byp r)) p := by
  rw [Bool.eq_iff_iff, isMin_iff, isMin_iff]
  constructor
  · intro hall k
    obtain ⟨k', hk⟩ := byp_from h h1 p1 p2 k
    rw [← hk]; exact hall k'
  · intro hall k
    by_cases q : itr (sg r) k p = r.length
    · rw [q]; omega
    · obtain ⟨k0, hk⟩ := (byp_to h p1 p2 k).1 q
      rw [← hk]; exact hall k0
theorem isMin_last {r : List Int} (h : IsP r) (h1 : 1 ≤ r.length) : isMin (sg r) r.length = decide (sg r r.length = r.length) := by
  rw [Bool.eq_iff_iff, isMin_iff, decide_eq_true_eq]
  constructor
  · intro hall
    have := hall 1
    have b := h.prm.bd r.length (by omega) (by omega)
    have e : itr (sg r) 1 r.length = sg r r.length := rfl
    omega
  · intro e k
    have : itr (sg r) k r.length = r.length := by
      induction k with
      | zero => rfl
      | succ k ih =>
        show sg r (itr (sg r) k r.length) = _
        rw [ih, e]
    rw [this]; omega
theorem cyn_byp {r : List Int} (h : IsP r) (h1 : 1 ≤ r.length) : cyn (sg r) r.length = cyn (sg (byp r)) (r.length - 1) + (if sg r r.length = r.length then 1 else 0) := by
  have e : rnds r.length = rnds (r.length - 1) ++ [(r.length : Int)] := by
    have := rnds_succ (r.length - 1)
    rw [show r.length - 1 + 1 = r.length by omega, show ((r.length - 1 : Nat) : Int) + 1 = r.length by omega] at this
    exact this
  unfold cyn
  rw [e, List.filter_append, List.length_append]
  congr 1
  · congr 1
    apply List.filter_congr
    intro x hx
    have b := rnds_bd hx
    exact isMin_byp h h1 b.1 (by omega)
  · have hl := isMin_last h h1
    by_cases q : sg r r.length = r.length
    · rw [decide_eq_true q] at hl
      simp [hl, q]
    · rw [decide_eq_false q] at hl
      simp [hl, q]
/-- the parity of the pairs that stand wrong is that of the cycles -/
theorem inv_cyn : ∀ (n : Nat) {r : List Int}, IsP r → r.length = n → (inv r + cyn (sg r) n) % 2 = n % 2
  | 0, r, h, hl => by
    have : r = [] := List.length_eq_zero_iff.mp hl
    subst this
    simp [inv, cyn, rnds]
  | n + 1, r, h, hl => by
    have h1 : 1 ≤ r.length := by omega
    have ih := inv_cyn n (h.byp h1) (by rw [byp_len]; omega)
    have a := inv_byp h h1
    have b := cyn_byp h h1
    rw [hl] at b
    rw [show n + 1 - 1 = n by omega] at b
    rw [b]
    rw [hl] at a
    split at a
    · rename_i hz
      rw [if_pos hz]; omega
    · rename_i hz
      rw [if_neg hz]; omega
/-- a row's sign, both ways -/
theorem sign_eq {r : List Int} (h : IsP r) : ((r.length : Int) - (cycs r).length) % 2 = 1 ↔ ¬ inv r % 2 = 0 := by
  have := inv_cyn r.length h rfl
  rw [← cycs_len h] at this
  omega
end Q1

set_option maxHeartbeats 4000000
/-! M15: rows in lists of rows. -/
namespace Q1
open PySem
theorem dord_R : DOrd dR (ltL ltI) 1 := dord_L dord_I
theorem dord_RR : DOrd (fun l : List (List Int) => .list (l.map dR)) (ltL (ltL ltI)) 2 := dord_L dord_R
theorem any_typed {α : Type} [BEq α] [LawfulBEq α] {f : α → D} {lt : α → α → Bool} {n : Nat} (h : DOrd f lt n) (a : α) (l : List α) : (l.map f).any (fun y => PyData.eqv y (f a)) = decide (a ∈ l) := by
  rw [List.any_map]
  by_cases q : a ∈ l
  · rw [decide_eq_true q, List.any_eq_true]
    exact ⟨a, q, (h.eqv a a).mpr rfl⟩
  · rw [decide_eq_false q, List.any_eq_false]
    intro x hx z
    exact q ((h.eqv x a).mp z ▸ hx)
theorem inO_typed {α : Type} [BEq α] [LawfulBEq α] {f : α → D} {lt : α → α → Bool} {n : Nat} (h : DOrd f lt n) (hn : n ≤ 59) (a : α) (l : List α) : inO (f a) (.list (l.map f)) = some (decide (a ∈ l)) := by
  have h1 : okEq (.list (l.map f)) = true := (dord_L h).okEq (by omega) l
  rw [inO, h1, h.okEq (by omega) a]
  simp only [Bool.and_self, if_true]
  rw [any_typed h]
theorem count_typed {α : Type} [BEq α] [LawfulBEq α] {f : α → D} {lt : α → α → Bool} {n : Nat} (h : DOrd f lt n) (hn : n ≤ 59) (a : α) (l : List α) (hi : ∀ k, f a ≠ .int k) : metO .count (.list (l.map f)) [f a] = some (.p (.int (l.count a : Nat))) := by
  have h1 : okEq (.list (l.map f)) = true := (dord_L h).okEq (by omega) l
  rw [metO.eq_5 _ _ (fun k e => hi k e), h1, h.okEq (by omega) a]
  simp only [Bool.and_self, if_true]
  congr 4
  rw [List.countP_map, List.count]
  refine congrArg (fun p => List.countP p l) (funext fun x => ?_)
  show PyData.eqv (f x) (f a) = (x == a)
  by_cases q : x = a
  · subst q
    rw [(h.eqv x x).mpr rfl, beq_self_eq_true]
  · have : PyData.eqv (f x) (f a) = false := Bool.eq_false_iff.mpr fun z => q ((h.eqv x a).mp z)
    rw [this]
    simp [q]
theorem count_nd {α : Type} [BEq α] [LawfulBEq α] : ∀ {l : List α}, l.Nodup → ∀ a, l.count a ≤ 1
  | [], _, _ => by simp
  | x :: l, h, a => by
    obtain ⟨h1, h2⟩ := List.nodup_cons.mp h
    rw [List.count_cons]
    by_cases q : x = a
    · subst q
      rw [List.count_eq_zero.mpr h1]
      split <;> omega
    · have := count_nd h2 a
      rw [if_neg (by simpa using q)]
      omega
@[simp] theorem inO_R (r : List Int) (rs : List (List Int)) : inO (.list (r.map .int)) (.list (rs.map dR)) = some (decide (r ∈ rs)) := inO_typed dord_R (by decide) r rs
@[simp] theorem inO_R0 (r : List Int) : inO (.list (r.map .int)) (.list []) = some false := inO_R r []
@[simp] theorem count_R (r : List Int) (rs : List (List Int)) : metO .count (.list (rs.map dR)) [.list (r.map .int)] = some (.p (.int (rs.count r : Nat))) := count_typed dord_R (by decide) r rs fun k e => by cases e
end Q1

set_option maxHeartbeats 4000000
/-! M16: a comprehension whose parts draw, part for part. -/
namespace Q1
open PySem
theorem ev_compZ {α β σ : Type} {C : PC} {own : List Nat} {g : Tg} {it : Itx} {c : Tx} {e : Ex} {env : En} (ys : List α) (φ : α → D) (ψ : α × β → D) (E : σ → En) (inv : σ → Prop) (s0 : σ) (P : α × β → Prop) (h0 : inv s0) (hi : evI C it env = .ok (ys.map φ) (E s0)) (hp : plainAt (E s0) own = true)
    (hr : ∀ s, ∀ i ∈ own, look (E s0) i = look (E s) i)
    (hb : ∀ y ∈ ys, ∀ s, inv s → ∃ b s' e', inv s' ∧ (match setTg (kills (E s) own) g (φ y) with
      | some e2 => (evT C c e2).bind fun b e3 => if b then (evX C e e3).bind fun m e4 => .ok (some m.toD) e4 else .ok none e3
      | none => .bad) = Res.ok (some (ψ (y, b))) e' ∧ P (y, b) ∧ kills e' own = kills (E s') own) : ∃ (zs : List (α × β)) (s' : σ), evX C (.comp own g it c e) env = .ok (.ol (zs.map ψ)) (E s') ∧ inv s' ∧ zs.map (·.1) = ys ∧ ∀ z ∈ zs, P z := by
  have key : ∀ (zs : List α) (e0 : En) (s : σ), (∀ y ∈ zs, y ∈ ys) → inv s → kills e0 own = kills (E s) own → ∃ (ws : List (α × β)) (e' : En) (s' : σ), inv s' ∧ compL (compT own g (evT C c) (evX C e)) (zs.map φ) e0 = .ok (ws.map ψ) e' ∧ kills e' own = kills (E s') own ∧ ws.map (·.1) = zs ∧ ∀ w ∈ ws, P w := by
    intro zs
    induction zs with
    | nil => intro e0 s _ hs h; exact ⟨[], e0, s, hs, rfl, h, rfl, fun _ h => by cases h⟩
    | cons y zs ih =>
      intro e0 s hm hs h
      obtain ⟨b, s1, e1, hs1, h1, h2, h3⟩ := hb y (hm y List.mem_cons_self) s hs
      obtain ⟨ws, e2, s2, hs2, h4, h5, h6, h7⟩ := ih e1 s1 (fun z hz => hm z (List.mem_cons_of_mem _ hz)) hs1 h3
      refine ⟨(y, b) :: ws, e2, s2, hs2, ?_, h5, by simp [h6], fun w hw => ?_⟩
      · rw [List.map_cons]
        unfold compL
        rw [show compT own g (evT C c) (evX C e) (φ y) e0 = .ok (some (ψ (y, b))) e1 by unfold compT; rw [h]; exact h1]
        simp only [Res.bind, h4, consO]
        rfl
      · rcases List.mem_cons.mp hw with q | q
        · rw [q]; exact h2
        · exact h7 w q
  obtain ⟨ws, e', s', hs, h1, h2, h3, h4⟩ := key ys (E s0) s0 (fun _ h => h) h0 rfl
  refine ⟨ws, s', ?_, hs, h3, h4⟩
  rw [evX_comp, hi]
  simp only [Res.bind, hp, if_true, h1, noExc, restore_congr (hr s'), restore_eq h2]
end Q1

set_option maxHeartbeats 4000000
/-! M17: _law_equal, both answers. -/
namespace Q1
open PySem
theorem beqDs_all : ∀ {xs ys : List D}, xs.length = ys.length → beqDs xs ys = (List.range ys.length).all fun i => beqD (xs[i]?.getD .none) (ys[i]?.getD .none)
  | [], [], _ => by simp [beqDs]
  | [], _ :: _, h => by cases h
  | _ :: _, [], h => by cases h
  | x :: xs, y :: ys, h => by
    rw [List.length_cons, List.range_succ_eq_map, List.all_cons, List.all_map, beqDs, beqDs_all (xs := xs) (ys := ys) (by simpa using h)]
    rfl
theorem beqDs_len : ∀ {xs ys : List D}, xs.length ≠ ys.length → beqDs xs ys = false
  | [], [], h => absurd rfl h
  | [], _ :: _, _ => by simp [beqDs]
  | _ :: _, [], _ => by simp [beqDs]
  | x :: xs, y :: ys, h => by rw [beqDs, beqDs_len (by simpa using h), Bool.and_false]
theorem run_allB {P : Pg} {sub : Nat → Nat → Option Bool} {k f g : Nat} (hA : P g = some ⟨3, 2, bAll f⟩) {m1 m2 : M} {xs ys : List D} (hxy : xs.length = ys.length) (hl : ys.length ≤ 16777216) (h1 : sqD xs m1.toD) (h2 : sqD ys m2.toD)
    (ih : ∀ i : Nat, i < ys.length → run P sub k f [.p (xs[i]?.getD .none), .p (ys[i]?.getD .none)] = .ok (.p (.bool (beqD (xs[i]?.getD .none) (ys[i]?.getD .none)))) [some (.p (xs[i]?.getD .none)), some (.p (ys[i]?.getD .none))]) : run P sub (k + 1) g [m1, m2] = .ok (.p (.bool (beqDs xs ys))) [some m1, some m2] := by
  rw [run_succ hA rfl, beqDs_all hxy]
  have nb : ¬ (2 ∈ byRef 0 [m1, m2]) := by
    unfold byRef byRef byRef
    split <;> split <;> simp
  have hlp := forL_find (body := loopT (byRef 0 [m1, m2]) (.name 2) (evSs ⟨run P sub k, sub⟩ (byRef 0 [m1, m2]) (bAllIn f))) (fun i : Nat => .int (i : Int)) (e := [some m1, some m2, none]) (fl := .rt (.p (.bool false))) (fun i => [some m1, some m2, some (.p (.int i))]) (fun i => beqD (xs[i]?.getD .none) (ys[i]?.getD .none)) (by simp) (by simp) (by simp) (ys := List.range ys.length) fun i hi => by
      have hi := List.mem_range.mp hi
      have i1 := ih i hi
      have a1 : ixO m1.toD (.int (i : Int)) = some (xs[i]?.getD .none) := by
        have : i < xs.length := by omega
        rcases h1 with q | q <;> rw [q] <;> simp [atI_nat, this]
      have a2 : ixO m2.toD (.int (i : Int)) = some (ys[i]?.getD .none) := by
        rcases h2 with q | q <;> rw [q] <;> simp [atI_nat, hi]
      generalize xs[i]?.getD .none = x at *
      generalize ys[i]?.getD .none = y at *
      cases q : beqD x y <;> rw [q] at i1 <;> simp [loopT, bAllIn, -byRef_q1, -byRef_q2, a1, a2, i1, nb]
  have b2 : biO .len [m2.toD] = some (.p (.int ys.length)) := by
    rcases h2 with q | q <;> rw [q] <;> simp
  have hl' : (ys.length : Int) ≤ 16777216 := by omega
  have hl2 : (-4611686018427387904 : Int) ≤ ys.length := by omega
  rw [← ups0] at hlp
  cases hf : (List.range ys.length).find? (fun i => !beqD (xs[i]?.getD .none) (ys[i]?.getD .none)) with
  | none =>
    rw [hf] at hlp
    have ha : (List.range ys.length).all (fun i => beqD (xs[i]?.getD .none) (ys[i]?.getD .none)) = true := by
      rw [List.all_eq_true]
      intro i hi
      have := List.find?_eq_none.mp hf i hi
      simpa using this
    rw [ha]
    simp [-byRef_q1, -byRef_q2, bAll, b2, hl', hl2, hlp, nb]
  | some i =>
    rw [hf] at hlp
    have ha : (List.range ys.length).all (fun i => beqD (xs[i]?.getD .none) (ys[i]?.getD .none)) = false := by
      rw [List.all_eq_false]
      exact ⟨i, List.mem_of_find?_eq_some hf, by simpa using List.find?_some hf⟩
    rw [ha]
    simp [-byRef_q1, -byRef_q2, bAll, b2, hl', hl2, hlp, nb]
theorem run_equalB {P : Pg} {sub : Nat → Nat → Option Bool} {f g : Nat} (hE : P f = some ⟨2, 2, bEqual g⟩) (hA : P g = some ⟨3, 2, bAll f⟩) : ∀ (n : Nat) (b : D), plainD b = true → dpt b ≤ n → ∀ (a : D), plainD a = true → ∀ (k : Nat) (m1 m2 : M), m1.toD = a → m2.toD = b → run P sub (k + 2 * n + 1) f [m1, m2] = .ok (.p (.bool (beqD a b))) [some m1, some m2]
  | n, .none, _, _, a, ha, k, m1, m2, h1, h2 => by
    rw [run_succ hE rfl]
    cases a <;> simp [bEqual, -byRef_q1, -byRef_q2, h1, h2, beqD]
  | n, .bool b, _, _, a, ha, k, m1, m2, h1, h2 => by
    rw [run_succ hE rfl]
    cases a <;> simp [bEqual, -byRef_q1, -byRef_q2, h1, h2, beqD]
    rename_i z
    cases z <;> cases b <;> rfl
  | n, .int b, _, _, a, ha, k, m1, m2, h1, h2 => by
    rw [run_succ hE rfl]
    cases a <;> simp [bEqual, -byRef_q1, -byRef_q2, h1, h2, beqD, Bool.beq_eq_decide_eq] <;> rfl
  | n, .str b, _, _, a, ha, k, m1, m2, h1, h2 => by
    rw [run_succ hE rfl]
    cases a <;> simp [bEqual, -byRef_q1, -byRef_q2, h1, h2, beqD] <;> rfl
  | n, .dict b, h, _, _, _, k, m1, m2, h1, h2 => by cases h
  | 0, .list xs, _, h, _, _, _, _, _, _, _ => by simp [dpt] at h
  | 0, .tuple xs, _, h, _, _, _, _, _, _, _ => by simp [dpt] at h
  | n + 1, .list ys, hp, hd, a, ha, k, m1, m2, h1, h2 => by
    rw [plainD, Bool.and_eq_true, decide_eq_true_eq] at hp
    rw [dpt] at hd
    rw [run_succ hE rfl, show k + 2 * (n + 1) = k + 2 * n + 1 + 1 by omega]
    cases a with
    | list xs =>
      rw [plainD, Bool.and_eq_true, decide_eq_true_eq] at ha
      by_cases hl : xs.length = ys.length
      · have key := run_allB (sub := sub) (k := k + 2 * n + 1) hA hl hp.1 (.inl h1) (.inl h2) fun i hi => by
          have g1 : xs[i]?.getD .none ∈ xs := by rw [List.getElem?_eq_getElem (by omega)]; exact List.getElem_mem _
          have g2 : ys[i]?.getD .none ∈ ys := by rw [List.getElem?_eq_getElem hi]; exact List.getElem_mem _
          exact run_equalB hE hA n _ (plainDs_mem hp.2 g2) (by have := dpts_mem g2; omega) _ (plainDs_mem ha.2 g1) k _ _ rfl rfl
        rw [beqD]
        simp [bEqual, -byRef_q1, -byRef_q2, h1, h2, key, hl]
        cases m1 <;> cases m2 <;> simp
      · have : ¬ (xs.length : Int) = ys.length := by omega
        rw [beqD, beqDs_len hl]
        simp [bEqual, -byRef_q1, -byRef_q2, h1, h2, hl, this]
    | _ => simp [bEqual, -byRef_q1, -byRef_q2, h1, h2, beqD]
  | n + 1, .tuple ys, hp, hd, a, ha, k, m1, m2, h1, h2 => by
    rw [plainD, Bool.and_eq_true, decide_eq_true_eq] at hp
    rw [dpt] at hd
    rw [run_succ hE rfl, show k + 2 * (n + 1) = k + 2 * n + 1 + 1 by omega]
    cases a with
    | tuple xs =>
      rw [plainD, Bool.and_eq_true, decide_eq_true_eq] at ha
      by_cases hl : xs.length = ys.length
      · have key := run_allB (sub := sub) (k := k + 2 * n + 1) hA hl hp.1 (.inr h1) (.inr h2) fun i hi => by
          have g1 : xs[i]?.getD .none ∈ xs := by rw [List.getElem?_eq_getElem (by omega)]; exact List.getElem_mem _
          have g2 : ys[i]?.getD .none ∈ ys := by rw [List.getElem?_eq_getElem hi]; exact List.getElem_mem _
          exact run_equalB hE hA n _ (plainDs_mem hp.2 g2) (by have := dpts_mem g2; omega) _ (plainDs_mem ha.2 g1) k _ _ rfl rfl
        rw [beqD]
        simp [bEqual, -byRef_q1, -byRef_q2, h1, h2, key, hl]
        cases m1 <;> cases m2 <;> simp
      · have : ¬ (xs.length : Int) = ys.length := by omega
        rw [beqD, beqDs_len hl]
        simp [bEqual, -byRef_q1, -byRef_q2, h1, h2, hl, this]
    | _ => simp [bEqual, -byRef_q1, -byRef_q2, h1, h2, beqD]
end Q1
namespace Q1
open PySem
mutual
theorem beqD_rfl : ∀ (a : D), plainD a = true → beqD a a = true
  | .none, _ => by simp [beqD]
  | .bool x, _ => by simp [beqD]
  | .int x, _ => by simp [beqD]
  | .str x, _ => by simp [beqD]
  | .dict x, h => by simp [plainD] at h
  | .list xs, h => by
    rw [plainD, Bool.and_eq_true] at h
    rw [beqD]; exact beqDs_rfl xs h.2
  | .tuple xs, h => by
    rw [plainD, Bool.and_eq_true] at h
    rw [beqD]; exact beqDs_rfl xs h.2
theorem beqDs_rfl : ∀ (a : List D), plainDs a = true → beqDs a a = true
  | [], _ => by simp [beqDs]
  | x :: xs, h => by
    rw [plainDs, Bool.and_eq_true] at h
    rw [beqDs, beqD_rfl x h.1, beqDs_rfl xs h.2]; rfl
end
theorem beqD_iff {a b : D} (h : plainD b = true) : beqD a b = true ↔ a = b := ⟨beqD_eq, fun e => by rw [e]; exact beqD_rfl b h⟩
end Q1

set_option maxHeartbeats 8000000
namespace Lk68
open PySem PySem.Spec PyProof.Rows L2 Q1
def topS (i : Nat) : Stmt := PySem.Challenge.pw_everytower_k68_all_the_work.main.body.getD i (.Pass ⟨0, 0, 0, 0⟩)

/-- is_number(value, low, high); slots: 0=value 1=low 2=high -/
def b_0 : Sms :=
 (.cons (.ret true (.tv (.and (.val (.bi .isInt (.cons (.rf 0) .nil))) (.and (.not (.tru (.bi .isBool (.cons (.rf 0) .nil)))) (.one (.chain .le .le (.var 1) (.var 0) (.var 2)))))))
 .nil)
def c_1_1 : Ex := .comp [2] (.name 2) (.seq (.var 1)) (.not (.tru (.call 0 (.cons (.var 2) (.cons (.lit (.int 1)) (.cons (.bin .sub (.rf 0) (.lit (.int 1))) .nil)))))) (.var 2)
@[simp] theorem opd_c_1_1 {r : En → Res M} {e : En} : opd c_1_1 r e = (r e).bind fun m e => .ok (.val m.toD) e := rfl
def c_1_2 : Ex := .comp [3] (.name 3) (.range (.cons (.lit (.int 1)) (.cons (.bi .len (.cons (.rf 1) .nil)) .nil))) (.cmp .lt (.bin .sub (.ix (.rf 1) (.rf 3)) (.ix (.rf 1) (.bin .sub (.rf 3) (.lit (.int 1))))) (.lit (.int 2))) (.var 3)
@[simp] theorem opd_c_1_2 {r : En → Res M} {e : En} : opd c_1_2 r e = (r e).bind fun m e => .ok (.val m.toD) e := rfl
/-- is_change(n, value); slots: 0=n 1=value 2=p 3=k -/
def b_1 : Sms :=
 (.cons (.ite (.or (.not (.tru (.bi .isTuple (.cons (.rf 1) .nil)))) (.one (.tru c_1_1)))
 (.cons (.ret true (.lit (.bool false)))
 .nil)
 .nil)
 (.cons (.ret true (.tv (.not (.tru c_1_2))))
 .nil))
/-- check_change(n, value); slots: 0=n 1=value -/
def b_2 : Sms :=
 (.cons (.ite (.not (.tru (.call 1 (.cons (.var 0) (.cons (.var 1) .nil)))))
 (.cons (.raise 0)
 .nil)
 .nil)
 .nil)
def b_3_1 : Sms := (.cons (.swp 2 (.cons (.bin .sub (.rf 3) (.lit (.int 1))) (.cons (.var 3) .nil)) (.cons (.ix (.rf 0) (.rf 3)) (.cons (.ix (.rf 0) (.bin .sub (.rf 3) (.lit (.int 1)))) .nil)))
 (.kill [3] .nil))
/-- moved(row, change); slots: 0=row 1=change 2=found 3=p -/
def b_3 : Sms :=
 (.cons (.set 2 true (.bi .list (.cons (.rf 0) .nil)))
 (.cons (.loop (.name 3) (.seq (.var 1)) b_3_1)
 (.kill [3] (.cons (.ret true (.var 2))
 .nil))))
def b_4_1 : Sms := (.cons (.app 2 (.call 3 (.cons (.ix (.rf 2) (.neg (.lit (.int 1)))) (.cons (.var 3) .nil))))
 (.kill [3] .nil))
/-- rows_along(row, lead); slots: 0=row 1=lead 2=found 3=change -/
def b_4 : Sms :=
 (.cons (.set 2 true (.lst (.cons (.bi .list (.cons (.rf 0) .nil)) .nil)))
 (.cons (.loop (.name 3) (.seq (.var 1)) b_4_1)
 (.kill [3] (.cons (.ret true (.var 2))
 .nil))))
def c_5_1 : Ex := .comp [1] (.name 1) (.seq (.ix (.rf 0) (.lit (.int 1)))) (.not (.tru (.call 1 (.cons (.ix (.rf 0) (.lit (.int 0))) (.cons (.var 1) .nil))))) (.var 1)
@[simp] theorem opd_c_5_1 {r : En → Res M} {e : En} : opd c_5_1 r e = (r e).bind fun m e => .ok (.val m.toD) e := rfl
/-- is_method(value); slots: 0=value 1=change -/
def b_5 : Sms :=
 (.cons (.ite (.or (.not (.tru (.bi .isTuple (.cons (.rf 0) .nil)))) (.or (.cmp .ne (.bi .len (.cons (.rf 0) .nil)) (.lit (.int 2))) (.one (.not (.tru (.call 0 (.cons (.ix (.rf 0) (.lit (.int 0))) (.cons (.glob "LEAST_BELLS" (.int 3)) (.cons (.glob "MOST_BELLS" (.int 12)) .nil)))))))))
 (.cons (.ret true (.lit (.bool false)))
 .nil)
 .nil)
 (.cons (.ite (.or (.not (.tru (.bi .isList (.cons (.ix (.rf 0) (.lit (.int 1))) .nil)))) (.one (.not (.chain .le .le (.lit (.int 1)) (.bi .len (.cons (.ix (.rf 0) (.lit (.int 1))) .nil)) (.glob "MOST_CHANGES" (.int 400))))))
 (.cons (.ret true (.lit (.bool false)))
 .nil)
 .nil)
 (.cons (.ret true (.tv (.not (.tru c_5_1))))
 .nil)))
def c_6_1 : Ex := .comp [1] (.name 1) (.seq (.var 0)) (.not (.tru (.call 5 (.cons (.var 1) .nil)))) (.var 1)
@[simp] theorem opd_c_6_1 {r : En → Res M} {e : En} : opd c_6_1 r e = (r e).bind fun m e => .ok (.val m.toD) e := rfl
def c_6_2 : Ex := .comp [1] (.name 1) (.seq (.var 0)) (.cmp .ne (.ix (.rf 1) (.lit (.int 0))) (.ix (.ix (.rf 0) (.lit (.int 0))) (.lit (.int 0)))) (.var 1)
@[simp] theorem opd_c_6_2 {r : En → Res M} {e : En} : opd c_6_2 r e = (r e).bind fun m e => .ok (.val m.toD) e := rfl
/-- check_methods(methods); slots: 0=methods 1=method -/
def b_6 : Sms :=
 (.cons (.ite (.or (.not (.tru (.bi .isList (.cons (.rf 0) .nil)))) (.one (.tru c_6_1)))
 (.cons (.raise 1)
 .nil)
 .nil)
 (.cons (.ite (.or (.not (.chain .le .le (.lit (.int 1)) (.bi .len (.cons (.rf 0) .nil)) (.glob "MOST_METHODS" (.int 8)))) (.one (.tru c_6_2)))
 (.cons (.raise 2)
 .nil)
 .nil)
 .nil))
def b_7_1 : Sms := (.cons (.expr (.call 2 (.cons (.var 0) (.cons (.var 2) .nil))))
 (.kill [2] .nil))
/-- check_calls(n, calls); slots: 0=n 1=calls 2=change -/
def b_7 : Sms :=
 (.cons (.ite (.not (.tru (.bi .isList (.cons (.rf 1) .nil))))
 (.cons (.raise 0)
 .nil)
 .nil)
 (.cons (.loop (.name 2) (.seq (.var 1)) b_7_1)
 (.kill [2] (.cons (.ite (.cmp .gt (.bi .len (.cons (.rf 1) .nil)) (.glob "MOST_CALLS" (.int 8)))
 (.cons (.raise 2)
 .nil)
 .nil)
 .nil))))
/-- is_entry(value, methods, calls); slots: 0=value 1=methods 2=calls -/
def b_8 : Sms :=
 (.cons (.ite (.or (.not (.tru (.bi .isTuple (.cons (.rf 0) .nil)))) (.one (.cmp .ne (.bi .len (.cons (.rf 0) .nil)) (.lit (.int 2)))))
 (.cons (.ret true (.lit (.bool false)))
 .nil)
 .nil)
 (.cons (.ret true (.tv (.and (.val (.call 0 (.cons (.ix (.rf 0) (.lit (.int 0))) (.cons (.lit (.int 0)) (.cons (.bin .sub (.rf 1) (.lit (.int 1))) .nil))))) (.one (.val (.call 0 (.cons (.ix (.rf 0) (.lit (.int 1))) (.cons (.neg (.lit (.int 1))) (.cons (.bin .sub (.rf 2) (.lit (.int 1))) .nil)))))))))
 .nil))
def c_9_1 : Ex := .comp [3] (.name 3) (.seq (.var 0)) (.not (.tru (.call 8 (.cons (.var 3) (.cons (.var 1) (.cons (.var 2) .nil)))))) (.var 3)
@[simp] theorem opd_c_9_1 {r : En → Res M} {e : En} : opd c_9_1 r e = (r e).bind fun m e => .ok (.val m.toD) e := rfl
/-- check_plan(plan, methods, calls); slots: 0=plan 1=methods 2=calls 3=entry -/
def b_9 : Sms :=
 (.cons (.ite (.or (.not (.tru (.bi .isList (.cons (.rf 0) .nil)))) (.one (.not (.chain .le .le (.lit (.int 1)) (.bi .len (.cons (.rf 0) .nil)) (.glob "MOST_PLAN" (.int 120))))))
 (.cons (.raise 3)
 .nil)
 .nil)
 (.cons (.ite (.tru c_9_1)
 (.cons (.raise 3)
 .nil)
 .nil)
 .nil))
/-- check_all(methods, calls, plan); slots: 0=methods 1=calls 2=plan -/
def b_10 : Sms :=
 (.cons (.expr (.call 6 (.cons (.var 0) .nil)))
 (.cons (.expr (.call 7 (.cons (.ix (.ix (.rf 0) (.lit (.int 0))) (.lit (.int 0))) (.cons (.var 1) .nil))))
 (.cons (.expr (.call 9 (.cons (.var 2) (.cons (.bi .len (.cons (.rf 0) .nil)) (.cons (.bi .len (.cons (.rf 1) .nil)) .nil)))))
 .nil)))
/-- lead_by(methods, calls, entry); slots: 0=methods 1=calls 2=entry 3=lead -/
def b_11 : Sms :=
 (.cons (.set 3 true (.ix (.ix (.rf 0) (.ix (.rf 2) (.lit (.int 0)))) (.lit (.int 1))))
 (.cons (.ret true (.ifx (.cmp .eq (.ix (.rf 2) (.lit (.int 1))) (.neg (.lit (.int 1)))) (.bi .list (.cons (.rf 3) .nil)) (.bin .add (.sl (.rf 3) .none (.some (.neg (.lit (.int 1))))) (.lst (.cons (.ix (.rf 1) (.ix (.rf 2) (.lit (.int 1)))) .nil)))))
 .nil))
def b_12_1 : Sms := (.cons (.app 3 (.ix (.call 4 (.cons (.ix (.rf 3) (.neg (.lit (.int 1)))) (.cons (.call 11 (.cons (.var 0) (.cons (.var 1) (.cons (.var 4) .nil)))) .nil))) (.neg (.lit (.int 1)))))
 (.kill [4] .nil))
/-- heads_by(methods, calls, plan); slots: 0=methods 1=calls 2=plan 3=found 4=entry -/
def b_12 : Sms :=
 (.cons (.set 3 true (.lst (.cons (.rgl (.cons (.lit (.int 1)) (.cons (.bin .add (.ix (.ix (.rf 0) (.lit (.int 0))) (.lit (.int 0))) (.lit (.int 1))) .nil))) .nil)))
 (.cons (.loop (.name 4) (.seq (.var 2)) b_12_1)
 (.kill [4] (.cons (.ret true (.var 3))
 .nil))))
def c_13_1 : Ex := .comp [15] (.name 15) (.seq (.var 5)) (.cmp .eq (.ix (.rf 15) (.bin .sub (.rf 12) (.lit (.int 1)))) (.rf 12)) (.var 15)
@[simp] theorem opd_c_13_1 {r : En → Res M} {e : En} : opd c_13_1 r e = (r e).bind fun m e => .ok (.val m.toD) e := rfl
def c_13_2 : Ex := .comp [12] (.name 12) (.range (.cons (.lit (.int 1)) (.cons (.bin .add (.rf 4) (.lit (.int 1))) .nil))) (.not (.tru c_13_1)) (.var 12)
@[simp] theorem opd_c_13_2 {r : En → Res M} {e : En} : opd c_13_2 r e = (r e).bind fun m e => .ok (.val m.toD) e := rfl
def b_13_1 : Sms := (.cons (.dput 7 (.tup (.cons (.var 12) (.cons (.ix (.ix (.rf 2) (.rf 9)) (.lit (.int 0))) (.cons (.bin .add (.met .index (.ix (.rf 3) (.rf 9)) (.cons (.rf 12) .nil)) (.lit (.int 1))) .nil)))) (.lit (.bool true)))
 (.cons (.dput 8 (.bin .add (.met .index (.ix (.rf 3) (.rf 9)) (.cons (.rf 12) .nil)) (.lit (.int 1))) (.lit (.bool true)))
 (.kill [12] .nil)))
def b_13_2 : Sms := (.cons (.loop (.name 12) (.seq (.var 6)) b_13_1)
 (.kill [9, 12] .nil))
def c_13_3 : Ex := .comp [14] (.name 14) (.seq (.var 2)) .yes (.ix (.rf 14) (.lit (.int 0)))
@[simp] theorem opd_c_13_3 {r : En → Res M} {e : En} : opd c_13_3 r e = (r e).bind fun m e => .ok (.val m.toD) e := rfl
def c_13_4 : Ex := .comp [16] (.name 16) (.seq (.bi .sorted (.cons (.rf 8) .nil))) (.din true (.tup (.cons (.var 12) (.cons (.var 13) (.cons (.var 16) .nil)))) (.rf 7)) (.tup (.cons (.var 12) (.cons (.var 13) (.cons (.var 16) .nil))))
@[simp] theorem opd_c_13_4 {r : En → Res M} {e : En} : opd c_13_4 r e = (r e).bind fun m e => .ok (.val m.toD) e := rfl
def b_13_3 : Sms := (.cons (.set 11 true (.bin .add (.rf 11) c_13_4))
 (.kill [6, 13] .nil))
def b_13_4 : Sms := (.cons (.loop (.name 13) (.seq (.var 10)) b_13_3)
 (.kill [6, 12, 13] .nil))
def s_13_8 : Sms := (.cons (.set 10 true (.sset c_13_3))
 (.cons (.set 11 true (.lst .nil))
 (.cons (.loop (.name 12) (.seq (.var 6)) b_13_4)
 (.kill [6, 7, 8, 10, 12, 13] (.cons (.ret true (.var 11))
 .nil)))))
def s_13_5 : Sms := (.cons (.set 7 true (.dict0 true))
 (.cons (.set 8 true (.dict0 false))
 (.cons (.loop (.name 9) (.range (.cons (.bi .len (.cons (.rf 2) .nil)) .nil)) b_13_2)
 (.kill [3, 9, 12] s_13_8))))
/-- work_left(methods, calls, plan); slots: 0=methods 1=calls 2=plan 3=heads 4=n 5=within 6=working 7=begun 8=places 9=k 10=rung 11=found 12=bell 13=m 14=entry 15=head 16=place -/
def b_13 : Sms :=
 (.cons (.expr (.call 10 (.cons (.var 0) (.cons (.var 1) (.cons (.var 2) .nil)))))
 (.cons (.set 3 true (.call 12 (.cons (.var 0) (.cons (.var 1) (.cons (.var 2) .nil)))))
 (.cons (.set 4 true (.ix (.ix (.rf 0) (.lit (.int 0))) (.lit (.int 0))))
 (.cons (.set 5 true (.sl (.rf 3) (.some (.lit (.int 1))) (.some (.neg (.lit (.int 1))))))
 (.cons (.set 6 true c_13_2)
 (.kill [4, 5] s_13_5))))))
/-- _law_mixed(number, k); slots: 0=number 1=k 2=step -/
def b_14 : Sms :=
 (.cons (.set 2 true (.bin .mod (.bin .add (.bin .add (.bin .mul (.rf 0) (.lit (.int 48271))) (.bin .mul (.rf 1) (.lit (.int 69621)))) (.lit (.int 12345))) (.lit (.int 2147483647))))
 (.cons (.ret true (.bin .mod (.bin .add (.bin .mul (.rf 2) (.bin .add (.bin .div (.rf 2) (.lit (.int 65536))) (.lit (.int 3)))) (.rf 1)) (.lit (.int 2147483647))))
 .nil))
def b_15_1 : Sms := (.cons (.ite (.cmp .gt (.rf 3) (.lit (.int 0)))
 (.cons (.app 1 (.bin .mod (.rf 3) (.lit (.int 1000000))))
 (.kill [4] (.cons (.set 3 true (.bin .div (.rf 3) (.lit (.int 1000000))))
 .nil)))
 .nil)
 (.kill [4] .nil))
def b_15_2 : Sms := (.cons (.app 1 (.bin .mod (.call 14 (.cons (.call 14 (.cons (.bin .mod (.rf 2) (.lit (.int 2147483647))) (.cons (.rf 4) .nil))) (.cons (.bin .add (.rf 4) (.lit (.int 7))) .nil))) (.lit (.int 1000000))))
 (.kill [4] .nil))
def b_15_3 : Sms := (.cons (.ite (.cmp .ge (.rf 2) (.bin .pow (.lit (.int 10)) (.lit (.int 18))))
 (.cons (.set 3 true (.var 2))
 (.kill [2, 4] (.cons (.loop (.name 4) (.range (.cons (.lit (.int 60)) .nil)) b_15_1)
 (.kill [3, 4] .nil))))
 (.cons (.app 1 (.bin .mod (.rf 2) (.lit (.int 1000000))))
 (.kill [3, 4] (.cons (.loop (.name 4) (.range (.cons (.lit (.int 5)) .nil)) b_15_2)
 (.kill [2, 4] .nil)))))
 (.kill [2, 3, 4] .nil))
/-- _law_numbers(script); slots: 0=script 1=numbers 2=cell 3=rest 4=k -/
def b_15 : Sms :=
 (.cons (.set 1 true (.lst .nil))
 (.cons (.loop (.name 2) (.seq (.var 0)) b_15_3)
 (.kill [2, 3, 4] (.cons (.ret true (.var 1))
 .nil))))
/-- _law_draw(draws, many); slots: 0=draws 1=many 2=at 3=first -/
def b_16 : Sms :=
 (.cons (.set 2 true (.ix (.rf 0) (.lit (.int 1))))
 (.cons (.setix 0 (.lit (.int 1)) (.bin .add (.rf 2) (.lit (.int 1))))
 (.cons (.ite (.cmp .lt (.rf 2) (.bi .len (.cons (.ix (.rf 0) (.lit (.int 0))) .nil)))
 (.cons (.ret true (.bin .mod (.ix (.ix (.rf 0) (.lit (.int 0))) (.rf 2)) (.rf 1)))
 .nil)
 .nil)
 (.cons (.set 3 true (.bin .add (.lit (.int 1)) (.rf 2)))
 (.cons (.ite (.cmp .gt (.bi .len (.cons (.ix (.rf 0) (.lit (.int 0))) .nil)) (.lit (.int 0)))
 (.cons (.set 3 true (.bin .add (.rf 3) (.bin .mul (.lit (.int 1009)) (.ix (.ix (.rf 0) (.lit (.int 0))) (.lit (.int 0))))))
 .nil)
 .nil)
 (.cons (.ret true (.bin .mod (.bin .div (.call 14 (.cons (.call 14 (.cons (.rf 3) (.cons (.rf 2) .nil))) (.cons (.lit (.int 5)) .nil))) (.lit (.int 7))) (.rf 1)))
 .nil))))))
/-- _law_equal(actual, due); slots: 0=actual 1=due -/
def b_17 : Sms :=
 (.cons (.ite (.tru (.bi .isList (.cons (.rf 1) .nil)))
 (.cons (.ret true (.tv (.and (.val (.bi .isList (.cons (.rf 0) .nil))) (.and (.cmp .eq (.bi .len (.cons (.rf 0) .nil)) (.bi .len (.cons (.rf 1) .nil))) (.one (.val (.call 18 (.cons (.rf 0) (.cons (.rf 1) .nil)))))))))
 .nil)
 .nil)
 (.cons (.ite (.tru (.bi .isTuple (.cons (.rf 1) .nil)))
 (.cons (.ret true (.tv (.and (.val (.bi .isTuple (.cons (.rf 0) .nil))) (.and (.cmp .eq (.bi .len (.cons (.rf 0) .nil)) (.bi .len (.cons (.rf 1) .nil))) (.one (.val (.call 18 (.cons (.rf 0) (.cons (.rf 1) .nil)))))))))
 .nil)
 .nil)
 (.cons (.ite (.tru (.bi .isBool (.cons (.rf 1) .nil)))
 (.cons (.ret true (.tv (.and (.val (.bi .isBool (.cons (.rf 0) .nil))) (.one (.cmp .eq (.rf 0) (.rf 1))))))
 .nil)
 .nil)
 (.cons (.ite (.tru (.bi .isInt (.cons (.rf 1) .nil)))
 (.cons (.ret true (.tv (.and (.val (.bi .isInt (.cons (.rf 0) .nil))) (.and (.not (.tru (.bi .isBool (.cons (.rf 0) .nil)))) (.one (.cmp .eq (.rf 0) (.rf 1)))))))
 .nil)
 .nil)
 (.cons (.ite (.tru (.bi .isStr (.cons (.rf 1) .nil)))
 (.cons (.ret true (.tv (.and (.val (.bi .isStr (.cons (.rf 0) .nil))) (.one (.cmp .eq (.rf 0) (.rf 1))))))
 .nil)
 .nil)
 (.cons (.ret true (.tv (.cmp .is (.rf 0) (.lit .none))))
 .nil))))))
def b_18_1 : Sms := (.cons (.ite (.not (.tru (.call 17 (.cons (.ix (.rf 0) (.rf 2)) (.cons (.ix (.rf 1) (.rf 2)) .nil)))))
 (.cons (.ret true (.lit (.bool false)))
 .nil)
 .nil)
 (.kill [2] .nil))
/-- _law_all_equal(actual, due); slots: 0=actual 1=due 2=k -/
def b_18 : Sms :=
 (.cons (.loop (.name 2) (.range (.cons (.bi .len (.cons (.rf 1) .nil)) .nil)) b_18_1)
 (.kill [2] (.cons (.ret true (.lit (.bool true)))
 .nil)))
def b_19_1 : Sms := (.cons (.swp 2 (.cons (.bin .sub (.rf 3) (.lit (.int 1))) (.cons (.var 3) .nil)) (.cons (.ix (.rf 2) (.rf 3)) (.cons (.ix (.rf 2) (.bin .sub (.rf 3) (.lit (.int 1)))) .nil)))
 (.kill [3] .nil))
/-- _law_moved(row, change); slots: 0=row 1=change 2=found 3=p -/
def b_19 : Sms :=
 (.cons (.set 2 true (.bi .list (.cons (.rf 0) .nil)))
 (.cons (.loop (.name 3) (.seq (.var 1)) b_19_1)
 (.kill [3] (.cons (.ret true (.var 2))
 .nil))))
def b_20_1 : Sms := (.cons (.set 4 true (.call 16 (.cons (.rf 0) (.cons (.bi .len (.cons (.rf 2) .nil)) .nil))))
 (.kill [3] (.cons (.ite (.and (.cmp .lt (.bin .add (.rf 4) (.lit (.int 1))) (.bi .len (.cons (.rf 2) .nil))) (.one (.cmp .gt (.bi .abs (.cons (.bin .sub (.ix (.ix (.rf 2) (.rf 4)) (.lit (.int 0))) (.ix (.ix (.rf 2) (.bin .add (.rf 4) (.lit (.int 1)))) (.lit (.int 0)))) .nil)) (.lit (.int 1)))))
 (.cons (.swp 2 (.cons (.var 4) (.cons (.bin .add (.rf 4) (.lit (.int 1))) .nil)) (.cons (.ix (.rf 2) (.bin .add (.rf 4) (.lit (.int 1)))) (.cons (.ix (.rf 2) (.rf 4)) .nil)))
 (.kill [4] .nil))
 (.cons (.ite (.and (.cmp .lt (.bin .add (.rf 4) (.lit (.int 2))) (.bi .len (.cons (.rf 2) .nil))) (.and (.cmp .eq (.ix (.rf 2) (.rf 4)) (.ix (.rf 2) (.bin .add (.rf 4) (.lit (.int 2))))) (.one (.cmp .eq (.bi .abs (.cons (.bin .sub (.ix (.ix (.rf 2) (.rf 4)) (.lit (.int 0))) (.ix (.ix (.rf 2) (.bin .add (.rf 4) (.lit (.int 1)))) (.lit (.int 0)))) .nil)) (.lit (.int 1))))))
 (.cons (.swp 2 (.cons (.var 4) (.cons (.bin .add (.rf 4) (.lit (.int 1))) (.cons (.bin .add (.rf 4) (.lit (.int 2))) .nil))) (.cons (.ix (.rf 2) (.bin .add (.rf 4) (.lit (.int 1)))) (.cons (.ix (.rf 2) (.rf 4)) (.cons (.ix (.rf 2) (.bin .add (.rf 4) (.lit (.int 1)))) .nil))))
 (.kill [4] .nil))
 .nil)
 (.kill [4] .nil)))
 (.kill [4] .nil))))
/-- _law_rewritten(draws, word); slots: 0=draws 1=word 2=found 3=turn 4=k -/
def b_20 : Sms :=
 (.cons (.set 2 true (.bi .list (.cons (.rf 1) .nil)))
 (.cons (.loop (.name 3) (.range (.cons (.lit (.int 6)) .nil)) b_20_1)
 (.kill [3, 4] (.cons (.ret true (.var 2))
 .nil))))
def b_21_1 : Sms := (.cons (.app 2 (.tup (.cons (.bin .add (.lit (.int 1)) (.call 16 (.cons (.rf 0) (.cons (.bin .sub (.rf 1) (.lit (.int 1))) .nil)))) .nil)))
 (.kill [3] .nil))
def b_21_2 : Sms := (.cons (.app 6 (.tup (.cons (.var 1) (.cons (.bin .add (.call 20 (.cons (.rf 0) (.cons (.rf 2) .nil))) (.lst (.cons (.var 5) .nil))) .nil))))
 (.kill [3] .nil))
def c_21_1 : Ex := .comp [3] (.name 3) (.range (.cons (.call 16 (.cons (.rf 0) (.cons (.lit (.int 3)) .nil))) .nil)) .yes (.ix (.rf 4) (.call 16 (.cons (.rf 0) (.cons (.lit (.int 6)) .nil))))
@[simp] theorem opd_c_21_1 {r : En → Res M} {e : En} : opd c_21_1 r e = (r e).bind fun m e => .ok (.val m.toD) e := rfl
def s_21_6 : Sms := (.cons (.loop (.name 3) (.range (.cons (.call 16 (.cons (.rf 0) (.cons (.lit (.int 3)) .nil))) .nil)) b_21_2)
 (.kill [1, 2, 3, 5] (.cons (.set 7 true c_21_1)
 (.kill [4] (.cons (.ret true (.tup (.cons (.var 6) (.cons (.var 7) .nil))))
 .nil)))))
def s_21_4 : Sms := (.cons (.set 5 true (.ix (.rf 4) (.call 16 (.cons (.rf 0) (.cons (.lit (.int 6)) .nil)))))
 (.cons (.set 6 true (.lst (.cons (.tup (.cons (.var 1) (.cons (.bin .add (.rf 2) (.lst (.cons (.var 5) .nil))) .nil))) .nil)))
 s_21_6))
def s_21_2 : Sms := (.cons (.loop (.name 3) (.range (.cons (.call 16 (.cons (.rf 0) (.cons (.lit (.int 3)) .nil))) .nil)) b_21_1)
 (.kill [3] (.cons (.set 4 true (.lst (.cons (.tup (.cons (.lit (.int 1)) (.cons (.lit (.int 3)) .nil))) (.cons (.tup (.cons (.lit (.int 2)) .nil)) (.cons (.tup (.cons (.lit (.int 1)) .nil)) (.cons (.tup (.cons (.bin .sub (.rf 1) (.lit (.int 1))) .nil)) (.cons (.tup .nil) (.cons (.ifx (.cmp .eq (.rf 1) (.lit (.int 5))) (.tup (.cons (.lit (.int 2)) (.cons (.lit (.int 4)) .nil))) (.tup (.cons (.lit (.int 3)) .nil))) .nil))))))))
 s_21_4)))
/-- _law_methods(draws); slots: 0=draws 1=n 2=word 3=k 4=ends 5=last 6=methods 7=calls -/
def b_21 : Sms :=
 (.cons (.set 1 true (.bin .add (.lit (.int 4)) (.call 16 (.cons (.rf 0) (.cons (.lit (.int 2)) .nil)))))
 (.cons (.set 2 true (.ifx (.cmp .eq (.call 16 (.cons (.rf 0) (.cons (.lit (.int 2)) .nil))) (.lit (.int 0))) (.lst (.cons (.tup (.cons (.lit (.int 1)) .nil)) (.cons (.tup (.cons (.lit (.int 2)) .nil)) (.cons (.tup (.cons (.lit (.int 1)) .nil)) .nil)))) (.lst (.cons (.tup (.cons (.lit (.int 1)) .nil)) (.cons (.tup (.cons (.lit (.int 3)) .nil)) .nil)))))
 s_21_2))
/-- _law_lead(methods, calls, entry); slots: 0=methods 1=calls 2=entry 3=lead -/
def b_22 : Sms :=
 (.cons (.set 3 true (.ix (.ix (.rf 0) (.ix (.rf 2) (.lit (.int 0)))) (.lit (.int 1))))
 (.cons (.ret true (.ifx (.cmp .eq (.ix (.rf 2) (.lit (.int 1))) (.neg (.lit (.int 1)))) (.var 3) (.bin .add (.sl (.rf 3) .none (.some (.neg (.lit (.int 1))))) (.lst (.cons (.ix (.rf 1) (.ix (.rf 2) (.lit (.int 1)))) .nil)))))
 .nil))
def b_23_1 : Sms := (.cons (.set 0 true (.call 19 (.cons (.var 0) (.cons (.var 2) .nil))))
 (.kill [2] .nil))
/-- _law_led(row, lead); slots: 0=row 1=lead 2=change -/
def b_23 : Sms :=
 (.cons (.loop (.name 2) (.seq (.var 1)) b_23_1)
 (.kill [2] (.cons (.ret true (.var 0))
 .nil)))
def b_24_1 : Sms := (.cons (.app 3 (.call 23 (.cons (.ix (.rf 3) (.neg (.lit (.int 1)))) (.cons (.call 22 (.cons (.var 0) (.cons (.var 1) (.cons (.var 4) .nil)))) .nil))))
 (.kill [4] .nil))
/-- _law_heads(methods, calls, plan); slots: 0=methods 1=calls 2=plan 3=found 4=entry -/
def b_24 : Sms :=
 (.cons (.set 3 true (.lst (.cons (.rgl (.cons (.lit (.int 1)) (.cons (.bin .add (.ix (.ix (.rf 0) (.lit (.int 0))) (.lit (.int 0))) (.lit (.int 1))) .nil))) .nil)))
 (.cons (.loop (.name 4) (.seq (.var 2)) b_24_1)
 (.kill [4] (.cons (.ret true (.var 3))
 .nil))))
def c_25_1 : Ex := .comp [4] (.name 4) (.range (.cons (.bin .add (.lit (.int 1)) (.call 16 (.cons (.rf 0) (.cons (.var 3) .nil)))) .nil)) .yes (.tup (.cons (.call 16 (.cons (.rf 0) (.cons (.bi .len (.cons (.rf 1) .nil)) .nil))) (.cons (.bin .sub (.call 16 (.cons (.rf 0) (.cons (.bin .add (.bi .len (.cons (.rf 2) .nil)) (.lit (.int 1))) .nil))) (.lit (.int 1))) .nil)))
@[simp] theorem opd_c_25_1 {r : En → Res M} {e : En} : opd c_25_1 r e = (r e).bind fun m e => .ok (.val m.toD) e := rfl
/-- _law_plan(draws, methods, calls, most); slots: 0=draws 1=methods 2=calls 3=most 4=k -/
def b_25 : Sms :=
 (.cons (.ret true c_25_1)
 .nil)
def c_26_1 : Ex := .comp [14] (.name 14) (.seq (.sl (.rf 3) (.some (.lit (.int 1))) (.some (.neg (.lit (.int 1)))))) (.cmp .eq (.ix (.rf 14) (.bin .sub (.rf 6) (.lit (.int 1)))) (.rf 6)) (.var 14)
@[simp] theorem opd_c_26_1 {r : En → Res M} {e : En} : opd c_26_1 r e = (r e).bind fun m e => .ok (.val m.toD) e := rfl
def b_26_1 : Sms := (.cons (.ite (.cmp .eq (.bi .len (.cons c_26_1 .nil)) (.lit (.int 0)))
 (.cons (.app 5 (.var 6))
 (.kill [4, 6] .nil))
 .nil)
 (.kill [4, 6] .nil))
def c_26_2 : Ex := .comp [12] (.name 12) (.range (.cons (.bi .len (.cons (.rf 2) .nil)) .nil)) .yes (.tup (.cons (.var 6) (.cons (.ix (.ix (.rf 2) (.rf 12)) (.lit (.int 0))) (.cons (.bin .add (.met .index (.ix (.rf 3) (.rf 12)) (.cons (.rf 6) .nil)) (.lit (.int 1))) .nil))))
@[simp] theorem opd_c_26_2 {r : En → Res M} {e : En} : opd c_26_2 r e = (r e).bind fun m e => .ok (.val m.toD) e := rfl
def b_26_2 : Sms := (.cons (.set 7 true (.bin .add (.rf 7) c_26_2))
 (.kill [6] .nil))
def c_26_3 : Ex := .comp [13] (.name 13) (.seq (.var 7)) .yes (.ix (.rf 13) (.lit (.int 2)))
@[simp] theorem opd_c_26_3 {r : En → Res M} {e : En} : opd c_26_3 r e = (r e).bind fun m e => .ok (.val m.toD) e := rfl
def c_26_4 : Ex := .comp [13] (.name 13) (.seq (.var 2)) .yes (.ix (.rf 13) (.lit (.int 0)))
@[simp] theorem opd_c_26_4 {r : En → Res M} {e : En} : opd c_26_4 r e = (r e).bind fun m e => .ok (.val m.toD) e := rfl
def c_26_5 : Ex := .comp [15] (.name 15) (.seq (.var 8)) (.cmp .notin (.tup (.cons (.var 6) (.cons (.var 11) (.cons (.var 15) .nil)))) (.rf 7)) (.tup (.cons (.var 6) (.cons (.var 11) (.cons (.var 15) .nil))))
@[simp] theorem opd_c_26_5 {r : En → Res M} {e : En} : opd c_26_5 r e = (r e).bind fun m e => .ok (.val m.toD) e := rfl
def b_26_3 : Sms := (.cons (.set 10 true (.bin .add (.rf 10) c_26_5))
 (.kill [5, 11] .nil))
def b_26_4 : Sms := (.cons (.loop (.name 11) (.seq (.var 9)) b_26_3)
 (.kill [5, 6, 11] .nil))
def s_26_6 : Sms := (.cons (.set 8 true (.sset c_26_3))
 (.cons (.set 9 true (.sset c_26_4))
 (.cons (.set 10 true (.lst .nil))
 (.cons (.loop (.name 6) (.seq (.var 5)) b_26_4)
 (.kill [5, 6, 7, 8, 9, 11] (.cons (.ret true (.var 10))
 .nil))))))
def s_26_4 : Sms := (.cons (.set 7 true (.lst .nil))
 (.cons (.loop (.name 6) (.seq (.var 5)) b_26_2)
 (.kill [3, 6] s_26_6)))
/-- _law_lacking(methods, calls, plan); slots: 0=methods 1=calls 2=plan 3=heads 4=n 5=working 6=bell 7=begun 8=places 9=used 10=found 11=m 12=k 13=entry 14=row 15=place -/
def b_26 : Sms :=
 (.cons (.set 3 true (.call 24 (.cons (.var 0) (.cons (.var 1) (.cons (.var 2) .nil)))))
 (.cons (.set 4 true (.ix (.ix (.rf 0) (.lit (.int 0))) (.lit (.int 0))))
 (.cons (.set 5 true (.lst .nil))
 (.cons (.loop (.name 6) (.range (.cons (.lit (.int 1)) (.cons (.bin .add (.rf 4) (.lit (.int 1))) .nil))) b_26_1)
 (.kill [4, 6] s_26_4)))))
def b_27_1 : Sms := (.cons (.set 5 true (.call 25 (.cons (.rf 1) (.cons (.var 3) (.cons (.var 4) (.cons (.lit (.int 12)) .nil))))))
 (.kill [2] (.cons (.ite (.not (.tru (.call 17 (.cons (.call 13 (.cons (.var 3) (.cons (.var 4) (.cons (.var 5) .nil)))) (.cons (.call 26 (.cons (.var 3) (.cons (.var 4) (.cons (.var 5) .nil)))) .nil)))))
 (.cons (.ret true (.lit (.bool false)))
 .nil)
 .nil)
 (.kill [5] .nil))))
/-- law(script); slots: 0=script 1=draws 2=turn 3=methods 4=calls 5=plan -/
def b_27 : Sms :=
 (.cons (.set 1 true (.lst (.cons (.call 15 (.cons (.var 0) .nil)) (.cons (.lit (.int 0)) .nil))))
 (.cons (.unp [3, 4] (.call 21 (.cons (.rf 1) .nil)))
 (.cons (.loop (.name 2) (.range (.cons (.lit (.int 4)) .nil)) b_27_1)
 (.kill [1, 2, 3, 4, 5] (.cons (.ret true (.lit (.bool true)))
 .nil)))))
def r_0 : Q1.Row := ⟨"is_number", topS 9, ["value", "low", "high"], 3, b_0⟩
def r_1 : Q1.Row := ⟨"is_change", topS 10, ["n", "value", "p", "k"], 2, b_1⟩
def r_2 : Q1.Row := ⟨"check_change", topS 11, ["n", "value"], 2, b_2⟩
def r_3 : Q1.Row := ⟨"moved", topS 12, ["row", "change", "found", "p"], 2, b_3⟩
def r_4 : Q1.Row := ⟨"rows_along", topS 13, ["row", "lead", "found", "change"], 2, b_4⟩
def r_5 : Q1.Row := ⟨"is_method", topS 16, ["value", "change"], 1, b_5⟩
def r_6 : Q1.Row := ⟨"check_methods", topS 21, ["methods", "method"], 1, b_6⟩
def r_7 : Q1.Row := ⟨"check_calls", topS 22, ["n", "calls", "change"], 2, b_7⟩
def r_8 : Q1.Row := ⟨"is_entry", topS 23, ["value", "methods", "calls"], 3, b_8⟩
def r_9 : Q1.Row := ⟨"check_plan", topS 24, ["plan", "methods", "calls", "entry"], 3, b_9⟩
def r_10 : Q1.Row := ⟨"check_all", topS 25, ["methods", "calls", "plan"], 3, b_10⟩
def r_11 : Q1.Row := ⟨"lead_by", topS 26, ["methods", "calls", "entry", "lead"], 3, b_11⟩
def r_12 : Q1.Row := ⟨"heads_by", topS 27, ["methods", "calls", "plan", "found", "entry"], 3, b_12⟩
def r_13 : Q1.Row := ⟨"work_left", topS 28, ["methods", "calls", "plan", "heads", "n", "within", "working", "begun", "places", "k", "rung", "found", "bell", "m", "entry", "head", "place"], 3, b_13⟩
def r_14 : Q1.Row := ⟨"_law_mixed", topS 30, ["number", "k", "step"], 2, b_14⟩
def r_15 : Q1.Row := ⟨"_law_numbers", topS 31, ["script", "numbers", "cell", "rest", "k"], 1, b_15⟩
def r_16 : Q1.Row := ⟨"_law_draw", topS 32, ["draws", "many", "at", "first"], 2, b_16⟩
def r_17 : Q1.Row := ⟨"_law_equal", topS 33, ["actual", "due"], 2, b_17⟩
def r_18 : Q1.Row := ⟨"_law_all_equal", topS 34, ["actual", "due", "k"], 2, b_18⟩
def r_19 : Q1.Row := ⟨"_law_moved", topS 35, ["row", "change", "found", "p"], 2, b_19⟩
def r_20 : Q1.Row := ⟨"_law_rewritten", topS 36, ["draws", "word", "found", "turn", "k"], 2, b_20⟩
def r_21 : Q1.Row := ⟨"_law_methods", topS 37, ["draws", "n", "word", "k", "ends", "last", "methods", "calls"], 1, b_21⟩
def r_22 : Q1.Row := ⟨"_law_lead", topS 38, ["methods", "calls", "entry", "lead"], 3, b_22⟩
def r_23 : Q1.Row := ⟨"_law_led", topS 39, ["row", "lead", "change"], 2, b_23⟩
def r_24 : Q1.Row := ⟨"_law_heads", topS 40, ["methods", "calls", "plan", "found", "entry"], 3, b_24⟩
def r_25 : Q1.Row := ⟨"_law_plan", topS 43, ["draws", "methods", "calls", "most", "k"], 4, b_25⟩
def r_26 : Q1.Row := ⟨"_law_lacking", topS 45, ["methods", "calls", "plan", "heads", "n", "working", "bell", "begun", "places", "used", "found", "m", "k", "entry", "row", "place"], 3, b_26⟩
def r_27 : Q1.Row := ⟨"law", topS 46, ["script", "draws", "turn", "methods", "calls", "plan"], 1, b_27⟩
def rows : List Q1.Row := [r_0, r_1, r_2, r_3, r_4, r_5, r_6, r_7, r_8, r_9, r_10, r_11, r_12, r_13, r_14, r_15, r_16, r_17, r_18, r_19, r_20, r_21, r_22, r_23, r_24, r_25, r_26, r_27]
def txt : Txt := ⟨rows.map Q1.Row.x, [("MOST_BELLS", (.int 12)), ("LEAST_BELLS", (.int 3)), ("MOST_CHANGES", (.int 400)), ("MOST_METHODS", (.int 8)), ("MOST_CALLS", (.int 8)), ("MOST_PLAN", (.int 120))], ["BadChange", "BadMethod", "BadArgument", "BadTouch"]⟩
theorem pg_0 : pgOf rows 0 = some ⟨3, 3, b_0⟩ := rfl
theorem pg_1 : pgOf rows 1 = some ⟨4, 2, b_1⟩ := rfl
theorem pg_2 : pgOf rows 2 = some ⟨2, 2, b_2⟩ := rfl
theorem pg_3 : pgOf rows 3 = some ⟨4, 2, b_3⟩ := rfl
theorem pg_4 : pgOf rows 4 = some ⟨4, 2, b_4⟩ := rfl
theorem pg_5 : pgOf rows 5 = some ⟨2, 1, b_5⟩ := rfl
theorem pg_6 : pgOf rows 6 = some ⟨2, 1, b_6⟩ := rfl
theorem pg_7 : pgOf rows 7 = some ⟨3, 2, b_7⟩ := rfl
theorem pg_8 : pgOf rows 8 = some ⟨3, 3, b_8⟩ := rfl
theorem pg_9 : pgOf rows 9 = some ⟨4, 3, b_9⟩ := rfl
theorem pg_10 : pgOf rows 10 = some ⟨3, 3, b_10⟩ := rfl
theorem pg_11 : pgOf rows 11 = some ⟨4, 3, b_11⟩ := rfl
theorem pg_12 : pgOf rows 12 = some ⟨5, 3, b_12⟩ := rfl
theorem pg_13 : pgOf rows 13 = some ⟨17, 3, b_13⟩ := rfl
theorem pg_14 : pgOf rows 14 = some ⟨3, 2, b_14⟩ := rfl
theorem pg_15 : pgOf rows 15 = some ⟨5, 1, b_15⟩ := rfl
theorem pg_16 : pgOf rows 16 = some ⟨4, 2, b_16⟩ := rfl
theorem pg_17 : pgOf rows 17 = some ⟨2, 2, b_17⟩ := rfl
theorem pg_18 : pgOf rows 18 = some ⟨3, 2, b_18⟩ := rfl
theorem pg_19 : pgOf rows 19 = some ⟨4, 2, b_19⟩ := rfl
theorem pg_20 : pgOf rows 20 = some ⟨5, 2, b_20⟩ := rfl
theorem pg_21 : pgOf rows 21 = some ⟨8, 1, b_21⟩ := rfl
theorem pg_22 : pgOf rows 22 = some ⟨4, 3, b_22⟩ := rfl
theorem pg_23 : pgOf rows 23 = some ⟨3, 2, b_23⟩ := rfl
theorem pg_24 : pgOf rows 24 = some ⟨5, 3, b_24⟩ := rfl
theorem pg_25 : pgOf rows 25 = some ⟨5, 4, b_25⟩ := rfl
theorem pg_26 : pgOf rows 26 = some ⟨16, 3, b_26⟩ := rfl
theorem pg_27 : pgOf rows 27 = some ⟨6, 1, b_27⟩ := rfl
theorem rows_ok : rows.all (rowOk txt) = true := by decide +kernel
def sub : Nat → Nat → Option Bool := fun i j => match i, j with | 0, 0 => some true | 0, 1 => some false | 0, 2 => some false | 0, 3 => some false | 1, 0 => some false | 1, 1 => some true | 1, 2 => some false | 1, 3 => some false | 2, 0 => some false | 2, 1 => some false | 2, 2 => some true | 2, 3 => some false | 3, 0 => some false | 3, 1 => some false | 3, 2 => some false | 3, 3 => some true | _, _ => none
def exA : List Addr := [37, 49, 73, 61]
def clsOf (as : List Addr) : Nat → Value := fun i => match as[i]? with | some a => .ref a | none => .none
structure Fct (K : PySem.W.Frag) (mg : Str → Option Value) (as : List Addr) : Prop where
  w : Wor txt sub (clsOf as) K mg
  f : ∀ r ∈ rows, ∃ fa fd, Fns K mg r fa fd
section
variable {K : PySem.W.Frag} {h : Heap} {mg : Str → Option Value}
theorem fn_mk {r : Q1.Row} {f : Addr} {od an : Option Addr} {sl : Array (Option Value)} {oc kV dc pm cd ct : Value} (X : K.In h) (G : h.Ns mainGlobals mg) (a : PySem.W.nsIn K mainGlobals r.x = some (some (.ref f))) (l : K.lookup f = some ⟨oc, od, .func (PySem.W.fnOf r.x r.x (defArgs r.st) (defBody r.st) (defScope r.st) .none kV dc pm an cd ct), sl⟩)
    (c : PySem.W.codeIn K cd r.x = true) (k : PySem.W.keepIn K (.ref f) = true) (b : ∀ (kV doc pm : Value) (an : Option Addr) (cdv ct : Value) (us : List Value), us.length = r.ps.length → bindArgs (PySem.W.fnOf r.x r.x (defArgs r.st) (defBody r.st) (defScope r.st) .none kV doc pm an cdv ct) ⟨us, []⟩ = pure (r.ps.zip us)) :
    Fns K mg r f (PySem.W.fnOf r.x r.x (defArgs r.st) (defBody r.st) (defScope r.st) .none kV dc pm an cd ct) := by
  have F := fun_mk l c k
  exact ⟨PySem.W.mg_of X G a, F, F.binds b⟩
theorem all_mk {f0 : Addr} {od0 an0 : Option Addr} {sl0 : Array (Option Value)} {oc0 kV0 dc0 pm0 cd0 ct0 : Value} {f1 : Addr} {od1 an1 : Option Addr} {sl1 : Array (Option Value)} {oc1 kV1 dc1 pm1 cd1 ct1 : Value} {f2 : Addr} {od2 an2 : Option Addr} {sl2 : Array (Option Value)} {oc2 kV2 dc2 pm2 cd2 ct2 : Value} {f3 : Addr} {od3 an3 : Option Addr} {sl3 : Array (Option Value)} {oc3 kV3 dc3 pm3 cd3 ct3 : Value} {f4 : Addr} {od4 an4 : Option Addr} {sl4 : Array (Option Value)} {oc4 kV4 dc4 pm4 cd4 ct4 : Value} {f5 : Addr} {od5 an5 : Option Addr} {sl5 : Array (Option Value)} {oc5 kV5 dc5 pm5 cd5 ct5 : Value} {f6 : Addr} {od6 an6 : Option Addr} {sl6 : Array (Option Value)} {oc6 kV6 dc6 pm6 cd6 ct6 : Value} {f7 : Addr} {od7 an7 : Option Addr} {sl7 : Array (Option Value)} {oc7 kV7 dc7 pm7 cd7 ct7 : Value} {f8 : Addr} {od8 an8 : Option Addr} {sl8 : Array (Option Value)} {oc8 kV8 dc8 pm8 cd8 ct8 : Value} {f9 : Addr} {od9 an9 : Option Addr} {sl9 : Array (Option Value)} {oc9 kV9 dc9 pm9 cd9 ct9 : Value} {f10 : Addr} {od10 an10 : Option Addr} {sl10 : Array (Option Value)} {oc10 kV10 dc10 pm10 cd10 ct10 : Value} {f11 : Addr} {od11 an11 : Option Addr} {sl11 : Array (Option Value)} {oc11 kV11 dc11 pm11 cd11 ct11 : Value} {f12 : Addr} {od12 an12 : Option Addr} {sl12 : Array (Option Value)} {oc12 kV12 dc12 pm12 cd12 ct12 : Value} {f13 : Addr} {od13 an13 : Option Addr} {sl13 : Array (Option Value)} {oc13 kV13 dc13 pm13 cd13 ct13 : Value} {f14 : Addr} {od14 an14 : Option Addr} {sl14 : Array (Option Value)} {oc14 kV14 dc14 pm14 cd14 ct14 : Value} {f15 : Addr} {od15 an15 : Option Addr} {sl15 : Array (Option Value)} {oc15 kV15 dc15 pm15 cd15 ct15 : Value} {f16 : Addr} {od16 an16 : Option Addr} {sl16 : Array (Option Value)} {oc16 kV16 dc16 pm16 cd16 ct16 : Value} {f17 : Addr} {od17 an17 : Option Addr} {sl17 : Array (Option Value)} {oc17 kV17 dc17 pm17 cd17 ct17 : Value} {f18 : Addr} {od18 an18 : Option Addr} {sl18 : Array (Option Value)} {oc18 kV18 dc18 pm18 cd18 ct18 : Value} {f19 : Addr} {od19 an19 : Option Addr} {sl19 : Array (Option Value)} {oc19 kV19 dc19 pm19 cd19 ct19 : Value} {f20 : Addr} {od20 an20 : Option Addr} {sl20 : Array (Option Value)} {oc20 kV20 dc20 pm20 cd20 ct20 : Value} {f21 : Addr} {od21 an21 : Option Addr} {sl21 : Array (Option Value)} {oc21 kV21 dc21 pm21 cd21 ct21 : Value} {f22 : Addr} {od22 an22 : Option Addr} {sl22 : Array (Option Value)} {oc22 kV22 dc22 pm22 cd22 ct22 : Value} {f23 : Addr} {od23 an23 : Option Addr} {sl23 : Array (Option Value)} {oc23 kV23 dc23 pm23 cd23 ct23 : Value} {f24 : Addr} {od24 an24 : Option Addr} {sl24 : Array (Option Value)} {oc24 kV24 dc24 pm24 cd24 ct24 : Value} {f25 : Addr} {od25 an25 : Option Addr} {sl25 : Array (Option Value)} {oc25 kV25 dc25 pm25 cd25 ct25 : Value} {f26 : Addr} {od26 an26 : Option Addr} {sl26 : Array (Option Value)} {oc26 kV26 dc26 pm26 cd26 ct26 : Value} {f27 : Addr} {od27 an27 : Option Addr} {sl27 : Array (Option Value)} {oc27 kV27 dc27 pm27 cd27 ct27 : Value} {e0 : Addr} {e1 : Addr} {e2 : Addr} {e3 : Addr} {tk0 : Tok} {tk1 : Tok} {tk2 : Tok} {tk3 : Tok} {tk4 : Tok} {tk5 : Tok} (X : K.In h) (G : h.Ns mainGlobals mg)
        (a0 : PySem.W.nsIn K mainGlobals r_0.x = some (some (.ref f0))) (l0 : K.lookup f0 = some ⟨oc0, od0, .func (PySem.W.fnOf r_0.x r_0.x (defArgs r_0.st) (defBody r_0.st) (defScope r_0.st) .none kV0 dc0 pm0 an0 cd0 ct0), sl0⟩) (c0 : PySem.W.codeIn K cd0 r_0.x = true) (k0 : PySem.W.keepIn K (.ref f0) = true)
    (a1 : PySem.W.nsIn K mainGlobals r_1.x = some (some (.ref f1))) (l1 : K.lookup f1 = some ⟨oc1, od1, .func (PySem.W.fnOf r_1.x r_1.x (defArgs r_1.st) (defBody r_1.st) (defScope r_1.st) .none kV1 dc1 pm1 an1 cd1 ct1), sl1⟩) (c1 : PySem.W.codeIn K cd1 r_1.x = true) (k1 : PySem.W.keepIn K (.ref f1) = true)
    (a2 : PySem.W.nsIn K mainGlobals r_2.x = some (some (.ref f2))) (l2 : K.lookup f2 = some ⟨oc2, od2, .func (PySem.W.fnOf r_2.x r_2.x (defArgs r_2.st) (defBody r_2.st) (defScope r_2.st) .none kV2 dc2 pm2 an2 cd2 ct2), sl2⟩) (c2 : PySem.W.codeIn K cd2 r_2.x = true) (k2 : PySem.W.keepIn K (.ref f2) = true)
    (a3 : PySem.W.nsIn K mainGlobals r_3.x = some (some (.ref f3))) (l3 : K.lookup f3 = some ⟨oc3, od3, .func (PySem.W.fnOf r_3.x r_3.x (defArgs r_3.st) (defBody r_3.st) (defScope r_3.st) .none kV3 dc3 pm3 an3 cd3 ct3), sl3⟩) (c3 : PySem.W.codeIn K cd3 r_3.x = true) (k3 : PySem.W.keepIn K (.ref f3) = true)
    (a4 : PySem.W.nsIn K mainGlobals r_4.x = some (some (.ref f4))) (l4 : K.lookup f4 = some ⟨oc4, od4, .func (PySem.W.fnOf r_4.x r_4.x (defArgs r_4.st) (defBody r_4.st) (defScope r_4.st) .none kV4 dc4 pm4 an4 cd4 ct4), sl4⟩) (c4 : PySem.W.codeIn K cd4 r_4.x = true) (k4 : PySem.W.keepIn K (.ref f4) = true)
    (a5 : PySem.W.nsIn K mainGlobals r_5.x = some (some (.ref f5))) (l5 : K.lookup f5 = some ⟨oc5, od5, .func (PySem.W.fnOf r_5.x r_5.x (defArgs r_5.st) (defBody r_5.st) (defScope r_5.st) .none kV5 dc5 pm5 an5 cd5 ct5), sl5⟩) (c5 : PySem.W.codeIn K cd5 r_5.x = true) (k5 : PySem.W.keepIn K (.ref f5) = true)
    (a6 : PySem.W.nsIn K mainGlobals r_6.x = some (some (.ref f6))) (l6 : K.lookup f6 = some ⟨oc6, od6, .func (PySem.W.fnOf r_6.x r_6.x (defArgs r_6.st) (defBody r_6.st) (defScope r_6.st) .none kV6 dc6 pm6 an6 cd6 ct6), sl6⟩) (c6 : PySem.W.codeIn K cd6 r_6.x = true) (k6 : PySem.W.keepIn K (.ref f6) = true)
    (a7 : PySem.W.nsIn K mainGlobals r_7.x = some (some (.ref f7))) (l7 : K.lookup f7 = some ⟨oc7, od7, .func (PySem.W.fnOf r_7.x r_7.x (defArgs r_7.st) (defBody r_7.st) (defScope r_7.st) .none kV7 dc7 pm7 an7 cd7 ct7), sl7⟩) (c7 : PySem.W.codeIn K cd7 r_7.x = true) (k7 : PySem.W.keepIn K (.ref f7) = true)
    (a8 : PySem.W.nsIn K mainGlobals r_8.x = some (some (.ref f8))) (l8 : K.lookup f8 = some ⟨oc8, od8, .func (PySem.W.fnOf r_8.x r_8.x (defArgs r_8.st) (defBody r_8.st) (defScope r_8.st) .none kV8 dc8 pm8 an8 cd8 ct8), sl8⟩) (c8 : PySem.W.codeIn K cd8 r_8.x = true) (k8 : PySem.W.keepIn K (.ref f8) = true)
    (a9 : PySem.W.nsIn K mainGlobals r_9.x = some (some (.ref f9))) (l9 : K.lookup f9 = some ⟨oc9, od9, .func (PySem.W.fnOf r_9.x r_9.x (defArgs r_9.st) (defBody r_9.st) (defScope r_9.st) .none kV9 dc9 pm9 an9 cd9 ct9), sl9⟩) (c9 : PySem.W.codeIn K cd9 r_9.x = true) (k9 : PySem.W.keepIn K (.ref f9) = true)
    (a10 : PySem.W.nsIn K mainGlobals r_10.x = some (some (.ref f10))) (l10 : K.lookup f10 = some ⟨oc10, od10, .func (PySem.W.fnOf r_10.x r_10.x (defArgs r_10.st) (defBody r_10.st) (defScope r_10.st) .none kV10 dc10 pm10 an10 cd10 ct10), sl10⟩) (c10 : PySem.W.codeIn K cd10 r_10.x = true) (k10 : PySem.W.keepIn K (.ref f10) = true)
    (a11 : PySem.W.nsIn K mainGlobals r_11.x = some (some (.ref f11))) (l11 : K.lookup f11 = some ⟨oc11, od11, .func (PySem.W.fnOf r_11.x r_11.x (defArgs r_11.st) (defBody r_11.st) (defScope r_11.st) .none kV11 dc11 pm11 an11 cd11 ct11), sl11⟩) (c11 : PySem.W.codeIn K cd11 r_11.x = true) (k11 : PySem.W.keepIn K (.ref f11) = true)
    (a12 : PySem.W.nsIn K mainGlobals r_12.x = some (some (.ref f12))) (l12 : K.lookup f12 = some ⟨oc12, od12, .func (PySem.W.fnOf r_12.x r_12.x (defArgs r_12.st) (defBody r_12.st) (defScope r_12.st) .none kV12 dc12 pm12 an12 cd12 ct12), sl12⟩) (c12 : PySem.W.codeIn K cd12 r_12.x = true) (k12 : PySem.W.keepIn K (.ref f12) = true)
    (a13 : PySem.W.nsIn K mainGlobals r_13.x = some (some (.ref f13))) (l13 : K.lookup f13 = some ⟨oc13, od13, .func (PySem.W.fnOf r_13.x r_13.x (defArgs r_13.st) (defBody r_13.st) (defScope r_13.st) .none kV13 dc13 pm13 an13 cd13 ct13), sl13⟩) (c13 : PySem.W.codeIn K cd13 r_13.x = true) (k13 : PySem.W.keepIn K (.ref f13) = true)
    (a14 : PySem.W.nsIn K mainGlobals r_14.x = some (some (.ref f14))) (l14 : K.lookup f14 = some ⟨oc14, od14, .func (PySem.W.fnOf r_14.x r_14.x (defArgs r_14.st) (defBody r_14.st) (defScope r_14.st) .none kV14 dc14 pm14 an14 cd14 ct14), sl14⟩) (c14 : PySem.W.codeIn K cd14 r_14.x = true) (k14 : PySem.W.keepIn K (.ref f14) = true)
    (a15 : PySem.W.nsIn K mainGlobals r_15.x = some (some (.ref f15))) (l15 : K.lookup f15 = some ⟨oc15, od15, .func (PySem.W.fnOf r_15.x r_15.x (defArgs r_15.st) (defBody r_15.st) (defScope r_15.st) .none kV15 dc15 pm15 an15 cd15 ct15), sl15⟩) (c15 : PySem.W.codeIn K cd15 r_15.x = true) (k15 : PySem.W.keepIn K (.ref f15) = true)
    (a16 : PySem.W.nsIn K mainGlobals r_16.x = some (some (.ref f16))) (l16 : K.lookup f16 = some ⟨oc16, od16, .func (PySem.W.fnOf r_16.x r_16.x (defArgs r_16.st) (defBody r_16.st) (defScope r_16.st) .none kV16 dc16 pm16 an16 cd16 ct16), sl16⟩) (c16 : PySem.W.codeIn K cd16 r_16.x = true) (k16 : PySem.W.keepIn K (.ref f16) = true)
    (a17 : PySem.W.nsIn K mainGlobals r_17.x = some (some (.ref f17))) (l17 : K.lookup f17 = some ⟨oc17, od17, .func (PySem.W.fnOf r_17.x r_17.x (defArgs r_17.st) (defBody r_17.st) (defScope r_17.st) .none kV17 dc17 pm17 an17 cd17 ct17), sl17⟩) (c17 : PySem.W.codeIn K cd17 r_17.x = true) (k17 : PySem.W.keepIn K (.ref f17) = true)
    (a18 : PySem.W.nsIn K mainGlobals r_18.x = some (some (.ref f18))) (l18 : K.lookup f18 = some ⟨oc18, od18, .func (PySem.W.fnOf r_18.x r_18.x (defArgs r_18.st) (defBody r_18.st) (defScope r_18.st) .none kV18 dc18 pm18 an18 cd18 ct18), sl18⟩) (c18 : PySem.W.codeIn K cd18 r_18.x = true) (k18 : PySem.W.keepIn K (.ref f18) = true)
    (a19 : PySem.W.nsIn K mainGlobals r_19.x = some (some (.ref f19))) (l19 : K.lookup f19 = some ⟨oc19, od19, .func (PySem.W.fnOf r_19.x r_19.x (defArgs r_19.st) (defBody r_19.st) (defScope r_19.st) .none kV19 dc19 pm19 an19 cd19 ct19), sl19⟩) (c19 : PySem.W.codeIn K cd19 r_19.x = true) (k19 : PySem.W.keepIn K (.ref f19) = true)
    (a20 : PySem.W.nsIn K mainGlobals r_20.x = some (some (.ref f20))) (l20 : K.lookup f20 = some ⟨oc20, od20, .func (PySem.W.fnOf r_20.x r_20.x (defArgs r_20.st) (defBody r_20.st) (defScope r_20.st) .none kV20 dc20 pm20 an20 cd20 ct20), sl20⟩) (c20 : PySem.W.codeIn K cd20 r_20.x = true) (k20 : PySem.W.keepIn K (.ref f20) = true)
    (a21 : PySem.W.nsIn K mainGlobals r_21.x = some (some (.ref f21))) (l21 : K.lookup f21 = some ⟨oc21, od21, .func (PySem.W.fnOf r_21.x r_21.x (defArgs r_21.st) (defBody r_21.st) (defScope r_21.st) .none kV21 dc21 pm21 an21 cd21 ct21), sl21⟩) (c21 : PySem.W.codeIn K cd21 r_21.x = true) (k21 : PySem.W.keepIn K (.ref f21) = true)
    (a22 : PySem.W.nsIn K mainGlobals r_22.x = some (some (.ref f22))) (l22 : K.lookup f22 = some ⟨oc22, od22, .func (PySem.W.fnOf r_22.x r_22.x (defArgs r_22.st) (defBody r_22.st) (defScope r_22.st) .none kV22 dc22 pm22 an22 cd22 ct22), sl22⟩) (c22 : PySem.W.codeIn K cd22 r_22.x = true) (k22 : PySem.W.keepIn K (.ref f22) = true)
    (a23 : PySem.W.nsIn K mainGlobals r_23.x = some (some (.ref f23))) (l23 : K.lookup f23 = some ⟨oc23, od23, .func (PySem.W.fnOf r_23.x r_23.x (defArgs r_23.st) (defBody r_23.st) (defScope r_23.st) .none kV23 dc23 pm23 an23 cd23 ct23), sl23⟩) (c23 : PySem.W.codeIn K cd23 r_23.x = true) (k23 : PySem.W.keepIn K (.ref f23) = true)
    (a24 : PySem.W.nsIn K mainGlobals r_24.x = some (some (.ref f24))) (l24 : K.lookup f24 = some ⟨oc24, od24, .func (PySem.W.fnOf r_24.x r_24.x (defArgs r_24.st) (defBody r_24.st) (defScope r_24.st) .none kV24 dc24 pm24 an24 cd24 ct24), sl24⟩) (c24 : PySem.W.codeIn K cd24 r_24.x = true) (k24 : PySem.W.keepIn K (.ref f24) = true)
    (a25 : PySem.W.nsIn K mainGlobals r_25.x = some (some (.ref f25))) (l25 : K.lookup f25 = some ⟨oc25, od25, .func (PySem.W.fnOf r_25.x r_25.x (defArgs r_25.st) (defBody r_25.st) (defScope r_25.st) .none kV25 dc25 pm25 an25 cd25 ct25), sl25⟩) (c25 : PySem.W.codeIn K cd25 r_25.x = true) (k25 : PySem.W.keepIn K (.ref f25) = true)
    (a26 : PySem.W.nsIn K mainGlobals r_26.x = some (some (.ref f26))) (l26 : K.lookup f26 = some ⟨oc26, od26, .func (PySem.W.fnOf r_26.x r_26.x (defArgs r_26.st) (defBody r_26.st) (defScope r_26.st) .none kV26 dc26 pm26 an26 cd26 ct26), sl26⟩) (c26 : PySem.W.codeIn K cd26 r_26.x = true) (k26 : PySem.W.keepIn K (.ref f26) = true)
    (a27 : PySem.W.nsIn K mainGlobals r_27.x = some (some (.ref f27))) (l27 : K.lookup f27 = some ⟨oc27, od27, .func (PySem.W.fnOf r_27.x r_27.x (defArgs r_27.st) (defBody r_27.st) (defScope r_27.st) .none kV27 dc27 pm27 an27 cd27 ct27), sl27⟩) (c27 : PySem.W.codeIn K cd27 r_27.x = true) (k27 : PySem.W.keepIn K (.ref f27) = true)
        (ea0 : PySem.W.nsIn K mainGlobals "BadChange" = some (some (.ref e0))) (eb0 : PySem.W.excIn K e0 [.type "ValueError", .type "Exception", .type "BaseException", .type "object"] "ValueError.__new__" = true) (ec0 : PySem.W.keepIn K (.ref e0) = true) (ed0 : PySem.W.subIn K (.ref e0) (.type "BaseException") = some true) (ee0 : PySem.W.typeIn K (.ref e0) = some (.type "type")) (eh0 : PySem.W.isClsIn K e0 = true)
    (ea1 : PySem.W.nsIn K mainGlobals "BadMethod" = some (some (.ref e1))) (eb1 : PySem.W.excIn K e1 [.type "ValueError", .type "Exception", .type "BaseException", .type "object"] "ValueError.__new__" = true) (ec1 : PySem.W.keepIn K (.ref e1) = true) (ed1 : PySem.W.subIn K (.ref e1) (.type "BaseException") = some true) (ee1 : PySem.W.typeIn K (.ref e1) = some (.type "type")) (eh1 : PySem.W.isClsIn K e1 = true)
    (ea2 : PySem.W.nsIn K mainGlobals "BadArgument" = some (some (.ref e2))) (eb2 : PySem.W.excIn K e2 [.type "ValueError", .type "Exception", .type "BaseException", .type "object"] "ValueError.__new__" = true) (ec2 : PySem.W.keepIn K (.ref e2) = true) (ed2 : PySem.W.subIn K (.ref e2) (.type "BaseException") = some true) (ee2 : PySem.W.typeIn K (.ref e2) = some (.type "type")) (eh2 : PySem.W.isClsIn K e2 = true)
    (ea3 : PySem.W.nsIn K mainGlobals "BadTouch" = some (some (.ref e3))) (eb3 : PySem.W.excIn K e3 [.type "ValueError", .type "Exception", .type "BaseException", .type "object"] "ValueError.__new__" = true) (ec3 : PySem.W.keepIn K (.ref e3) = true) (ed3 : PySem.W.subIn K (.ref e3) (.type "BaseException") = some true) (ee3 : PySem.W.typeIn K (.ref e3) = some (.type "type")) (eh3 : PySem.W.isClsIn K e3 = true)
    (em0_0 : PySem.W.subIn K (.ref e0) (.ref e0) = some true)
    (em0_1 : PySem.W.subIn K (.ref e0) (.ref e1) = some false)
    (em0_2 : PySem.W.subIn K (.ref e0) (.ref e2) = some false)
    (em0_3 : PySem.W.subIn K (.ref e0) (.ref e3) = some false)
    (em1_0 : PySem.W.subIn K (.ref e1) (.ref e0) = some false)
    (em1_1 : PySem.W.subIn K (.ref e1) (.ref e1) = some true)
    (em1_2 : PySem.W.subIn K (.ref e1) (.ref e2) = some false)
    (em1_3 : PySem.W.subIn K (.ref e1) (.ref e3) = some false)
    (em2_0 : PySem.W.subIn K (.ref e2) (.ref e0) = some false)
    (em2_1 : PySem.W.subIn K (.ref e2) (.ref e1) = some false)
    (em2_2 : PySem.W.subIn K (.ref e2) (.ref e2) = some true)
    (em2_3 : PySem.W.subIn K (.ref e2) (.ref e3) = some false)
    (em3_0 : PySem.W.subIn K (.ref e3) (.ref e0) = some false)
    (em3_1 : PySem.W.subIn K (.ref e3) (.ref e1) = some false)
    (em3_2 : PySem.W.subIn K (.ref e3) (.ref e2) = some false)
    (em3_3 : PySem.W.subIn K (.ref e3) (.ref e3) = some true)
    (g0 : PySem.W.nsIn K mainGlobals "MOST_BELLS" = some (some (.int 12 tk0)))
    (g1 : PySem.W.nsIn K mainGlobals "LEAST_BELLS" = some (some (.int 3 tk1)))
    (g2 : PySem.W.nsIn K mainGlobals "MOST_CHANGES" = some (some (.int 400 tk2)))
    (g3 : PySem.W.nsIn K mainGlobals "MOST_METHODS" = some (some (.int 8 tk3)))
    (g4 : PySem.W.nsIn K mainGlobals "MOST_CALLS" = some (some (.int 8 tk4)))
    (g5 : PySem.W.nsIn K mainGlobals "MOST_PLAN" = some (some (.int 120 tk5)))
    (z0 : PySem.W.nsIn K mainGlobals "len" = some none) (z1 : PySem.W.nsIn K mainGlobals "abs" = some none) (z2 : PySem.W.nsIn K mainGlobals "min" = some none) (z3 : PySem.W.nsIn K mainGlobals "max" = some none) (z4 : PySem.W.nsIn K mainGlobals "list" = some none) (z5 : PySem.W.nsIn K mainGlobals "tuple" = some none) (z6 : PySem.W.nsIn K mainGlobals "int" = some none) (z7 : PySem.W.nsIn K mainGlobals "isinstance" = some none) (z8 : PySem.W.nsIn K mainGlobals "bool" = some none) (z9 : PySem.W.nsIn K mainGlobals "str" = some none) (z10 : PySem.W.nsIn K mainGlobals "dict" = some none) (z11 : PySem.W.nsIn K mainGlobals "range" = some none) (z12 : PySem.W.nsIn K mainGlobals "sorted" = some none) (z13 : PySem.W.nsIn K mainGlobals "sum" = some none) (z14 : PySem.W.nsIn K mainGlobals "set" = some none) (z15 : PySem.W.nsIn K mainGlobals "reversed" = some none) : Fct K mg [e0, e1, e2, e3] := by
  refine ⟨⟨fun p hp => ?_, fun x hx => ?_, fun i y hy => ?_, fun i j b hb => ?_⟩, ?_⟩
  · simp only [txt, List.mem_cons, List.mem_nil_iff, or_false] at hp
    rcases hp with rfl | rfl | rfl | rfl | rfl | rfl
    · exact ⟨_, .int 12, PySem.W.mg_of X G g0, ⟨_, rfl⟩, rfl⟩
    · exact ⟨_, .int 3, PySem.W.mg_of X G g1, ⟨_, rfl⟩, rfl⟩
    · exact ⟨_, .int 400, PySem.W.mg_of X G g2, ⟨_, rfl⟩, rfl⟩
    · exact ⟨_, .int 8, PySem.W.mg_of X G g3, ⟨_, rfl⟩, rfl⟩
    · exact ⟨_, .int 8, PySem.W.mg_of X G g4, ⟨_, rfl⟩, rfl⟩
    · exact ⟨_, .int 120, PySem.W.mg_of X G g5, ⟨_, rfl⟩, rfl⟩
  · simp only [bltNames, List.mem_cons, List.mem_nil_iff, or_false] at hx
    rcases hx with rfl | rfl | rfl | rfl | rfl | rfl | rfl | rfl | rfl | rfl | rfl | rfl | rfl | rfl | rfl | rfl
    · exact PySem.W.mg_none_of X G z0
    · exact PySem.W.mg_none_of X G z1
    · exact PySem.W.mg_none_of X G z2
    · exact PySem.W.mg_none_of X G z3
    · exact PySem.W.mg_none_of X G z4
    · exact PySem.W.mg_none_of X G z5
    · exact PySem.W.mg_none_of X G z6
    · exact PySem.W.mg_none_of X G z7
    · exact PySem.W.mg_none_of X G z8
    · exact PySem.W.mg_none_of X G z9
    · exact PySem.W.mg_none_of X G z10
    · exact PySem.W.mg_none_of X G z11
    · exact PySem.W.mg_none_of X G z12
    · exact PySem.W.mg_none_of X G z13
    · exact PySem.W.mg_none_of X G z14
    · exact PySem.W.mg_none_of X G z15
  · match i, hy with
    | 0, hy => (cases hy; exact ⟨e0, rfl, PySem.W.mg_of X G ea0, eb0, ec0, ed0, ee0⟩)
    | 1, hy => (cases hy; exact ⟨e1, rfl, PySem.W.mg_of X G ea1, eb1, ec1, ed1, ee1⟩)
    | 2, hy => (cases hy; exact ⟨e2, rfl, PySem.W.mg_of X G ea2, eb2, ec2, ed2, ee2⟩)
    | 3, hy => (cases hy; exact ⟨e3, rfl, PySem.W.mg_of X G ea3, eb3, ec3, ed3, ee3⟩)
    | _ + 4, hy => cases hy
  · match i, j, hb with
    | 0, 0, hb => (cases hb; exact exm_of ed0 eh0 ee0 em0_0)
    | 0, 1, hb => (cases hb; exact exm_of ed1 eh1 ee1 em0_1)
    | 0, 2, hb => (cases hb; exact exm_of ed2 eh2 ee2 em0_2)
    | 0, 3, hb => (cases hb; exact exm_of ed3 eh3 ee3 em0_3)
    | 1, 0, hb => (cases hb; exact exm_of ed0 eh0 ee0 em1_0)
    | 1, 1, hb => (cases hb; exact exm_of ed1 eh1 ee1 em1_1)
    | 1, 2, hb => (cases hb; exact exm_of ed2 eh2 ee2 em1_2)
    | 1, 3, hb => (cases hb; exact exm_of ed3 eh3 ee3 em1_3)
    | 2, 0, hb => (cases hb; exact exm_of ed0 eh0 ee0 em2_0)
    | 2, 1, hb => (cases hb; exact exm_of ed1 eh1 ee1 em2_1)
    | 2, 2, hb => (cases hb; exact exm_of ed2 eh2 ee2 em2_2)
    | 2, 3, hb => (cases hb; exact exm_of ed3 eh3 ee3 em2_3)
    | 3, 0, hb => (cases hb; exact exm_of ed0 eh0 ee0 em3_0)
    | 3, 1, hb => (cases hb; exact exm_of ed1 eh1 ee1 em3_1)
    | 3, 2, hb => (cases hb; exact exm_of ed2 eh2 ee2 em3_2)
    | 3, 3, hb => (cases hb; exact exm_of ed3 eh3 ee3 em3_3)
    | 0, _ + 4, hb => cases hb
    | 1, _ + 4, hb => cases hb
    | 2, _ + 4, hb => cases hb
    | 3, _ + 4, hb => cases hb
    | _ + 4, _, hb => cases hb
  · intro r hr
    simp only [rows, List.mem_cons, List.mem_nil_iff, or_false] at hr
    rcases hr with rfl | rfl | rfl | rfl | rfl | rfl | rfl | rfl | rfl | rfl | rfl | rfl | rfl | rfl | rfl | rfl | rfl | rfl | rfl | rfl | rfl | rfl | rfl | rfl | rfl | rfl | rfl | rfl
    · exact ⟨_, _, fn_mk X G a0 l0 c0 k0 fun _ _ _ _ _ _ us hl => match us, hl with | [_, _, _], _ => rfl⟩
    · exact ⟨_, _, fn_mk X G a1 l1 c1 k1 fun _ _ _ _ _ _ us hl => match us, hl with | [_, _], _ => rfl⟩
    · exact ⟨_, _, fn_mk X G a2 l2 c2 k2 fun _ _ _ _ _ _ us hl => match us, hl with | [_, _], _ => rfl⟩
    · exact ⟨_, _, fn_mk X G a3 l3 c3 k3 fun _ _ _ _ _ _ us hl => match us, hl with | [_, _], _ => rfl⟩
    · exact ⟨_, _, fn_mk X G a4 l4 c4 k4 fun _ _ _ _ _ _ us hl => match us, hl with | [_, _], _ => rfl⟩
    · exact ⟨_, _, fn_mk X G a5 l5 c5 k5 fun _ _ _ _ _ _ us hl => match us, hl with | [_], _ => rfl⟩
    · exact ⟨_, _, fn_mk X G a6 l6 c6 k6 fun _ _ _ _ _ _ us hl => match us, hl with | [_], _ => rfl⟩
    · exact ⟨_, _, fn_mk X G a7 l7 c7 k7 fun _ _ _ _ _ _ us hl => match us, hl with | [_, _], _ => rfl⟩
    · exact ⟨_, _, fn_mk X G a8 l8 c8 k8 fun _ _ _ _ _ _ us hl => match us, hl with | [_, _, _], _ => rfl⟩
    · exact ⟨_, _, fn_mk X G a9 l9 c9 k9 fun _ _ _ _ _ _ us hl => match us, hl with | [_, _, _], _ => rfl⟩
    · exact ⟨_, _, fn_mk X G a10 l10 c10 k10 fun _ _ _ _ _ _ us hl => match us, hl with | [_, _, _], _ => rfl⟩
    · exact ⟨_, _, fn_mk X G a11 l11 c11 k11 fun _ _ _ _ _ _ us hl => match us, hl with | [_, _, _], _ => rfl⟩
    · exact ⟨_, _, fn_mk X G a12 l12 c12 k12 fun _ _ _ _ _ _ us hl => match us, hl with | [_, _, _], _ => rfl⟩
    · exact ⟨_, _, fn_mk X G a13 l13 c13 k13 fun _ _ _ _ _ _ us hl => match us, hl with | [_, _, _], _ => rfl⟩
    · exact ⟨_, _, fn_mk X G a14 l14 c14 k14 fun _ _ _ _ _ _ us hl => match us, hl with | [_, _], _ => rfl⟩
    · exact ⟨_, _, fn_mk X G a15 l15 c15 k15 fun _ _ _ _ _ _ us hl => match us, hl with | [_], _ => rfl⟩
    · exact ⟨_, _, fn_mk X G a16 l16 c16 k16 fun _ _ _ _ _ _ us hl => match us, hl with | [_, _], _ => rfl⟩
    · exact ⟨_, _, fn_mk X G a17 l17 c17 k17 fun _ _ _ _ _ _ us hl => match us, hl with | [_, _], _ => rfl⟩
    · exact ⟨_, _, fn_mk X G a18 l18 c18 k18 fun _ _ _ _ _ _ us hl => match us, hl with | [_, _], _ => rfl⟩
    · exact ⟨_, _, fn_mk X G a19 l19 c19 k19 fun _ _ _ _ _ _ us hl => match us, hl with | [_, _], _ => rfl⟩
    · exact ⟨_, _, fn_mk X G a20 l20 c20 k20 fun _ _ _ _ _ _ us hl => match us, hl with | [_, _], _ => rfl⟩
    · exact ⟨_, _, fn_mk X G a21 l21 c21 k21 fun _ _ _ _ _ _ us hl => match us, hl with | [_], _ => rfl⟩
    · exact ⟨_, _, fn_mk X G a22 l22 c22 k22 fun _ _ _ _ _ _ us hl => match us, hl with | [_, _, _], _ => rfl⟩
    · exact ⟨_, _, fn_mk X G a23 l23 c23 k23 fun _ _ _ _ _ _ us hl => match us, hl with | [_, _], _ => rfl⟩
    · exact ⟨_, _, fn_mk X G a24 l24 c24 k24 fun _ _ _ _ _ _ us hl => match us, hl with | [_, _, _], _ => rfl⟩
    · exact ⟨_, _, fn_mk X G a25 l25 c25 k25 fun _ _ _ _ _ _ us hl => match us, hl with | [_, _, _, _], _ => rfl⟩
    · exact ⟨_, _, fn_mk X G a26 l26 c26 k26 fun _ _ _ _ _ _ us hl => match us, hl with | [_, _, _], _ => rfl⟩
    · exact ⟨_, _, fn_mk X G a27 l27 c27 k27 fun _ _ _ _ _ _ us hl => match us, hl with | [_], _ => rfl⟩
end
theorem law_mk {P : Program} {w : World} {K : PySem.W.Frag} {h : Heap} {mg : Str → Option Value} {fa : Addr} {f0 : Addr} {od0 an0 : Option Addr} {sl0 : Array (Option Value)} {oc0 kV0 dc0 pm0 cd0 ct0 : Value} {f1 : Addr} {od1 an1 : Option Addr} {sl1 : Array (Option Value)} {oc1 kV1 dc1 pm1 cd1 ct1 : Value} {f2 : Addr} {od2 an2 : Option Addr} {sl2 : Array (Option Value)} {oc2 kV2 dc2 pm2 cd2 ct2 : Value} {f3 : Addr} {od3 an3 : Option Addr} {sl3 : Array (Option Value)} {oc3 kV3 dc3 pm3 cd3 ct3 : Value} {f4 : Addr} {od4 an4 : Option Addr} {sl4 : Array (Option Value)} {oc4 kV4 dc4 pm4 cd4 ct4 : Value} {f5 : Addr} {od5 an5 : Option Addr} {sl5 : Array (Option Value)} {oc5 kV5 dc5 pm5 cd5 ct5 : Value} {f6 : Addr} {od6 an6 : Option Addr} {sl6 : Array (Option Value)} {oc6 kV6 dc6 pm6 cd6 ct6 : Value} {f7 : Addr} {od7 an7 : Option Addr} {sl7 : Array (Option Value)} {oc7 kV7 dc7 pm7 cd7 ct7 : Value} {f8 : Addr} {od8 an8 : Option Addr} {sl8 : Array (Option Value)} {oc8 kV8 dc8 pm8 cd8 ct8 : Value} {f9 : Addr} {od9 an9 : Option Addr} {sl9 : Array (Option Value)} {oc9 kV9 dc9 pm9 cd9 ct9 : Value} {f10 : Addr} {od10 an10 : Option Addr} {sl10 : Array (Option Value)} {oc10 kV10 dc10 pm10 cd10 ct10 : Value} {f11 : Addr} {od11 an11 : Option Addr} {sl11 : Array (Option Value)} {oc11 kV11 dc11 pm11 cd11 ct11 : Value} {f12 : Addr} {od12 an12 : Option Addr} {sl12 : Array (Option Value)} {oc12 kV12 dc12 pm12 cd12 ct12 : Value} {f13 : Addr} {od13 an13 : Option Addr} {sl13 : Array (Option Value)} {oc13 kV13 dc13 pm13 cd13 ct13 : Value} {f14 : Addr} {od14 an14 : Option Addr} {sl14 : Array (Option Value)} {oc14 kV14 dc14 pm14 cd14 ct14 : Value} {f15 : Addr} {od15 an15 : Option Addr} {sl15 : Array (Option Value)} {oc15 kV15 dc15 pm15 cd15 ct15 : Value} {f16 : Addr} {od16 an16 : Option Addr} {sl16 : Array (Option Value)} {oc16 kV16 dc16 pm16 cd16 ct16 : Value} {f17 : Addr} {od17 an17 : Option Addr} {sl17 : Array (Option Value)} {oc17 kV17 dc17 pm17 cd17 ct17 : Value} {f18 : Addr} {od18 an18 : Option Addr} {sl18 : Array (Option Value)} {oc18 kV18 dc18 pm18 cd18 ct18 : Value} {f19 : Addr} {od19 an19 : Option Addr} {sl19 : Array (Option Value)} {oc19 kV19 dc19 pm19 cd19 ct19 : Value} {f20 : Addr} {od20 an20 : Option Addr} {sl20 : Array (Option Value)} {oc20 kV20 dc20 pm20 cd20 ct20 : Value} {f21 : Addr} {od21 an21 : Option Addr} {sl21 : Array (Option Value)} {oc21 kV21 dc21 pm21 cd21 ct21 : Value} {f22 : Addr} {od22 an22 : Option Addr} {sl22 : Array (Option Value)} {oc22 kV22 dc22 pm22 cd22 ct22 : Value} {f23 : Addr} {od23 an23 : Option Addr} {sl23 : Array (Option Value)} {oc23 kV23 dc23 pm23 cd23 ct23 : Value} {f24 : Addr} {od24 an24 : Option Addr} {sl24 : Array (Option Value)} {oc24 kV24 dc24 pm24 cd24 ct24 : Value} {f25 : Addr} {od25 an25 : Option Addr} {sl25 : Array (Option Value)} {oc25 kV25 dc25 pm25 cd25 ct25 : Value} {f26 : Addr} {od26 an26 : Option Addr} {sl26 : Array (Option Value)} {oc26 kV26 dc26 pm26 cd26 ct26 : Value} {f27 : Addr} {od27 an27 : Option Addr} {sl27 : Array (Option Value)} {oc27 kV27 dc27 pm27 cd27 ct27 : Value} {e0 : Addr} {e1 : Addr} {e2 : Addr} {e3 : Addr} {tk0 : Tok} {tk1 : Tok} {tk2 : Tok} {tk3 : Tok} {tk4 : Tok} {tk5 : Tok} (X : K.In h) (G : h.Ns mainGlobals mg) (hfa : mg "law" = some (.ref fa))
        (a0 : PySem.W.nsIn K mainGlobals r_0.x = some (some (.ref f0))) (l0 : K.lookup f0 = some ⟨oc0, od0, .func (PySem.W.fnOf r_0.x r_0.x (defArgs r_0.st) (defBody r_0.st) (defScope r_0.st) .none kV0 dc0 pm0 an0 cd0 ct0), sl0⟩) (c0 : PySem.W.codeIn K cd0 r_0.x = true) (k0 : PySem.W.keepIn K (.ref f0) = true)
    (a1 : PySem.W.nsIn K mainGlobals r_1.x = some (some (.ref f1))) (l1 : K.lookup f1 = some ⟨oc1, od1, .func (PySem.W.fnOf r_1.x r_1.x (defArgs r_1.st) (defBody r_1.st) (defScope r_1.st) .none kV1 dc1 pm1 an1 cd1 ct1), sl1⟩) (c1 : PySem.W.codeIn K cd1 r_1.x = true) (k1 : PySem.W.keepIn K (.ref f1) = true)
    (a2 : PySem.W.nsIn K mainGlobals r_2.x = some (some (.ref f2))) (l2 : K.lookup f2 = some ⟨oc2, od2, .func (PySem.W.fnOf r_2.x r_2.x (defArgs r_2.st) (defBody r_2.st) (defScope r_2.st) .none kV2 dc2 pm2 an2 cd2 ct2), sl2⟩) (c2 : PySem.W.codeIn K cd2 r_2.x = true) (k2 : PySem.W.keepIn K (.ref f2) = true)
    (a3 : PySem.W.nsIn K mainGlobals r_3.x = some (some (.ref f3))) (l3 : K.lookup f3 = some ⟨oc3, od3, .func (PySem.W.fnOf r_3.x r_3.x (defArgs r_3.st) (defBody r_3.st) (defScope r_3.st) .none kV3 dc3 pm3 an3 cd3 ct3), sl3⟩) (c3 : PySem.W.codeIn K cd3 r_3.x = true) (k3 : PySem.W.keepIn K (.ref f3) = true)
    (a4 : PySem.W.nsIn K mainGlobals r_4.x = some (some (.ref f4))) (l4 : K.lookup f4 = some ⟨oc4, od4, .func (PySem.W.fnOf r_4.x r_4.x (defArgs r_4.st) (defBody r_4.st) (defScope r_4.st) .none kV4 dc4 pm4 an4 cd4 ct4), sl4⟩) (c4 : PySem.W.codeIn K cd4 r_4.x = true) (k4 : PySem.W.keepIn K (.ref f4) = true)
    (a5 : PySem.W.nsIn K mainGlobals r_5.x = some (some (.ref f5))) (l5 : K.lookup f5 = some ⟨oc5, od5, .func (PySem.W.fnOf r_5.x r_5.x (defArgs r_5.st) (defBody r_5.st) (defScope r_5.st) .none kV5 dc5 pm5 an5 cd5 ct5), sl5⟩) (c5 : PySem.W.codeIn K cd5 r_5.x = true) (k5 : PySem.W.keepIn K (.ref f5) = true)
    (a6 : PySem.W.nsIn K mainGlobals r_6.x = some (some (.ref f6))) (l6 : K.lookup f6 = some ⟨oc6, od6, .func (PySem.W.fnOf r_6.x r_6.x (defArgs r_6.st) (defBody r_6.st) (defScope r_6.st) .none kV6 dc6 pm6 an6 cd6 ct6), sl6⟩) (c6 : PySem.W.codeIn K cd6 r_6.x = true) (k6 : PySem.W.keepIn K (.ref f6) = true)
    (a7 : PySem.W.nsIn K mainGlobals r_7.x = some (some (.ref f7))) (l7 : K.lookup f7 = some ⟨oc7, od7, .func (PySem.W.fnOf r_7.x r_7.x (defArgs r_7.st) (defBody r_7.st) (defScope r_7.st) .none kV7 dc7 pm7 an7 cd7 ct7), sl7⟩) (c7 : PySem.W.codeIn K cd7 r_7.x = true) (k7 : PySem.W.keepIn K (.ref f7) = true)
    (a8 : PySem.W.nsIn K mainGlobals r_8.x = some (some (.ref f8))) (l8 : K.lookup f8 = some ⟨oc8, od8, .func (PySem.W.fnOf r_8.x r_8.x (defArgs r_8.st) (defBody r_8.st) (defScope r_8.st) .none kV8 dc8 pm8 an8 cd8 ct8), sl8⟩) (c8 : PySem.W.codeIn K cd8 r_8.x = true) (k8 : PySem.W.keepIn K (.ref f8) = true)
    (a9 : PySem.W.nsIn K mainGlobals r_9.x = some (some (.ref f9))) (l9 : K.lookup f9 = some ⟨oc9, od9, .func (PySem.W.fnOf r_9.x r_9.x (defArgs r_9.st) (defBody r_9.st) (defScope r_9.st) .none kV9 dc9 pm9 an9 cd9 ct9), sl9⟩) (c9 : PySem.W.codeIn K cd9 r_9.x = true) (k9 : PySem.W.keepIn K (.ref f9) = true)
    (a10 : PySem.W.nsIn K mainGlobals r_10.x = some (some (.ref f10))) (l10 : K.lookup f10 = some ⟨oc10, od10, .func (PySem.W.fnOf r_10.x r_10.x (defArgs r_10.st) (defBody r_10.st) (defScope r_10.st) .none kV10 dc10 pm10 an10 cd10 ct10), sl10⟩) (c10 : PySem.W.codeIn K cd10 r_10.x = true) (k10 : PySem.W.keepIn K (.ref f10) = true)
    (a11 : PySem.W.nsIn K mainGlobals r_11.x = some (some (.ref f11))) (l11 : K.lookup f11 = some ⟨oc11, od11, .func (PySem.W.fnOf r_11.x r_11.x (defArgs r_11.st) (defBody r_11.st) (defScope r_11.st) .none kV11 dc11 pm11 an11 cd11 ct11), sl11⟩) (c11 : PySem.W.codeIn K cd11 r_11.x = true) (k11 : PySem.W.keepIn K (.ref f11) = true)
    (a12 : PySem.W.nsIn K mainGlobals r_12.x = some (some (.ref f12))) (l12 : K.lookup f12 = some ⟨oc12, od12, .func (PySem.W.fnOf r_12.x r_12.x (defArgs r_12.st) (defBody r_12.st) (defScope r_12.st) .none kV12 dc12 pm12 an12 cd12 ct12), sl12⟩) (c12 : PySem.W.codeIn K cd12 r_12.x = true) (k12 : PySem.W.keepIn K (.ref f12) = true)
    (a13 : PySem.W.nsIn K mainGlobals r_13.x = some (some (.ref f13))) (l13 : K.lookup f13 = some ⟨oc13, od13, .func (PySem.W.fnOf r_13.x r_13.x (defArgs r_13.st) (defBody r_13.st) (defScope r_13.st) .none kV13 dc13 pm13 an13 cd13 ct13), sl13⟩) (c13 : PySem.W.codeIn K cd13 r_13.x = true) (k13 : PySem.W.keepIn K (.ref f13) = true)
    (a14 : PySem.W.nsIn K mainGlobals r_14.x = some (some (.ref f14))) (l14 : K.lookup f14 = some ⟨oc14, od14, .func (PySem.W.fnOf r_14.x r_14.x (defArgs r_14.st) (defBody r_14.st) (defScope r_14.st) .none kV14 dc14 pm14 an14 cd14 ct14), sl14⟩) (c14 : PySem.W.codeIn K cd14 r_14.x = true) (k14 : PySem.W.keepIn K (.ref f14) = true)
    (a15 : PySem.W.nsIn K mainGlobals r_15.x = some (some (.ref f15))) (l15 : K.lookup f15 = some ⟨oc15, od15, .func (PySem.W.fnOf r_15.x r_15.x (defArgs r_15.st) (defBody r_15.st) (defScope r_15.st) .none kV15 dc15 pm15 an15 cd15 ct15), sl15⟩) (c15 : PySem.W.codeIn K cd15 r_15.x = true) (k15 : PySem.W.keepIn K (.ref f15) = true)
    (a16 : PySem.W.nsIn K mainGlobals r_16.x = some (some (.ref f16))) (l16 : K.lookup f16 = some ⟨oc16, od16, .func (PySem.W.fnOf r_16.x r_16.x (defArgs r_16.st) (defBody r_16.st) (defScope r_16.st) .none kV16 dc16 pm16 an16 cd16 ct16), sl16⟩) (c16 : PySem.W.codeIn K cd16 r_16.x = true) (k16 : PySem.W.keepIn K (.ref f16) = true)
    (a17 : PySem.W.nsIn K mainGlobals r_17.x = some (some (.ref f17))) (l17 : K.lookup f17 = some ⟨oc17, od17, .func (PySem.W.fnOf r_17.x r_17.x (defArgs r_17.st) (defBody r_17.st) (defScope r_17.st) .none kV17 dc17 pm17 an17 cd17 ct17), sl17⟩) (c17 : PySem.W.codeIn K cd17 r_17.x = true) (k17 : PySem.W.keepIn K (.ref f17) = true)
    (a18 : PySem.W.nsIn K mainGlobals r_18.x = some (some (.ref f18))) (l18 : K.lookup f18 = some ⟨oc18, od18, .func (PySem.W.fnOf r_18.x r_18.x (defArgs r_18.st) (defBody r_18.st) (defScope r_18.st) .none kV18 dc18 pm18 an18 cd18 ct18), sl18⟩) (c18 : PySem.W.codeIn K cd18 r_18.x = true) (k18 : PySem.W.keepIn K (.ref f18) = true)
    (a19 : PySem.W.nsIn K mainGlobals r_19.x = some (some (.ref f19))) (l19 : K.lookup f19 = some ⟨oc19, od19, .func (PySem.W.fnOf r_19.x r_19.x (defArgs r_19.st) (defBody r_19.st) (defScope r_19.st) .none kV19 dc19 pm19 an19 cd19 ct19), sl19⟩) (c19 : PySem.W.codeIn K cd19 r_19.x = true) (k19 : PySem.W.keepIn K (.ref f19) = true)
    (a20 : PySem.W.nsIn K mainGlobals r_20.x = some (some (.ref f20))) (l20 : K.lookup f20 = some ⟨oc20, od20, .func (PySem.W.fnOf r_20.x r_20.x (defArgs r_20.st) (defBody r_20.st) (defScope r_20.st) .none kV20 dc20 pm20 an20 cd20 ct20), sl20⟩) (c20 : PySem.W.codeIn K cd20 r_20.x = true) (k20 : PySem.W.keepIn K (.ref f20) = true)
    (a21 : PySem.W.nsIn K mainGlobals r_21.x = some (some (.ref f21))) (l21 : K.lookup f21 = some ⟨oc21, od21, .func (PySem.W.fnOf r_21.x r_21.x (defArgs r_21.st) (defBody r_21.st) (defScope r_21.st) .none kV21 dc21 pm21 an21 cd21 ct21), sl21⟩) (c21 : PySem.W.codeIn K cd21 r_21.x = true) (k21 : PySem.W.keepIn K (.ref f21) = true)
    (a22 : PySem.W.nsIn K mainGlobals r_22.x = some (some (.ref f22))) (l22 : K.lookup f22 = some ⟨oc22, od22, .func (PySem.W.fnOf r_22.x r_22.x (defArgs r_22.st) (defBody r_22.st) (defScope r_22.st) .none kV22 dc22 pm22 an22 cd22 ct22), sl22⟩) (c22 : PySem.W.codeIn K cd22 r_22.x = true) (k22 : PySem.W.keepIn K (.ref f22) = true)
    (a23 : PySem.W.nsIn K mainGlobals r_23.x = some (some (.ref f23))) (l23 : K.lookup f23 = some ⟨oc23, od23, .func (PySem.W.fnOf r_23.x r_23.x (defArgs r_23.st) (defBody r_23.st) (defScope r_23.st) .none kV23 dc23 pm23 an23 cd23 ct23), sl23⟩) (c23 : PySem.W.codeIn K cd23 r_23.x = true) (k23 : PySem.W.keepIn K (.ref f23) = true)
    (a24 : PySem.W.nsIn K mainGlobals r_24.x = some (some (.ref f24))) (l24 : K.lookup f24 = some ⟨oc24, od24, .func (PySem.W.fnOf r_24.x r_24.x (defArgs r_24.st) (defBody r_24.st) (defScope r_24.st) .none kV24 dc24 pm24 an24 cd24 ct24), sl24⟩) (c24 : PySem.W.codeIn K cd24 r_24.x = true) (k24 : PySem.W.keepIn K (.ref f24) = true)
    (a25 : PySem.W.nsIn K mainGlobals r_25.x = some (some (.ref f25))) (l25 : K.lookup f25 = some ⟨oc25, od25, .func (PySem.W.fnOf r_25.x r_25.x (defArgs r_25.st) (defBody r_25.st) (defScope r_25.st) .none kV25 dc25 pm25 an25 cd25 ct25), sl25⟩) (c25 : PySem.W.codeIn K cd25 r_25.x = true) (k25 : PySem.W.keepIn K (.ref f25) = true)
    (a26 : PySem.W.nsIn K mainGlobals r_26.x = some (some (.ref f26))) (l26 : K.lookup f26 = some ⟨oc26, od26, .func (PySem.W.fnOf r_26.x r_26.x (defArgs r_26.st) (defBody r_26.st) (defScope r_26.st) .none kV26 dc26 pm26 an26 cd26 ct26), sl26⟩) (c26 : PySem.W.codeIn K cd26 r_26.x = true) (k26 : PySem.W.keepIn K (.ref f26) = true)
    (a27 : PySem.W.nsIn K mainGlobals r_27.x = some (some (.ref f27))) (l27 : K.lookup f27 = some ⟨oc27, od27, .func (PySem.W.fnOf r_27.x r_27.x (defArgs r_27.st) (defBody r_27.st) (defScope r_27.st) .none kV27 dc27 pm27 an27 cd27 ct27), sl27⟩) (c27 : PySem.W.codeIn K cd27 r_27.x = true) (k27 : PySem.W.keepIn K (.ref f27) = true)
        (ea0 : PySem.W.nsIn K mainGlobals "BadChange" = some (some (.ref e0))) (eb0 : PySem.W.excIn K e0 [.type "ValueError", .type "Exception", .type "BaseException", .type "object"] "ValueError.__new__" = true) (ec0 : PySem.W.keepIn K (.ref e0) = true) (ed0 : PySem.W.subIn K (.ref e0) (.type "BaseException") = some true) (ee0 : PySem.W.typeIn K (.ref e0) = some (.type "type")) (eh0 : PySem.W.isClsIn K e0 = true)
    (ea1 : PySem.W.nsIn K mainGlobals "BadMethod" = some (some (.ref e1))) (eb1 : PySem.W.excIn K e1 [.type "ValueError", .type "Exception", .type "BaseException", .type "object"] "ValueError.__new__" = true) (ec1 : PySem.W.keepIn K (.ref e1) = true) (ed1 : PySem.W.subIn K (.ref e1) (.type "BaseException") = some true) (ee1 : PySem.W.typeIn K (.ref e1) = some (.type "type")) (eh1 : PySem.W.isClsIn K e1 = true)
    (ea2 : PySem.W.nsIn K mainGlobals "BadArgument" = some (some (.ref e2))) (eb2 : PySem.W.excIn K e2 [.type "ValueError", .type "Exception", .type "BaseException", .type "object"] "ValueError.__new__" = true) (ec2 : PySem.W.keepIn K (.ref e2) = true) (ed2 : PySem.W.subIn K (.ref e2) (.type "BaseException") = some true) (ee2 : PySem.W.typeIn K (.ref e2) = some (.type "type")) (eh2 : PySem.W.isClsIn K e2 = true)
    (ea3 : PySem.W.nsIn K mainGlobals "BadTouch" = some (some (.ref e3))) (eb3 : PySem.W.excIn K e3 [.type "ValueError", .type "Exception", .type "BaseException", .type "object"] "ValueError.__new__" = true) (ec3 : PySem.W.keepIn K (.ref e3) = true) (ed3 : PySem.W.subIn K (.ref e3) (.type "BaseException") = some true) (ee3 : PySem.W.typeIn K (.ref e3) = some (.type "type")) (eh3 : PySem.W.isClsIn K e3 = true)
    (em0_0 : PySem.W.subIn K (.ref e0) (.ref e0) = some true)
    (em0_1 : PySem.W.subIn K (.ref e0) (.ref e1) = some false)
    (em0_2 : PySem.W.subIn K (.ref e0) (.ref e2) = some false)
    (em0_3 : PySem.W.subIn K (.ref e0) (.ref e3) = some false)
    (em1_0 : PySem.W.subIn K (.ref e1) (.ref e0) = some false)
    (em1_1 : PySem.W.subIn K (.ref e1) (.ref e1) = some true)
    (em1_2 : PySem.W.subIn K (.ref e1) (.ref e2) = some false)
    (em1_3 : PySem.W.subIn K (.ref e1) (.ref e3) = some false)
    (em2_0 : PySem.W.subIn K (.ref e2) (.ref e0) = some false)
    (em2_1 : PySem.W.subIn K (.ref e2) (.ref e1) = some false)
    (em2_2 : PySem.W.subIn K (.ref e2) (.ref e2) = some true)
    (em2_3 : PySem.W.subIn K (.ref e2) (.ref e3) = some false)
    (em3_0 : PySem.W.subIn K (.ref e3) (.ref e0) = some false)
    (em3_1 : PySem.W.subIn K (.ref e3) (.ref e1) = some false)
    (em3_2 : PySem.W.subIn K (.ref e3) (.ref e2) = some false)
    (em3_3 : PySem.W.subIn K (.ref e3) (.ref e3) = some true)
    (g0 : PySem.W.nsIn K mainGlobals "MOST_BELLS" = some (some (.int 12 tk0)))
    (g1 : PySem.W.nsIn K mainGlobals "LEAST_BELLS" = some (some (.int 3 tk1)))
    (g2 : PySem.W.nsIn K mainGlobals "MOST_CHANGES" = some (some (.int 400 tk2)))
    (g3 : PySem.W.nsIn K mainGlobals "MOST_METHODS" = some (some (.int 8 tk3)))
    (g4 : PySem.W.nsIn K mainGlobals "MOST_CALLS" = some (some (.int 8 tk4)))
    (g5 : PySem.W.nsIn K mainGlobals "MOST_PLAN" = some (some (.int 120 tk5)))
    (z0 : PySem.W.nsIn K mainGlobals "len" = some none) (z1 : PySem.W.nsIn K mainGlobals "abs" = some none) (z2 : PySem.W.nsIn K mainGlobals "min" = some none) (z3 : PySem.W.nsIn K mainGlobals "max" = some none) (z4 : PySem.W.nsIn K mainGlobals "list" = some none) (z5 : PySem.W.nsIn K mainGlobals "tuple" = some none) (z6 : PySem.W.nsIn K mainGlobals "int" = some none) (z7 : PySem.W.nsIn K mainGlobals "isinstance" = some none) (z8 : PySem.W.nsIn K mainGlobals "bool" = some none) (z9 : PySem.W.nsIn K mainGlobals "str" = some none) (z10 : PySem.W.nsIn K mainGlobals "dict" = some none) (z11 : PySem.W.nsIn K mainGlobals "range" = some none) (z12 : PySem.W.nsIn K mainGlobals "sorted" = some none) (z13 : PySem.W.nsIn K mainGlobals "sum" = some none) (z14 : PySem.W.nsIn K mainGlobals "set" = some none) (z15 : PySem.W.nsIn K mainGlobals "reversed" = some none) :
    ∃ fd : FuncData, (∀ (s : Shared) (v : Value), BindsTo s fd ⟨[v], []⟩ [("script", v)]) ∧ ∀ base : Heap, K.In base → base.Ns mainGlobals mg → FnOk P w K mg base (L2.CX P w) 40 fa fd ["script"] (spF K (clsOf [e0, e1, e2, e3]) (run (pgOf rows) sub 40 27)) := by
  have e := hfa.symm.trans (PySem.W.mg_of X G a27)
  cases e
  have T := all_mk X G a0 l0 c0 k0 a1 l1 c1 k1 a2 l2 c2 k2 a3 l3 c3 k3 a4 l4 c4 k4 a5 l5 c5 k5 a6 l6 c6 k6 a7 l7 c7 k7 a8 l8 c8 k8 a9 l9 c9 k9 a10 l10 c10 k10 a11 l11 c11 k11 a12 l12 c12 k12 a13 l13 c13 k13 a14 l14 c14 k14 a15 l15 c15 k15 a16 l16 c16 k16 a17 l17 c17 k17 a18 l18 c18 k18 a19 l19 c19 k19 a20 l20 c20 k20 a21 l21 c21 k21 a22 l22 c22 k22 a23 l23 c23 k23 a24 l24 c24 k24 a25 l25 c25 k25 a26 l26 c26 k26 a27 l27 c27 k27 ea0 eb0 ec0 ed0 ee0 eh0 ea1 eb1 ec1 ed1 ee1 eh1 ea2 eb2 ec2 ed2 ee2 eh2 ea3 eb3 ec3 ed3 ee3 eh3 em0_0 em0_1 em0_2 em0_3 em1_0 em1_1 em1_2 em1_3 em2_0 em2_1 em2_2 em2_3 em3_0 em3_1 em3_2 em3_3 g0 g1 g2 g3 g4 g5 z0 z1 z2 z3 z4 z5 z6 z7 z8 z9 z10 z11 z12 z13 z14 z15
  have F : Fns K mg r_27 fa _ := fn_mk X G a27 l27 c27 k27 fun _ _ _ _ _ _ us hl => match us, hl with | [_], _ => rfl
  exact ⟨_, fun s v => .of_eq rfl, fun base _ _ => all_ok rfl (fun r hr => List.all_eq_true.mp rows_ok r hr) T.w T.f 40 27 r_27 fa _ rfl F⟩
theorem probe {K : PySem.W.Frag} {x : Str} {a : Addr} {P : Prop} {hp : Heap} (X : K.In hp) (h : PySem.W.nsIn K mainGlobals x = some (some (.ref a))) (f : a = a → P) : P := f rfl

end Lk68

set_option maxHeartbeats 4000000
namespace Lk68
open PySem Q1
noncomputable abbrev R (k : Nat) := run (pgOf rows) sub k
abbrev dMs (n : Int) (ms : List (List (List Int))) : D := .list (ms.map (dM n))
abbrev dE (e : Int × Int) : D := .tuple [.int e.1, .int e.2]
abbrev dP (p : List (Int × Int)) : D := .list (p.map dE)
structure VMs (n : Int) (ms : List (List (List Int))) : Prop where
  l1 : 1 ≤ ms.length
  l2 : ms.length ≤ 8
  vm : ∀ l ∈ ms, ValidM n l
structure VC (n : Int) (cs : List (List Int)) : Prop where
  l2 : cs.length ≤ 8
  vc : ∀ c ∈ cs, ValidC n c
structure VP (p : List (Int × Int)) (a b : Nat) : Prop where
  l1 : 1 ≤ p.length
  l2 : p.length ≤ 120
  ve : ∀ e ∈ p, (0 ≤ e.1 ∧ e.1 < a) ∧ (-1 ≤ e.2 ∧ e.2 < b)
theorem e_6_1 {k : Nat} {n : Int} {ms : List (List (List Int))} (hv : VMs n ms) : evX ⟨run (pgOf rows) sub (k + 3), sub⟩ c_6_1 [some (.p (dMs n ms)), none] = .ok (.ol []) [some (.p (dMs n ms)), none] := by
  unfold c_6_1
  exact ev_compN ms (dM n) (by simp) (by simp [plainAt]) fun l hl => ⟨_, by simp [run_is_method pg_0 pg_1 pg_5 (hv.vm l hl)]; rfl, by simp⟩
theorem at_first {n : Int} {ms : List (List (List Int))} (h : 1 ≤ ms.length) : ∃ l, L2.atI (ms.map (dM n)) 0 = some (dM n l) := by
  cases ms with
  | nil => simp at h
  | cons l ms => exact ⟨l, by rw [atI_nat (by decide)]; rfl⟩
theorem e_6_2 {C : PC} {n : Int} {ms : List (List (List Int))} (hv : VMs n ms) : evX C c_6_2 [some (.p (dMs n ms)), none] = .ok (.ol []) [some (.p (dMs n ms)), none] := by
  unfold c_6_2
  obtain ⟨l0, h0⟩ := at_first (n := n) hv.l1
  exact ev_compN ms (dM n) (by simp) (by simp [plainAt]) fun l hl => ⟨_, by simp [h0, atI_nat]; rfl, by simp⟩
theorem f_6 {k : Nat} {n : Int} {ms : List (List (List Int))} (hv : VMs n ms) : R (k + 4) 6 [.p (dMs n ms)] = .ok (.p .none) [some (.p (dMs n ms))] := by
  show run _ _ (k + 4) 6 _ = _
  rw [run_succ pg_6 rfl]
  have h1 := hv.l1
  have h2 := hv.l2
  have h5 : (1 : Int) ≤ ms.length := by omega
  have h6 : (ms.length : Int) ≤ 8 := by omega
  simp [b_6, e_6_1 hv, e_6_2 hv, h5, h6]
theorem f_7 {k : Nat} {n : Int} {cs : List (List Int)} (hv : VC n cs) : R (k + 4) 7 [.p (.int n), .p (dL cs)] = .ok (.p .none) [some (.p (.int n)), some (.p (dL cs))] := by
  show run _ _ (k + 4) 7 _ = _
  rw [run_succ pg_7 rfl]
  have key := forL_fold (body := loopT [] (.name 2) (evSs ⟨run (pgOf rows) sub (k + 3), sub⟩ [] b_7_1)) dC (fun _ : Unit => [some (.p (.int n)), some (.p (dL cs)), none]) (fun _ => True) (fun _ _ => ()) cs () trivial fun c hc _ _ => by
    refine ⟨?_, trivial⟩
    simp [loopT, b_7_1, run_check_change pg_0 pg_1 pg_2 (hv.vc c hc)]
  have h2 := hv.l2
  have h6 : ¬ (8 : Int) < cs.length := by omega
  simp [b_7, key.1, h6]
theorem f_8 {k : Nat} {e : Int × Int} {a b : Nat} (h : (0 ≤ e.1 ∧ e.1 < a) ∧ (-1 ≤ e.2 ∧ e.2 < b)) : R (k + 2) 8 [.p (dE e), .p (.int a), .p (.int b)] = .ok (.p (.bool true)) [some (.p (dE e)), some (.p (.int a)), some (.p (.int b))] := by
  show run _ _ (k + 2) 8 _ = _
  rw [run_succ pg_8 rfl]
  obtain ⟨⟨h1, h2⟩, h3, h4⟩ := h
  have h2' : e.1 ≤ a - 1 := by omega
  have h4' : e.2 ≤ b - 1 := by omega
  simp [b_8, atI_nat, run_number pg_0, h1, h2', h3, h4']
theorem e_9_1 {k : Nat} {p : List (Int × Int)} {a b : Nat} (hv : VP p a b) : evX ⟨run (pgOf rows) sub (k + 2), sub⟩ c_9_1 [some (.p (dP p)), some (.p (.int a)), some (.p (.int b)), none] = .ok (.ol []) [some (.p (dP p)), some (.p (.int a)), some (.p (.int b)), none] := by
  unfold c_9_1
  exact ev_compN p dE (by simp) (by simp [plainAt]) fun e he => ⟨_, by simp [f_8 (hv.ve e he)]; rfl, by simp⟩
theorem f_9 {k : Nat} {p : List (Int × Int)} {a b : Nat} (hv : VP p a b) : R (k + 3) 9 [.p (dP p), .p (.int a), .p (.int b)] = .ok (.p .none) [some (.p (dP p)), some (.p (.int a)), some (.p (.int b))] := by
  show run _ _ (k + 3) 9 _ = _
  rw [run_succ pg_9 rfl]
  have h1 := hv.l1
  have h2 := hv.l2
  have h5 : (1 : Int) ≤ p.length := by omega
  have h6 : (p.length : Int) ≤ 120 := by omega
  simp [b_9, e_9_1 hv, h5, h6]
theorem f_10 {k : Nat} {n : Int} {ms : List (List (List Int))} {cs : List (List Int)} {p : List (Int × Int)} (hm : VMs n ms) (hc : VC n cs) (hp : VP p ms.length cs.length) : R (k + 5) 10 [.p (dMs n ms), .p (dL cs), .p (dP p)] = .ok (.p .none) [some (.p (dMs n ms)), some (.p (dL cs)), some (.p (dP p))] := by
  show run _ _ (k + 5) 10 _ = _
  rw [run_succ pg_10 rfl]
  obtain ⟨l0, h0⟩ := at_first (n := n) hm.l1
  simp [b_10, f_6 hm, f_7 hc, f_9 hp, h0, atI_nat]
def leadBy (ms : List (List (List Int))) (cs : List (List Int)) (e : Int × Int) : List (List Int) :=
  if e.2 = -1 then ms[e.1.toNat]?.getD [] else (ms[e.1.toNat]?.getD []).dropLast ++ [cs[e.2.toNat]?.getD []]
theorem at_ms {n : Int} {ms : List (List (List Int))} {i : Int} (h : 0 ≤ i ∧ i < ms.length) : L2.atI (ms.map (dM n)) i = some (dM n (ms[i.toNat]?.getD [])) := by
  rw [atI_nat h.1, List.getElem?_map]
  have : i.toNat < ms.length := by omega
  simp [this]
theorem at_cs {cs : List (List Int)} {i : Int} (h : 0 ≤ i ∧ i < cs.length) : L2.atI (cs.map dC) i = some (dC (cs[i.toNat]?.getD [])) := by
  rw [atI_nat h.1, List.getElem?_map]
  have : i.toNat < cs.length := by omega
  simp [this]
theorem get_ms {n : Int} {ms : List (List (List Int))} (hm : VMs n ms) {i : Int} (h : 0 ≤ i ∧ i < ms.length) : ValidM n (ms[i.toNat]?.getD []) := by
  have : i.toNat < ms.length := by omega
  rw [List.getElem?_eq_getElem this]
  exact hm.vm _ (List.getElem_mem this)
theorem get_cs {n : Int} {cs : List (List Int)} (hm : VC n cs) {i : Int} (h : 0 ≤ i ∧ i < cs.length) : ValidC n (cs[i.toNat]?.getD []) := by
  have : i.toNat < cs.length := by omega
  rw [List.getElem?_eq_getElem this]
  exact hm.vc _ (List.getElem_mem this)
theorem leadBy_ok {n : Int} {ms : List (List (List Int))} {cs : List (List Int)} {e : Int × Int} (hm : VMs n ms) (hc : VC n cs) (h : (0 ≤ e.1 ∧ e.1 < ms.length) ∧ (-1 ≤ e.2 ∧ e.2 < cs.length)) : (leadBy ms cs e).length ≤ 400 ∧ ∀ c ∈ leadBy ms cs e, ValidC n c := by
  have hv := get_ms hm h.1
  unfold leadBy
  split
  · exact ⟨hv.l2, hv.cs⟩
  · have h1 := hv.l1
    have h2 := hv.l2
    refine ⟨by simp; omega, fun c hc' => ?_⟩
    rcases List.mem_append.mp hc' with q | q
    · exact hv.cs c ((List.dropLast_sublist _).mem q)
    · rw [List.mem_singleton.mp q]; exact get_cs hc (by omega)
theorem f_11 {k : Nat} {n : Int} {ms : List (List (List Int))} {cs : List (List Int)} {e : Int × Int} (hm : VMs n ms) (h : (0 ≤ e.1 ∧ e.1 < ms.length) ∧ (-1 ≤ e.2 ∧ e.2 < cs.length)) : R (k + 1) 11 [.p (dMs n ms), .p (dL cs), .p (dE e)] = .ok (.ol ((leadBy ms cs e).map dC)) [some (.p (dMs n ms)), some (.p (dL cs)), some (.p (dE e))] := by
  show run _ _ (k + 1) 11 _ = _
  rw [run_succ pg_11 rfl]
  have hv := get_ms hm h.1
  have h1 := hv.l1
  have h2 := hv.l2
  have a1 := at_ms (n := n) h.1
  unfold leadBy
  generalize ms[e.1.toNat]?.getD [] = l at hv h1 h2 a1
  by_cases q : e.2 = -1
  · simp [b_11, atI_nat, a1, q]
  · have a2 := at_cs (cs := cs) (i := e.2) (by omega)
    have w : l.length ≤ 16777216 := by omega
    have w2 : l.length - 1 < 16777216 := by omega
    simp [b_11, atI_nat, a1, a2, q, cutD_m1, w, w2]
def hds : List Int → List (List (List Int)) → List (List Int)
  | row, [] => [row]
  | row, l :: ls => row :: hds (ledR row l) ls
theorem hds_len : ∀ {ls : List (List (List Int))} {row : List Int}, (hds row ls).length = ls.length + 1
  | [], _ => rfl
  | l :: ls, row => by unfold hds; rw [List.length_cons, hds_len]; rfl
theorem rng1 {n : Int} (h0 : 0 ≤ n) : ups 1 n.toNat = (rnds n.toNat).map .int := ups_rnds
theorem f_12 {k : Nat} {n : Int} {ms : List (List (List Int))} {cs : List (List Int)} {p : List (Int × Int)} (hm : VMs n ms) (hc : VC n cs) (hp : VP p ms.length cs.length) : R (k + 4) 12 [.p (dMs n ms), .p (dL cs), .p (dP p)] = .ok (.p (.list ((hds (rnds n.toNat) (p.map (leadBy ms cs))).map dR))) [some (.p (dMs n ms)), some (.p (dL cs)), some (.p (dP p))] := by
  show run _ _ (k + 4) 12 _ = _
  rw [run_succ pg_12 rfl]
  obtain ⟨l0, h0⟩ := at_first (n := n) hm.l1
  have hn1 := (get_ms hm (i := 0) (by have := hm.l1; omega)).n1
  have hn2 := (get_ms hm (i := 0) (by have := hm.l1; omega)).n2
  obtain ⟨e', h1, fs, cur, he, h2, _⟩ := forL_typed (body := loopT [] (.name 4) (evSs ⟨run (pgOf rows) sub (k + 3), sub⟩ [] b_12_1)) dE
    (fun zs e => ∃ (fs : List (List Int)) (cur : List Int), e = [some (.p (dMs n ms)), some (.p (dL cs)), some (.p (dP p)), some (.ol ((fs ++ [cur]).map dR)), none] ∧ fs ++ hds cur (zs.map (leadBy ms cs)) = hds (rnds n.toNat) (p.map (leadBy ms cs)) ∧ cur.length = n.toNat ∧ (∀ z ∈ zs, z ∈ p) ∧ fs.length + zs.length ≤ 120)
    p [some (.p (dMs n ms)), some (.p (dL cs)), some (.p (dP p)), some (.ol [dR (rnds n.toNat)]), none] ⟨[], rnds n.toNat, by simp, by simp, rnds_len, fun _ h => h, by have := hp.l2; simpa using this⟩ fun z zs e ⟨fs, cur, he, h1, h2, h3, h4⟩ => by
      subst he
      have hz := hp.ve z (h3 z List.mem_cons_self)
      obtain ⟨w1, w2⟩ := leadBy_ok hm hc hz
      have hr := run_rows_along pg_3 pg_4 (sub := sub) (k := k + 1) (row := cur) (lead := leadBy ms cs z) (by omega) (by rw [h2]; intro c hc'; have := w2 c hc'; rwa [show ((n.toNat : Nat) : Int) = n by omega])
      have hl : L2.atI ((rwA cur (leadBy ms cs z)).map dR) (-1) = some (dR (ledR cur (leadBy ms cs z))) := atI_last (by rw [List.getLast?_map, rwA_last]; rfl)
      have hat : L2.atI (fs.map dR ++ [dR cur]) (-1) = some (dR cur) := atI_m1
      have hz' : fs.length + 1 < 16777216 := by simp at h4; omega
      refine ⟨_, ?_, fs ++ [cur], ledR cur (leadBy ms cs z), rfl, by rw [List.append_assoc]; exact h1, by rw [ledR_len]; exact h2, fun d hd => h3 d (List.mem_cons_of_mem _ hd), by simp at h4 ⊢; omega⟩
      simp [loopT, b_12_1, hat, f_11 hm hz, hr, hl, hz']
  subst he
  have h2' : fs ++ [cur] = hds (rnds n.toNat) (p.map (leadBy ms cs)) := h2
  rw [h2'] at h1
  have g1 : (-4611686018427387904 : Int) ≤ n + 1 := by omega
  have g2 : n + 1 < 4611686018427387904 := by omega
  have g3 : n ≤ 16777216 := by omega
  simp [b_12, h0, atI_nat, rng1 (by omega : 0 ≤ n), h1, g1, g2, g3, show n + 1 - 1 = n by omega]
theorem at_p {p : List (Int × Int)} {i : Nat} (h : i < p.length) : L2.atI (p.map dE) (i : Int) = some (dE (p[i]?.getD (0, 0))) := by
  rw [atI_nat (by omega), List.getElem?_map]
  simp [h]
end Lk68

set_option maxHeartbeats 4000000
namespace Lk68
open PySem Q1
theorem f_16 {k : Nat} {ns : List Int} {a many : Int} (ha : 0 ≤ a) (hm : 0 < many) : R (k + 2) 16 [mD ns a, .p (.int many)] = .ok (.p (.int (dwn2 ns a many))) [some (mD ns (a + 1)), some (.p (.int many))] := run_dwn2 (g := 14) pg_14 pg_16 ha hm
noncomputable def leadM (ms : List (List (List Int))) (cs : List (List Int)) (e : Int × Int) : M := if e.2 = -1 then .p (dL (leadBy ms cs e)) else .ol ((leadBy ms cs e).map dC)
@[simp] theorem leadM_toD {ms : List (List (List Int))} {cs : List (List Int)} {e : Int × Int} : (leadM ms cs e).toD = dL (leadBy ms cs e) := by
  unfold leadM; split <;> rfl
theorem f_22 {k : Nat} {n : Int} {ms : List (List (List Int))} {cs : List (List Int)} {e : Int × Int} (hm : VMs n ms) (h : (0 ≤ e.1 ∧ e.1 < ms.length) ∧ (-1 ≤ e.2 ∧ e.2 < cs.length)) : R (k + 1) 22 [.p (dMs n ms), .p (dL cs), .p (dE e)] = .ok (leadM ms cs e) [some (.p (dMs n ms)), some (.p (dL cs)), some (.p (dE e))] := by
  show run _ _ (k + 1) 22 _ = _
  rw [run_succ pg_22 rfl]
  have hv := get_ms hm h.1
  have h1 := hv.l1
  have h2 := hv.l2
  have a1 := at_ms (n := n) h.1
  unfold leadM leadBy
  generalize ms[e.1.toNat]?.getD [] = l at hv h1 h2 a1
  by_cases q : e.2 = -1
  · simp [b_22, atI_nat, a1, q]
  · have a2 := at_cs (cs := cs) (i := e.2) (by omega)
    have w : l.length ≤ 16777216 := by omega
    have w2 : l.length - 1 < 16777216 := by omega
    simp [b_22, atI_nat, a1, a2, q, cutD_m1, w, w2]
theorem f_23 {k : Nat} {row : List Int} {lead : List (List Int)} (hv : ∀ c ∈ lead, ValidC row.length c) : R (k + 2) 23 [.p (dR row), .p (dL lead)] = .ok (.p (dR (ledR row lead))) [some (.p (dR (ledR row lead))), some (.p (dL lead))] := by
  show run _ _ (k + 2) 23 _ = _
  rw [run_succ pg_23 rfl]
  have key := forL_fold (body := loopT [] (.name 2) (evSs ⟨run (pgOf rows) sub (k + 1), sub⟩ [] b_23_1)) dC (fun r : List Int => [some (.p (dR r)), some (.p (dL lead)), none]) (fun r => r.length = row.length) mv lead row rfl fun c hc r hr => by
    have hm := run_law_moved pg_19 (sub := sub) (k := k) (row := r) (c := c) (by rw [hr]; exact hv c hc)
    refine ⟨?_, by rw [mv_len]; exact hr⟩
    simp [loopT, b_23_1, hm]
  simp [b_23, key.1]
  rfl
theorem f_24 {k : Nat} {n : Int} {ms : List (List (List Int))} {cs : List (List Int)} {p : List (Int × Int)} (hm : VMs n ms) (hc : VC n cs) (hp : VP p ms.length cs.length) : R (k + 4) 24 [.p (dMs n ms), .p (dL cs), .p (dP p)] = .ok (.p (.list ((hds (rnds n.toNat) (p.map (leadBy ms cs))).map dR))) [some (.p (dMs n ms)), some (.p (dL cs)), some (.p (dP p))] := by
  show run _ _ (k + 4) 24 _ = _
  rw [run_succ pg_24 rfl]
  obtain ⟨l0, h0⟩ := at_first (n := n) hm.l1
  have hn1 := (get_ms hm (i := 0) (by have := hm.l1; omega)).n1
  have hn2 := (get_ms hm (i := 0) (by have := hm.l1; omega)).n2
  obtain ⟨e', h1, fs, cur, he, h2, _⟩ := forL_typed (body := loopT [] (.name 4) (evSs ⟨run (pgOf rows) sub (k + 3), sub⟩ [] b_24_1)) dE
    (fun zs e => ∃ (fs : List (List Int)) (cur : List Int), e = [some (.p (dMs n ms)), some (.p (dL cs)), some (.p (dP p)), some (.ol ((fs ++ [cur]).map dR)), none] ∧ fs ++ hds cur (zs.map (leadBy ms cs)) = hds (rnds n.toNat) (p.map (leadBy ms cs)) ∧ cur.length = n.toNat ∧ (∀ z ∈ zs, z ∈ p) ∧ fs.length + zs.length ≤ 120)
    p [some (.p (dMs n ms)), some (.p (dL cs)), some (.p (dP p)), some (.ol [dR (rnds n.toNat)]), none] ⟨[], rnds n.toNat, by simp, by simp, rnds_len, fun _ h => h, by have := hp.l2; simpa using this⟩ fun z zs e ⟨fs, cur, he, h1, h2, h3, h4⟩ => by
      subst he
      have hz := hp.ve z (h3 z List.mem_cons_self)
      obtain ⟨w1, w2⟩ := leadBy_ok hm hc hz
      have hr := f_23 (k := k + 1) (row := cur) (lead := leadBy ms cs z) (by rw [h2]; intro c hc'; have := w2 c hc'; rwa [show ((n.toNat : Nat) : Int) = n by omega])
      have hat : L2.atI (fs.map dR ++ [dR cur]) (-1) = some (dR cur) := atI_m1
      have hz' : fs.length + 1 < 16777216 := by simp at h4; omega
      refine ⟨_, ?_, fs ++ [cur], ledR cur (leadBy ms cs z), rfl, by rw [List.append_assoc]; exact h1, by rw [ledR_len]; exact h2, fun d hd => h3 d (List.mem_cons_of_mem _ hd), by simp at h4 ⊢; omega⟩
      simp [loopT, b_24_1, hat, f_22 hm hz, hr, hz']
  subst he
  have h2' : fs ++ [cur] = hds (rnds n.toNat) (p.map (leadBy ms cs)) := h2
  rw [h2'] at h1
  have g1 : (-4611686018427387904 : Int) ≤ n + 1 := by omega
  have g2 : n + 1 < 4611686018427387904 := by omega
  have g3 : n ≤ 16777216 := by omega
  simp [b_24, h0, atI_nat, rng1 (by omega : 0 ≤ n), h1, g1, g2, g3, show n + 1 - 1 = n by omega]
/-! the laws' own methods -/
abbrev d1 (p : Int) : D := .tuple [.int p]
theorem eqO_d1 {p q : Int} : eqO (d1 p) (d1 q) = some (decide (p = q)) := by
  have := eqO_dC [p] [q]
  simpa using this
theorem t_20 {C : PC} {k : Nat} {ns : List Int} {a : Int} (hC : C = ⟨run (pgOf rows) sub (k + 2), sub⟩) (ha : 0 ≤ a) {n : Int} {f : List Int} {w : M} (hw : w.isOwn = true) (h0 : 1 ≤ f.length) (hl : f.length ≤ 100) (hb : ∀ p ∈ f, 1 ≤ p ∧ p < n) (x : D) :
    ∃ (f' : List Int), loopT [0, 1] (.name 3) (evSs C [0, 1] b_20_1) x [some (mD ns a), some w, some (.ol (f.map d1)), none, none] = .ok .nx [some (mD ns (a + 1)), some w, some (.ol (f'.map d1)), none, none] ∧ f'.length = f.length ∧ ∀ p ∈ f', 1 ≤ p ∧ p < n := by
  subst hC
  have hd := f_16 (k := k) (ns := ns) (many := f.length) ha (by omega)
  have hj := dwn2_bd (ns := ns) (a := a) (many := f.length) (by omega)
  generalize dwn2 ns a f.length = j at hd hj
  obtain ⟨j, rfl⟩ := Int.eq_ofNat_of_zero_le hj.1
  have hj : j < f.length := by omega
  have a0 : L2.atI (f.map d1) (j : Int) = some (d1 f[j]) := by rw [atI_map]; simp [hj]
  have x0 : L2.ixN f.length (j : Int) = some j := by rw [ixN_pos (by omega) (by omega)]; simp
  have mem : ∀ i (h : i < f.length), 1 ≤ f[i] ∧ f[i] < n := fun i h => hb _ (List.getElem_mem h)
  have sub : ∀ (g : List Int) (i : Nat) (v : Int), (∀ p ∈ g, 1 ≤ p ∧ p < n) → (1 ≤ v ∧ v < n) → ∀ p ∈ g.set i v, 1 ≤ p ∧ p < n := fun g i v hg hv p hp => by
    rcases List.mem_or_eq_of_mem_set hp with q | q
    · exact hg p q
    · rw [q]; exact hv
  by_cases h1 : j + 1 < f.length
  · have h1' : (j : Int) + 1 < f.length := by omega
    have a1 : L2.atI (f.map d1) ((j : Int) + 1) = some (d1 f[j + 1]) := by
      rw [show (j : Int) + 1 = ((j + 1 : Nat) : Int) by omega, atI_map]; simp [h1]
    have x1 : L2.ixN f.length ((j : Int) + 1) = some (j + 1) := by rw [ixN_pos (by omega) (by omega)]; congr 1
    by_cases h2 : (1 : Int) < (if f[j] - f[j + 1] < 0 then -(f[j] - f[j + 1]) else f[j] - f[j + 1])
    · refine ⟨(f.set j f[j + 1]).set (j + 1) f[j], ?_, by simp, sub _ _ _ (sub _ _ _ hb (mem _ h1)) (mem _ hj)⟩
      simp [loopT, b_20_1, hd, a0, a1, x0, x1, h1, h1', h2, atI_nat]
    · by_cases h3 : j + 2 < f.length
      · have h3' : (j : Int) + 2 < f.length := by omega
        have a2 : L2.atI (f.map d1) ((j : Int) + 2) = some (d1 f[j + 2]) := by
          rw [show (j : Int) + 2 = ((j + 2 : Nat) : Int) by omega, atI_map]; simp [h3]
        have x2 : L2.ixN f.length ((j : Int) + 2) = some (j + 2) := by rw [ixN_pos (by omega) (by omega)]; congr 1
        by_cases h4 : f[j] = f[j + 2]
        · by_cases h5 : (if f[j] - f[j + 1] < 0 then -(f[j] - f[j + 1]) else f[j] - f[j + 1]) = 1
          · refine ⟨((f.set j f[j + 1]).set (j + 1) f[j]).set (j + 2) f[j + 1], ?_, by simp, sub _ _ _ (sub _ _ _ (sub _ _ _ hb (mem _ h1)) (mem _ hj)) (mem _ h1)⟩
            simp [loopT, b_20_1, hd, a0, a1, a2, x0, x1, x2, h1, h1', h2, h3, h3', h5, atI_nat, eqO_d1, ← h4]
          · refine ⟨f, ?_, rfl, hb⟩
            simp [loopT, b_20_1, hd, a0, a1, a2, x0, x1, x2, h1, h1', h2, h3, h3', h5, atI_nat, eqO_d1, ← h4]
        · refine ⟨f, ?_, rfl, hb⟩
          simp [loopT, b_20_1, hd, a0, a1, a2, x0, x1, x2, h1, h1', h2, h3, h3', h4, atI_nat, eqO_d1]
      · have h3' : ¬ (j : Int) + 2 < f.length := by omega
        refine ⟨f, ?_, rfl, hb⟩
        simp [loopT, b_20_1, hd, a0, a1, h1, h1', h2, h3, h3', atI_nat]
  · have h1' : ¬ (j : Int) + 1 < f.length := by omega
    have h3' : ¬ (j : Int) + 2 < f.length := by omega
    refine ⟨f, ?_, rfl, hb⟩
    simp [loopT, b_20_1, hd, a0, h1, h1', h3', atI_nat]
end Lk68

set_option maxHeartbeats 4000000
namespace Lk68
open PySem Q1
theorem f_20 {k : Nat} {ns : List Int} {a : Int} (ha : 0 ≤ a) {n : Int} {ps : List Int} (h0 : 1 ≤ ps.length) (hl : ps.length ≤ 100) (hb : ∀ p ∈ ps, 1 ≤ p ∧ p < n) :
    ∃ (ps' : List Int) (a' : Int), R (k + 3) 20 [mD ns a, .ol (ps.map d1)] = .ok (.p (.list (ps'.map d1))) [some (mD ns a'), some (.ol (ps.map d1))] ∧ 0 ≤ a' ∧ ps'.length = ps.length ∧ ∀ p ∈ ps', 1 ≤ p ∧ p < n := by
  show ∃ _ _, run _ _ (k + 3) 20 _ = _ ∧ _
  rw [run_succ pg_20 rfl]
  obtain ⟨e', h1, a', f, he, h2, h3, h4⟩ := forL_inv (body := loopT [0, 1] (.name 3) (evSs ⟨run (pgOf rows) sub (k + 2), sub⟩ [0, 1] b_20_1)) (xs := ups 0 6) (e := [some (mD ns a), some (.ol (ps.map d1)), some (.ol (ps.map d1)), none, none])
    (fun _ e => ∃ (a : Int) (f : List Int), e = [some (mD ns a), some (.ol (ps.map d1)), some (.ol (f.map d1)), none, none] ∧ 0 ≤ a ∧ f.length = ps.length ∧ ∀ p ∈ f, 1 ≤ p ∧ p < n) 0 ⟨a, ps, rfl, ha, rfl, hb⟩ fun i x e hx ⟨a, f, he, q1, q2, q3⟩ => by
      subst he
      obtain ⟨f', g1, g2, g3⟩ := t_20 (k := k) (ns := ns) (f := f) (w := .ol (ps.map d1)) rfl q1 rfl (by omega) (by omega) q3 x
      exact ⟨_, g1, a + 1, f', rfl, by omega, by omega, g3⟩
  refine ⟨f, a', ?_, h2, h3, h4⟩
  subst he
  simp [b_20, h1]
def endsOf (n : Int) : List (List Int) := [[1, 3], [2], [1], [n - 1], [], if n = 5 then [2, 4] else [3]]
theorem ends_ok {n : Int} (h : n = 4 ∨ n = 5) : ∀ c ∈ endsOf n, ValidC n c := by
  intro c hc
  rcases h with rfl | rfl <;>
  · simp [endsOf] at hc
    rcases hc with rfl | rfl | rfl | rfl | rfl | rfl <;> exact ⟨by decide, by decide, by decide⟩
theorem ends_at {n : Int} (h : n = 4 ∨ n = 5) {j : Int} (hj : 0 ≤ j ∧ j < 6) : ∃ c, L2.atI ((endsOf n).map dC) j = some (dC c) ∧ ValidC n c := by
  have hl : j.toNat < (endsOf n).length := by simp [endsOf]; omega
  refine ⟨(endsOf n)[j.toNat], ?_, ends_ok h _ (List.getElem_mem hl)⟩
  rw [atI_nat hj.1, List.getElem?_map, List.getElem?_eq_getElem hl]
  rfl
theorem vm_of {n : Int} (hn : n = 4 ∨ n = 5) {ps : List Int} {c : List Int} (hl : ps.length ≤ 100) (hb : ∀ p ∈ ps, 1 ≤ p ∧ p < n) (hc : ValidC n c) : ValidM n (ps.map (fun p => [p]) ++ [c]) := by
  refine ⟨by omega, by omega, by simp, by simp; omega, fun d hd => ?_⟩
  rcases List.mem_append.mp hd with q | q
  · obtain ⟨p, hp, rfl⟩ := List.mem_map.mp q
    exact ⟨by simpa using hb p hp, by simp, by simp⟩
  · rw [List.mem_singleton.mp q]; exact hc
theorem dM_of {n : Int} {ps : List Int} {c : List Int} : dM n (ps.map (fun p => [p]) ++ [c]) = .tuple [.int n, .list (ps.map d1 ++ [dC c])] := by
  simp [dM, dL]
/-- the methods made of the word -/
theorem t_21_2 {k : Nat} {ns : List Int} {a : Int} (ha : 0 ≤ a) {n : Int} (hn : n = 4 ∨ n = 5) {ps : List Int} {c : List Int} (h0 : 1 ≤ ps.length) (hl : ps.length ≤ 100) (hb : ∀ p ∈ ps, 1 ≤ p ∧ p < n) (hc : ValidC n c) (v : Int) (hv : 0 ≤ v ∧ v < 3) {E : Option M} :
    ∃ (ms : List (List (List Int))) (a' : Int), forL (loopT [0] (.name 3) (evSs ⟨run (pgOf rows) sub (k + 3), sub⟩ [0] b_21_2)) (ups 0 v.toNat) [some (mD ns a), some (.p (.int n)), some (.ol (ps.map d1)), none, E, some (.p (dC c)), some (.ol [dM n (ps.map (fun p => [p]) ++ [c])]), none]
      = .ok .nx [some (mD ns a'), some (.p (.int n)), some (.ol (ps.map d1)), none, E, some (.p (dC c)), some (.ol (ms.map (dM n))), none] ∧ 0 ≤ a' ∧ VMs n ms := by
  obtain ⟨e', h1, a', ms, he, h2, h3, h4, h5⟩ := forL_inv (body := loopT [0] (.name 3) (evSs ⟨run (pgOf rows) sub (k + 3), sub⟩ [0] b_21_2)) (xs := ups 0 v.toNat) (e := [some (mD ns a), some (.p (.int n)), some (.ol (ps.map d1)), none, E, some (.p (dC c)), some (.ol [dM n (ps.map (fun p => [p]) ++ [c])]), none])
    (fun i e => ∃ (a : Int) (ms : List (List (List Int))), e = [some (mD ns a), some (.p (.int n)), some (.ol (ps.map d1)), none, E, some (.p (dC c)), some (.ol (ms.map (dM n))), none] ∧ 0 ≤ a ∧ 1 ≤ ms.length ∧ ms.length ≤ 1 + i ∧ ∀ l ∈ ms, ValidM n l) 0 ⟨a, [ps.map (fun p => [p]) ++ [c]], rfl, ha, by simp, by simp, fun l hl' => by rw [List.mem_singleton.mp hl']; exact vm_of hn hl hb hc⟩ fun i x e hx ⟨a, ms, he, q1, q2, q3, q4⟩ => by
      have hi := (ups_get? hx).2
      subst he
      obtain ⟨ps', a2, g1, g2, g3, g4⟩ := f_20 (k := k) (ns := ns) q1 h0 hl hb
      have w1 : ps'.length ≤ 16777215 := by omega
      have w2 : ms.length < 16777216 := by omega
      refine ⟨_, ?_, a2, ms ++ [ps'.map (fun p => [p]) ++ [c]], rfl, g2, by simp, by simp; omega, fun l hl' => ?_⟩
      · simp [loopT, b_21_2, g1, w1, w2]
      · rcases List.mem_append.mp hl' with q | q
        · exact q4 l q
        · rw [List.mem_singleton.mp q]; exact vm_of hn (by omega) g4 hc
  subst he
  exact ⟨ms, a', h1, h2, h3, by simp at h4; omega, h5⟩
theorem e_21_1 {k : Nat} {ns : List Int} {a : Int} (ha : 0 ≤ a) {n : Int} (hn : n = 4 ∨ n = 5) {E : Option M} :
    ∃ (cs : List (List Int)) (a' : Int), evX ⟨run (pgOf rows) sub (k + 2), sub⟩ c_21_1 [some (mD ns a), none, none, none, some (.ol ((endsOf n).map dC)), none, E, none] = .ok (.ol (cs.map dC)) [some (mD ns a'), none, none, none, some (.ol ((endsOf n).map dC)), none, E, none] ∧ 0 ≤ a' ∧ VC n cs := by
  have hd := f_16 (k := k) (ns := ns) (a := a) (many := 3) ha (by decide)
  have hv := dwn2_bd (ns := ns) (a := a) (many := 3) (by decide)
  obtain ⟨vs, a', h1, h2, h3, h4⟩ := ev_compS (C := ⟨run (pgOf rows) sub (k + 2), sub⟩) (own := [3]) (g := .name 3) (it := .range (.cons (.call 16 (.cons (.rf 0) (.cons (.lit (.int 3)) .nil))) .nil)) (c := .yes) (e := .ix (.rf 4) (.call 16 (.cons (.rf 0) (.cons (.lit (.int 6)) .nil))))
    (env := [some (mD ns a), none, none, none, some (.ol ((endsOf n).map dC)), none, E, none]) (List.range (dwn2 ns a 3).toNat) (fun i : Nat => .int i) (fun a => [some (mD ns a), none, none, none, some (.ol ((endsOf n).map dC)), none, E, none]) (fun a => 0 ≤ a) (a + 1) (fun d => ∃ c, d = dC c ∧ ValidC n c) (by omega)
    (range_okI (os := [.val (.int (dwn2 ns a 3))]) (by simp [hd]) (by simp) (by omega) hv.1) (by simp [plainAt]) (by simp) fun i hi a ha => by
      have hd := f_16 (k := k) (ns := ns) (a := a) (many := 6) ha (by decide)
      have hv := dwn2_bd (ns := ns) (a := a) (many := 6) (by decide)
      obtain ⟨c, hc, hvc⟩ := ends_at hn hv
      exact ⟨_, a + 1, _, by omega, by simp [hd, hc]; first | exact ⟨rfl, rfl⟩ | rfl, ⟨c, rfl, hvc⟩, by simp⟩
  obtain ⟨cs, rfl, h5⟩ := unmap h4
  refine ⟨cs, a', by unfold c_21_1; exact h1, h2, ?_, h5⟩
  simp at h3
  omega
theorem t_21_4 {k : Nat} {ns : List Int} {a : Int} (ha : 0 ≤ a) {n : Int} (hn : n = 4 ∨ n = 5) {ps : List Int} (h0 : 1 ≤ ps.length) (hl : ps.length ≤ 100) (hb : ∀ p ∈ ps, 1 ≤ p ∧ p < n) :
    ∃ (ms : List (List (List Int))) (cs : List (List Int)) (a' : Int), finR 1 (evSs ⟨run (pgOf rows) sub (k + 3), sub⟩ [0] s_21_4 [some (mD ns a), some (.p (.int n)), some (.ol (ps.map d1)), none, some (.ol ((endsOf n).map dC)), none, none, none])
      = .ok (.p (.tuple [dMs n ms, dL cs])) [some (mD ns a')] ∧ 0 ≤ a' ∧ VMs n ms ∧ VC n cs := by
  have g1 : 0 ≤ a + 1 := by omega
  have hd1 := f_16 (k := k + 1) (ns := ns) (a := a) (many := 6) ha (by decide)
  have hv1 := dwn2_bd (ns := ns) (a := a) (many := 6) (by decide)
  obtain ⟨c, hc, hvc⟩ := ends_at hn hv1
  have hd2 := f_16 (k := k + 1) (ns := ns) (a := a + 1) (many := 3) g1 (by decide)
  have hv2 := dwn2_bd (ns := ns) (a := a + 1) (many := 3) (by decide)
  have g2 : 0 ≤ a + 1 + 1 := by omega
  obtain ⟨ms, a2, h1, h2, h3⟩ := t_21_2 (k := k) (ns := ns) g2 hn h0 hl hb hvc (dwn2 ns (a + 1) 3) hv2 (E := some (.ol ((endsOf n).map dC)))
  obtain ⟨cs, a3, h4, h5, h6⟩ := e_21_1 (k := k + 1) (ns := ns) h2 hn (E := some (.ol (ms.map (dM n))))
  refine ⟨ms, cs, a3, ?_, h5, h3, h6⟩
  rw [dM_of] at h1
  have w1 : ps.length ≤ 16777215 := by omega
  have w2 : dwn2 ns (a + 1) 3 ≤ 16777216 := by omega
  have w3 : (-4611686018427387904 : Int) ≤ dwn2 ns (a + 1) 3 := by omega
  simp [s_21_4, s_21_6, hd1, hc, hd2, h1, h4, w1, w2, w3]
theorem t_21_1 {k : Nat} {ns : List Int} {a : Int} (ha : 0 ≤ a) {n : Int} (hn : n = 4 ∨ n = 5) {ps : List Int} (h0 : 1 ≤ ps.length) (hl : ps.length ≤ 3) (hb : ∀ p ∈ ps, 1 ≤ p ∧ p < n) (v : Int) (hv : 0 ≤ v ∧ v < 3) :
    ∃ (ps' : List Int) (a' : Int), forL (loopT [0] (.name 3) (evSs ⟨run (pgOf rows) sub (k + 3), sub⟩ [0] b_21_1)) (ups 0 v.toNat) [some (mD ns a), some (.p (.int n)), some (.ol (ps.map d1)), none, none, none, none, none]
      = .ok .nx [some (mD ns a'), some (.p (.int n)), some (.ol (ps'.map d1)), none, none, none, none, none] ∧ 0 ≤ a' ∧ 1 ≤ ps'.length ∧ ps'.length ≤ 100 ∧ ∀ p ∈ ps', 1 ≤ p ∧ p < n := by
  obtain ⟨e', h1, a', f, he, h2, h3, h4, h5⟩ := forL_inv (body := loopT [0] (.name 3) (evSs ⟨run (pgOf rows) sub (k + 3), sub⟩ [0] b_21_1)) (xs := ups 0 v.toNat) (e := [some (mD ns a), some (.p (.int n)), some (.ol (ps.map d1)), none, none, none, none, none])
    (fun i e => ∃ (a : Int) (f : List Int), e = [some (mD ns a), some (.p (.int n)), some (.ol (f.map d1)), none, none, none, none, none] ∧ 0 ≤ a ∧ 1 ≤ f.length ∧ f.length ≤ 3 + i ∧ ∀ p ∈ f, 1 ≤ p ∧ p < n) 0 ⟨a, ps, rfl, ha, h0, by omega, hb⟩ fun i x e hx ⟨a, f, he, q1, q2, q3, q4⟩ => by
      have hi := (ups_get? hx).2
      subst he
      have hd := f_16 (k := k + 1) (ns := ns) (a := a) (many := n - 1) q1 (by omega)
      have hw := dwn2_bd (ns := ns) (a := a) (many := n - 1) (by omega)
      have w1 : f.length < 16777216 := by omega
      refine ⟨_, ?_, a + 1, f ++ [1 + dwn2 ns a (n - 1)], rfl, by omega, by simp, by simp; omega, fun p hp => ?_⟩
      · simp [loopT, b_21_1, hd, w1]
      · rcases List.mem_append.mp hp with q | q
        · exact q4 p q
        · rw [List.mem_singleton.mp q]; omega
  subst he
  exact ⟨f, a', h1, h2, h3, by simp at h4; omega, h5⟩
theorem t_21_2' {k : Nat} {ns : List Int} {a : Int} (ha : 0 ≤ a) {n : Int} (hn : n = 4 ∨ n = 5) {ps : List Int} (h0 : 1 ≤ ps.length) (hl : ps.length ≤ 3) (hb : ∀ p ∈ ps, 1 ≤ p ∧ p < n) :
    ∃ (ms : List (List (List Int))) (cs : List (List Int)) (a' : Int), finR 1 (evSs ⟨run (pgOf rows) sub (k + 3), sub⟩ [0] s_21_2 [some (mD ns a), some (.p (.int n)), some (.ol (ps.map d1)), none, none, none, none, none])
      = .ok (.p (.tuple [dMs n ms, dL cs])) [some (mD ns a')] ∧ 0 ≤ a' ∧ VMs n ms ∧ VC n cs := by
  have hd2 := f_16 (k := k + 1) (ns := ns) (a := a) (many := 3) ha (by decide)
  have hv2 := dwn2_bd (ns := ns) (a := a) (many := 3) (by decide)
  have g2 : 0 ≤ a + 1 := by omega
  obtain ⟨ps', a2, h1, h2, h3, h4, h5⟩ := t_21_1 (k := k) (ns := ns) g2 hn h0 hl hb (dwn2 ns a 3) hv2
  obtain ⟨ms, cs, a3, h6, h7, h8, h9⟩ := t_21_4 (k := k) (ns := ns) h2 hn h3 h4 h5
  refine ⟨ms, cs, a3, ?_, h7, h8, h9⟩
  rw [← h6]
  have w2 : dwn2 ns a 3 ≤ 16777216 := by omega
  have w3 : (-4611686018427387904 : Int) ≤ dwn2 ns a 3 := by omega
  rcases hn with rfl | rfl
  · simp [s_21_2, hd2, h1, w2, w3, endsOf]
    rfl
  · simp [s_21_2, hd2, h1, w2, w3, endsOf]
    rfl
theorem f_21 {k : Nat} {ns : List Int} {a : Int} (ha : 0 ≤ a) : ∃ (n : Int) (ms : List (List (List Int))) (cs : List (List Int)) (a' : Int), R (k + 4) 21 [mD ns a] = .ok (.p (.tuple [dMs n ms, dL cs])) [some (mD ns a')] ∧ 0 ≤ a' ∧ VMs n ms ∧ VC n cs ∧ (n = 4 ∨ n = 5) := by
  show ∃ _ _ _ _, run _ _ (k + 4) 21 _ = _ ∧ _
  rw [run_succ pg_21 rfl]
  have hd1 := f_16 (k := k + 1) (ns := ns) (a := a) (many := 2) ha (by decide)
  have hv1 := dwn2_bd (ns := ns) (a := a) (many := 2) (by decide)
  have g1 : 0 ≤ a + 1 := by omega
  have g2 : 0 ≤ a + 1 + 1 := by omega
  have hd2 := f_16 (k := k + 1) (ns := ns) (a := a + 1) (many := 2) g1 (by decide)
  have hv2 := dwn2_bd (ns := ns) (a := a + 1) (many := 2) (by decide)
  have hn : 4 + dwn2 ns a 2 = 4 ∨ 4 + dwn2 ns a 2 = 5 := by omega
  by_cases q : dwn2 ns (a + 1) 2 = 0
  · obtain ⟨ms, cs, a', h1, h2, h3, h4⟩ := t_21_2' (k := k) (ns := ns) g2 hn (ps := [1, 2, 1]) (by decide) (by decide) (fun p hp => by simp at hp; omega)
    refine ⟨_, ms, cs, a', ?_, h2, h3, h4, hn⟩
    rw [← h1]
    simp [b_21, hd1, hd2, q]
  · obtain ⟨ms, cs, a', h1, h2, h3, h4⟩ := t_21_2' (k := k) (ns := ns) g2 hn (ps := [1, 3]) (by decide) (by decide) (fun p hp => by simp at hp; omega)
    refine ⟨_, ms, cs, a', ?_, h2, h3, h4, hn⟩
    rw [← h1]
    simp [b_21, hd1, hd2, q]
theorem f_25 {k : Nat} {ns : List Int} {a : Int} (ha : 0 ≤ a) {n : Int} {ms : List (List (List Int))} {cs : List (List Int)} (hm : VMs n ms) (hc : VC n cs) :
    ∃ (p : List (Int × Int)) (a' : Int), R (k + 3) 25 [mD ns a, .p (dMs n ms), .p (dL cs), .p (.int 12)] = .ok (.ol (p.map dE)) [some (mD ns a'), some (.p (dMs n ms)), some (.p (dL cs)), some (.p (.int 12))] ∧ 0 ≤ a' ∧ VP p ms.length cs.length ∧ p.length ≤ 12 ∧ 1 ≤ p.length := by
  show ∃ _ _, run _ _ (k + 3) 25 _ = _ ∧ _
  rw [run_succ pg_25 rfl]
  have hd := f_16 (k := k) (ns := ns) (a := a) (many := 12) ha (by decide)
  have hv := dwn2_bd (ns := ns) (a := a) (many := 12) (by decide)
  have m1 := hm.l1
  have m2 := hm.l2
  have c2 := hc.l2
  obtain ⟨vs, a', h1, h2, h3, h4⟩ := ev_compS (C := ⟨run (pgOf rows) sub (k + 2), sub⟩) (own := [4]) (g := .name 4) (it := .range (.cons (.bin .add (.lit (.int 1)) (.call 16 (.cons (.rf 0) (.cons (.var 3) .nil)))) .nil)) (c := .yes) (e := .tup (.cons (.call 16 (.cons (.rf 0) (.cons (.bi .len (.cons (.rf 1) .nil)) .nil))) (.cons (.bin .sub (.call 16 (.cons (.rf 0) (.cons (.bin .add (.bi .len (.cons (.rf 2) .nil)) (.lit (.int 1))) .nil))) (.lit (.int 1))) .nil)))
    (env := [some (mD ns a), some (.p (dMs n ms)), some (.p (dL cs)), some (.p (.int 12)), none]) (List.range (1 + dwn2 ns a 12).toNat) (fun i : Nat => .int i) (fun a => [some (mD ns a), some (.p (dMs n ms)), some (.p (dL cs)), some (.p (.int 12)), none]) (fun a => 0 ≤ a) (a + 1) (fun d => ∃ e : Int × Int, d = dE e ∧ ((0 ≤ e.1 ∧ e.1 < ms.length) ∧ (-1 ≤ e.2 ∧ e.2 < cs.length))) (by omega)
    (range_okI (os := [.val (.int (1 + dwn2 ns a 12))]) (by simp [hd]) (by simp) (by omega) (by omega)) (by simp [plainAt]) (by simp) fun i hi a ha => by
      have d1 := f_16 (k := k) (ns := ns) (a := a) (many := ms.length) ha (by omega)
      have v1 := dwn2_bd (ns := ns) (a := a) (many := ms.length) (by omega)
      have d2 := f_16 (k := k) (ns := ns) (a := a + 1) (many := cs.length + 1) (by omega) (by omega)
      have v2 := dwn2_bd (ns := ns) (a := a + 1) (many := cs.length + 1) (by omega)
      exact ⟨_, a + 1 + 1, _, by omega, by simp [d1, d2]; first | exact ⟨rfl, rfl⟩ | rfl, ⟨(dwn2 ns a ms.length, dwn2 ns (a + 1) (cs.length + 1) - 1), rfl, ⟨by simp; omega, by simp; omega⟩⟩, by simp⟩
  obtain ⟨p, rfl, h5⟩ := unmap h4
  have h3' : p.length ≤ 12 ∧ 1 ≤ p.length := by simp at h3; omega
  refine ⟨p, a', ?_, h2, ⟨by omega, by omega, h5⟩, h3'⟩
  have h1' : evX ⟨run (pgOf rows) sub (k + 2), sub⟩ c_25_1 [some (mD ns a), some (.p (dMs n ms)), some (.p (dL cs)), some (.p (.int 12)), none] = .ok (.ol (p.map dE)) [some (mD ns a'), some (.p (dMs n ms)), some (.p (dL cs)), some (.p (.int 12)), none] := h1
  simp [b_25, h1']
theorem hds_mem : ∀ {ls : List (List (List Int))} {row r : List Int}, r ∈ hds row ls → r.length = row.length
  | [], row, r, h => by rw [List.mem_singleton.mp h]
  | l :: ls, row, r, h => by
    unfold hds at h
    rcases List.mem_cons.mp h with q | q
    · rw [q]
    · rw [hds_mem q, ledR_len]
end Lk68

set_option maxHeartbeats 4000000
namespace Lk68
open PySem Q1
/-! what is kept once -/
section
variable {α : Type} [DecidableEq α]
def addK (L : List α) (t : α) : List α := if t ∈ L then L else L ++ [t]
def addAll (L ts : List α) : List α := ts.foldl addK L
theorem mem_addK {L : List α} {t x : α} : x ∈ addK L t ↔ x ∈ L ∨ x = t := by
  unfold addK
  split
  · rename_i h
    exact ⟨.inl, fun q => q.elim id fun q => by rw [q]; exact h⟩
  · rw [List.mem_append, List.mem_singleton]
theorem mem_addAll : ∀ {ts L : List α} {x : α}, x ∈ addAll L ts ↔ x ∈ L ∨ x ∈ ts
  | [], L, x => by simp [addAll]
  | t :: ts, L, x => by
    show x ∈ addAll (addK L t) ts ↔ _
    rw [mem_addAll (ts := ts), mem_addK, List.mem_cons, or_assoc]
theorem nodup_addK {L : List α} {t : α} (h : L.Nodup) : (addK L t).Nodup := by
  unfold addK
  split
  · exact h
  · rename_i q
    rw [List.nodup_append]
    exact ⟨h, List.pairwise_singleton _ t, fun a ha b hb => by rw [List.mem_singleton.mp hb]; exact fun e => q (by rw [← e]; exact ha)⟩
theorem nodup_addAll : ∀ {ts L : List α}, L.Nodup → (addAll L ts).Nodup
  | [], _, h => h
  | t :: ts, _, h => nodup_addAll (ts := ts) (nodup_addK h)
theorem len_addK {L : List α} {t : α} : (addK L t).length ≤ L.length + 1 := by
  unfold addK
  split
  · omega
  · simp
theorem len_addAll : ∀ {ts L : List α}, (addAll L ts).length ≤ L.length + ts.length
  | [], L => by simp [addAll]
  | t :: ts, L => by
    show (addAll (addK L t) ts).length ≤ _
    have := len_addAll (ts := ts) (L := addK L t)
    have := len_addK (L := L) (t := t)
    rw [List.length_cons]
    omega
def kvs (φ : α → D) (L : List α) : List (D × D) := L.map fun t => (φ t, .bool true)
theorem dput_set {φ : α → D} {kd : Bool} (hb : ∀ a b, beqD (φ a) (φ b) = decide (a = b)) (hk : ∀ a, keyKind kd (φ a) = true) {L : List α} {t : α} (hl : L.length < 16777216) : dputO (some (.od kd (kvs φ L))) (φ t) (.bool true) = some (.od kd (kvs φ (addK L t))) := by
  unfold dputO
  dsimp only
  rw [if_pos ⟨by simpa [kvs] using hl, hk t⟩]
  unfold dputD addK
  by_cases h : t ∈ L
  · have ha : ((kvs φ L).any fun kv => beqD kv.1 (φ t)) = true := by
      rw [List.any_eq_true]
      exact ⟨(φ t, .bool true), List.mem_map.mpr ⟨t, h, rfl⟩, by show beqD (φ t) (φ t) = true; rw [hb]; simp⟩
    rw [ha, if_pos rfl, if_pos h]
    congr 2
    unfold kvs
    rw [List.map_map]
    refine List.map_congr_left fun x _ => ?_
    show (if beqD (φ x) (φ t) = true then (φ x, PyData.bool true) else (φ x, PyData.bool true)) = _
    split <;> rfl
  · have ha : ((kvs φ L).any fun kv => beqD kv.1 (φ t)) = false := by
      rw [List.any_eq_false]
      intro kv hkv
      obtain ⟨x, hx, rfl⟩ := List.mem_map.mp hkv
      show ¬ beqD (φ x) (φ t) = true
      rw [hb]
      simp
      intro e
      exact h (by rw [← e]; exact hx)
    rw [ha, if_neg Bool.false_ne_true, if_neg h]
    unfold kvs
    rw [List.map_append]
    rfl
theorem dget_set {φ : α → D} {kd : Bool} (hb : ∀ a b, beqD (φ a) (φ b) = decide (a = b)) (hk : ∀ a, keyKind kd (φ a) = true) {L : List α} {t : α} : dgetO (.od kd (kvs φ L)) (φ t) = some (if t ∈ L then some (.bool true) else none) := by
  show (if keyKind kd (φ t) then some (dlook (kvs φ L) (φ t)) else none) = _
  rw [hk, if_pos rfl]
  congr 1
  unfold dlook kvs
  rw [List.find?_map]
  have e : ((fun kv : D × D => beqD kv.1 (φ t)) ∘ fun x => (φ x, PyData.bool true)) = fun x => decide (x = t) := by
    funext x
    exact hb x t
  rw [e]
  cases hf : L.find? fun x => decide (x = t) with
  | none =>
    have : t ∉ L := fun h => by have := List.find?_eq_none.mp hf t h; simp at this
    rw [if_neg this]; rfl
  | some x =>
    have hx := List.mem_of_find?_eq_some hf
    have : x = t := by simpa using List.find?_some hf
    subst this
    rw [if_pos hx]; rfl
end
theorem beqD_int (a b : Int) : beqD (.int a) (.int b) = decide (a = b) := by
  show (a == b) = _
  by_cases h : a = b <;> simp [h]
abbrev Tr := Int × Int × Int
abbrev dT3 (q : Tr) : D := .tuple [.int q.1, .int q.2.1, .int q.2.2]
theorem beqD_T3 (a b : Tr) : beqD (dT3 a) (dT3 b) = decide (a = b) := by
  obtain ⟨a1, a2, a3⟩ := a
  obtain ⟨b1, b2, b3⟩ := b
  show (a1 == b1 && (a2 == b2 && (a3 == b3 && true))) = _
  rw [Bool.eq_iff_iff]
  simp [Prod.ext_iff]
theorem sort_once {K ns : List Int} (hk : K.Nodup) (hm : ∀ x, x ∈ K ↔ x ∈ ns) : (K.mergeSort fun a b => decide (a ≤ b)) = srtU ns := by
  have p := List.mergeSort_perm K fun a b => decide (a ≤ b)
  have h1 := mergeSort_le K
  have h2 : (K.mergeSort fun a b => decide (a ≤ b)).Nodup := p.nodup_iff.mpr hk
  refine srtU_uniq ?_ fun x => by rw [p.mem_iff, hm]
  exact (h1.and h2).imp fun q => by omega
theorem srtU_congr {ns ms : List Int} (h : ∀ x, x ∈ ns ↔ x ∈ ms) : srtU ns = srtU ms := srtU_uniq (pw_srtU ns) fun k => by rw [mem_srtU, h]
theorem sdO_set {x : Int} {L : List Int} (hl : (x :: L).length < 64) : biO .sorted [.dict (kvs PyData.int (x :: L))] = some (.ol (((x :: L).mergeSort fun a b => decide (a ≤ b)).map .int)) := by
  show biO .sorted [.dict ((.int x, .bool true) :: kvs PyData.int L)] = _
  rw [biO_sd]
  unfold sdO
  have e : ((((PyData.int x, PyData.bool true) : D × D) :: kvs PyData.int L).map (·.1)) = (x :: L).map .int := by
    unfold kvs
    rw [List.map_cons, List.map_map]
    rfl
  rw [e, intsOf_map]
  exact if_pos hl
/-! the work -/
def rng (a b : Int) : List Int := (List.range (b + 1 - a).toNat).map fun i : Nat => a + (i : Int)
theorem mem_rng {a b x : Int} : x ∈ rng a b ↔ a ≤ x ∧ x ≤ b := by
  unfold rng
  rw [List.mem_map]
  constructor
  · rintro ⟨i, hi, rfl⟩
    have := List.mem_range.mp hi
    omega
  · rintro ⟨h1, h2⟩
    exact ⟨(x - a).toNat, List.mem_range.mpr (by omega), by omega⟩
theorem rng_len (a b : Int) : (rng a b).length = (b + 1 - a).toNat := by simp [rng]
theorem ups_rng {a b : Int} : ups a (b + 1 - a).toNat = (rng a b).map .int := by
  rw [ups_eq, rng, List.map_map]
  rfl
theorem rngo {a b : Int} (h : 0 ≤ a) (h1 : a ≤ 1000000) (h2 : 0 ≤ b) (h3 : b ≤ 1000000) : rangeO [.int a, .int (b + 1)] = some ((rng a b).map .int) := by
  rw [rangeO_2, if_pos (by omega), ups_rng]
def ix (r : List Int) (b : Int) : Nat := (r.findIdx? (· == b)).getD 0
/-- at home -/
def hm (w : List (List Int)) (b : Int) : List (List Int) := w.filter fun r => decide (r[(b - 1).toNat]?.getD 0 = b)
def wk (n : Int) (w : List (List Int)) : List Int := (rng 1 n).filter fun b => decide ((hm w b).length = 0)
def tr (H : List (List Int)) (p : List (Int × Int)) (b : Int) (k : Nat) : Tr := (b, (p[k]?.getD (0, 0)).1, (ix (H[k]?.getD []) b : Int) + 1)
def bl (H : List (List Int)) (p : List (Int × Int)) (W : List Int) : List Tr := W.flatMap fun b => (List.range p.length).map (tr H p b)
def bl2 (H : List (List Int)) (p : List (Int × Int)) (W : List Int) : List Tr := (List.range p.length).flatMap fun k => W.map fun b => tr H p b k
theorem mem_bl {H : List (List Int)} {p : List (Int × Int)} {W : List Int} {t : Tr} : t ∈ bl H p W ↔ t ∈ bl2 H p W := by
  unfold bl bl2
  simp only [List.mem_flatMap, List.mem_map]
  constructor
  · rintro ⟨b, hb, k, hk, e⟩
    exact ⟨k, hk, b, hb, e⟩
  · rintro ⟨k, hk, b, hb, e⟩
    exact ⟨b, hb, k, hk, e⟩
def left (S : Tr → Bool) (W G PL : List Int) : List Tr := W.flatMap fun b => G.flatMap fun m => (PL.filter fun q => !S (b, m, q)).map fun q => (b, m, q)
end Lk68

set_option maxHeartbeats 4000000
namespace Lk68
open PySem Q1
theorem ev_compH {α σ : Type} {C : PC} {own : List Nat} {g : Tg} {it : Itx} {c : Tx} {e : Ex} {env : En} (ys : List α) (φ ψ : α → D) (p : α → Bool) (E : σ → En) (inv : σ → Prop) (s0 : σ) (h0 : inv s0) (hi : evI C it env = .ok (ys.map φ) (E s0)) (hp : plainAt (E s0) own = true)
    (hr : ∀ s, ∀ i ∈ own, look (E s0) i = look (E s) i)
    (hb : ∀ y ∈ ys, ∀ s, inv s → ∃ (s' : σ) (e' : En), inv s' ∧ (match setTg (kills (E s) own) g (φ y) with
      | some e2 => (evT C c e2).bind fun b e3 => if b then (evX C e e3).bind fun m e4 => .ok (some m.toD) e4 else .ok none e3
      | none => .bad) = Res.ok (if p y then some (ψ y) else none) e' ∧ kills e' own = kills (E s') own) : ∃ (s' : σ), evX C (.comp own g it c e) env = .ok (.ol ((ys.filter p).map ψ)) (E s') ∧ inv s' := by
  have key : ∀ (ys' : List α) (e0 : En) (s : σ), (∀ y ∈ ys', y ∈ ys) → inv s → kills e0 own = kills (E s) own → ∃ (e' : En) (s' : σ), inv s' ∧ compL (compT own g (evT C c) (evX C e)) (ys'.map φ) e0 = .ok ((ys'.filter p).map ψ) e' ∧ kills e' own = kills (E s') own := by
    intro ys'
    induction ys' with
    | nil => intro e0 s _ hs h; exact ⟨e0, s, hs, rfl, h⟩
    | cons y zs ih =>
      intro e0 s hm hs h
      obtain ⟨s1, e1, hs1, h1, h3⟩ := hb y (hm y List.mem_cons_self) s hs
      obtain ⟨e2, s2, hs2, h4, h5⟩ := ih e1 s1 (fun z hz => hm z (List.mem_cons_of_mem _ hz)) hs1 h3
      have hT : compT own g (evT C c) (evX C e) (φ y) e0 = .ok (if p y then some (ψ y) else none) e1 := by unfold compT; rw [h]; exact h1
      refine ⟨e2, s2, hs2, ?_, h5⟩
      rw [List.map_cons]
      unfold compL
      rw [hT]
      cases hpy : p y with
      | true =>
        rw [List.filter_cons_of_pos hpy]
        simp only [Res.bind, if_true, h4, consO]
        rfl
      | false =>
        rw [List.filter_cons_of_neg (by rw [hpy]; exact Bool.false_ne_true)]
        simp only [Res.bind, Bool.false_eq_true, if_false, h4, consO]
  obtain ⟨e', s', hs, h1, h2⟩ := key ys (E s0) s0 (fun _ h => h) h0 rfl
  refine ⟨s', ?_, hs⟩
  rw [evX_comp, hi]
  simp only [Res.bind, hp, if_true, h1, noExc, restore_congr (hr s'), restore_eq h2]
theorem len_insU {x : Int} : ∀ {l : List Int}, (insU x l).length ≤ l.length + 1
  | [] => by simp [insU]
  | y :: l => by
    unfold insU
    have := len_insU (x := x) (l := l)
    split
    · simp
    · split
      · simp
      · simp; omega
theorem len_srtU : ∀ {ns : List Int}, (srtU ns).length ≤ ns.length
  | [] => Nat.le_refl 0
  | x :: ns => by
    show (insU x (srtU ns)).length ≤ _
    have := len_insU (x := x) (l := srtU ns)
    have := len_srtU (ns := ns)
    rw [List.length_cons]
    omega
theorem foldl_pair {α σ τ : Type} (g : σ → α → σ) (h : τ → α → τ) : ∀ (L : List α) (s : σ) (t : τ), L.foldl (fun (p : σ × τ) x => (g p.1 x, h p.2 x)) (s, t) = (L.foldl g s, L.foldl h t)
  | [], _, _ => rfl
  | x :: L, s, t => foldl_pair g h L (g s x) (h t x)
theorem met_idx {r : List Int} {b : Int} {i : Nat} (h : r.findIdx? (· == b) = some i) : metO .index (.list (r.map .int)) [.int b] = some (.p (.int (ix r b : Nat))) := by
  have e : ix r b = i := by unfold ix; rw [h]; rfl
  rw [e]
  show (intsOf (r.map .int)).bind _ = _
  rw [intsOf_map]
  show (r.findIdx? (· == b)).map _ = _
  rw [h]
  rfl
structure HH (n : Int) (H : List (List Int)) (p : List (Int × Int)) : Prop where
  len : H.length = p.length + 1
  rl : ∀ r ∈ H, (r.length : Int) = n
  at_ : ∀ r ∈ H, ∀ b, 1 ≤ b → b ≤ n → ∃ i : Nat, r.findIdx? (· == b) = some i
  n1 : 1 ≤ n
  n2 : n ≤ 5
  p1 : 1 ≤ p.length
  p2 : p.length ≤ 12
section
variable {k : Nat} {n : Int} {H : List (List Int)} {p : List (Int × Int)} {W G PL : List Int} {A B : D} {S : Tr → Bool}
def cell (S : Tr → Bool) (PL : List Int) (b m : Int) : List Tr := (PL.filter fun q => !S (b, m, q)).map fun q => (b, m, q)
theorem cell_len {b m : Int} : (cell S PL b m).length ≤ PL.length := by unfold cell; rw [List.length_map]; exact List.length_filter_le _ _
def stI (S : Tr → Bool) (PL : List Int) (b : Int) (s : Option M × List Tr) (m : Int) : Option M × List Tr := (none, s.2 ++ cell S PL b m)
def stO (S : Tr → Bool) (G PL : List Int) (s : (Option M × M) × List Tr) (b : Int) : (Option M × M) × List Tr := ((none, .p (.list (G.map .int))), s.2 ++ G.flatMap (cell S PL b))
theorem stI_fold {b : Int} : ∀ (G : List Int) (s : Option M × List Tr), (G.foldl (stI S PL b) s).2 = s.2 ++ G.flatMap (cell S PL b)
  | [], s => by simp
  | m :: G, s => by
    rw [List.foldl_cons, stI_fold G, List.flatMap_cons]
    simp [stI, List.append_assoc]
theorem stO_fold : ∀ (W : List Int) (s : (Option M × M) × List Tr), (W.foldl (stO S G PL) s).2 = s.2 ++ left S W G PL
  | [], s => by simp [left]
  | b :: W, s => by
    rw [List.foldl_cons, stO_fold W]
    show (s.2 ++ G.flatMap (cell S PL b)) ++ left S W G PL = s.2 ++ ((b :: W).flatMap _)
    rw [List.flatMap_cons, List.append_assoc]
    rfl
abbrev E13 (A B : D) (p : List (Int × Int)) (m3 m4 m5 m6 m7 m8 m9 m10 m11 m12 m13 : Option M) : En := [some (.p A), some (.p B), some (.p (dP p)), m3, m4, m5, m6, m7, m8, m9, m10, m11, m12, m13, none, none, none]
theorem c13_4 {K7 : List Tr} {K8 PL : List Int} {b m : Int} {m6 m10 : Option M} {F : List D} (hs : biO .sorted [.dict (kvs PyData.int K8)] = some (.ol (PL.map .int))) :
    evX ⟨run (pgOf rows) sub k, sub⟩ c_13_4 (E13 A B p none none none m6 (some (.od true (kvs dT3 K7))) (some (.od false (kvs PyData.int K8))) none m10 (some (.ol F)) (some (.p (.int b))) (some (.p (.int m)))) = .ok (.ol ((cell (fun t => decide (t ∈ K7)) PL b m).map dT3)) (E13 A B p none none none m6 (some (.od true (kvs dT3 K7))) (some (.od false (kvs PyData.int K8))) none m10 (some (.ol F)) (some (.p (.int b))) (some (.p (.int m)))) := by
  unfold c_13_4 cell
  rw [List.map_map]
  refine ev_compT PL PyData.int (fun q => !decide ((b, m, q) ∈ K7)) _ ?_ (by simp [plainAt]) fun q _ => ?_
  · generalize kvs dT3 K7 = X
    generalize kvs PyData.int K8 = Y at *
    simp [hs]
  · have hg := dget_set (kd := true) beqD_T3 (fun a => rfl) (L := K7) (t := (b, m, q))
    generalize kvs dT3 K7 = X at *
    generalize kvs PyData.int K8 = Y at *
    by_cases w : (b, m, q) ∈ K7
    · rw [if_pos w] at hg
      exact ⟨_, by simp [hg, w, -dgetO_q1]; rfl, by simp⟩
    · rw [if_neg w] at hg
      exact ⟨_, by simp [hg, w, -dgetO_q1]; rfl, by simp⟩
theorem lp13 {K7 : List Tr} {K8 PL : List Int} (hs : biO .sorted [.dict (kvs PyData.int K8)] = some (.ol (PL.map .int)) ∨ W = []) (hG : G.length ≤ 64) (hP : PL.length ≤ 64) (hW : W.length ≤ 64) {m6 : Option M} :
    ∃ m6' m10', forL (loopT [] (.name 12) (evSs ⟨run (pgOf rows) sub k, sub⟩ [] b_13_4)) (W.map .int) (E13 A B p none none none m6 (some (.od true (kvs dT3 K7))) (some (.od false (kvs PyData.int K8))) none (some (.ol (G.map .int))) (some (.ol [])) none none) = .ok .nx (E13 A B p none none none m6' (some (.od true (kvs dT3 K7))) (some (.od false (kvs PyData.int K8))) none (some m10') (some (.ol ((left (fun t => decide (t ∈ K7)) W G PL).map dT3))) none none) := by
  have hlp := forL_foldI (body := loopT [] (.name 12) (evSs ⟨run (pgOf rows) sub k, sub⟩ [] b_13_4)) PyData.int (fun s : (Option M × M) × List Tr => E13 A B p none none none s.1.1 (some (.od true (kvs dT3 K7))) (some (.od false (kvs PyData.int K8))) none (some s.1.2) (some (.ol (s.2.map dT3))) none none) (fun i s => s.2.length ≤ 5000 * i ∧ (s.1.2 = .ol (G.map .int) ∨ s.1.2 = .p (.list (G.map .int)))) (stO (fun t => decide (t ∈ K7)) G PL) W 0 ((m6, .ol (G.map .int)), []) ⟨Nat.le_refl 0, .inl rfl⟩ fun i b hb s hi => by
    have hs : biO .sorted [.dict (kvs PyData.int K8)] = some (.ol (PL.map .int)) := hs.resolve_right fun e => by rw [e] at hb; simp at hb
    have hi2 : i < W.length := (List.getElem?_eq_some_iff.mp hb).1
    rw [Nat.zero_add] at hi ⊢
    obtain ⟨hi, h10⟩ := hi
    have hin := forL_foldI (body := loopT [] (.name 13) (evSs ⟨run (pgOf rows) sub k, sub⟩ [] b_13_3)) PyData.int (fun s : Option M × List Tr => E13 A B p none none none s.1 (some (.od true (kvs dT3 K7))) (some (.od false (kvs PyData.int K8))) none (some (.p (.list (G.map .int)))) (some (.ol (s.2.map dT3))) (some (.p (.int b))) none) (fun j t => t.2.length ≤ s.2.length + 64 * j) (stI (fun t => decide (t ∈ K7)) PL b) G 0 (s.1.1, s.2) (by show s.2.length ≤ _; omega) fun j m hm t hj => by
      have hj2 : j < G.length := (List.getElem?_eq_some_iff.mp hm).1
      rw [Nat.zero_add] at hj ⊢
      have hcl := cell_len (S := fun t => decide (t ∈ K7)) (PL := PL) (b := b) (m := m)
      have hc := c13_4 (k := k) (A := A) (B := B) (p := p) (K7 := K7) (b := b) (m := m) (m6 := t.1) (m10 := some (.p (.list (G.map .int)))) (F := t.2.map dT3) hs
      refine ⟨?_, by simp [stI]; omega⟩
      show _ = Res.ok Fl.nx (E13 A B p none none none none (some (.od true (kvs dT3 K7))) (some (.od false (kvs PyData.int K8))) none (some (.p (.list (G.map .int)))) (some (.ol ((t.2 ++ cell (fun t => decide (t ∈ K7)) PL b m).map dT3))) (some (.p (.int b))) none)
      rw [List.map_append]
      have l1 : (t.2.map dT3).length = t.2.length := List.length_map ..
      have l2 : ((cell (fun t => decide (t ∈ K7)) PL b m).map dT3).length = (cell (fun t => decide (t ∈ K7)) PL b m).length := List.length_map ..
      generalize (cell (fun t => decide (t ∈ K7)) PL b m).map dT3 = Y at *
      generalize t.2.map dT3 = X at *
      have c1 : X.length + Y.length ≤ 16777216 := by omega
      generalize kvs dT3 K7 = U at *
      generalize kvs PyData.int K8 = V at *
      generalize G.map PyData.int = GG at *
      obtain ⟨t1, t2⟩ := t
      simp only [E13] at *
      simp [loopT, b_13_3, hc, c1]
    obtain ⟨h1, h2⟩ := hin
    rw [stI_fold] at h1 h2
    refine ⟨?_, by show (s.2 ++ G.flatMap _).length ≤ _; have h2' : (s.2 ++ G.flatMap (cell (fun t => decide (t ∈ K7)) PL b)).length ≤ s.2.length + 64 * (0 + G.length) := h2; omega, .inr rfl⟩
    show _ = Res.ok Fl.nx (E13 A B p none none none none (some (.od true (kvs dT3 K7))) (some (.od false (kvs PyData.int K8))) none (some (.p (.list (G.map .int)))) (some (.ol ((s.2 ++ G.flatMap (cell (fun t => decide (t ∈ K7)) PL b)).map dT3))) none none)
    generalize (G.foldl (stI (fun t => decide (t ∈ K7)) PL b) (s.1.1, s.2)).1 = m' at *
    have e : ((s.1.1, s.2) : Option M × List Tr).2 = s.2 := rfl
    rw [e] at h1
    generalize (s.2 ++ G.flatMap (cell (fun t => decide (t ∈ K7)) PL b)).map dT3 = Y at *
    generalize kvs dT3 K7 = U at *
    generalize kvs PyData.int K8 = V at *
    generalize G.map PyData.int = GG at *
    generalize s.2.map dT3 = X at *
    obtain ⟨⟨s1, s3⟩, s2⟩ := s
    simp only [E13] at *
    rcases h10 with rfl | rfl
    · simp [loopT, b_13_4, h1]
    · simp [loopT, b_13_4, h1]
  obtain ⟨h1, -⟩ := hlp
  have h2 := stO_fold (S := fun t => decide (t ∈ K7)) (G := G) (PL := PL) W ((m6, .ol (G.map .int)), [])
  rw [List.nil_append] at h2
  exact ⟨(W.foldl (stO (fun t => decide (t ∈ K7)) G PL) ((m6, .ol (G.map .int)), [])).1.1, (W.foldl (stO (fun t => decide (t ∈ K7)) G PL) ((m6, .ol (G.map .int)), [])).1.2, by rw [← h2]; exact h1⟩
theorem s13_8 {K7 : List Tr} {K8 PL : List Int} (hs : biO .sorted [.dict (kvs PyData.int K8)] = some (.ol (PL.map .int)) ∨ W = []) (hp : p.length ≤ 12) (hP : PL.length ≤ 64) (hW : W.length ≤ 64) {m6 : M} (h6 : m6 = .ol (W.map .int) ∨ m6 = .p (.list (W.map .int))) :
    finR 3 (evSs ⟨run (pgOf rows) sub k, sub⟩ [] s_13_8 (E13 A B p none none none (some m6) (some (.od true (kvs dT3 K7))) (some (.od false (kvs PyData.int K8))) none none none none none)) = .ok (.p (.list ((left (fun t => decide (t ∈ K7)) W (srtU (p.map (·.1))) PL).map dT3))) [some (.p A), some (.p B), some (.p (dP p))] := by
  have hl : (p.map (·.1)).length < 64 := by rw [List.length_map]; omega
  have hG := len_srtU (ns := p.map (·.1))
  have hc : evX ⟨run (pgOf rows) sub k, sub⟩ c_13_3 (E13 A B p none none none (some m6) (some (.od true (kvs dT3 K7))) (some (.od false (kvs PyData.int K8))) none none none none none) = .ok (.ol ((p.map (·.1)).map .int)) (E13 A B p none none none (some m6) (some (.od true (kvs dT3 K7))) (some (.od false (kvs PyData.int K8))) none none none none none) := by
    unfold c_13_3
    rw [List.map_map]
    generalize kvs dT3 K7 = U
    generalize kvs PyData.int K8 = V
    exact ev_compA p dE _ (by simp) (by simp [plainAt]) fun e _ => ⟨_, by simp; rfl, by simp⟩
  obtain ⟨m6', m10', hlp⟩ := lp13 (k := k) (A := A) (B := B) (p := p) (K7 := K7) (G := srtU (p.map (·.1))) (m6 := some (.p (.list (W.map .int)))) hs (by omega) hP hW
  have hss : ssetO (.list ((p.map (·.1)).map .int)) = some (.ol ((srtU (p.map (·.1))).map .int)) := by
    rw [ssetO_q1, intsOf_map]
    exact if_pos hl
  generalize (left (fun t => decide (t ∈ K7)) W (srtU (p.map (·.1))) PL).map dT3 = L at *
  generalize (srtU (p.map (·.1))).map PyData.int = G' at *
  generalize (p.map (·.1)).map PyData.int = P' at *
  generalize kvs dT3 K7 = U at *
  generalize kvs PyData.int K8 = V at *
  generalize W.map PyData.int = W' at *
  simp only [E13] at *
  rcases h6 with rfl | rfl
  · simp [s_13_8, hc, hss, hlp, -ssetO_q1]
  · simp [s_13_8, hc, hss, hlp, -ssetO_q1]
end
end Lk68

set_option maxHeartbeats 4000000
namespace Lk68
open PySem Q1
section
variable {k : Nat} {n : Int} {H w : List (List Int)} {p : List (Int × Int)} {W G PL : List Int} {A B : D} {S : Tr → Bool}
def fnd (H : List (List Int)) (p : List (Int × Int)) (W : List Int) : List Tr := left (fun t => decide (t ∈ bl H p W)) W (srtU (p.map (·.1))) (srtU ((bl H p W).map (·.2.2)))
theorem at_H {i : Nat} (h : i < H.length) : L2.atI (H.map dR) (i : Int) = some (dR (H[i]?.getD [])) := by
  rw [atI_nat (by omega), List.getElem?_map]
  simp [h]
theorem st13_1 {K7 : List Tr} {K8 : List Int} {b : Int} {j : Nat} (hh : HH n H p) (hj : j < p.length) (b1 : 1 ≤ b) (b2 : b ≤ n) (h7 : K7.length < 16777216) (h8 : K8.length < 16777216) {m6 : Option M} :
    loopT [] (.name 12) (evSs ⟨run (pgOf rows) sub k, sub⟩ [] b_13_1) (.int b) (E13 A B p (some (.p (.list (H.map dR)))) none none m6 (some (.od true (kvs dT3 K7))) (some (.od false (kvs PyData.int K8))) (some (.p (.int j))) none none none none) = .ok .nx (E13 A B p (some (.p (.list (H.map dR)))) none none m6 (some (.od true (kvs dT3 (addK K7 (tr H p b j))))) (some (.od false (kvs PyData.int (addK K8 (tr H p b j).2.2)))) (some (.p (.int j))) none none none none) := by
  have hjH : j < H.length := by rw [hh.len]; omega
  have a1 := at_p (p := p) hj
  have a2 := at_H (H := H) hjH
  have hr : H[j]?.getD [] ∈ H := by rw [List.getElem?_eq_getElem hjH]; exact List.getElem_mem _
  obtain ⟨i, hi⟩ := hh.at_ _ hr b b1 b2
  have hmet := met_idx hi
  have d7 := dput_set (kd := true) beqD_T3 (fun a => rfl) (L := K7) (t := tr H p b j) h7
  have d8 := dput_set (kd := false) beqD_int (fun a => rfl) (L := K8) (t := (tr H p b j).2.2) h8
  have e3 : dT3 (tr H p b j) = .tuple [.int b, .int (p[j]?.getD (0, 0)).1, .int ((ix (H[j]?.getD []) b : Int) + 1)] := rfl
  have e4 : (tr H p b j).2.2 = (ix (H[j]?.getD []) b : Int) + 1 := rfl
  rw [e3] at d7
  rw [e4] at d8 ⊢
  generalize kvs dT3 (addK K7 (tr H p b j)) = U' at *
  generalize kvs PyData.int (addK K8 ((ix (H[j]?.getD []) b : Int) + 1)) = V' at *
  generalize kvs dT3 K7 = U at *
  generalize kvs PyData.int K8 = V at *
  simp only [dR] at *
  generalize (H.map fun r => (PyData.list (r.map PyData.int) : D)) = X at *
  generalize (H[j]?.getD []).map PyData.int = Y at *
  generalize (ix (H[j]?.getD []) b : Int) = z at *
  generalize p[j]?.getD (0, 0) = e at *
  obtain ⟨e1, e2⟩ := e
  simp only [E13, dE] at *
  simp [loopT, b_13_1, a1, a2, hmet, d7, d8, -dputO_q1]
theorem lp13_2 (hh : HH n H p) (hW : ∀ b ∈ W, 1 ≤ b ∧ b ≤ n) (hl : W.length ≤ 5) {j : Nat} (hj : j < p.length) {K7 : List Tr} {K8 : List Int} (h7 : K7.length ≤ 5 * j) (h8 : K8.length ≤ 5 * j) {m6 : M} (h6 : m6 = .ol (W.map .int) ∨ m6 = .p (.list (W.map .int))) :
    loopT [] (.name 9) (evSs ⟨run (pgOf rows) sub k, sub⟩ [] b_13_2) (.int j) (E13 A B p (some (.p (.list (H.map dR)))) none none (some m6) (some (.od true (kvs dT3 K7))) (some (.od false (kvs PyData.int K8))) none none none none none) = .ok .nx (E13 A B p (some (.p (.list (H.map dR)))) none none (some (.p (.list (W.map .int)))) (some (.od true (kvs dT3 (addAll K7 (W.map fun b => tr H p b j))))) (some (.od false (kvs PyData.int (addAll K8 (W.map fun b => (tr H p b j).2.2))))) none none none none none) := by
  have hp2 := hh.p2
  have hin := forL_foldI (body := loopT [] (.name 12) (evSs ⟨run (pgOf rows) sub k, sub⟩ [] b_13_1)) PyData.int (fun s : List Tr × List Int => E13 A B p (some (.p (.list (H.map dR)))) none none (some (.p (.list (W.map .int)))) (some (.od true (kvs dT3 s.1))) (some (.od false (kvs PyData.int s.2))) (some (.p (.int j))) none none none none) (fun i s => s.1.length ≤ 5 * j + i ∧ s.2.length ≤ 5 * j + i) (fun s b => (addK s.1 (tr H p b j), addK s.2 (tr H p b j).2.2)) W 0 (K7, K8) ⟨h7, h8⟩ fun i b hb s hs => by
    have hi := (List.getElem?_eq_some_iff.mp hb).1
    obtain ⟨w1, w2⟩ := hW b (List.mem_of_getElem? hb)
    obtain ⟨s1, s2⟩ := hs
    have l1 := len_addK (L := s.1) (t := tr H p b j)
    have l2 := len_addK (L := s.2) (t := (tr H p b j).2.2)
    exact ⟨st13_1 hh hj w1 w2 (by omega) (by omega), by show (addK s.1 _).length ≤ _; omega, by show (addK s.2 _).length ≤ _; omega⟩
  obtain ⟨h1, -⟩ := hin
  rw [foldl_pair (fun L b => addK L (tr H p b j)) (fun L b => addK L (tr H p b j).2.2)] at h1
  have e1 : W.foldl (fun L b => addK L (tr H p b j)) K7 = addAll K7 (W.map fun b => tr H p b j) := by unfold addAll; rw [List.foldl_map]
  have e2 : W.foldl (fun L b => addK L (tr H p b j).2.2) K8 = addAll K8 (W.map fun b => (tr H p b j).2.2) := by unfold addAll; rw [List.foldl_map]
  rw [e1, e2] at h1
  generalize addAll K7 (W.map fun b => tr H p b j) = U' at *
  generalize addAll K8 (W.map fun b => (tr H p b j).2.2) = V' at *
  generalize kvs dT3 U' = U' at *
  generalize kvs PyData.int V' = V' at *
  generalize kvs dT3 K7 = U at *
  generalize kvs PyData.int K8 = V at *
  generalize H.map dR = X at *
  generalize W.map PyData.int = W' at *
  simp only [E13] at *
  rcases h6 with rfl | rfl
  · simp [loopT, b_13_2, h1]
  · simp [loopT, b_13_2, h1]
theorem s13_5 (hh : HH n H p) (hW : ∀ b ∈ W, 1 ≤ b ∧ b ≤ n) (hl : W.length ≤ 5) :
    finR 3 (evSs ⟨run (pgOf rows) sub k, sub⟩ [] s_13_5 (E13 A B p (some (.p (.list (H.map dR)))) none none (some (.ol (W.map .int))) none none none none none none none)) = .ok (.p (.list ((fnd H p W).map dT3))) [some (.p A), some (.p B), some (.p (dP p))] := by
  have hp1 := hh.p1
  have hp2 := hh.p2
  have hlp := forL_foldI (body := loopT [] (.name 9) (evSs ⟨run (pgOf rows) sub k, sub⟩ [] b_13_2)) (fun i : Nat => (.int i : D)) (fun s : M × (List Tr × List Int) => E13 A B p (some (.p (.list (H.map dR)))) none none (some s.1) (some (.od true (kvs dT3 s.2.1))) (some (.od false (kvs PyData.int s.2.2))) none none none none none) (fun i s => (s.1 = .ol (W.map .int) ∨ s.1 = .p (.list (W.map .int))) ∧ s.2.1.length ≤ 5 * i ∧ s.2.2.length ≤ 5 * i) (fun s j => (.p (.list (W.map .int)), (addAll s.2.1 (W.map fun b => tr H p b j), addAll s.2.2 (W.map fun b => (tr H p b j).2.2)))) (List.range p.length) 0 (.ol (W.map .int), ([], [])) ⟨.inl rfl, Nat.le_refl 0, Nat.le_refl 0⟩ fun i j hj s hs => by
    have hi := (List.getElem?_eq_some_iff.mp hj).1
    rw [List.length_range] at hi
    rw [List.getElem?_range hi] at hj
    injection hj with hj
    subst hj
    rw [Nat.zero_add] at hs ⊢
    obtain ⟨h6, s1, s2⟩ := hs
    have l1 := len_addAll (L := s.2.1) (ts := W.map fun b => tr H p b i)
    have l2 := len_addAll (L := s.2.2) (ts := W.map fun b => (tr H p b i).2.2)
    rw [List.length_map] at l1 l2
    exact ⟨lp13_2 hh hW hl hi s1 s2 h6, .inr rfl, by show (addAll s.2.1 _).length ≤ _; omega, by show (addAll s.2.2 _).length ≤ _; omega⟩
  obtain ⟨h1, hm6, -, hk8⟩ := hlp
  rw [foldl_pair (fun (m : M) (j : Nat) => (.p (.list (W.map .int)) : M)) (fun (s : List Tr × List Int) (j : Nat) => (addAll s.1 (W.map fun b => tr H p b j), addAll s.2 (W.map fun b => (tr H p b j).2.2)))] at h1 hm6 hk8
  rw [foldl_pair (fun L j => addAll L (W.map fun b => tr H p b j)) (fun L j => addAll L (W.map fun b => (tr H p b j).2.2))] at h1 hm6 hk8
  have e1 : (List.range p.length).foldl (fun L j => addAll L (W.map fun b => tr H p b j)) [] = addAll [] (bl2 H p W) := by unfold addAll bl2; rw [List.foldl_flatMap]
  have e2 : (List.range p.length).foldl (fun L j => addAll L (W.map fun b => (tr H p b j).2.2)) [] = addAll [] ((bl2 H p W).map (·.2.2)) := by
    unfold addAll bl2
    rw [List.map_flatMap, List.foldl_flatMap]
    simp only [List.map_map]
    rfl
  rw [e1, e2] at h1
  rw [e2] at hk8
  generalize (List.range p.length).foldl (fun (m : M) (j : Nat) => (.p (.list (W.map .int)) : M)) (.ol (W.map .int)) = m6 at h1 hm6
  have hk8 : (addAll [] ((bl2 H p W).map (·.2.2))).length ≤ 5 * (0 + (List.range p.length).length) := hk8
  rw [List.length_range] at hk8
  have hnd : (addAll [] ((bl2 H p W).map (·.2.2))).Nodup := nodup_addAll .nil
  have hmem : ∀ x, x ∈ addAll [] ((bl2 H p W).map (·.2.2)) ↔ x ∈ (bl H p W).map (·.2.2) := fun x => by
    rw [mem_addAll]
    simp only [List.not_mem_nil, false_or, List.mem_map]
    exact ⟨fun ⟨t, ht, e⟩ => ⟨t, mem_bl.mpr ht, e⟩, fun ⟨t, ht, e⟩ => ⟨t, mem_bl.mp ht, e⟩⟩
  have hso := sort_once hnd hmem
  have hs : biO .sorted [.dict (kvs PyData.int (addAll [] ((bl2 H p W).map (·.2.2))))] = some (.ol ((srtU ((bl H p W).map (·.2.2))).map .int)) ∨ W = [] := by
    cases hW0 : W with
    | nil => exact .inr rfl
    | cons b W' =>
      rw [hW0] at hso hk8 hmem
      have hx : (tr H p b 0).2.2 ∈ addAll [] ((bl2 H p (b :: W')).map (·.2.2)) := (hmem _).mpr (List.mem_map.mpr ⟨tr H p b 0, by
        unfold bl
        exact List.mem_flatMap.mpr ⟨b, List.mem_cons_self, List.mem_map.mpr ⟨0, List.mem_range.mpr (by omega), rfl⟩⟩, rfl⟩)
      refine .inl ?_
      rw [← hso]
      generalize addAll [] ((bl2 H p (b :: W')).map (·.2.2)) = K at *
      cases K with
      | nil => cases hx
      | cons x L => exact sdO_set (by omega)
  have hPl : (srtU ((bl H p W).map (·.2.2))).length ≤ 64 := by
    rw [← hso, (List.mergeSort_perm _ _).length_eq]
    omega
  have hr : rangeO [.int (p.length : Int)] = some ((List.range p.length).map fun i : Nat => .int i) := by
    rw [rangeO_1, if_pos (by omega), ups_eq]
    simp
  have h8 := s13_8 (k := k) (A := A) (B := B) (p := p) (W := W) (K7 := addAll [] (bl2 H p W)) hs (by omega) hPl (by omega) hm6
  have eS : left (fun t => decide (t ∈ addAll [] (bl2 H p W))) W (srtU (p.map (·.1))) (srtU ((bl H p W).map (·.2.2))) = fnd H p W := by
    unfold fnd
    congr 1
    funext t
    refine decide_eq_decide.mpr ?_
    rw [mem_addAll, mem_bl]
    simp
  rw [eS] at h8
  have hpl : (p.map dE).length = p.length := List.length_map ..
  generalize (fnd H p W).map dT3 = L at *
  generalize kvs dT3 (addAll [] (bl2 H p W)) = U at *
  generalize kvs PyData.int (addAll [] ((bl2 H p W).map (·.2.2))) = V at *
  have n1 : kvs dT3 [] = [] := rfl
  have n2 : kvs PyData.int [] = [] := rfl
  rw [n1, n2] at h1
  generalize W.map PyData.int = W' at *
  generalize H.map dR = X at *
  generalize (List.range p.length).map (fun i : Nat => (PyData.int i : D)) = Z at *
  simp only [E13] at *
  simp [s_13_5, hr, h1, h8, -rangeO_1, -finR]
end
end Lk68

set_option maxHeartbeats 4000000
namespace Lk68
open PySem Q1
def wth (H : List (List Int)) : List (List Int) := (H.drop (HT.sIx H.length 0 (some 1))).take (HT.sIx H.length H.length (some (-1)) - HT.sIx H.length 0 (some 1))
theorem cut_wth (H : List (List Int)) : cutD (H.map dR) (some 1) (some (-1)) = (wth H).map dR := by
  unfold cutD wth
  rw [List.length_map, ← List.map_drop, ← List.map_take]
theorem wth_mem {H : List (List Int)} {r : List Int} (h : r ∈ wth H) : r ∈ H := List.mem_of_mem_drop (List.mem_of_mem_take h)
theorem ledR_onl : ∀ (lead : List (List Int)) (row : List Int) (b : Int) (i : Nat), Onl row b i → (∀ c ∈ lead, ValidC row.length c) → ∃ i', Onl (ledR row lead) b i'
  | [], row, b, i, h, _ => ⟨i, h⟩
  | c :: lead, row, b, i, h, hv => ledR_onl lead (mv row c) b _ (h.mv (hv c List.mem_cons_self)) fun d hd => by rw [mv_len]; exact hv d (List.mem_cons_of_mem _ hd)
theorem hds_onl {m : Nat} : ∀ (ls : List (List (List Int))) (row : List Int) (b : Int) (i : Nat), row.length = m → Onl row b i → (∀ l ∈ ls, ∀ c ∈ l, ValidC m c) → ∀ r ∈ hds row ls, r.length = m ∧ ∃ i', Onl r b i'
  | [], row, b, i, hl, h, _, r, hr => by
    rw [List.mem_singleton.mp hr]
    exact ⟨hl, i, h⟩
  | l :: ls, row, b, i, hl, h, hv, r, hr => by
    unfold hds at hr
    rcases List.mem_cons.mp hr with q | q
    · rw [q]; exact ⟨hl, i, h⟩
    · obtain ⟨i', h'⟩ := ledR_onl l row b i h fun c hc => by rw [hl]; exact hv l List.mem_cons_self c hc
      exact hds_onl ls (ledR row l) b i' (by rw [ledR_len]; exact hl) h' (fun l' hl' => hv l' (List.mem_cons_of_mem _ hl')) r q
section
variable {k : Nat} {n : Int} {ms : List (List (List Int))} {cs : List (List Int)} {H w : List (List Int)} {p : List (Int × Int)} {W G PL : List Int} {A B : D} {S : Tr → Bool}
abbrev HS (n : Int) (ms : List (List (List Int))) (cs : List (List Int)) (p : List (Int × Int)) : List (List Int) := hds (rnds n.toNat) (p.map (leadBy ms cs))
theorem hh_of (hm : VMs n ms) (hc : VC n cs) (hp : VP p ms.length cs.length) (hn : n = 4 ∨ n = 5) (h12 : p.length ≤ 12) : HH n (HS n ms cs p) p := by
  have key : ∀ r ∈ HS n ms cs p, ∀ b : Int, 1 ≤ b → b ≤ n → r.length = n.toNat ∧ ∃ i', Onl r b i' := fun r hr b b1 b2 => by
    have ho := onl_rnds (n := n.toNat) (i := (b - 1).toNat) (by omega)
    rw [show (1 : Int) + ((b - 1).toNat : Nat) = b by omega] at ho
    refine hds_onl (m := n.toNat) _ _ b _ rnds_len ho (fun l hl c hc' => ?_) r hr
    obtain ⟨e, he, rfl⟩ := List.mem_map.mp hl
    have := (leadBy_ok hm hc (hp.ve e he)).2 c hc'
    rwa [show ((n.toNat : Nat) : Int) = n by omega]
  refine ⟨by rw [hds_len, List.length_map], fun r hr => ?_, fun r hr b b1 b2 => ?_, by omega, by omega, hp.l1, h12⟩
  · have := (key r hr 1 (by omega) (by omega)).1
    omega
  · obtain ⟨-, i, hi⟩ := key r hr b b1 b2
    exact ⟨i, hi.idx⟩
theorem wk_bd {b : Int} (hb : b ∈ wk n w) : 1 ≤ b ∧ b ≤ n := mem_rng.mp (List.mem_filter.mp hb).1
theorem wk_len (h : n ≤ 5) : (wk n w).length ≤ 5 := by
  have := List.length_filter_le (fun b => decide ((hm w b).length = 0)) (rng 1 n)
  rw [rng_len] at this
  unfold wk
  omega
theorem at_row {r : List Int} {b : Int} (h1 : 1 ≤ b) (h2 : b ≤ r.length) : L2.atI (r.map PyData.int) (b - 1) = some (.int (r[(b - 1).toNat]?.getD 0)) := by
  have h : (b - 1).toNat < r.length := by omega
  rw [atI_nat (by omega), List.getElem?_map, List.getElem?_eq_getElem h]
  rfl
theorem c13_1 (hw : ∀ r ∈ w, (r.length : Int) = n) {b : Int} (b1 : 1 ≤ b) (b2 : b ≤ n) {m3 m4 : Option M} {m5 : M} (h5 : m5 = .ol (w.map dR) ∨ m5 = .p (.list (w.map dR))) :
    evX ⟨run (pgOf rows) sub k, sub⟩ c_13_1 (E13 A B p m3 m4 (some m5) none none none none none none (some (.p (.int b))) none) = .ok (.ol ((hm w b).map dR)) (E13 A B p m3 m4 (some (.p (.list (w.map dR)))) none none none none none none (some (.p (.int b))) none) := by
  unfold c_13_1 hm
  refine ev_compT w dR (fun r => decide (r[(b - 1).toNat]?.getD 0 = b)) dR ?_ (by simp [plainAt]) fun r hr => ?_
  · generalize w.map dR = X at *
    rcases h5 with rfl | rfl <;> simp
  · have hat := at_row (r := r) b1 (by rw [hw r hr]; exact b2)
    generalize w.map dR = X at *
    generalize r[(b - 1).toNat]?.getD 0 = v at *
    by_cases q : v = b
    · exact ⟨_, by simp [hat, q]; rfl, by simp⟩
    · exact ⟨_, by simp [hat, q]; rfl, by simp⟩
theorem f_13 (hm' : VMs n ms) (hc : VC n cs) (hp : VP p ms.length cs.length) (hn : n = 4 ∨ n = 5) (h12 : p.length ≤ 12) : R (k + 6) 13 [.p (dMs n ms), .p (dL cs), .p (dP p)] = .ok (.p (.list ((fnd (HS n ms cs p) p (wk n (wth (HS n ms cs p)))).map dT3))) [some (.p (dMs n ms)), some (.p (dL cs)), some (.p (dP p))] := by
  have hh := hh_of hm' hc hp hn h12
  have q10 := f_10 (k := k) hm' hc hp
  have q12 := f_12 (k := k + 1) hm' hc hp
  rw [show hds (rnds n.toNat) (p.map (leadBy ms cs)) = HS n ms cs p from rfl] at q12
  generalize HS n ms cs p = H at *
  obtain ⟨l0, h0⟩ := at_first (n := n) hm'.l1
  have hcut := cut_wth H
  have hw : ∀ r ∈ wth H, (r.length : Int) = n := fun r hr => hh.rl r (wth_mem hr)
  have h5 := s13_5 (k := k + 5) (A := dMs n ms) (B := dL cs) (W := wk n (wth H)) hh (fun b hb => wk_bd hb) (wk_len hh.n2)
  have hr := rngo (a := 1) (b := n) (by omega) (by omega) (by omega) (by omega)
  obtain ⟨m5, hc2, -⟩ := ev_compH (C := ⟨run (pgOf rows) sub (k + 5), sub⟩) (own := [12]) (g := .name 12) (it := .range (.cons (.lit (.int 1)) (.cons (.bin .add (.rf 4) (.lit (.int 1))) .nil))) (c := .not (.tru c_13_1)) (e := .var 12)
    (env := E13 (dMs n ms) (dL cs) p (some (.p (.list (H.map dR)))) (some (.p (.int n))) (some (.ol ((wth H).map dR))) none none none none none none none none) (rng 1 n) PyData.int PyData.int (fun b => decide ((hm (wth H) b).length = 0))
    (fun m : M => E13 (dMs n ms) (dL cs) p (some (.p (.list (H.map dR)))) (some (.p (.int n))) (some m) none none none none none none none none) (fun m => m = .ol ((wth H).map dR) ∨ m = .p (.list ((wth H).map dR))) (.ol ((wth H).map dR)) (.inl rfl) (by
      generalize (wth H).map dR = X
      generalize H.map dR = Y
      generalize dMs n ms = Z
      generalize dL cs = Z2
      simp [hr, -rangeO_2]) (by simp [plainAt]) (fun s i hi => by rw [List.mem_singleton.mp hi]; rfl) fun b hb s hs => by
      have hb := mem_rng.mp hb
      have hq := c13_1 (k := k + 5) (A := dMs n ms) (B := dL cs) (p := p) (m3 := some (.p (.list (H.map dR)))) (m4 := some (.p (.int n))) hw hb.1 hb.2 hs
      refine ⟨.p (.list ((wth H).map dR)), ?_⟩
      generalize dMs n ms = Z at *
      generalize dL cs = Z2 at *
      generalize H.map dR = Y at *
      cases hx : hm (wth H) b with
      | nil =>
        rw [hx] at hq
        simp only [E13, List.map_nil] at hq
        generalize (wth H).map dR = X at *
        exact ⟨_, .inr rfl, by simp [hq]; rfl, by simp⟩
      | cons y ys =>
        rw [hx] at hq
        simp only [E13, List.map_cons] at hq
        generalize ys.map dR = Q at *
        generalize (wth H).map dR = X at *
        exact ⟨_, .inr rfl, by simp [hq]; rfl, by simp⟩
  have hc2 : evX ⟨run (pgOf rows) sub (k + 5), sub⟩ c_13_2 (E13 (dMs n ms) (dL cs) p (some (.p (.list (H.map dR)))) (some (.p (.int n))) (some (.ol ((wth H).map dR))) none none none none none none none none) = .ok (.ol ((wk n (wth H)).map .int)) _ := hc2
  show run _ _ (k + 6) 13 _ = _
  rw [run_succ pg_13 rfl]
  have e0 : L2.atI ([.int n, .list (l0.map dC)] : List D) 0 = some (.int n) := rfl
  generalize (fnd H p (wk n (wth H))).map dT3 = L at *
  generalize (wk n (wth H)).map PyData.int = W' at *
  generalize (wth H).map dR = X at *
  generalize H.map dR = Y at *
  simp only [dMs] at *
  generalize ms.map (dM n) = MM at *
  generalize hCC : dL cs = CC at *
  simp only [E13] at *
  simp [b_13, q10, q12, h0, atI_nat, hcut, hc2, -finR]
  rw [h5]
end
end Lk68

set_option maxHeartbeats 4000000
namespace Lk68
open PySem Q1
theorem dord_C : DOrd (fun l : List Int => (dC l : D)) (ltL ltI) 1 := dord_T dord_I
def tL (t : Tr) : List Int := [t.1, t.2.1, t.2.2]
theorem tL_inj {s t : Tr} (h : tL s = tL t) : s = t := by
  obtain ⟨a, b, c⟩ := s
  obtain ⟨d, e, f⟩ := t
  simp [tL] at h
  simp [h]
theorem in_T3 (t : Tr) (L : List Tr) : inO (dT3 t) (.list (L.map dT3)) = some (decide (t ∈ L)) := by
  have h := inO_typed dord_C (by omega) (tL t) (L.map tL)
  have e : (L.map tL).map (fun l : List Int => (dC l : D)) = L.map dT3 := by rw [List.map_map]; rfl
  rw [e] at h
  have h : inO (dT3 t) (.list (L.map dT3)) = some (decide (tL t ∈ L.map tL)) := h
  rw [h]
  congr 1
  refine decide_eq_decide.mpr ⟨fun q => ?_, fun q => List.mem_map.mpr ⟨t, q, rfl⟩⟩
  obtain ⟨s, hs, e⟩ := List.mem_map.mp q
  rw [← tL_inj e]
  exact hs
theorem fold_app {α β : Type} (h : α → List β) : ∀ (L : List α) (W : List β), L.foldl (fun W x => W ++ h x) W = W ++ L.flatMap h
  | [], W => by simp
  | x :: L, W => by rw [List.foldl_cons, fold_app h L, List.flatMap_cons, List.append_assoc]
section
variable {k : Nat} {n : Int} {ms : List (List (List Int))} {cs : List (List Int)} {H w : List (List Int)} {p : List (Int × Int)} {W G PL : List Int} {A B : D} {BL : List Tr}
abbrev E26 (A B : D) (p : List (Int × Int)) (m3 m4 m5 m6 m7 m8 m9 m10 m11 : Option M) : En := [some (.p A), some (.p B), some (.p (dP p)), m3, m4, m5, m6, m7, m8, m9, m10, m11, none, none, none, none]
/-! the last loop -/
theorem c26_5 {b m : Int} {m5 m9 : Option M} {m8 : M} (h8 : m8 = .ol (PL.map .int) ∨ m8 = .p (.list (PL.map .int))) {F : List D} :
    evX ⟨run (pgOf rows) sub k, sub⟩ c_26_5 (E26 A B p none none m5 (some (.p (.int b))) (some (.p (.list (BL.map dT3)))) (some m8) m9 (some (.ol F)) (some (.p (.int m)))) = .ok (.ol ((cell (fun t => decide (t ∈ BL)) PL b m).map dT3)) (E26 A B p none none m5 (some (.p (.int b))) (some (.p (.list (BL.map dT3)))) (some (.p (.list (PL.map .int)))) m9 (some (.ol F)) (some (.p (.int m)))) := by
  unfold c_26_5 cell
  rw [List.map_map]
  refine ev_compT PL PyData.int (fun q => !decide ((b, m, q) ∈ BL)) _ ?_ (by simp [plainAt]) fun q _ => ?_
  · generalize BL.map dT3 = X
    generalize PL.map PyData.int = Y at *
    rcases h8 with rfl | rfl <;> simp
  · have hg := in_T3 (b, m, q) BL
    generalize PL.map PyData.int = Y at *
    generalize BL.map dT3 = X at *
    by_cases v : (b, m, q) ∈ BL
    · rw [decide_eq_true v] at hg
      exact ⟨_, by simp [hg, v]; rfl, by simp⟩
    · rw [decide_eq_false v] at hg
      exact ⟨_, by simp [hg, v]; rfl, by simp⟩
def sI (S : Tr → Bool) (PL : List Int) (b : Int) (s : (Option M × M) × List Tr) (m : Int) : (Option M × M) × List Tr := ((none, .p (.list (PL.map .int))), s.2 ++ cell S PL b m)
theorem sI_fold {S : Tr → Bool} {b : Int} : ∀ (G : List Int) (s : (Option M × M) × List Tr), (G.foldl (sI S PL b) s).2 = s.2 ++ G.flatMap (cell S PL b)
  | [], s => by simp
  | m :: G, s => by
    rw [List.foldl_cons, sI_fold G, List.flatMap_cons]
    simp [sI, List.append_assoc]
abbrev SO := ((Option M × M) × M) × List Tr
def sO (S : Tr → Bool) (G PL : List Int) (s : SO) (b : Int) : SO := (((none, (G.foldl (sI S PL b) (s.1.1, s.2)).1.2), .p (.list (G.map .int))), s.2 ++ G.flatMap (cell S PL b))
theorem sO_fold {S : Tr → Bool} : ∀ (W : List Int) (s : SO), (W.foldl (sO S G PL) s).2 = s.2 ++ left S W G PL
  | [], s => by simp [left]
  | b :: W, s => by
    rw [List.foldl_cons, sO_fold W]
    show (s.2 ++ G.flatMap (cell S PL b)) ++ left S W G PL = s.2 ++ ((b :: W).flatMap _)
    rw [List.flatMap_cons, List.append_assoc]
    rfl
theorem lp26 (hG : G.length ≤ 64) (hP : PL.length ≤ 64) (hW : W.length ≤ 64) {m5 : Option M} :
    ∃ m5' m8' m9', forL (loopT [] (.name 6) (evSs ⟨run (pgOf rows) sub k, sub⟩ [] b_26_4)) (W.map .int) (E26 A B p none none m5 none (some (.p (.list (BL.map dT3)))) (some (.ol (PL.map .int))) (some (.ol (G.map .int))) (some (.ol [])) none) = .ok .nx (E26 A B p none none m5' none (some (.p (.list (BL.map dT3)))) (some m8') (some m9') (some (.ol ((left (fun t => decide (t ∈ BL)) W G PL).map dT3))) none) := by
  have hlp := forL_foldI (body := loopT [] (.name 6) (evSs ⟨run (pgOf rows) sub k, sub⟩ [] b_26_4)) PyData.int (fun s : SO => E26 A B p none none s.1.1.1 none (some (.p (.list (BL.map dT3)))) (some s.1.1.2) (some s.1.2) (some (.ol (s.2.map dT3))) none) (fun i s => s.2.length ≤ 5000 * i ∧ (s.1.1.2 = .ol (PL.map .int) ∨ s.1.1.2 = .p (.list (PL.map .int))) ∧ (s.1.2 = .ol (G.map .int) ∨ s.1.2 = .p (.list (G.map .int)))) (sO (fun t => decide (t ∈ BL)) G PL) W 0 (((m5, .ol (PL.map .int)), .ol (G.map .int)), []) ⟨Nat.le_refl 0, .inl rfl, .inl rfl⟩ fun i b hb s hi => by
    have hi2 : i < W.length := (List.getElem?_eq_some_iff.mp hb).1
    rw [Nat.zero_add] at hi ⊢
    obtain ⟨hi, h8, h9⟩ := hi
    have hin := forL_foldI (body := loopT [] (.name 11) (evSs ⟨run (pgOf rows) sub k, sub⟩ [] b_26_3)) PyData.int (fun s : (Option M × M) × List Tr => E26 A B p none none s.1.1 (some (.p (.int b))) (some (.p (.list (BL.map dT3)))) (some s.1.2) (some (.p (.list (G.map .int)))) (some (.ol (s.2.map dT3))) none) (fun j t => t.2.length ≤ s.2.length + 64 * j ∧ (t.1.2 = .ol (PL.map .int) ∨ t.1.2 = .p (.list (PL.map .int)))) (sI (fun t => decide (t ∈ BL)) PL b) G 0 (s.1.1, s.2) ⟨by show s.2.length ≤ _; omega, h8⟩ fun j m hm t hj => by
      have hj2 : j < G.length := (List.getElem?_eq_some_iff.mp hm).1
      rw [Nat.zero_add] at hj ⊢
      obtain ⟨hj, t8⟩ := hj
      have hcl := cell_len (S := fun t => decide (t ∈ BL)) (PL := PL) (b := b) (m := m)
      have hc := c26_5 (k := k) (A := A) (B := B) (p := p) (BL := BL) (b := b) (m := m) (m5 := t.1.1) (m9 := some (.p (.list (G.map .int)))) (F := t.2.map dT3) t8
      refine ⟨?_, by show (t.2 ++ cell _ PL b m).length ≤ _; rw [List.length_append]; omega, .inr rfl⟩
      show _ = Res.ok Fl.nx (E26 A B p none none none (some (.p (.int b))) (some (.p (.list (BL.map dT3)))) (some (.p (.list (PL.map .int)))) (some (.p (.list (G.map .int)))) (some (.ol ((t.2 ++ cell (fun t => decide (t ∈ BL)) PL b m).map dT3))) none)
      rw [List.map_append]
      have l1 : (t.2.map dT3).length = t.2.length := List.length_map ..
      have l2 : ((cell (fun t => decide (t ∈ BL)) PL b m).map dT3).length = (cell (fun t => decide (t ∈ BL)) PL b m).length := List.length_map ..
      generalize (cell (fun t => decide (t ∈ BL)) PL b m).map dT3 = Y at *
      generalize t.2.map dT3 = X at *
      have c1 : X.length + Y.length ≤ 16777216 := by omega
      generalize BL.map dT3 = U at *
      generalize PL.map PyData.int = V at *
      generalize G.map PyData.int = GG at *
      obtain ⟨⟨t1, t3⟩, t2⟩ := t
      simp only [E26] at *
      simp [loopT, b_26_3, hc, c1]
    obtain ⟨h1, h2, h3⟩ := hin
    rw [sI_fold] at h1 h2
    refine ⟨?_, by show (s.2 ++ G.flatMap _).length ≤ _; have h2' : (s.2 ++ G.flatMap (cell (fun t => decide (t ∈ BL)) PL b)).length ≤ s.2.length + 64 * (0 + G.length) := h2; omega, h3, .inr rfl⟩
    show _ = Res.ok Fl.nx (E26 A B p none none none none (some (.p (.list (BL.map dT3)))) (some (G.foldl (sI (fun t => decide (t ∈ BL)) PL b) (s.1.1, s.2)).1.2) (some (.p (.list (G.map .int)))) (some (.ol ((s.2 ++ G.flatMap (cell (fun t => decide (t ∈ BL)) PL b)).map dT3))) none)
    have e : ((s.1.1, s.2) : (Option M × M) × List Tr).2 = s.2 := rfl
    rw [e] at h1
    generalize (G.foldl (sI (fun t => decide (t ∈ BL)) PL b) (s.1.1, s.2)).1 = r at *
    generalize (s.2 ++ G.flatMap (cell (fun t => decide (t ∈ BL)) PL b)).map dT3 = Y at *
    generalize BL.map dT3 = U at *
    generalize PL.map PyData.int = V at *
    generalize G.map PyData.int = GG at *
    generalize s.2.map dT3 = X at *
    obtain ⟨⟨⟨s1, s4⟩, s3⟩, s2⟩ := s
    obtain ⟨r1, r2⟩ := r
    simp only [E26] at *
    rcases h9 with rfl | rfl
    · simp [loopT, b_26_4, h1]
    · simp [loopT, b_26_4, h1]
  obtain ⟨h1, -⟩ := hlp
  have h2 := sO_fold (S := fun t => decide (t ∈ BL)) (G := G) (PL := PL) W (((m5, .ol (PL.map .int)), .ol (G.map .int)), [])
  rw [List.nil_append] at h2
  exact ⟨_, _, _, by rw [← h2]; exact h1⟩
end
end Lk68

set_option maxHeartbeats 4000000
namespace Lk68
open PySem Q1
section
variable {k : Nat} {n : Int} {ms : List (List (List Int))} {cs : List (List Int)} {H w : List (List Int)} {p : List (Int × Int)} {W G PL : List Int} {A B : D} {BL : List Tr}
theorem sset_ok {ns : List Int} (h : ns.length < 64) : ssetO (.list (ns.map .int)) = some (.ol ((srtU ns).map .int)) := by
  rw [ssetO_q1, intsOf_map]
  exact if_pos h
theorem s26_6 (hp : p.length ≤ 12) (hB : BL.length < 64) (hW : W.length ≤ 5) :
    finR 3 (evSs ⟨run (pgOf rows) sub k, sub⟩ [] s_26_6 (E26 A B p none none (some (.p (.list (W.map .int)))) none (some (.ol (BL.map dT3))) none none none none)) = .ok (.p (.list ((left (fun t => decide (t ∈ BL)) W (srtU (p.map (·.1))) (srtU (BL.map (·.2.2)))).map dT3))) [some (.p A), some (.p B), some (.p (dP p))] := by
  have hl1 : (p.map (·.1)).length < 64 := by rw [List.length_map]; omega
  have hl2 : (BL.map (·.2.2)).length < 64 := by rw [List.length_map]; exact hB
  have g1 := len_srtU (ns := p.map (·.1))
  have g2 := len_srtU (ns := BL.map (·.2.2))
  have hc3 : evX ⟨run (pgOf rows) sub k, sub⟩ c_26_3 (E26 A B p none none (some (.p (.list (W.map .int)))) none (some (.ol (BL.map dT3))) none none none none) = .ok (.ol ((BL.map (·.2.2)).map .int)) (E26 A B p none none (some (.p (.list (W.map .int)))) none (some (.p (.list (BL.map dT3)))) none none none none) := by
    unfold c_26_3
    rw [List.map_map]
    refine ev_compA BL dT3 _ ?_ (by simp [plainAt]) fun t _ => ?_
    · generalize BL.map dT3 = X
      generalize W.map PyData.int = Y
      simp
    · generalize BL.map dT3 = X
      generalize W.map PyData.int = Y
      exact ⟨_, by simp [atI_nat]; rfl, by simp⟩
  have hc4 : ∀ m8, evX ⟨run (pgOf rows) sub k, sub⟩ c_26_4 (E26 A B p none none (some (.p (.list (W.map .int)))) none (some (.p (.list (BL.map dT3)))) m8 none none none) = .ok (.ol ((p.map (·.1)).map .int)) (E26 A B p none none (some (.p (.list (W.map .int)))) none (some (.p (.list (BL.map dT3)))) m8 none none none) := fun m8 => by
    unfold c_26_4
    rw [List.map_map]
    generalize BL.map dT3 = X
    generalize W.map PyData.int = Y
    exact ev_compA p dE _ (by simp) (by simp [plainAt]) fun e _ => ⟨_, by simp; rfl, by simp⟩
  have hc4 := hc4 (some (.ol ((srtU (BL.map (·.2.2))).map .int)))
  have hs1 := sset_ok hl1
  have hs2 := sset_ok hl2
  obtain ⟨m5, m8, m9, hlp⟩ := lp26 (k := k) (A := A) (B := B) (p := p) (W := W) (BL := BL) (G := srtU (p.map (·.1))) (PL := srtU (BL.map (·.2.2))) (m5 := some (.p (.list (W.map .int)))) (by omega) (by omega) (by omega)
  generalize (left (fun t => decide (t ∈ BL)) W (srtU (p.map (·.1))) (srtU (BL.map (·.2.2)))).map dT3 = L at *
  generalize (srtU (p.map (·.1))).map PyData.int = G1 at *
  generalize (srtU (BL.map (·.2.2))).map PyData.int = G2 at *
  generalize (p.map (·.1)).map PyData.int = P1 at *
  generalize (BL.map (·.2.2)).map PyData.int = P2 at *
  generalize BL.map dT3 = X at *
  generalize W.map PyData.int = Y at *
  simp only [E26] at *
  simp [s_26_6, hc3, hc4, hs1, hs2, hlp, -ssetO_q1]
theorem s26_4 (hh : HH n H p) (hW : ∀ b ∈ W, 1 ≤ b ∧ b ≤ n) (hl : W.length ≤ 5) :
    finR 3 (evSs ⟨run (pgOf rows) sub k, sub⟩ [] s_26_4 (E26 A B p (some (.p (.list (H.map dR)))) none (some (.ol (W.map .int))) none none none none none none)) = .ok (.p (.list ((fnd H p W).map dT3))) [some (.p A), some (.p B), some (.p (dP p))] := by
  have hp1 := hh.p1
  have hp2 := hh.p2
  have hr : rangeO [.int (p.length : Int)] = some ((List.range p.length).map fun i : Nat => .int i) := by
    rw [rangeO_1, if_pos (by omega), ups_eq]
    simp
  have hlp := forL_foldI (body := loopT [] (.name 6) (evSs ⟨run (pgOf rows) sub k, sub⟩ [] b_26_2)) PyData.int (fun F : List Tr => E26 A B p (some (.p (.list (H.map dR)))) none (some (.p (.list (W.map .int)))) none (some (.ol (F.map dT3))) none none none none) (fun i F => F.length ≤ 12 * i) (fun F b => F ++ (List.range p.length).map (tr H p b)) W 0 [] (Nat.le_refl 0) fun i b hb F hF => by
    have hi := (List.getElem?_eq_some_iff.mp hb).1
    obtain ⟨b1, b2⟩ := hW b (List.mem_of_getElem? hb)
    rw [Nat.zero_add] at hF ⊢
    have hc : evX ⟨run (pgOf rows) sub k, sub⟩ c_26_2 (E26 A B p (some (.p (.list (H.map dR)))) none (some (.p (.list (W.map .int)))) (some (.p (.int b))) (some (.ol (F.map dT3))) none none none none) = .ok (.ol (((List.range p.length).map (tr H p b)).map dT3)) (E26 A B p (some (.p (.list (H.map dR)))) none (some (.p (.list (W.map .int)))) (some (.p (.int b))) (some (.ol (F.map dT3))) none none none none) := by
      unfold c_26_2
      rw [List.map_map]
      refine ev_compA (List.range p.length) (fun i : Nat => .int i) _ ?_ (by simp [plainAt]) fun j hj => ?_
      · have hpl : (p.map dE).length = p.length := List.length_map ..
        generalize (List.range p.length).map (fun i : Nat => (PyData.int i : D)) = Z at *
        generalize F.map dT3 = X
        generalize W.map PyData.int = Y
        generalize H.map dR = Q
        simp [hr, -rangeO_1]
      · have hj := List.mem_range.mp hj
        have hjH : j < H.length := by rw [hh.len]; omega
        have a1 := at_p (p := p) hj
        have a2 := at_H (H := H) hjH
        have hrm : H[j]?.getD [] ∈ H := by rw [List.getElem?_eq_getElem hjH]; exact List.getElem_mem _
        obtain ⟨i, hi⟩ := hh.at_ _ hrm b b1 b2
        have hmet := met_idx hi
        have e3 : (dT3 ∘ tr H p b) j = .tuple [.int b, .int (p[j]?.getD (0, 0)).1, .int ((ix (H[j]?.getD []) b : Int) + 1)] := rfl
        rw [e3]
        generalize F.map dT3 = X
        generalize W.map PyData.int = Y
        simp only [dR] at *
        generalize (H.map fun r => (PyData.list (r.map PyData.int) : D)) = Q at *
        generalize (H[j]?.getD []).map PyData.int = Q2 at *
        generalize (ix (H[j]?.getD []) b : Int) = z at *
        generalize p[j]?.getD (0, 0) = e at *
        obtain ⟨e1, e2⟩ := e
        simp only [dE] at *
        exact ⟨_, by simp [a1, a2, hmet]; rfl, by simp⟩
    refine ⟨?_, by rw [List.length_append, List.length_map, List.length_range]; omega⟩
    rw [List.map_append]
    have l1 : (F.map dT3).length = F.length := List.length_map ..
    have l2 : (((List.range p.length).map (tr H p b)).map dT3).length = p.length := by simp
    generalize ((List.range p.length).map (tr H p b)).map dT3 = V at *
    generalize F.map dT3 = X at *
    have c1 : X.length + V.length ≤ 16777216 := by omega
    generalize W.map PyData.int = Y at *
    generalize H.map dR = Q at *
    simp only [E26] at *
    simp [loopT, b_26_2, hc, c1]
  obtain ⟨h1, h2⟩ := hlp
  rw [fold_app] at h1 h2
  have h2 : (bl H p W).length ≤ 12 * (0 + W.length) := h2
  rw [show [] ++ W.flatMap (fun b => (List.range p.length).map (tr H p b)) = bl H p W from rfl, List.map_nil] at h1
  have h6 := s26_6 (k := k) (A := A) (B := B) (p := p) (W := W) (BL := bl H p W) hp2 (by omega) hl
  rw [show left (fun t => decide (t ∈ bl H p W)) W (srtU (p.map (·.1))) (srtU ((bl H p W).map (·.2.2))) = fnd H p W from rfl] at h6
  generalize (fnd H p W).map dT3 = L at *
  generalize (bl H p W).map dT3 = X at *
  generalize W.map PyData.int = Y at *
  generalize H.map dR = Q at *
  simp only [E26] at *
  simp [s_26_4, h1, h6, -finR]
def sW (w : List (List Int)) (s : Option M × List Int) (b : Int) : Option M × List Int := (none, if (hm w b).length = 0 then s.2 ++ [b] else s.2)
theorem sW_fold : ∀ (L : List Int) (s : Option M × List Int), (L.foldl (sW w) s).2 = s.2 ++ L.filter fun b => decide ((hm w b).length = 0)
  | [], s => by simp
  | b :: L, s => by
    rw [List.foldl_cons, sW_fold L]
    by_cases h : (hm w b).length = 0
    · rw [List.filter_cons_of_pos (by simpa using h)]
      simp [sW, h]
    · rw [List.filter_cons_of_neg (by simpa using h)]
      simp [sW, h]
theorem f_26 (hm' : VMs n ms) (hc : VC n cs) (hp : VP p ms.length cs.length) (hn : n = 4 ∨ n = 5) (h12 : p.length ≤ 12) : R (k + 6) 26 [.p (dMs n ms), .p (dL cs), .p (dP p)] = .ok (.p (.list ((fnd (HS n ms cs p) p (wk n (wth (HS n ms cs p)))).map dT3))) [some (.p (dMs n ms)), some (.p (dL cs)), some (.p (dP p))] := by
  have hh := hh_of hm' hc hp hn h12
  have q24 := f_24 (k := k + 1) hm' hc hp
  rw [show hds (rnds n.toNat) (p.map (leadBy ms cs)) = HS n ms cs p from rfl] at q24
  generalize HS n ms cs p = H at *
  obtain ⟨l0, h0⟩ := at_first (n := n) hm'.l1
  have hcut := cut_wth H
  have hw : ∀ r ∈ wth H, (r.length : Int) = n := fun r hr => hh.rl r (wth_mem hr)
  have hwl := wk_len (w := wth H) hh.n2
  have h4 := s26_4 (k := k + 5) (A := dMs n ms) (B := dL cs) (W := wk n (wth H)) hh (fun b hb => wk_bd hb) hwl
  have hr := rngo (a := 1) (b := n) (by omega) (by omega) (by omega) (by omega)
  have hlp := forL_foldI (body := loopT [] (.name 6) (evSs ⟨run (pgOf rows) sub (k + 5), sub⟩ [] b_26_1)) PyData.int (fun s : Option M × List Int => E26 (dMs n ms) (dL cs) p (some (.p (.list (H.map dR)))) s.1 (some (.ol (s.2.map .int))) none none none none none none) (fun i s => s.2.length ≤ i) (sW (wth H)) (rng 1 n) 0 (some (.p (.int n)), []) (Nat.le_refl 0) fun i b hb s hs => by
    have hi := (List.getElem?_eq_some_iff.mp hb).1
    rw [rng_len] at hi
    have hb := mem_rng.mp (List.mem_of_getElem? hb)
    rw [Nat.zero_add] at hs ⊢
    have hc1 : evX ⟨run (pgOf rows) sub (k + 5), sub⟩ c_26_1 (E26 (dMs n ms) (dL cs) p (some (.p (.list (H.map dR)))) s.1 (some (.ol (s.2.map .int))) (some (.p (.int b))) none none none none none) = .ok (.ol ((hm (wth H) b).map dR)) (E26 (dMs n ms) (dL cs) p (some (.p (.list (H.map dR)))) s.1 (some (.ol (s.2.map .int))) (some (.p (.int b))) none none none none none) := by
      unfold c_26_1 hm
      refine ev_compT (wth H) dR (fun r => decide (r[(b - 1).toNat]?.getD 0 = b)) dR ?_ (by simp [plainAt]) fun r hr => ?_
      · generalize (wth H).map dR = X at *
        generalize H.map dR = Y at *
        generalize s.2.map PyData.int = Z
        simp [hcut]
      · have hat := at_row (r := r) hb.1 (by rw [hw r hr]; exact hb.2)
        generalize H.map dR = Y at *
        generalize s.2.map PyData.int = Z
        generalize r[(b - 1).toNat]?.getD 0 = v at *
        by_cases q : v = b
        · exact ⟨_, by simp [hat, q]; rfl, by simp⟩
        · exact ⟨_, by simp [hat, q]; rfl, by simp⟩
    have hl : ((hm (wth H) b).map dR).length = (hm (wth H) b).length := List.length_map ..
    have c1 : s.2.length < 16777216 := by omega
    unfold sW
    generalize (hm (wth H) b).map dR = X at *
    generalize (hm (wth H) b).length = x at *
    generalize H.map dR = Y at *
    obtain ⟨s1, s2⟩ := s
    simp only [E26] at *
    by_cases g : x = 0
    · subst g
      refine ⟨?_, by simp; omega⟩
      simp [loopT, b_26_1, hc1, hl, c1]
    · refine ⟨?_, by simp [g]; omega⟩
      simp [loopT, b_26_1, hc1, hl, g]
  obtain ⟨h1, -⟩ := hlp
  have e2 := sW_fold (w := wth H) (rng 1 n) (some (.p (.int n)), [])
  rw [List.nil_append, show (rng 1 n).filter (fun b => decide ((hm (wth H) b).length = 0)) = wk n (wth H) from rfl] at e2
  rw [e2] at h1
  generalize ((rng 1 n).foldl (sW (wth H)) (some (.p (.int n)), [])).1 = m4 at h1
  show run _ _ (k + 6) 26 _ = _
  rw [run_succ pg_26 rfl]
  rw [List.map_nil] at h1
  generalize (fnd H p (wk n (wth H))).map dT3 = L at *
  generalize (wk n (wth H)).map PyData.int = W' at *
  generalize (rng 1 n).map PyData.int = Z at *
  generalize H.map dR = Y at *
  simp only [dMs] at *
  generalize ms.map (dM n) = MM at *
  generalize hCC : dL cs = CC at *
  simp only [E26] at *
  simp [b_26, q24, h0, atI_nat, hr, h1, -finR, -rangeO_2]
  rw [h4]
/-! the law -/
theorem q_any {d : D} (h1 : plainD d = true) (h2 : dpt d ≤ 3) {m1 m2 : M} (e1 : m1.toD = d) (e2 : m2.toD = d) : R (k + 7) 17 [m1, m2] = .ok (.p (.bool true)) [some m1, some m2] :=
  run_equal (k := k) (n := 3) pg_17 pg_18 _ h1 h2 _ _ e1 e2
theorem fnd_len (hh : HH n H p) (hl : W.length ≤ 5) : (fnd H p W).length ≤ 16777216 := by
  have hp2 := hh.p2
  have hb : (bl H p W).length ≤ 60 := by
    have : (bl H p W).length ≤ p.length * W.length := by
      clear hl hh hp2
      unfold bl
      induction W with
      | nil => simp
      | cons b W ih =>
        rw [List.flatMap_cons, List.length_append, List.length_map, List.length_range, List.length_cons, Nat.mul_succ]
        omega
    have : p.length * W.length ≤ 12 * 5 := Nat.mul_le_mul hp2 hl
    omega
  have g1 := len_srtU (ns := p.map (·.1))
  have g2 := len_srtU (ns := (bl H p W).map (·.2.2))
  rw [List.length_map] at g1 g2
  have key : ∀ (G PL W : List Int) (S : Tr → Bool), (left S W G PL).length ≤ PL.length * G.length * W.length := by
    intro G PL W S
    have inner : ∀ (G : List Int) (b : Int), (G.flatMap (cell S PL b)).length ≤ PL.length * G.length := by
      intro G b
      induction G with
      | nil => simp
      | cons m G ih =>
        rw [List.flatMap_cons, List.length_append, List.length_cons, Nat.mul_succ]
        have := cell_len (S := S) (PL := PL) (b := b) (m := m)
        omega
    show (W.flatMap fun b => G.flatMap (cell S PL b)).length ≤ _
    induction W with
    | nil => simp
    | cons b W ih =>
      rw [List.flatMap_cons, List.length_append, List.length_cons, Nat.mul_succ]
      have := inner G b
      omega
  have h := key (srtU (p.map (·.1))) (srtU ((bl H p W).map (·.2.2))) W (fun t => decide (t ∈ bl H p W))
  have m1 : (srtU ((bl H p W).map (·.2.2))).length * (srtU (p.map (·.1))).length ≤ 60 * 12 := Nat.mul_le_mul (by omega) (by omega)
  have m2 := Nat.mul_le_mul m1 hl
  unfold fnd
  omega
theorem f_27 (is : List Int) (hi : is.length ≤ 63) : ∃ z, R (k + 21) 27 [.p (.list (is.map .int))] = .ok (.p (.bool true)) z := by
  show ∃ r, run _ _ (k + 21) 27 _ = _
  rw [run_succ pg_27 rfl]
  obtain ⟨ns, hn1, hn2⟩ := run_numbers (sub := sub) (k := k + 18) (g := 14) pg_14 pg_15 is (by omega)
  obtain ⟨n, ms, cs, a1, h1, ha1, hm', hc, hn⟩ := f_21 (k := k + 16) (ns := ns) (a := 0) (by decide)
  obtain ⟨e', hlp, a2, ha2, he⟩ := forL_inv (body := loopT [] (.name 2) (evSs ⟨run (pgOf rows) sub (k + 20), sub⟩ [] b_27_1)) (xs := ups 0 4) (e := [some (.p (.list (is.map .int))), some (mD ns a1), none, some (.p (dMs n ms)), some (.p (dL cs)), none])
    (fun _ e => ∃ a, 0 ≤ a ∧ e = [some (.p (.list (is.map .int))), some (mD ns a), none, some (.p (dMs n ms)), some (.p (dL cs)), none]) 0 ⟨a1, ha1, rfl⟩ fun i x e hx ⟨a, ha, he⟩ => by
      subst he
      obtain ⟨p, a', h2, ha', hp, h12, hp1⟩ := f_25 (k := k + 17) (ns := ns) (a := a) ha hm' hc
      have q13 := f_13 (k := k + 14) hm' hc hp hn h12
      have q26 := f_26 (k := k + 14) hm' hc hp hn h12
      have hh := hh_of hm' hc hp hn h12
      have hlen := fnd_len (W := wk n (wth (HS n ms cs p))) hh (wk_len hh.n2)
      have qe := q_any (k := k + 13) (d := .list ((fnd (HS n ms cs p) p (wk n (wth (HS n ms cs p)))).map dT3)) (plain_list hlen fun t _ => by simp [plainD, plainDs]) (Nat.le_trans (dpt_list (n := 1) fun t _ => by simp [dpt, dpts]) (by decide)) (m1 := .p (.list ((fnd (HS n ms cs p) p (wk n (wth (HS n ms cs p)))).map dT3))) (m2 := .p (.list ((fnd (HS n ms cs p) p (wk n (wth (HS n ms cs p)))).map dT3))) rfl rfl
      refine ⟨_, ?_, a', ha', rfl⟩
      generalize (fnd (HS n ms cs p) p (wk n (wth (HS n ms cs p)))).map dT3 = L at *
      simp only [dMs, dL, dP] at *
      generalize ms.map (dM n) = MM at *
      generalize cs.map dC = CC at *
      generalize p.map dE = PP at *
      simp [loopT, b_27_1, h2, q13, q26, qe]
  subst he
  refine ex_ok ?_
  simp only [dMs, dL] at *
  generalize ms.map (dM n) = MM at *
  generalize cs.map dC = CC at *
  simp [b_27, hn1, h1, hlp]
end
theorem main (ns : List Int) (h : ns.length ≤ 63) : ∃ r, run (pgOf rows) sub 40 27 [.p (.list (ns.map .int))] = .ok (.p (.bool true)) r := f_27 (k := 19) ns h
end Lk68

open PySem PySem.W PyProof.Rows
set_option maxRecDepth 100000 in
set_option maxHeartbeats 0 in
theorem PySem.Challenge.cw_everytower_k68_all_the_work_holds : PySem.Challenge.rw_everytower_k68_all_the_work.Holds := by
  w_on; o_law; k_head; (case hw => w_witness2)
  k_fill
  refine L2.walk_of (l := PySem.Challenge.rw_everytower_k68_all_the_work) (n := 63) (k := 40) (x := "script") (CX := fun w => L2.CX PySem.Challenge.pw_everytower_k68_all_the_work w) (sp := fun w => Q1.spF _ (Lk68.clsOf Lk68.exA) (Q1.run (Q1.pgOf Lk68.rows) Lk68.sub 40 27)) rfl (by decide) rfl ⟨rfl, by decide, by decide⟩ (fun w h Y => PySem.W.kIn_of Y) ?F (fun _ _ a ns hl _ hS => Q1.law_sp (Lk68.main ns hl) hS) (fun w H s e s' h => Q1.no_exc h)
  case F =>
    intro w mg fa h KX G hmg
    show ∃ fd : FuncData, _ ∧ ∀ base : Heap, _ → _ → L2.FnOk _ _ _ _ _ _ _ _ _ _ (Q1.spF _ (Lk68.clsOf [37, 49, 73, 61]) _)
    refine' Lk68.law_mk KX G hmg ?qa0 ?ql0 ?qc0 ?qk0 ?qa1 ?ql1 ?qc1 ?qk1 ?qa2 ?ql2 ?qc2 ?qk2 ?qa3 ?ql3 ?qc3 ?qk3 ?qa4 ?ql4 ?qc4 ?qk4 ?qa5 ?ql5 ?qc5 ?qk5 ?qa6 ?ql6 ?qc6 ?qk6 ?qa7 ?ql7 ?qc7 ?qk7 ?qa8 ?ql8 ?qc8 ?qk8 ?qa9 ?ql9 ?qc9 ?qk9 ?qa10 ?ql10 ?qc10 ?qk10 ?qa11 ?ql11 ?qc11 ?qk11 ?qa12 ?ql12 ?qc12 ?qk12 ?qa13 ?ql13 ?qc13 ?qk13 ?qa14 ?ql14 ?qc14 ?qk14 ?qa15 ?ql15 ?qc15 ?qk15 ?qa16 ?ql16 ?qc16 ?qk16 ?qa17 ?ql17 ?qc17 ?qk17 ?qa18 ?ql18 ?qc18 ?qk18 ?qa19 ?ql19 ?qc19 ?qk19 ?qa20 ?ql20 ?qc20 ?qk20 ?qa21 ?ql21 ?qc21 ?qk21 ?qa22 ?ql22 ?qc22 ?qk22 ?qa23 ?ql23 ?qc23 ?qk23 ?qa24 ?ql24 ?qc24 ?qk24 ?qa25 ?ql25 ?qc25 ?qk25 ?qa26 ?ql26 ?qc26 ?qk26 ?qa27 ?ql27 ?qc27 ?qk27 ?qea0 ?qeb0 ?qec0 ?qed0 ?qee0 ?qeh0 ?qea1 ?qeb1 ?qec1 ?qed1 ?qee1 ?qeh1 ?qea2 ?qeb2 ?qec2 ?qed2 ?qee2 ?qeh2 ?qea3 ?qeb3 ?qec3 ?qed3 ?qee3 ?qeh3 ?qem0_0 ?qem0_1 ?qem0_2 ?qem0_3 ?qem1_0 ?qem1_1 ?qem1_2 ?qem1_3 ?qem2_0 ?qem2_1 ?qem2_2 ?qem2_3 ?qem3_0 ?qem3_1 ?qem3_2 ?qem3_3 ?qg0 ?qg1 ?qg2 ?qg3 ?qg4 ?qg5 ?qz0 ?qz1 ?qz2 ?qz3 ?qz4 ?qz5 ?qz6 ?qz7 ?qz8 ?qz9 ?qz10 ?qz11 ?qz12 ?qz13 ?qz14 ?qz15
    (case qa0 => k_is); (case ql0 => k_is); (case qc0 => k_is); (case qk0 => k_is); (case qa1 => k_is); (case ql1 => k_is); (case qc1 => k_is); (case qk1 => k_is); (case qa2 => k_is); (case ql2 => k_is); (case qc2 => k_is); (case qk2 => k_is); (case qa3 => k_is); (case ql3 => k_is); (case qc3 => k_is); (case qk3 => k_is); (case qa4 => k_is); (case ql4 => k_is); (case qc4 => k_is); (case qk4 => k_is); (case qa5 => k_is); (case ql5 => k_is); (case qc5 => k_is); (case qk5 => k_is); (case qa6 => k_is); (case ql6 => k_is); (case qc6 => k_is); (case qk6 => k_is); (case qa7 => k_is); (case ql7 => k_is); (case qc7 => k_is); (case qk7 => k_is); (case qa8 => k_is); (case ql8 => k_is); (case qc8 => k_is); (case qk8 => k_is); (case qa9 => k_is); (case ql9 => k_is); (case qc9 => k_is); (case qk9 => k_is); (case qa10 => k_is); (case ql10 => k_is); (case qc10 => k_is); (case qk10 => k_is); (case qa11 => k_is); (case ql11 => k_is); (case qc11 => k_is); (case qk11 => k_is); (case qa12 => k_is); (case ql12 => k_is); (case qc12 => k_is); (case qk12 => k_is); (case qa13 => k_is); (case ql13 => k_is); (case qc13 => k_is); (case qk13 => k_is); (case qa14 => k_is); (case ql14 => k_is); (case qc14 => k_is); (case qk14 => k_is); (case qa15 => k_is); (case ql15 => k_is); (case qc15 => k_is); (case qk15 => k_is); (case qa16 => k_is); (case ql16 => k_is); (case qc16 => k_is); (case qk16 => k_is); (case qa17 => k_is); (case ql17 => k_is); (case qc17 => k_is); (case qk17 => k_is); (case qa18 => k_is); (case ql18 => k_is); (case qc18 => k_is); (case qk18 => k_is); (case qa19 => k_is); (case ql19 => k_is); (case qc19 => k_is); (case qk19 => k_is); (case qa20 => k_is); (case ql20 => k_is); (case qc20 => k_is); (case qk20 => k_is); (case qa21 => k_is); (case ql21 => k_is); (case qc21 => k_is); (case qk21 => k_is); (case qa22 => k_is); (case ql22 => k_is); (case qc22 => k_is); (case qk22 => k_is); (case qa23 => k_is); (case ql23 => k_is); (case qc23 => k_is); (case qk23 => k_is); (case qa24 => k_is); (case ql24 => k_is); (case qc24 => k_is); (case qk24 => k_is); (case qa25 => k_is); (case ql25 => k_is); (case qc25 => k_is); (case qk25 => k_is); (case qa26 => k_is); (case ql26 => k_is); (case qc26 => k_is); (case qk26 => k_is); (case qa27 => k_is); (case ql27 => k_is); (case qc27 => k_is); (case qk27 => k_is)
    (case qea0 => k_is); (case qeb0 => k_exc); (case qec0 => k_is); (case qed0 => k_is); (case qee0 => k_is); (case qeh0 => k_is); (case qea1 => k_is); (case qeb1 => k_exc); (case qec1 => k_is); (case qed1 => k_is); (case qee1 => k_is); (case qeh1 => k_is); (case qea2 => k_is); (case qeb2 => k_exc); (case qec2 => k_is); (case qed2 => k_is); (case qee2 => k_is); (case qeh2 => k_is); (case qea3 => k_is); (case qeb3 => k_exc); (case qec3 => k_is); (case qed3 => k_is); (case qee3 => k_is); (case qeh3 => k_is)
    (case qem0_0 => first | rfl | k_is); (case qem0_1 => first | rfl | k_is); (case qem0_2 => first | rfl | k_is); (case qem0_3 => first | rfl | k_is); (case qem1_0 => first | rfl | k_is); (case qem1_1 => first | rfl | k_is); (case qem1_2 => first | rfl | k_is); (case qem1_3 => first | rfl | k_is); (case qem2_0 => first | rfl | k_is); (case qem2_1 => first | rfl | k_is); (case qem2_2 => first | rfl | k_is); (case qem2_3 => first | rfl | k_is); (case qem3_0 => first | rfl | k_is); (case qem3_1 => first | rfl | k_is); (case qem3_2 => first | rfl | k_is); (case qem3_3 => first | rfl | k_is)
    (case qg0 => k_is); (case qg1 => k_is); (case qg2 => k_is); (case qg3 => k_is); (case qg4 => k_is); (case qg5 => k_is)
    (case qz0 => k_is); (case qz1 => k_is); (case qz2 => k_is); (case qz3 => k_is); (case qz4 => k_is); (case qz5 => k_is); (case qz6 => k_is); (case qz7 => k_is); (case qz8 => k_is); (case qz9 => k_is); (case qz10 => k_is); (case qz11 => k_is); (case qz12 => k_is); (case qz13 => k_is); (case qz14 => k_is); (case qz15 => k_is)
