import PyProof.Rows.All
import Wide.All
import OpenK.AllK
import Wide.FinOn
import HandS.ForMost
import HandS.ForExc
import HandS.Wide
import HandS.Strs
import HandS.SetFor
import HandS.SetKeys
import KE.GoesNew
import KE.GoesMore
import HandS.Iter
import HandS.CallSlots
import HandS.Defaults
import HandS.HeadEnd
import HandS.Flow
import HandS.Style
import HandS.TupAny
import HandS.Deep
import HandS.IsInst
import HandS.Base
import HandS.Zip
import KE.KStateDown
import HandS.Head0
import HandS.Head1
import HandS.Head2
import HandS.HeadHook1
import HandS.HeadHook2
import HandS.Dict
import HandS.DictComp
import HandS.SortInts
import HandS.RaiseMore
import HandS.FStr
import HandS.TryMany
import KE.KRevSl
import HandS.TupMul
import KE.DataCmp
import PyProof.P3Eq
import PySem.Challenge.RW_alikechances_k07_programs_put_together
section
set_option Elab.async false
set_option linter.all false
set_option maxRecDepth 100000
/-! A data layer: expressions and statements as plain functions over data (PyData), by-reference cells, and slots that own a fresh list or dict. -/
namespace DL
open PySem PySem.Spec PyProof.Rows L2

/-! ### values -/
/-- d: data (nothing in it changes any more); br: what an owning slot holds, lent; lk: a list that is read alone (the script); cel: a cell; fn: a module's object -/
inductive Val where
  | d (x : PyData)
  | br (x : PyData)
  | lk (xs : List PyData)
  | cel (n : Nat)
  | fn (x : Str)
def keyD : Key → PyData
  | .inl i => .int i
  | .inr x => .str x
mutual
def AtD (K : PySem.W.Frag) (G : Hp) : PyData → V → Prop
  | .none, v => v = .non
  | .bool b, v => v = .bl b
  | .int i, v => v = .int i
  | .str x, v => v = .str x
  | .list xs, v => ∃ a vs, v = .ref a ∧ G a = some (.lst vs) ∧ AtL K G xs vs
  | .tuple xs, v => ∃ a vs, v = .ref a ∧ SqT K G a vs ∧ AtL K G xs vs
  | .dict kvs, v => ∃ a, v = .ref a ∧ ((∃ kv, G a = some (.dK kv) ∧ AtP K G kvs kv) ∨ ∃ kv, kvs ≠ [] ∧ G a = some (.dT kv) ∧ AtQ K G kvs kv)
def AtL (K : PySem.W.Frag) (G : Hp) : List PyData → List V → Prop
  | [], vs => vs = []
  | x :: xs, vs => ∃ v r, vs = v :: r ∧ AtD K G x v ∧ AtL K G xs r
def AtP (K : PySem.W.Frag) (G : Hp) : List (PyData × PyData) → List (Key × V) → Prop
  | [], vs => vs = []
  | (k, x) :: xs, vs => ∃ key v r, vs = (key, v) :: r ∧ k = keyD key ∧ AtD K G x v ∧ AtP K G xs r
def AtQ (K : PySem.W.Frag) (G : Hp) : List (PyData × PyData) → List (List Key × V) → Prop
  | [], vs => vs = []
  | (k, x) :: xs, vs => ∃ keys v r, vs = (keys, v) :: r ∧ k = .tuple (keys.map keyD) ∧ AtD K G x v ∧ AtQ K G xs r
end
/-- what stood stands -/
abbrev Sub (G G' : Hp) : Prop := ∀ a o, G a = some o → G' a = some o
theorem rd_sub {G G' : Hp} (h : Sub G G') {a : Addr} {u : HO} (r : Rd G a u) : Rd G' a u := by
  rcases r with r | ⟨o, r⟩
  · exact .inl (h _ _ r)
  · exact .inr ⟨o, h _ _ r⟩
theorem sqL_sub {K : PySem.W.Frag} {G G' : Hp} (h : Sub G G') {a : Addr} {xs : List V} (r : SqL K G a xs) : SqL K G' a xs := by
  rcases r with r | r
  · exact .inl (rd_sub h r)
  · exact .inr r
theorem sqT_sub {K : PySem.W.Frag} {G G' : Hp} (h : Sub G G') {a : Addr} {xs : List V} (r : SqT K G a xs) : SqT K G' a xs := by
  rcases r with r | r
  · exact .inl (rd_sub h r)
  · exact .inr r
mutual
theorem AtD.mono {K : PySem.W.Frag} {G G' : Hp} (h : Sub G G') : ∀ (x : PyData) (v : V), AtD K G x v → AtD K G' x v
  | .none, v, q => by simpa only [AtD] using q
  | .bool b, v, q => by simpa only [AtD] using q
  | .int i, v, q => by simpa only [AtD] using q
  | .str x, v, q => by simpa only [AtD] using q
  | .list xs, v, q => by
    simp only [AtD] at q ⊢
    obtain ⟨a, vs, e, s, l⟩ := q
    exact ⟨a, vs, e, h _ _ s, AtL.mono h xs vs l⟩
  | .tuple xs, v, q => by
    simp only [AtD] at q ⊢
    obtain ⟨a, vs, e, s, l⟩ := q
    exact ⟨a, vs, e, sqT_sub h s, AtL.mono h xs vs l⟩
  | .dict kvs, v, q => by
    simp only [AtD] at q ⊢
    obtain ⟨a, e, q⟩ := q
    refine ⟨a, e, ?_⟩
    rcases q with ⟨kv, s, l⟩ | ⟨kv, ne, s, l⟩
    · exact .inl ⟨kv, h _ _ s, AtP.mono h kvs kv l⟩
    · exact .inr ⟨kv, ne, h _ _ s, AtQ.mono h kvs kv l⟩
theorem AtL.mono {K : PySem.W.Frag} {G G' : Hp} (h : Sub G G') : ∀ (xs : List PyData) (vs : List V), AtL K G xs vs → AtL K G' xs vs
  | [], vs, q => by simpa only [AtL] using q
  | x :: xs, vs, q => by
    simp only [AtL] at q ⊢
    obtain ⟨v, r, e, q1, q2⟩ := q
    exact ⟨v, r, e, AtD.mono h x v q1, AtL.mono h xs r q2⟩
theorem AtP.mono {K : PySem.W.Frag} {G G' : Hp} (h : Sub G G') : ∀ (xs : List (PyData × PyData)) (vs : List (Key × V)), AtP K G xs vs → AtP K G' xs vs
  | [], vs, q => by simpa only [AtP] using q
  | (k, x) :: xs, vs, q => by
    simp only [AtP] at q ⊢
    obtain ⟨key, v, r, e, e2, q1, q2⟩ := q
    exact ⟨key, v, r, e, e2, AtD.mono h x v q1, AtP.mono h xs r q2⟩
theorem AtQ.mono {K : PySem.W.Frag} {G G' : Hp} (h : Sub G G') : ∀ (xs : List (PyData × PyData)) (vs : List (List Key × V)), AtQ K G xs vs → AtQ K G' xs vs
  | [], vs, q => by simpa only [AtQ] using q
  | (k, x) :: xs, vs, q => by
    simp only [AtQ] at q ⊢
    obtain ⟨key, v, r, e, e2, q1, q2⟩ := q
    exact ⟨key, v, r, e, e2, AtD.mono h x v q1, AtQ.mono h xs r q2⟩
end
/-! the words of AtD by kind -/
section
variable {K : PySem.W.Frag} {G : Hp} {v : V}
theorem at_int {i : Int} : AtD K G (.int i) (.int i) := by simp only [AtD]
theorem at_bl {i : Bool} : AtD K G (.bool i) (.bl i) := by simp only [AtD]
theorem at_str {i : Str} : AtD K G (.str i) (.str i) := by simp only [AtD]
theorem at_non : AtD K G .none .non := by simp only [AtD]
theorem at_int_iff {i : Int} : AtD K G (.int i) v ↔ v = .int i := by simp only [AtD]
theorem at_bl_iff {i : Bool} : AtD K G (.bool i) v ↔ v = .bl i := by simp only [AtD]
theorem at_str_iff {i : Str} : AtD K G (.str i) v ↔ v = .str i := by simp only [AtD]
theorem at_non_iff : AtD K G .none v ↔ v = .non := by simp only [AtD]
theorem at_list_iff {xs : List PyData} : AtD K G (.list xs) v ↔ ∃ a vs, v = .ref a ∧ G a = some (.lst vs) ∧ AtL K G xs vs := by simp only [AtD]
theorem at_tup_iff {xs : List PyData} : AtD K G (.tuple xs) v ↔ ∃ a vs, v = .ref a ∧ SqT K G a vs ∧ AtL K G xs vs := by simp only [AtD]
theorem at_dict_iff {kvs : List (PyData × PyData)} : AtD K G (.dict kvs) v ↔ ∃ a, v = .ref a ∧ ((∃ kv, G a = some (.dK kv) ∧ AtP K G kvs kv) ∨ ∃ kv, kvs ≠ [] ∧ G a = some (.dT kv) ∧ AtQ K G kvs kv) := by simp only [AtD]
theorem AtL.length : ∀ {xs : List PyData} {vs : List V}, AtL K G xs vs → xs.length = vs.length
  | [], vs, q => by simp only [AtL] at q; subst q; rfl
  | x :: xs, vs, q => by
    simp only [AtL] at q
    obtain ⟨v, r, rfl, _, q2⟩ := q
    simp only [List.length_cons, AtL.length q2]
theorem AtL.get : ∀ {xs : List PyData} {vs : List V} {i : Nat} {x : PyData}, AtL K G xs vs → xs[i]? = some x → ∃ v, vs[i]? = some v ∧ AtD K G x v
  | [], _, _, _, _, e => by simp at e
  | y :: xs, vs, i, x, q, e => by
    simp only [AtL] at q
    obtain ⟨v, r, rfl, q1, q2⟩ := q
    cases i with
    | zero => simp at e; subst e; exact ⟨v, rfl, q1⟩
    | succ i => simpa using AtL.get q2 (by simpa using e)
theorem AtL.get' : ∀ {xs : List PyData} {vs : List V} {i : Nat} {v : V}, AtL K G xs vs → vs[i]? = some v → ∃ x, xs[i]? = some x ∧ AtD K G x v
  | [], vs, _, _, q, e => by simp only [AtL] at q; subst q; simp at e
  | y :: xs, vs, i, x, q, e => by
    simp only [AtL] at q
    obtain ⟨v, r, rfl, q1, q2⟩ := q
    cases i with
    | zero => simp at e; subst e; exact ⟨y, rfl, q1⟩
    | succ i => simpa using AtL.get' q2 (by simpa using e)
theorem AtL.nil : AtL K G [] [] := by simp only [AtL]
theorem AtL.cons {x : PyData} {xs : List PyData} {vs : List V} (h : AtD K G x v) (t : AtL K G xs vs) : AtL K G (x :: xs) (v :: vs) := by
  simp only [AtL]; exact ⟨v, vs, rfl, h, t⟩
theorem AtL.append : ∀ {xs ys : List PyData} {vs ws : List V}, AtL K G xs vs → AtL K G ys ws → AtL K G (xs ++ ys) (vs ++ ws)
  | [], _, vs, _, q, r => by simp only [AtL] at q; subst q; exact r
  | x :: xs, _, vs, _, q, r => by
    simp only [AtL] at q
    obtain ⟨v, t, rfl, q1, q2⟩ := q
    exact AtL.cons q1 (AtL.append q2 r)
theorem AtL.drop : ∀ {xs : List PyData} {vs : List V} (n : Nat), AtL K G xs vs → AtL K G (xs.drop n) (vs.drop n)
  | _, _, 0, q => q
  | [], vs, n + 1, q => by simp only [AtL] at q; subst q; exact AtL.nil
  | x :: xs, vs, n + 1, q => by
    simp only [AtL] at q
    obtain ⟨v, t, rfl, q1, q2⟩ := q
    exact AtL.drop n q2
theorem AtL.take : ∀ {xs : List PyData} {vs : List V} (n : Nat), AtL K G xs vs → AtL K G (xs.take n) (vs.take n)
  | _, _, 0, q => AtL.nil
  | [], vs, n + 1, q => by simp only [AtL] at q; subst q; exact AtL.nil
  | x :: xs, vs, n + 1, q => by
    simp only [AtL] at q
    obtain ⟨v, t, rfl, q1, q2⟩ := q
    exact AtL.cons q1 (AtL.take n q2)
theorem AtL.set : ∀ {xs : List PyData} {vs : List V} (n : Nat) {x : PyData}, AtL K G xs vs → AtD K G x v → AtL K G (xs.set n x) (vs.set n v)
  | [], vs, n, x, q, _ => by simp only [AtL] at q; subst q; exact AtL.nil
  | y :: xs, vs, 0, x, q, h => by
    simp only [AtL] at q
    obtain ⟨w, t, rfl, q1, q2⟩ := q
    exact AtL.cons h q2
  | y :: xs, vs, n + 1, x, q, h => by
    simp only [AtL] at q
    obtain ⟨w, t, rfl, q1, q2⟩ := q
    exact AtL.cons q1 (AtL.set n q2 h)
end
mutual
/-- for the library's == -/
theorem AtD.dp {K : PySem.W.Frag} {G H : Hp} (hs : Sub G H) : ∀ (x : PyData) (v : V), x.canLay0 = true → AtD K G x v → Dp K H v x
  | .none, v, _, q => by simp only [AtD] at q; subst q; exact .non
  | .bool b, v, _, q => by simp only [AtD] at q; subst q; exact .bl b
  | .int i, v, _, q => by simp only [AtD] at q; subst q; exact .int i
  | .str x, v, _, q => by simp only [AtD] at q; subst q; exact .str x
  | .list xs, v, c, q => by
    simp only [AtD] at q
    obtain ⟨a, vs, rfl, s, l⟩ := q
    simp only [PyData.canLay0] at c
    exact .lst (SqL.of (hs _ _ s)) (AtL.dp hs xs vs c l)
  | .tuple xs, v, c, q => by
    simp only [AtD] at q
    obtain ⟨a, vs, rfl, s, l⟩ := q
    simp only [PyData.canLay0] at c
    exact .tup (sqT_sub hs s) (AtL.dp hs xs vs c l)
  | .dict kvs, v, c, q => by simp [PyData.canLay0] at c
theorem AtL.dp {K : PySem.W.Frag} {G H : Hp} (hs : Sub G H) : ∀ (xs : List PyData) (vs : List V), PyData.canLayAll0 xs = true → AtL K G xs vs → DpAll K H vs xs
  | [], vs, _, q => by simp only [AtL] at q; subst q; exact .nil
  | x :: xs, vs, c, q => by
    simp only [AtL] at q
    obtain ⟨v, t, rfl, q1, q2⟩ := q
    simp only [PyData.canLayAll0, Bool.and_eq_true] at c
    exact .cons (AtD.dp hs x v c.1 q1) (AtL.dp hs xs t c.2 q2)
end
end DL
end
section
set_option Elab.async false
set_option linter.all false
set_option maxRecDepth 100000
set_option autoImplicit false
namespace DL
open PySem PySem.Spec PyProof.Rows L2
/-! ### set(t) of a tuple of texts, any number of them -/
def cntS : List Str → Nat → List Str → Nat
  | [], n, _ => n
  | x :: r, n, seen => cntS r (if seen.any (· == x) then n else n + 1) (seen ++ [x])
section
variable {P : Program} {w : World} {A : Around} {E : Value → Shared → Prop} {s : Shared}
abbrev SetT (P : Program) (w : World) (h : Heap) (a : Addr) (ks : List Str) (n : Nat) : Prop := h.SetOf (strKind P w) a (fun k => ks.any (· == k)) n
theorem SetT.keep {h h' : Heap} {a : Addr} {ks : List Str} {n : Nat} (R : SetT P w h a ks n) (k : ∀ o, h.get? a = some o → h'.get? a = some o) : SetT P w h' a ks n := by
  obtain ⟨o, es, ep, t, ho, r⟩ := R
  exact ⟨o, es, ep, t, k o ho, r⟩
theorem set_turn {It : Addr} {fp wr : List Addr} {G : Array GenState → Array GenState → Prop} {n : Nat} {Pv : Nat → Value → Prop} {St : Nat → Shared → Prop} {R : Result → Shared → Prop}
    (Wk : WalksS P w A.in1 It fp wr G n Pv St) (D : Addr) (nD : D ∉ fp) (all : List Str) (hlen : all.length = n) (hbig : n + 1 < scanBound) (vals : ∀ i v, Pv i v → ∃ x t, all[i]? = some x ∧ v = .str x t) :
    ∀ (rest done_ : List Str) (c i : Nat) (s : Shared), all = done_ ++ rest → i = done_.length → c ≤ i → St i s → SetT P w s.heap D done_ c →
      (∀ s', Moved (D :: wr) G s s' → SetT P w s'.heap D all (cntS rest c done_) → R (.ok (.ret .none)) s') → codeAny (model P w) A (.builtin "set.update.loop" ⟨[.ref D, .ref It], []⟩) R s := by
  have nw : D ∉ wr := fun z => nD (Wk.sub _ z)
  have up : ∀ b ∈ wr, b ∈ D :: wr := fun b z => List.mem_cons_of_mem _ z
  intro rest
  induction rest with
  | nil =>
    intro done_ c i s ea ei hc st hS hR
    rw [List.append_nil] at ea
    subst ea
    have e2 : i = n := by omega
    subst e2
    refine codeAny_builtin F.entry_set_update_loop ?_
    rw [Around.under_plainId F.plain_set_update_loop _]
    show wpAny _ A.in1 (pyNext (.ref It) >>= _) _ _ s
    refine wpAny_bind (Wk.done s _ _ st fun s' mv => ?_)
    show wpAny _ A.in1 (ret Value.none) _ _ s'
    exact wpAny_pure (hR s' (mv.mono up) (hS.keep fun o e => mv.heap D o nw e))
  | cons x rest ih =>
    intro done_ c i s ea ei hc st hS hR
    have hl2 : done_.length + (rest.length + 1) = n := by rw [← hlen, ea, List.length_append, List.length_cons]
    refine codeAny_builtin F.entry_set_update_loop ?_
    rw [Around.under_plainId F.plain_set_update_loop _]
    show wpAny _ A.in1 (pyNext (.ref It) >>= _) _ _ s
    refine wpAny_bind (Wk.item i s _ _ (by omega) st fun v s' pv st' mv => ?_)
    obtain ⟨x', t, ex, rfl⟩ := vals i v pv
    have ex2 : x' = x := by
      rw [ea, ei, List.getElem?_append_right (Nat.le_refl _), Nat.sub_self] at ex
      exact (Option.some.inj ex).symm
    subst ex2
    have hS' := hS.keep fun o e => mv.heap D o nw e
    show wpAny _ A.in1 (holding [Value.str x' t] (setAdd D (.str x' t)) >>= _) _ _ s'
    refine wpAny_bind (wpAny_holding ?_)
    unfold setAdd
    refine wpAny_holding ?_
    refine wpAny_bind ((strKind P w).pyHash (k := x') (strKind_is _ _ _ _) ?_)
    refine wpAny_setAddHashed_of (knd := strKind P w) (k := x') (s := { s' with toks := s'.toks + 1 }) (strKind_is _ _ _ _) rfl hS' (by omega) fun h' sb new => ?_
    have new2 : SetT P w h' D (done_ ++ [x']) (if done_.any (· == x') then c else c + 1) := SetOf_congr new (fun k => by
      rw [List.any_append]
      congr 1
      by_cases e : k = x'
      · subst e; simp
      · have : (x' == k) = false := by simpa [beq_iff_eq] using fun z : x' = k => e z.symm
        simp [this, e]) rfl
    refine wpAny_pure ⟨plainId_quiet F.plain_set_update_loop _, ih (done_ ++ [x']) _ (i + 1) _ (by rw [ea]; simp) (by rw [List.length_append, ei]; rfl) (by split <;> omega) (Wk.frame _ s' _ _ st' (Nat.le_succ _) fun b hb o e => ?_) new2 fun s'' mv2 fin => ?_⟩
    · rw [sb.2 b (fun z : b = D => nD (by rw [← z]; exact hb))]; exact e
    · refine hR s'' (Moved.trans Wk.gtrans ((mv.mono up).then_heap (Nat.le_succ _) fun b o hb e => ?_) mv2) fin
      rw [sb.2 b (fun z : b = D => hb (by rw [z]; exact List.mem_cons_self))]; exact e
/-- the address of the new set and what the heap is told of it -/
abbrev newSet (w : World) (h : Heap) : Heap := h.push { cls := .type "set", dict := none, data := .set #[] 0 (.fresh 0 0 (!w.params.followText "set-order")) }
theorem newSet_get (w : World) (h : Heap) : (newSet w h).get? h.objs.size = some { cls := .type "set", dict := none, data := .set #[] 0 (.fresh 0 0 (!w.params.followText "set-order")) } := Heap.get?_push_size _ rfl
theorem setT_nil {P : Program} {w : World} {h : Heap} {a : Addr} (ho : h.get? a = some { cls := .type "set", dict := none, data := .set #[] 0 (.fresh 0 0 (!w.params.followText "set-order")) }) : SetT P w h a [] 0 :=
  ⟨_, #[], 0, _, ho, ⟨rfl, rfl, rfl⟩, rfl, (fun e he => by simp at he), (fun k => by simp), (by decide), (by rfl), rfl⟩
set_option maxHeartbeats 3200000 in
/-- the set's own start: the tuple's items one by one -/
theorem set_start {l : Addr} {its : Array Value} {xs : List Str} (hh : A.handled = none) (hl : s.heap.IsTuple l its) (hx : StrsAre its.toList xs) (hb : xs.length + 1 < scanBound)
    {Q2 : Value → Shared → Prop} (q : ∀ h' tk, SetT P w h' s.heap.objs.size xs (cntS xs 0 []) → (∀ b o, s.heap.get? b = some o → h'.get? b = some o) → Q2 .none { s with heap := h', toks := tk }) :
    codeAny (model P w) A (.call (.builtin "set.__init__") ⟨[.ref s.heap.objs.size, .ref l], []⟩) (wants Q2 E) { s with heap := newSet w s.heap } := by
  have hT : Shared.TypeIs { s with heap := newSet w s.heap } (.ref s.heap.objs.size) "set" := ⟨_, newSet_get w s.heap, rfl⟩
  have hlen : xs.length = its.size := by rw [← Array.length_toList, StrsAre.len_eq hx]
  refine codeAny_call_builtin F.called_set.init.plain F.entry_set_init (check_set_init_1 hT ?_)
  obtain ⟨⟨c0, d0, e0, f0⟩, ho, hc, n0, hd⟩ := hl
  simp only at hc hd
  subst hc hd
  have ho1 : (newSet w s.heap).get? l = some { cls := .type "tuple", dict := d0, data := .seq its n0, slots := f0 } := Heap.get?_push_of_some _ ho
  have k1 := F.sub_tuple_set
  have k2 := F.sub_tuple_frozenset
  have k3 : (Value.type "tuple" == Value.type "dict") = false := by decide
  have tup1 : (newSet w s.heap).IsTuple l its := ⟨_, ho1, rfl, n0, rfl⟩
  have lt : l < s.heap.objs.size := Heap.lt_size ho
  unfold Builtin.«set.__init__» noKeywords Builtin.Frozenset.updateFrom
  generalize hPI : pyIter = PI
  wp_walk
  subst hPI
  refine wpAny_pyIter_tuple tup1 (wpAny_bind (wpAny_runValue ?_))
  have sz : (newSet w s.heap).objs.size = s.heap.objs.size + 1 := Heap.size_push ..
  have n1 : l ≠ (newSet w s.heap).objs.size := fun z => by
    rw [sz] at z
    exact absurd lt (by rw [z]; exact Nat.not_lt.mpr (Nat.le_succ _))
  have n2 : s.heap.objs.size ∉ [(newSet w s.heap).objs.size, l] := by
    rw [sz]
    intro z
    rcases List.mem_cons.mp z with z | z
    · exact absurd z (Nat.ne_of_lt (Nat.lt_succ_self _))
    · rw [← List.mem_singleton.mp z] at lt
      exact Nat.lt_irrefl _ lt
  have vals : ∀ (i : Nat) (v : Value), its[i]? = some v → ∃ x t, xs[i]? = some x ∧ v = .str x t := fun i v hv => by
    have hi : i < xs.length := by rw [hlen]; exact (Array.getElem?_eq_some_iff.mp hv).1
    obtain ⟨t, e⟩ := SS.strs_at hx i v (by rw [Array.getElem?_toList]; exact hv)
    refine ⟨xs[i], t, List.getElem?_eq_getElem hi, ?_⟩
    rw [e, List.getD_eq_getElem?_getD, List.getElem?_eq_getElem hi]
    rfl
  have h3 : A.in1.in1.handled = none := by simp [hh]
  refine set_turn ((Walks.tuple h3 _ l n1 its).toS) s.heap.objs.size n2 xs hlen (by omega) vals xs [] 0 0 _ rfl rfl (Nat.le_refl _) ?hst ?hS0 ?hR
  case hst => exact ⟨⟨_, Heap.get?_push_size _ rfl, rfl, rfl⟩, tup1.push _⟩
  case hS0 => exact setT_nil (w := w) (Heap.get?_push_of_some _ (newSet_get w s.heap))
  intro s' mv fin
  obtain ⟨h', g', d', tk', os'⟩ := s'
  obtain rfl : g' = s.gens := mv.gens
  obtain rfl : d' = s.drawn := mv.drawn
  obtain rfl : os' = s.os := mv.os
  show wpAny _ _ _ _ _ _
  refine wpAny_pure ?_
  show wpAny _ _ (ret Value.none) _ _ _
  refine wpAny_pure (q h' tk' fin fun b o e => ?_)
  have hb0 : b < s.heap.objs.size := Heap.lt_size e
  exact mv.heap b o (by
    rw [sz]
    intro z
    rcases List.mem_cons.mp z with z | z
    · exact Nat.ne_of_lt hb0 z
    · exact Nat.ne_of_lt (Nat.lt_succ_of_lt hb0) (List.mem_singleton.mp z)) (Heap.get?_push_of_some _ (Heap.get?_push_of_some _ e))
set_option maxHeartbeats 3200000 in
theorem call_setT {l : Addr} {its : Array Value} {xs : List Str} {Q : Value → Shared → Prop} (hh : A.handled = none) (hl : s.heap.IsTuple l its) (hx : StrsAre its.toList xs) (hb : xs.length + 1 < scanBound)
    (q : ∀ h' tk, SetT P w h' s.heap.objs.size xs (cntS xs 0 []) → (∀ b o, s.heap.get? b = some o → h'.get? b = some o) → Q (.ref s.heap.objs.size) { s with heap := h', toks := tk }) : wpAny (model P w) A (call (.type "set") [.ref l]) Q E s := by
  obtain ⟨c, tl, m0⟩ := F.called_set.mro
  have m1 := F.called_set.made
  have m2 := F.called_set.sub
  refine wpAny_call (codeAny_of_tree ?_)
  show wpAny _ _ (callAny (.type "set") _) _ _ _
  refine wpAny_pure ⟨Code.quiet_builtin _ (by decide +kernel), codeAny_builtin F.entry_type_call ?_⟩
  rw [Around.under_plain (weight_type_call_type "set" [.ref l] []) rfl]
  have m3 := F.called_set.notType
  have m4 := F.called_set.canCreate
  have m5 := F.typeCall_set_1 (.ref l)
  repeat (any_goals (first | assumption | wp_step))
  refine codeAny_mono (code_set_led1 (.ref l) (E := E) (Q₁ := fun obj s₁ => obj = .ref s.heap.objs.size ∧ s₁ = { s with heap := newSet w s.heap }) ⟨rfl, rfl⟩) fun r s₁ hr => ?_
  cases r with
  | error e => exact hr
  | ok fl =>
    cases fl with
    | ret obj =>
      obtain ⟨rfl, rfl⟩ := hr
      have m6 : Shared.TypeIs { s with heap := newSet w s.heap } (.ref s.heap.objs.size) "set" := ⟨_, newSet_get w s.heap, rfl⟩
      have m7 := F.called_set.init.lookup
      have m8 := F.called_set.init.bind (.ref s.heap.objs.size)
      repeat (any_goals (first | assumption | wp_step))
      refine codeAny_mono (set_start (E := E) (P := P) (w := w) (s := s) (xs := xs) (Q2 := fun r s₂ => r = .none ∧ ∃ h' tk, s₂ = { s with heap := h', toks := tk } ∧ SetT P w h' s.heap.objs.size xs (cntS xs 0 []) ∧ (∀ b o, s.heap.get? b = some o → h'.get? b = some o)) (by simp [hh]) hl hx hb fun h' tk a b => ⟨rfl, h', tk, rfl, a, b⟩) fun r₂ s₂ hr₂ => ?_
      cases r₂ with
      | error e => exact hr₂
      | ok fl₂ =>
        cases fl₂ with
        | ret r =>
          obtain ⟨rfl, h', tk, rfl, fin, keep⟩ := hr₂
          repeat (any_goals (first | assumption | wp_step))
          exact q _ _ fin keep
        | _ => exact hr₂.elim
    | _ => exact hr.elim
end
end DL
end
section
set_option Elab.async false
set_option linter.all false
set_option maxRecDepth 100000
set_option autoImplicit false
namespace DL
open PySem PySem.Spec PyProof.Rows L2
/-! ### enumerate(t), t a tuple -/
theorem enum_newT (l : Addr) (its : Array Value) (n : Nat) (dct : Option Addr) (slt : Array (Option Value)) :
    Meets (Builtin.«enumerate.__new__» ⟨[.type "enumerate", .ref l], []⟩) (fun _ R s => s.heap.get? l = some { cls := .type "tuple", dict := dct, data := .seq its n, slots := slt } ∧
      R (.ok (.ret (.ref (s.heap.push { cls := .type "tuple_iterator", data := .fields #[.ref l, .int 0 0] }).objs.size)))
        { s with heap := (s.heap.push { cls := .type "tuple_iterator", data := .fields #[.ref l, .int 0 0] }).push { cls := .type "enumerate", data := .fields #[.none, .bool false, .ref s.heap.objs.size, rawInt 0, .none, .none] } }) :=
  .of_wp fun prog w A R s h => by
    obtain ⟨hp, g, d, tk, os⟩ := s
    obtain ⟨ho, h⟩ := h
    have k1 := sub_enumerate
    have tp : Heap.IsTuple (Shared.heap ⟨hp, g, d, tk, os⟩) l its := ⟨_, ho, rfl, n, rfl⟩
    wp_walk using AutoSeq1.wpAny_loadPart' ho
    refine wpAny_stack_any fun st => wpAny_pure ?_
    split
    · rename_i c _ _ _ _ _
      cases (c == Value.type "enumerate") <;> (wp_walk using AutoSeq1.wpAny_loadPart' ho, wpAny_pyIter_tuple tp; exact ⟨_, rfl, h⟩)
    · wp_walk using AutoSeq1.wpAny_loadPart' ho, wpAny_pyIter_tuple tp
      exact ⟨_, rfl, h⟩
section
variable {prog : Program} {w : World} {A : Around} {E : Value → Shared → Prop} {s : Shared}
theorem call_enumT {l : Addr} {its : Array Value} {Q : Value → Shared → Prop} (hL : s.heap.IsTuple l its)
    (q : ∀ h', IsEnum h' (s.heap.objs.size + 1) s.heap.objs.size 0 .none → h'.IsTupleIter s.heap.objs.size l 0 → (∀ b o, s.heap.get? b = some o → h'.get? b = some o) → Q (.ref (s.heap.objs.size + 1)) { s with heap := h' }) :
    wpAny (model prog w) A (call (.type "enumerate") [.ref l]) Q E s := by
  obtain ⟨⟨c, dct, dt, slt⟩, ho, hc, n, hd⟩ := hL
  simp only at hc hd
  subst hc hd
  refine callType_new F.called_enumerate (by decide) (F.typeCall_enumerate_1 _) (F.newCall_enumerate_1 _) (fun obj => F.args_object_init_2 obj _) F.entry_enumerate_new (enum_newT l its n dct slt) ⟨ho, ?_⟩
  have sz : (s.heap.push { cls := .type "tuple_iterator", data := .fields #[.ref l, .int 0 0] }).objs.size = s.heap.objs.size + 1 := Heap.size_push ..
  show _ ∧ _
  rw [sz]
  have en : IsEnum ((s.heap.push { cls := .type "tuple_iterator", data := .fields #[.ref l, .int 0 0] }).push { cls := .type "enumerate", data := .fields #[.none, .bool false, .ref s.heap.objs.size, rawInt 0, .none, .none] }) (s.heap.objs.size + 1) s.heap.objs.size 0 .none := by
    have z := Heap.get?_push_size (s.heap.push { cls := .type "tuple_iterator", data := .fields #[.ref l, .int 0 0] }) (o := { cls := .type "enumerate", data := .fields #[.none, .bool false, .ref s.heap.objs.size, rawInt 0, .none, .none] }) rfl
    rw [sz] at z
    exact z
  exact ⟨⟨_, en, rfl⟩, q _ en ⟨_, Heap.get?_push_of_some _ (Heap.get?_push_size _ rfl), rfl, rfl⟩ fun b o x => Heap.get?_push_of_some _ (Heap.get?_push_of_some _ x)⟩
end
/-- the tuple at a, each item in a new pair with its place -/
def ItE (K : PySem.W.Frag) (a : Addr) (n : Nat) : It :=
  ⟨fun i H => ∃ (xs : List V) (x : V), SqT K H a xs ∧ xs.length = n ∧ xs[i]? = some x, fun i H v H' => ∃ T x, v = .ref T ∧ H T = none ∧ H' = upd H T (.tup [.int (i : Nat), x]) ∧ ∀ xs, SqT K H a xs → xs[i]? = some x, fun i H => ∃ xs : List V, SqT K H a xs ∧ xs.length = n ∧ n ≤ i⟩
theorem turn_enT {P : Program} {w : World} {K : PySem.W.Frag} {elts : List Expr} {kk : Nat} {tpos : Pos} (a e it : Addr) (n : Nat) :
    Turn P w K (.Tuple elts kk tpos) (ItE K a n) [e, it] e (fun i h => (∃ old, IsEnum h e it ((i : Nat) : Int) old) ∧ h.IsTupleIter it a i ∧ e ≠ it ∧ a ≠ it ∧ e ≠ a ∧ i ≤ n) where
  mem := by simp
  obj := fun i h st b hb => by
    obtain ⟨⟨old, he⟩, ⟨o, ho, hc, hd⟩, _⟩ := st
    have e' : b = e ∨ b = it := by simpa using hb
    rcases e' with z | z
    · subst z; exact ⟨_, he, fun v q => nomatch q⟩
    · subst z; exact ⟨o, ho, fun v q => by rw [hd] at q; cases q⟩
  keep := fun i h h' st k => let ⟨⟨old, he⟩, hi, hne⟩ := st; ⟨⟨old, k e (by simp) _ he⟩, hi.at fun o q => k it (by simp) o q, hne⟩
  item := by
    intro X hP hw hK hc i pins s σ H E I hf st hg
    subst hP hw hK
    obtain ⟨⟨old, he⟩, hit, hne, ha, hea, hin⟩ := st
    obtain ⟨xs, x, hq, hxn, hx⟩ := hg
    obtain ⟨its, rv, p, hz⟩ := I.tuple hq
    obtain ⟨u, hu, ru⟩ := rv.get hx
    have hel : e < s.heap.objs.size := Heap.lt_size he
    have hil : it < s.heap.objs.size := by obtain ⟨_, q, _⟩ := hit; exact Heap.lt_size q
    have hln : i < its.toArray.size := by simpa using (List.getElem?_eq_some_iff.mp hu).1
    have hix : i < xs.length := (List.getElem?_eq_some_iff.mp hx).1
    have D := Draws.tuple (prog := X.prog) (w := X.w) (A := X.A.in1) (by simp [I.ok.hd hc]) it a ha its.toArray
    refine wpAny_pyNext_enum_itemC D he ⟨hit, p⟩ hln hne (by simp [hne, hea]) fun y h' tk hy ho hit' hT hsz hk => ?_
    obtain rfl : y = u := by
      have z : its[i]? = some y := by simpa using hy
      rw [hu] at z
      exact (Option.some.inj z).symm
    refine ⟨_, rfl, wpAny_letOwnedTupleGo_enum (s := { s with heap := h', toks := tk + 1 }) ho fun h'' he' sb => ?_⟩
    have hT2 : h''.get? s.heap.objs.size = some { cls := .type "tuple", data := .seq #[.int (i : Nat) tk, y] } := (sb.2 _ (Nat.ne_of_gt hel)).trans hT
    have hlay : ObjOk X.prog X.w (upd H s.heap.objs.size (.tup [.int (i : Nat), x])) h'' s.heap.objs.size (.tup [.int (i : Nat), x]) :=
      ⟨by show 2 ≤ sizeLine; decide, [.int (i : Nat) tk, y], .cons ⟨_, rfl⟩ (.cons ru .nil), ⟨_, hT2, rfl, _, rfl⟩⟩
    have I1 : Inv X pins σ (upd H s.heap.objs.size (.tup [.int (i : Nat), x])) { s with heap := h'', toks := tk + 1 } :=
      I.turnedNew (ch := [e, it]) (fun b ob hb q => (sb.2 b (fun z => hb (by simp [z]))).trans (hk b ob (fun z => hb (by simp [z])) (fun z => hb (by simp [z])) q)) hf (Nat.le_refl _) hlay
    refine ⟨.ref s.heap.objs.size, _, I1, rfl, ⟨_, x, rfl, I.hok.fresh (Nat.le_refl _), rfl, fun ys hy => by rw [I.tuple_inj hy hq]; exact hx⟩, ⟨⟨y, ?_⟩, hit'.1.at fun o q => (sb.2 it (Ne.symm hne)).trans q, hne, ha, hea, by omega⟩, fun b hb => ?_⟩
    · rw [show ((i + 1 : Nat) : Int) = (i : Int) + 1 by omega]
      exact he'
    · have hb' : b < s.heap.objs.size := by
        rcases (by simpa using hb : b = e ∨ b = it) with z | z
        · subst z; exact hel
        · subst z; exact hil
      rw [upd_ne (Nat.ne_of_lt hb')]
      exact (hf b hb).1
  done := by
    intro X hP hw hK hc i pins s σ H E I hf st hg
    subst hP hw hK
    obtain ⟨⟨old, he⟩, hit, hne, ha, hea, hin⟩ := st
    obtain ⟨xs, hq, hxn, hx⟩ := hg
    obtain ⟨its, rv, p, hz⟩ := I.tuple hq
    obtain ⟨f0, f1, f2, f3, f4, f5⟩ := hf it (by simp)
    have hl := rv.length
    have D := Draws.tuple (prog := X.prog) (w := X.w) (A := X.A.in1) (by simp [I.ok.hd hc]) it a ha its.toArray
    have ei : i = its.toArray.size := by rw [List.size_toArray]; omega
    rw [ei] at hit
    exact wpAny_pyNext_enum_endD D he ⟨hit, p⟩ fun h' eb => ⟨rfl, I.turned (t' := s.toks) (fun b o hb q => eb b o hb q) f0 f1 f3 f4 f5⟩
  self := fun A i s Q E st h => let ⟨⟨_, he⟩, _⟩ := st; wpAny_pyIter_enum he h
def iEnT (K : PySem.W.Frag) (ta : TA) : TI := fun σ H R => ta σ H fun vs H1 => ∃ a xs, vs = [.ref a] ∧ SqT K H1 a xs ∧ R (ItE K a xs.length) H1
theorem pi_enT {X : Cx} {e : Expr} {ta : TA} {p pos tpos : Pos} {elts : List Expr} {kk : Nat} (hg : Gl X "enumerate") (hm : X.mg "enumerate" = none) (ha : PA X [e] ta) (hs : starEach [e] X.env = [(false, eval e X.env)] := by rfl) :
    PI X (.Tuple elts kk tpos) (.Call (.Name "enumerate" p) [e] [] pos) (iEnT X.K ta) := by
  refine ⟨fun pins s σ H R I h => ?_⟩
  refine Call_ (ld_blt I hg hm boot_enumerate (PyProof.Rows.callWith_type1 (thn (ha.run pos pins s σ H _ I h) fun us s1 ⟨vs, H1, I1, r1, a, xs, ex, hq, q⟩ => ?_) hs rfl))
  subst ex
  rw [Vals.ref1 r1]
  obtain ⟨its, rv, p', hz⟩ := I1.tuple hq
  have la : a < s1.heap.objs.size := by obtain ⟨_, z, _⟩ := p'; exact Heap.lt_size z
  refine call_enumT p' fun h' he hit hk => wpAny_pyIter_enum he ?_
  refine ⟨s1.heap.objs.size + 1, [s1.heap.objs.size + 1, s1.heap.objs.size], _, _, H1, rfl, I1.kept (t' := s1.toks) hk, turn_enT a (s1.heap.objs.size + 1) s1.heap.objs.size xs.length, ⟨⟨.none, he⟩, hit, Nat.succ_ne_self _, Nat.ne_of_lt la, Nat.ne_of_gt (Nat.lt_succ_of_lt la), Nat.zero_le _⟩, fun b hb => ?_, q⟩
  have hle : s1.heap.objs.size ≤ b := by
    rcases (by simpa using hb : b = s1.heap.objs.size + 1 ∨ b = s1.heap.objs.size) with z | z
    · rw [z]; exact Nat.le_succ _
    · rw [z]; exact Nat.le_refl _
  exact I1.fpOk hle (I1.hok.fresh hle)
end DL
end
section
set_option Elab.async false
set_option linter.all false
set_option maxRecDepth 100000
set_option autoImplicit false
/-! Room with no repr under way, and what a def promises there: repr of nested data may then be asked in a def's body. -/
namespace DL
open PySem PySem.Spec PyProof.Rows L2
structure RoomG (k : Nat) (A : Around) : Prop where
  rm : Room k A
  gd : A.guards = some []
theorem RoomG.deep {k : Nat} {A : Around} (r : RoomG (k + 1) A) (env : Env) : RoomG k (A.deeper env) := ⟨r.rm.deeper env, r.gd⟩
theorem RoomG.mono {j k : Nat} {A : Around} (r : RoomG k A) (h : j ≤ k) : RoomG j A := ⟨r.rm.mono h, r.gd⟩
structure FnG (P : Program) (w : World) (K : PySem.W.Frag) (mg : Str → Option Value) (base : Heap) (CX : CXT) (k : Nat) (f : Addr) (fd : FuncData) (ps : List Str) (sp : Sp) : Prop where
  ar : ∀ vs H Q E, sp vs H Q E → vs.length = ps.length
  go : ∀ (A : Around) (outer : List Env) (s : Shared) (H : Hp) (args : Args) (us : List Value) (vs : List V) (Q : VK) (E : XK), RoomG k A → Env0 P w K mg base A outer s H → BindsTo s fd args (ps.zip us) → Vals vs us → sp vs H Q E →
    codeAny (model P w) A (Code.call (.ref f) args) (CR CX outer P w H s Q E) s
section
variable {P : Program} {w : World} {K : PySem.W.Frag} {mg : Str → Option Value} {base : Heap} {x qual : Str} {params : Arguments} {body : List Stmt} {scope : Scope} {dvs : List V} {kws : List (Str × V)} {f : Addr} {fd : FuncData}
theorem FunD.okG {CX : CXT} {N ps : List Str} {k : Nat} {sp : Sp} (F : FunD K x qual params body scope dvs kws f fd) (S : FnScope N ps scope) (ar : ∀ vs H Q E, sp vs H Q E → vs.length = ps.length)
    (hB : ∀ (cdv : Value) (A : Around) (outer : List Env) (s : Shared) (H : Hp) (vs : List V) (Q : VK) (E : XK), RoomG k (A.deeper (envOfC qual scope s.heap.objs.size f cdv)) → sp vs H Q E →
      ∃ t, PSs (cxOf CX P w K mg base N qual scope f cdv A outer s H E) body t ∧ t { nx := fun _ H' => Q .non H', rt := Q } (start N vs) H) : FnG P w K mg base CX (k + 1) f fd ps sp := by
  obtain ⟨oc, od, dV, kV, doc, pm, an, cdv, ct, osl, rfl, at_, code, -, -⟩ := F.ex
  refine ⟨ar, ?_⟩
  intro A outer s H args us vs Q E room env0 bnd rel ask
  have stays : ∀ b o, base.get? b = some o → s.heap.get? b = some o := fun b o e => (env0.bs b o e).1
  have inK : K.In s.heap := env0.mod.kin.keeps stays
  have par : ∀ y ∈ ps.zip us, scope.names.lookup y.1 = some .local ∨ (scope.names.lookup y.1 = some .cell ∧ ((cellsFrom (s.heap.objs.size + 1) scope.names []).lookup y.1).isSome = true) := by
    rintro ⟨n, v⟩ hy
    exact (S.par n (List.of_mem_zip hy).1).imp id fun q => ⟨q, PySem.W.cellsFrom_some _ _ _ (.inl q)⟩
  refine codeAny_call_function room.rm.depth (inK _ _ at_) rfl S.co S.gen rfl (PySem.W.codeRec_of inK code) (bnd _ _ _ _ (wpAny_newFunctionEnv_cells S.kind par ?_))
  rintro env rfl s1 into
  refine ⟨(env0.mod.nolimit.keeps stays).keeps into.toInCall.keep, codeAny_func ?_⟩
  obtain ⟨t, reads, start_⟩ := hB cdv A outer s H vs Q E (room.deep _) ask
  have I1 := inv_start (CX := CX) (E := E) S room.rm.hd env0 (ar _ _ _ _ ask) rel into
  refine wpAny_mono (reads.run [] s1 (start N vs) H _ I1 start_) ?_ (fun _ _ z => z)
  have close : ∀ {σ' : L2.St} {H' : Hp} {v : V} {u : Value} {s' : Shared}, Inv (cxOf CX P w K mg base N qual scope f cdv A outer s H E) [] σ' H' s' → RelV v u → Q v H' → CE outer P w H s Q u s' := by
    intro σ' H' v u s' J rv q
    exact ⟨v, H', J.os, J.bare, J.base, J.hok, rv, q⟩
  rintro (_ | _ | _ | u) s' hs
  · obtain ⟨σ', H', J, q⟩ := hs; exact close (v := V.non) (u := Value.none) J rfl q
  · obtain ⟨_, _, _, q⟩ := hs; exact q.elim
  · obtain ⟨_, _, _, q⟩ := hs; exact q.elim
  · obtain ⟨v, σ', H', J, rv, q⟩ := hs; exact close J rv q
end
section
variable {X : Cx} {CX : CXT} {k : Nat} {f : Addr} {fd : FuncData} {ps : List Str} {sp : Sp} {dvs : List V} {ds : List Value} {E : L2.St → XK} {x : Str} {p pos : Pos} {e : Expr} {es : List Expr} {t : TA}
/-- behind the callee: its end, or what it lets out -/
theorem behind {pins : List (Addr × Obj)} {σ : L2.St} {H : Hp} {s : Shared} {Q : VK} {ws us : List Value} {kw : List (Str × Value)} {vs : List V} (F : FnG X.prog X.w X.K X.mg X.base CX k f fd ps sp) (hr : RoomG k X.A) (hx : PassesAt CX X σ (E σ))
    (I : Inv X pins σ H s) (hb : BindsTo s fd ⟨ws, kw⟩ (ps.zip us)) (r : Vals vs us) (h : sp vs H Q (E σ)) : wpAny (model X.prog X.w) X.A (call (.ref f) ws kw) (EP X pins σ Q) X.xe s := by
  refine wpAny_call (codeAny_mono (F.go X.A X.stack s H ⟨ws, kw⟩ us vs Q (E σ) hr I.env0 hb r h) ?_)
  intro r s' hq
  cases r with
  | ok fl => cases fl <;> first | exact I.after hq | exact False.elim hq
  | error e => exact hx pins H s e s' I hq
theorem pe_callG (F : FnG X.prog X.w X.K X.mg X.base CX k f fd ps sp) (hr : RoomG k X.A) (hg : Gl X x) (hm : X.mg x = some (.ref f)) (hk : PySem.W.keepIn X.K (.ref f) = true) (hb : Binds X.K fd ps ds) (hd : Vals dvs ds) (hx : ∀ σ, PassesAt CX X σ (E σ))
    (ha : PA X (e :: es) t) (hdb : (x == ("__debug__" : Str)) = false) (he : starEach (e :: es) X.env = (false, eval e X.env) :: starEach es X.env) (hpl : (backTo pos (starEach es X.env)).any (·.1) = false) :
    PE X (.Call (.Name x p) (e :: es) [] pos) (tCallSD sp dvs E t) := by
  constructor
  intro pins s σ H Q I h
  refine wpAny_Call_Name_kw (ld_glob I hg hm (PySem.W.callWith_K (h₀ := X.base) I.ok.mod.kin hk ?_ he hpl) hdb)
  refine thn (ha.run pos pins s σ H _ I h) ?_
  rintro us s1 ⟨vs, H1, I1, r, q⟩
  have r2 : Vals (vs ++ dvs) (us ++ ds) := r.append hd
  exact ⟨I1.kIn, behind (ws := us) (kw := []) F hr (hx σ) I1 (hb s1 us I1.kIn (by rw [← r2.length]; exact F.ar _ _ _ _ q)) r2 q⟩
end
/-! the law's call -/
section
variable {P : Program} {w : World} {K : PySem.W.Frag} {mg mb : Str → Option Value} {CX : CXT} {k : Nat} {fa a : Addr} {fd : FuncData} {x : Str} {sp : Sp} {s₁ : Shared} {vs : List Value} {ns : List Int}
/-- what is asked of the law's end -/
def LawEnd (s₁ : Shared) (r : Result) (s' : Shared) : Prop := r = .ok (.ret (.bool true)) ∧ OldK s₁.heap s'.heap ∧ s'.os = s₁.os ∧ AllBare s'.gens
theorem law_from {H : Hp} (KX : K.In s₁.heap) (hns : s₁.heap.Ns mainGlobals mg) (hb : s₁.heap.Ns builtinsNs mb) (hbb : ∀ x : Str, x ≠ "__name__" → mb x = bootBuiltins x) (hlim : s₁.heap.NoLimit) (hg : s₁.gens = #[])
    (ha : s₁.heap.get? a = some { cls := .type "list", data := .seq vs.toArray }) (hr : RoomG k callerA) (F : ∀ base : Heap, K.In base → base.Ns mainGlobals mg → FnG P w K mg base CX k fa fd [x] sp)
    (hbind : ∀ (s : Shared) (u : Value), BindsTo s fd ⟨[u], []⟩ [(x, u)]) (ask : sp [.ref a] H (fun v _ => v = .bl true) fun _ _ _ => False) (hCX : ∀ e s', CX [] H s₁ (fun _ _ _ => False) e s' → False)
    (only : Only H) (hok : HOk P w H s₁.heap) (at_ : ∀ b, H b ≠ none → b = a) (kn : H a ≠ none → K.lookup a = none) : codeAny (model P w) callerA (.call (.ref fa) ⟨[.ref a], []⟩) (LawEnd s₁) s₁ := by
  have some_ : ∀ {b : Addr} {u : HO}, H b = some u → b = a := fun {b u} q => at_ b (by rw [q]; exact Option.some_ne_none u)
  -- the names' dicts are not the script
  have ns_ : ∀ {b : Addr} {m : Str → Option Value}, s₁.heap.Ns b m → (hidT s₁.heap H).Ns b m := by
    rintro b m ⟨o, es, ep, e, d, r⟩
    refine ⟨o, es, ep, hidT_get e ?_, d, r⟩
    rcases q : H b with _ | u
    · rfl
    · cases some_ q; rw [ha] at e; cases e; exact Data.noConfusion (show Data.seq vs.toArray _ = Data.dict es ep from d)
  have kin : K.In (hidT s₁.heap H) := by
    intro b o e
    refine hidT_get (KX b o e) ?_
    rcases q : H b with _ | u
    · rfl
    · cases some_ q; rw [kn (by rw [q]; exact Option.some_ne_none u)] at e; cases e
  obtain ⟨mc, c1, c2⟩ := hlim
  have env0 : Env0 P w K mg (hidT s₁.heap H) callerA [] s₁ H :=
    { frames := rfl, mod := ⟨kin, ns_ hns, ⟨mb, ns_ hb, hbb⟩, mc, ns_ c1, c2⟩, bs := fun b o e => of_hidT e, bsz := Nat.le_of_eq (hidT_size s₁.heap H), funs := trivial, frf := fun b z => (List.not_mem_nil z).elim, hok := hok, bare := .of_eq hg }
  have run := (F _ kin (ns_ hns)).go callerA [] s₁ H ⟨[.ref a], []⟩ [.ref a] [.ref a] _ _ hr env0 (hbind s₁ (.ref a)) (.cons rfl .nil) ask
  refine codeAny_mono run ?_
  intro r s' h
  cases r with
  | error e => exact (hCX e s' h).elim
  | ok fl =>
    cases fl with
    | next => exact False.elim h
    | brk => exact False.elim h
    | cont => exact False.elim h
    | ret u =>
      obtain ⟨v, H', os, bare, un, hok', r', q⟩ := h
      cases (show v = V.bl true from q)
      cases (show u = Value.bool true from r')
      refine ⟨rfl, OldK.of_keep ?_, os, bare⟩
      intro b o e
      rcases only b with z | ⟨ob, xs, z⟩
      · exact un.keep b o e z (fun y => (List.not_mem_nil (show b ∈ ([] : List Addr) from y)).elim) List.not_mem_nil
      · obtain ⟨e1, -⟩ := hok b _ z
        obtain ⟨e2, -⟩ := hok' b _ (un.frzs b ob _ z)
        cases e.symm.trans e1
        exact e2
theorem law_goG (KX : K.In s₁.heap) (hns : s₁.heap.Ns mainGlobals mg) (hb : s₁.heap.Ns builtinsNs mb) (hbb : ∀ x : Str, x ≠ "__name__" → mb x = bootBuiltins x) (hlim : s₁.heap.NoLimit) (hg : s₁.gens = #[])
    (ha : s₁.heap.get? a = some { cls := .type "list", data := .seq vs.toArray }) (hi : IntsAre vs ns) (hl : ns.length ≤ sizeLine) (hr : RoomG k callerA) (F : ∀ base : Heap, K.In base → base.Ns mainGlobals mg → FnG P w K mg base CX k fa fd [x] sp)
    (hbind : ∀ (s : Shared) (u : Value), BindsTo s fd ⟨[u], []⟩ [(x, u)]) (ask : ∀ H : Hp, Only H → SqL K H a (ns.map V.int) → sp [.ref a] H (fun v _ => v = .bl true) fun _ _ _ => False)
    (hCX : ∀ H e s', CX [] H s₁ (fun _ _ _ => False) e s' → False) : codeAny (model P w) callerA (.call (.ref fa) ⟨[.ref a], []⟩) (LawEnd s₁) s₁ := by
  have rv : Vals (ns.map V.int) vs := vals_ints hi
  rcases hk : K.lookup a with _ | o
  · -- the script is tracked, frozen
    let ob : Obj := { cls := .type "list", data := .seq vs.toArray }
    let H : Hp := fun b => if b = a then some (.frz ob (.lst (ns.map V.int))) else none
    have Ha : H a = some (.frz ob (.lst (ns.map V.int))) := if_pos rfl
    have Hn : ∀ {b}, b ≠ a → H b = none := fun z => if_neg z
    have on : ∀ {b u}, H b = some u → b = a := fun {b u} z => Classical.byContradiction fun n => by rw [Hn n] at z; cases z
    have only : Only H := fun b => if z : b = a then .inr ⟨ob, _, z ▸ Ha⟩ else .inl (Hn z)
    have hok : HOk P w H s₁.heap := by
      intro b u z
      cases on z
      cases Ha.symm.trans z
      exact ⟨ha, by rw [List.length_map]; exact hl, vs, _, rv, ha⟩
    exact law_from (H := H) KX hns hb hbb hlim hg ha hr F hbind (ask H only (.inl (.inr ⟨ob, Ha⟩))) (hCX H) only hok (fun b z => by
      rcases q : H b with _ | u
      · exact (z q).elim
      · exact on q) fun _ => hk
  · -- the script is an object of the module
    have e := ha.symm.trans (KX a o hk)
    cases e
    have sq : SqL K (fun _ => none) a (ns.map V.int) := .inr ⟨_, vs.toArray, _, hk, rfl, rfl, rfl, by rw [List.size_toArray, hi.length]; exact hl, by simpa using rv⟩
    exact law_from (H := fun _ => none) KX hns hb hbb hlim hg ha hr F hbind (ask _ (fun _ => .inl rfl) sq) (hCX _) (fun _ => .inl rfl) (fun b u z => by cases (show (none : Option HO) = some u from z)) (fun b z => (z rfl).elim) fun z => (z rfl).elim
end
/-- the end of a law's row -/
theorem walk_G {l : PySem.W.OpenLaw} {n k : Nat} {q : Program} {loose : List Str} {XP : (Str → Option Value) → Heap → Prop} {YP : World → Heap → Prop} {d : DefRec} {CX : CXT} {x : Str} (hn : l.most = some n) (hn2 : n ≤ sizeLine) (hdf : d.params.defaults = []) (hr : RoomG k callerA)
    (F : ∀ (w : World) (mg : Str → Option Value) (fa : Addr) (h : Heap), YP w h → h.Ns mainGlobals mg → mg d.name = some (.ref fa) → ∃ (K : PySem.W.Frag) (fd : FuncData) (sp : Sp), K.In h ∧ (∀ (s : Shared) (u : Value), BindsTo s fd ⟨[u], []⟩ [(x, u)]) ∧
      (∀ (H : Hp) (a : Addr) (ns : List Int), ns.length ≤ n → Only H → SqL K H a (ns.map V.int) → sp [.ref a] H (fun v _ => v = .bl true) fun _ _ _ => False) ∧ ∀ base : Heap, K.In base → base.Ns mainGlobals mg → FnG l.prog w K mg base CX k fa fd [x] sp)
    (hCX : ∀ (H : Hp) (s : Shared) (e : Value) (s' : Shared), CX [] H s (fun _ _ _ => False) e s' → False) : PySem.W.WalkO q loose XP YP l.row.toRowW d [] (fun f vs => PySem.call f vs) := by
  refine Att.attach_call hn hdf ?_
  intro w s₀ s₁ mg mb fa o pm cd doc a vs ns G Y ho hd hcd hmg hobj hints hlen hg
  obtain ⟨K, fd, sp, KX, hb, hsp, hF⟩ := F w mg fa _ Y G.T.g hmg
  exact law_goG KX G.T.g G.T.b G.T.builtins G.T.nolimit hg hobj hints (Nat.le_trans hlen hn2) hr hF hb (fun H => hsp H a ns hlen) fun H => hCX H s₁
end DL
end
section
set_option Elab.async false
set_option linter.all false
set_option maxRecDepth 100000
set_option autoImplicit false
namespace DL
open PySem PySem.Spec PyProof.Rows L2

abbrev St := L2.St
/-! ### results -/
structure Ex where
  cls : Str
  flds : List (Str × PyData)
inductive Slot where
  | fr (v : Val)
  | ow (x : PyData)
inductive Cell where
  | lst (xs : List Val)
  | ins (C : Str) (fs : List (Str × Val))
abbrev Sl := List (Option Slot)
abbrev Cs := List Cell
inductive R (α : Type) where
  | ok (a : α) (cs : Cs)
  | ex (e : Ex) (cs : Cs)
  | bad
def R.bind {α β : Type} (r : R α) (k : α → Cs → R β) : R β := match r with
  | .ok a cs => k a cs
  | .ex e cs => .ex e cs
  | .bad => .bad
def R.of {α : Type} (o : Option α) (cs : Cs) : R α := match o with
  | some a => .ok a cs
  | none => .bad
section
variable {α β : Type}
@[simp] theorem R.bind_ok (a : α) (cs : Cs) (k : α → Cs → R β) : (R.ok a cs).bind k = k a cs := rfl
@[simp] theorem R.bind_ex (e : Ex) (cs : Cs) (k : α → Cs → R β) : (R.ex (α := α) e cs).bind k = .ex e cs := rfl
@[simp] theorem R.bind_bad (k : α → Cs → R β) : (R.bad (α := α)).bind k = .bad := rfl
@[simp] theorem R.of_some (a : α) (cs : Cs) : R.of (some a) cs = .ok a cs := rfl
@[simp] theorem R.of_none (cs : Cs) : R.of (α := α) none cs = .bad := rfl
end

/-! ### the abstract heap without what is hidden -/
open Classical in
noncomputable def hide (p : Addr → Prop) (H : Hp) : Hp := fun a => if p a then none else H a
theorem hide_iff {p : Addr → Prop} {H : Hp} {a : Addr} {o : HO} : hide p H a = some o ↔ ¬ p a ∧ H a = some o := by
  unfold hide
  by_cases h : p a
  · rw [if_pos h]; simp [h]
  · rw [if_neg h]; simp [h]
theorem hide_le {p : Addr → Prop} {H : Hp} : Sub (hide p H) H := fun _ _ h => (hide_iff.mp h).2
theorem hide_sub {p q : Addr → Prop} {H H' : Hp} (h : ∀ a o, ¬ p a → H a = some o → ¬ q a ∧ H' a = some o) : Sub (hide p H) (hide q H') := fun a o e => hide_iff.mpr (h a o (hide_iff.mp e).1 (hide_iff.mp e).2)

/-! ### values, cells, slots over heaps -/
section
variable (K : PySem.W.Frag) (mg : Str → Option Value)
def AtV (ρ : List Addr) (G : Hp) : Val → V → Prop
  | .d x, v => AtD K G x v
  | .br _, _ => False
  | .lk xs, v => ∃ a vs, v = .ref a ∧ SqL K G a vs ∧ AtL K G xs vs
  | .cel n, v => ∃ a, ρ[n]? = some a ∧ v = .ref a
  | .fn x, v => ∃ a, mg x = some (.ref a) ∧ v = .ref a
def OwnAt (H G : Hp) (x : PyData) (p : Addr) : Prop := match x with
  | .list xs => ∃ vs, H p = some (.lst vs) ∧ AtL K G xs vs
  | .dict kvs => (∃ kv, H p = some (.dK kv) ∧ AtP K G kvs kv) ∨ ∃ kv, kvs ≠ [] ∧ H p = some (.dT kv) ∧ AtQ K G kvs kv
  | _ => False
def CellAt (ρ : List Addr) (G H : Hp) : Cell → Addr → Prop
  | .lst xs, a => ∃ vs, H a = some (.lst vs) ∧ Paired (AtV K mg ρ G) xs vs
  | .ins C fs, a => ∃ c dx fv, mg C = some (.ref c) ∧ H a = some (.ins c dx fv) ∧ Paired (fun (p : Str × Val) (q : Str × V) => p.1 = q.1 ∧ AtV K mg ρ G p.2 q.2) fs fv
/-- .. or lent -/
def AtT (ρ : List Addr) (H G : Hp) : Val → V → Prop
  | .br x, v => ∃ a, v = .ref a ∧ a ∉ ρ ∧ OwnAt K H G x a
  | x, v => AtV K mg ρ G x v
structure CellsAt (ρ : List Addr) (G H : Hp) (cs : Cs) : Prop where
  len : ρ.length = cs.length
  at_ : ∀ (n : Nat) (c : Cell) (a : Addr), cs[n]? = some c → ρ[n]? = some a → CellAt K mg ρ G H c a
def SlotAt (ρ : List Addr) (G H : Hp) : Slot → V → Prop
  | .fr v, u => AtV K mg ρ G v u
  | .ow x, u => ∃ a, u = .ref a ∧ OwnAt K H G x a
end
/-- what is fixed at a def's entry: what its callers own, the heap, the cells -/
structure Fx where
  hx : Addr → Prop
  H0 : Hp
  ρ0 : List Addr
  hxt : ∀ a, hx a → ∃ o, H0 a = some o
def Own (sl : Sl) (σ : St) (a : Addr) : Prop := ∃ (i : Nat) (x : PyData), sl[i]? = some (some (.ow x)) ∧ σ[i]? = some (some (.ref a))
def Hid (F : Fx) (ρ : List Addr) (sl : Sl) (σ : St) (a : Addr) : Prop := F.hx a ∨ a ∈ ρ ∨ Own sl σ a
noncomputable def vis (F : Fx) (ρ : List Addr) (sl : Sl) (σ : St) (H : Hp) : Hp := hide (Hid F ρ sl σ) H
structure Rep (K : PySem.W.Frag) (mg : Str → Option Value) (F : Fx) (ρ : List Addr) (sl : Sl) (cs : Cs) (σ : St) (H : Hp) : Prop where
  len : sl.length = σ.length
  cells : CellsAt K mg ρ (vis F ρ sl σ H) H cs
  nd : ρ.Nodup
  pre : ∃ t, ρ = F.ρ0 ++ t ∧ ∀ a ∈ t, F.H0 a = none
  fr : ∀ a, Own sl σ a → F.H0 a = none ∧ a ∉ ρ
  inj : ∀ (i j : Nat) (x y : PyData) (a : Addr), sl[i]? = some (some (.ow x)) → sl[j]? = some (some (.ow y)) → σ[i]? = some (some (.ref a)) → σ[j]? = some (some (.ref a)) → i = j
  keep : ∀ a o, F.H0 a = some o → a ∉ F.ρ0 → H a = some o
  slot : ∀ (i : Nat) (s : Slot), sl[i]? = some (some s) → ∃ v, σ[i]? = some (some v) ∧ SlotAt K mg ρ (vis F ρ sl σ H) H s v
/-- behind an expression: cells may have changed, new ones come, else what stood stands -/
structure Grow (ρ : List Addr) (H : Hp) (ρ' : List Addr) (H' : Hp) : Prop where
  keep : ∀ a o, H a = some o → a ∉ ρ → H' a = some o
  ext : ∃ t, ρ' = ρ ++ t ∧ ∀ a ∈ t, H a = none

section
variable {K : PySem.W.Frag} {mg : Str → Option Value} {F : Fx} {ρ ρ' ρ1 ρ2 : List Addr} {sl sl' : Sl} {cs cs' : Cs} {σ σ' : St} {H H' H1 H2 G G' : Hp}
theorem prefix_get {t : List Addr} {n : Nat} {a : Addr} (h : ρ[n]? = some a) : (ρ ++ t)[n]? = some a := by
  obtain ⟨h1, h2⟩ := List.getElem?_eq_some_iff.mp h
  rw [List.getElem?_append_left h1]
  exact h
theorem AtV.mono (hs : Sub G G') (hp : ∀ (n : Nat) (a : Addr), ρ[n]? = some a → ρ'[n]? = some a) : ∀ {v : Val} {u : V}, AtV K mg ρ G v u → AtV K mg ρ' G' v u
  | .d x, _, q => AtD.mono hs x _ q
  | .br _, _, q => q.elim
  | .lk xs, _, ⟨a, vs, e, q, l⟩ => ⟨a, vs, e, sqL_sub hs q, AtL.mono hs _ _ l⟩
  | .cel n, _, ⟨a, e, q⟩ => ⟨a, hp n a e, q⟩
  | .fn x, _, q => q
theorem OwnAt.mono {x : PyData} {p : Addr} (hs : Sub G G') (hh : H' p = H p) (h : OwnAt K H G x p) : OwnAt K H' G' x p := by
  cases x with
  | list xs =>
    obtain ⟨vs, e, l⟩ := h
    exact ⟨vs, hh.trans e, AtL.mono hs _ _ l⟩
  | dict kvs =>
    rcases h with ⟨kv, e, l⟩ | ⟨kv, ne, e, l⟩
    · exact .inl ⟨kv, hh.trans e, AtP.mono hs _ _ l⟩
    · exact .inr ⟨kv, ne, hh.trans e, AtQ.mono hs _ _ l⟩
  | _ => exact h.elim
theorem OwnAt.there {x : PyData} {p : Addr} (h : OwnAt K H G x p) : ∃ o, H p = some o := by
  cases x with
  | list xs => obtain ⟨vs, e, l⟩ := h; exact ⟨_, e⟩
  | dict kvs =>
    rcases h with ⟨kv, e, l⟩ | ⟨kv, ne, e, l⟩
    · exact ⟨_, e⟩
    · exact ⟨_, e⟩
  | _ => exact h.elim
theorem CellAt.there {c : Cell} {a : Addr} (h : CellAt K mg ρ G H c a) : ∃ o, H a = some o := by
  cases c with
  | lst xs => obtain ⟨vs, e, _⟩ := h; exact ⟨_, e⟩
  | ins C fs => obtain ⟨c, dx, fv, _, e, _⟩ := h; exact ⟨_, e⟩
theorem CellAt.mono {c : Cell} {a : Addr} (hs : Sub G G') (hp : ∀ (n : Nat) (a : Addr), ρ[n]? = some a → ρ'[n]? = some a) (hh : H' a = H a) (h : CellAt K mg ρ G H c a) : CellAt K mg ρ' G' H' c a := by
  cases c with
  | lst xs =>
    obtain ⟨vs, e, l⟩ := h
    exact ⟨vs, hh.trans e, L2.Paired.mapP l fun _ _ q => q.mono hs hp⟩
  | ins C fs =>
    obtain ⟨c, dx, fv, e1, e, l⟩ := h
    exact ⟨c, dx, fv, e1, hh.trans e, L2.Paired.mapP l fun _ _ q => ⟨q.1, q.2.mono hs hp⟩⟩
theorem CellsAt.there (h : CellsAt K mg ρ G H cs) {a : Addr} (ha : a ∈ ρ) : ∃ o, H a = some o := by
  obtain ⟨n, hn⟩ := List.getElem?_of_mem ha
  have hl : n < cs.length := by rw [← h.len]; exact (List.getElem?_eq_some_iff.mp hn).1
  exact (h.at_ n _ a (List.getElem?_eq_getElem hl) hn).there
theorem Grow.refl : Grow ρ H ρ H := ⟨fun _ _ h _ => h, [], by simp, fun _ h => by simp at h⟩
theorem Grow.pre (g : Grow ρ H ρ' H') : ∀ (n : Nat) (a : Addr), ρ[n]? = some a → ρ'[n]? = some a := by
  obtain ⟨t, rfl, _⟩ := g.ext
  exact fun n a h => prefix_get h
theorem Grow.mem (g : Grow ρ H ρ' H') {a : Addr} (h : a ∈ ρ) : a ∈ ρ' := by
  obtain ⟨t, rfl, _⟩ := g.ext
  exact List.mem_append_left _ h
theorem Grow.not_mem (g : Grow ρ H ρ' H') {a : Addr} {o : HO} (h : a ∉ ρ) (e : H a = some o) : a ∉ ρ' := by
  obtain ⟨t, rfl, ht⟩ := g.ext
  intro z
  rcases List.mem_append.mp z with z | z
  · exact h z
  · rw [ht a z] at e; cases e
theorem Grow.trans (c : CellsAt K mg ρ1 G H1 cs) (a : Grow ρ H ρ1 H1) (b : Grow ρ1 H1 ρ2 H2) : Grow ρ H ρ2 H2 := by
  refine ⟨fun x o h hx => b.keep x o (a.keep x o h hx) (a.not_mem hx h), ?_⟩
  obtain ⟨t, rfl, ht⟩ := a.ext
  obtain ⟨u, rfl, hu⟩ := b.ext
  refine ⟨t ++ u, by simp, fun x hx => ?_⟩
  rcases List.mem_append.mp hx with z | z
  · exact ht x z
  · cases q : H x with
    | none => rfl
    | some o =>
      have e := hu x z
      by_cases hm : x ∈ ρ
      · obtain ⟨o', e'⟩ := c.there (List.mem_append_left t hm)
        rw [e] at e'; cases e'
      · rw [a.keep x o q hm] at e; cases e
theorem Rep.own_there (r : Rep K mg F ρ sl cs σ H) {a : Addr} (h : Own sl σ a) : ∃ o, H a = some o := by
  obtain ⟨i, x, e1, e2⟩ := h
  obtain ⟨v, e3, s⟩ := r.slot i _ e1
  rw [e2] at e3
  have e4 : V.ref a = v := Option.some.inj (Option.some.inj e3)
  obtain ⟨b, e5, q⟩ := s
  rw [← e4] at e5
  cases e5
  exact q.there
/-- a new address is no one's -/
theorem Rep.fresh (r : Rep K mg F ρ sl cs σ H) {p : Addr} (h : H p = none) : F.H0 p = none ∧ p ∉ ρ ∧ ¬ Own sl σ p := by
  have h2 : p ∉ ρ := fun z => by
    obtain ⟨o, e⟩ := r.cells.there z
    rw [h] at e; cases e
  refine ⟨?_, h2, fun z => ?_⟩
  · cases q : F.H0 p with
    | none => rfl
    | some o =>
      have hp : p ∉ F.ρ0 := fun z => by
        obtain ⟨t, e, _⟩ := r.pre
        exact h2 (by rw [e]; exact List.mem_append_left _ z)
      have := r.keep p o q hp
      rw [h] at this; cases this
  · obtain ⟨o, e⟩ := r.own_there z
    rw [h] at e; cases e
/-- what is seen stays seen behind an expression -/
theorem Grow.vis (r : Rep K mg F ρ sl cs σ H) (g : Grow ρ H ρ' H') : Sub (vis F ρ sl σ H) (vis F ρ' sl σ H') := hide_sub fun a o hn e => by
  have h1 : a ∉ ρ := fun z => hn (.inr (.inl z))
  refine ⟨fun z => ?_, g.keep a o e h1⟩
  rcases z with z | z | z
  · exact hn (.inl z)
  · exact g.not_mem h1 e z
  · exact hn (.inr (.inr z))
/-- the slots stand behind what only grows -/
theorem Rep.grow (r : Rep K mg F ρ sl cs σ H) (g : Grow ρ H ρ' H') (c : CellsAt K mg ρ' (DL.vis F ρ' sl σ H') H' cs') (nd : ρ'.Nodup) : Rep K mg F ρ' sl cs' σ H' := by
  have hv := g.vis r
  have own : ∀ a, Own sl σ a → a ∉ ρ' ∧ H' a = H a := fun a h => by
    obtain ⟨o, e⟩ := r.own_there h
    have n := (r.fr a h).2
    exact ⟨g.not_mem n e, (g.keep a o e n).trans e.symm⟩
  refine ⟨r.len, c, nd, ?_, fun a h => ⟨(r.fr a h).1, (own a h).1⟩, r.inj, fun a o h hn => ?_, fun i s e => ?_⟩
  · obtain ⟨t, e, ht⟩ := r.pre
    obtain ⟨u, e2, hu⟩ := g.ext
    refine ⟨t ++ u, by rw [e2, e]; simp, fun a ha => ?_⟩
    rcases List.mem_append.mp ha with z | z
    · exact ht a z
    · exact (r.fresh (hu a z)).1
  · have hr : a ∉ ρ := fun z => by
      obtain ⟨t, e, ht⟩ := r.pre
      rw [e] at z
      rcases List.mem_append.mp z with z | z
      · exact hn z
      · rw [ht a z] at h; cases h
    exact g.keep a o (r.keep a o h hn) hr
  · obtain ⟨v, e1, q⟩ := r.slot i s e
    refine ⟨v, e1, ?_⟩
    cases s with
    | fr x => exact AtV.mono hv g.pre q
    | ow x =>
      obtain ⟨a, rfl, q⟩ := q
      exact ⟨a, rfl, q.mono hv (own a ⟨i, x, e, e1⟩).2⟩
end

/-- lent or not, or what a cell holds just now -/
def AtW (K : PySem.W.Frag) (mg : Str → Option Value) (ρ : List Addr) (H G : Hp) : Val → V → Prop
  | .br x, v => ∃ a, v = .ref a ∧ OwnAt K H G x a
  | x, v => AtV K mg ρ G x v
theorem AtT.w {K : PySem.W.Frag} {mg : Str → Option Value} {ρ : List Addr} {H G : Hp} {x : Val} {v : V} (h : AtT K mg ρ H G x v) : AtW K mg ρ H G x v := by
  cases x with
  | br x => obtain ⟨a, e, _, q⟩ := h; exact ⟨a, e, q⟩
  | _ => exact h
theorem AtT.of {K : PySem.W.Frag} {mg : Str → Option Value} {ρ : List Addr} {H G : Hp} {x : Val} {v : V} (h : AtV K mg ρ G x v) : AtT K mg ρ H G x v := by
  cases x with
  | br x => exact h.elim
  | _ => exact h
def Val.solid : Val → Bool
  | .br _ => false
  | _ => true
theorem AtT.solid {K : PySem.W.Frag} {mg : Str → Option Value} {ρ : List Addr} {H G : Hp} {x : Val} {v : V} (h : AtT K mg ρ H G x v) (s : x.solid = true) : AtV K mg ρ G x v := by
  cases x with
  | br x => cases s
  | _ => exact h
/-- lent or not, it stays behind an expression -/
theorem AtT.grow {K : PySem.W.Frag} {mg : Str → Option Value} {F : Fx} {ρ ρ' : List Addr} {sl : Sl} {cs : Cs} {σ : St} {H H' : Hp} {x : Val} {v : V} (r : Rep K mg F ρ sl cs σ H) (g : Grow ρ H ρ' H')
    (h : AtT K mg ρ H (DL.vis F ρ sl σ H) x v) : AtT K mg ρ' H' (DL.vis F ρ' sl σ H') x v := by
  cases x with
  | br x =>
    obtain ⟨a, e, n, q⟩ := h
    obtain ⟨o, eo⟩ := q.there
    refine ⟨a, e, g.not_mem n eo, q.mono (g.vis r) ?_⟩
    exact (g.keep a o eo n).trans eo.symm
  | d x => exact AtT.of (AtV.mono (v := .d x) (g.vis r) g.pre h)
  | lk x => exact AtT.of (AtV.mono (v := .lk x) (g.vis r) g.pre h)
  | cel n => exact AtT.of (AtV.mono (v := .cel n) (g.vis r) g.pre h)
  | fn n => exact AtT.of (AtV.mono (v := .fn n) (g.vis r) g.pre h)

/-! ### the configuration: what all contexts of a def's body share -/
structure Cf where
  K : PySem.W.Frag
  mg : Str → Option Value
  P : Program
  w : World
  base : Heap
  N : List Str
  sc : Scope
  k : Nat
  cm : Bool
  tp : Bool
  st : Str → Bool
structure Cf.Ok (Γ : Cf) (X : Cx) : Prop where
  K : X.K = Γ.K
  mg : X.mg = Γ.mg
  P : X.prog = Γ.P
  w : X.w = Γ.w
  base : X.base = Γ.base
  N : X.N = Γ.N
  sc : X.env.scope = Γ.sc
  cm : Γ.cm = true → X.calm = true ∧ RoomG Γ.k X.A
  un : X.A.units + 16 * Γ.k + 200 < cLine
  tp : Γ.tp = true → X.stack = X.env :: X.outer ∧ X.env.frame = some X.env.locals
  fn : ∀ x, Γ.st x = true → X.fn x = true ∨ Γ.sc.names.lookup x = some .local
structure Good (X : Cx) (W : WX) : Prop where
  tk : Takes X W
  po : PassesOwn (model X.prog X.w) X.A X.env X.xe

/-! ### posts -/
/-- an error as it lies -/
def ExAt (K : PySem.W.Frag) (mg : Str → Option Value) (G H : Hp) (e : Ex) (c : Value) (d : Option Addr) : Prop :=
  (∃ C, mg e.cls = some (.ref C) ∧ c = .ref C) ∧ match e.flds with
    | [] => d = none
    | fs => ∃ a vs, d = some a ∧ H a = some (.xd vs) ∧ Paired (fun (p : Str × PyData) (q : Str × V) => p.1 = q.1 ∧ AtD K G p.2 q.2) fs vs
section
variable (Γ : Cf) (F : Fx)
def PostG {α β : Type} (ρ : List Addr) (sl : Sl) (σ : St) (H : Hp) (W : WX) (rel : List Addr → Hp → Cs → α → β → Prop) (r : R α) (Q : β → Hp → Prop) : Prop := match r with
  | .ok x cs' => ∀ u H' ρ', Rep Γ.K Γ.mg F ρ' sl cs' σ H' → Grow ρ H ρ' H' → rel ρ' H' cs' x u → Q u H'
  | .ex e cs' => ∀ c d H' ρ', Rep Γ.K Γ.mg F ρ' sl cs' σ H' → Grow ρ H ρ' H' → ExAt Γ.K Γ.mg (vis F ρ' sl σ H') H' e c d → W c d σ H'
  | .bad => False
/-- a value, seen -/
def relV (sl : Sl) (σ : St) (ρ : List Addr) (H : Hp) (_ : Cs) (x : Val) (u : V) : Prop := AtT Γ.K Γ.mg ρ H (vis F ρ sl σ H) x u
def relVs (sl : Sl) (σ : St) (ρ : List Addr) (H : Hp) (_ : Cs) (xs : List Val) (us : List V) : Prop := Paired (AtV Γ.K Γ.mg ρ (vis F ρ sl σ H)) xs us
def relB (ρ : List Addr) (H : Hp) (_ : Cs) (x y : Bool) : Prop := x = y
/-- a value that may be a fresh list of no one's -/
def relO (sl : Sl) (σ : St) (Hs : Hp) (ρ : List Addr) (H : Hp) (cs : Cs) (x : Slot) (u : V) : Prop := match x with
  | .fr v => AtV Γ.K Γ.mg ρ (vis F ρ sl σ H) v u
  | .ow x => ∃ p, u = .ref p ∧ Hs p = none ∧ Rep Γ.K Γ.mg F ρ sl cs σ (hide (· = p) H) ∧ OwnAt Γ.K H (vis F ρ sl σ (hide (· = p) H)) x p
end
section
variable {Γ : Cf} {F : Fx} {α β α' β' : Type} {ρ ρ1 : List Addr} {sl : Sl} {σ : St} {H H1 : Hp} {W : WX} {cs cs1 : Cs} {rel : List Addr → Hp → Cs → α → β → Prop} {rel' : List Addr → Hp → Cs → α' → β' → Prop}
theorem PostG.weak {r : R α} {Q : β → Hp → Prop} (h : PostG Γ F ρ sl σ H W rel r Q) (c : Rep Γ.K Γ.mg F ρ1 sl cs1 σ H1) (g : Grow ρ H ρ1 H1) : PostG Γ F ρ1 sl σ H1 W rel r Q := by
  cases r with
  | ok x cs' => exact fun u H' ρ' rp g' q => h u H' ρ' rp (g.trans c.cells g') q
  | ex e cs' => exact fun cl d H' ρ' rp g' q => h cl d H' ρ' rp (g.trans c.cells g') q
  | bad => exact h
theorem PostG.bind {r : R α} {k : α → Cs → R α'} {Q : β' → Hp → Prop} (h : PostG Γ F ρ sl σ H W rel' (r.bind k) Q) :
    PostG Γ F ρ sl σ H W rel r (fun u H1 => ∃ x cs1 ρ1, Rep Γ.K Γ.mg F ρ1 sl cs1 σ H1 ∧ Grow ρ H ρ1 H1 ∧ rel ρ1 H1 cs1 x u ∧ PostG Γ F ρ1 sl σ H1 W rel' (k x cs1) Q) := by
  cases r with
  | ok x cs' => exact fun u H' ρ' rp g q => ⟨x, cs', ρ', rp, g, q, PostG.weak h rp g⟩
  | ex e cs' => exact h
  | bad => exact h
theorem Grow.back {K : PySem.W.Frag} {mg : Str → Option Value} {p : Addr} (r : Rep K mg F ρ1 sl cs σ H1) (g : Grow ρ H ρ1 H1) (h : H1 p = none) : H p = none := by
  cases q : H p with
  | none => rfl
  | some o =>
    by_cases hp : p ∈ ρ
    · obtain ⟨o', e⟩ := r.cells.there (g.mem hp)
      rw [h] at e; cases e
    · rw [g.keep p o q hp] at h; cases h
theorem PostG.imp {r : R α} {Q : β → Hp → Prop} {rl : List Addr → Hp → Cs → α → β → Prop} (h : PostG Γ F ρ sl σ H W rel r Q) (hr : ∀ ρ' H' cs' x u, rl ρ' H' cs' x u → rel ρ' H' cs' x u) : PostG Γ F ρ sl σ H W rl r Q := by
  cases r with
  | ok x cs' => exact fun u H' ρ' rp g q => h u H' ρ' rp g (hr _ _ _ _ _ q)
  | ex e cs' => exact h
  | bad => exact h
theorem relO_back {Hs : Hp} (hb : ∀ p, H1 p = none → Hs p = none) : ∀ ρ' H' cs' x u, relO Γ F sl σ H1 ρ' H' cs' x u → relO Γ F sl σ Hs ρ' H' cs' x u := fun ρ' H' cs' x u q => by
  cases x with
  | fr v => exact q
  | ow x =>
    obtain ⟨p, e, e2, q⟩ := q
    exact ⟨p, e, hb p e2, q⟩
theorem PostG.mono {r : R α} {Q Q' : β → Hp → Prop} (h : PostG Γ F ρ sl σ H W rel r Q) (hq : ∀ u H', Q u H' → Q' u H') : PostG Γ F ρ sl σ H W rel r Q' := by
  cases r with
  | ok x cs' => exact fun u H' ρ' rp g q => hq _ _ (h u H' ρ' rp g q)
  | ex e cs' => exact h
  | bad => exact h
end

/-! ### judgements -/
abbrev SE := Sl → Cs → R Val
abbrev SO := Sl → Cs → R Slot
abbrev ST := Sl → Cs → R Bool
abbrev SA := Sl → Cs → R (List Val)
structure DE (Γ : Cf) (e : Expr) (f : SE) : Prop where
  ex : ∃ t : WX → TE, (∀ X W, Γ.Ok X → Good X W → PE X e (t W)) ∧ ∀ W F ρ sl cs σ H Q, Rep Γ.K Γ.mg F ρ sl cs σ H → PostG Γ F ρ sl σ H W (relV Γ F sl σ) (f sl cs) Q → t W σ H Q
structure DO (Γ : Cf) (e : Expr) (f : SO) : Prop where
  ex : ∃ t : WX → TE, (∀ X W, Γ.Ok X → Good X W → PE X e (t W)) ∧ ∀ W F ρ sl cs σ H Q, Rep Γ.K Γ.mg F ρ sl cs σ H → PostG Γ F ρ sl σ H W (relO Γ F sl σ H) (f sl cs) Q → t W σ H Q
structure DT (Γ : Cf) (e : Expr) (f : ST) : Prop where
  ex : ∃ t : WX → TT, (∀ X W, Γ.Ok X → Good X W → PT X e (t W)) ∧ ∀ W F ρ sl cs σ H Q, Rep Γ.K Γ.mg F ρ sl cs σ H → PostG Γ F ρ sl σ H W relB (f sl cs) Q → t W σ H Q
structure DA (Γ : Cf) (es : List Expr) (f : SA) : Prop where
  ex : ∃ t : WX → TA, (∀ X W, Γ.Ok X → Good X W → PA X es (t W)) ∧ ∀ W F ρ sl cs σ H Q, Rep Γ.K Γ.mg F ρ sl cs σ H → PostG Γ F ρ sl σ H W (relVs Γ F sl σ) (f sl cs) Q → t W σ H Q

/-! ### names and constants -/
section
variable {Γ : Cf} {pos : Pos}
def eVar (i : Nat) : SE := fun sl cs => match sl[i]? with
  | some (some (.fr v)) => .ok v cs
  | some (some (.ow x)) => .ok (.br x) cs
  | _ => .bad
def eC (x : PyData) : SE := fun _ cs => .ok (.d x) cs
theorem de_var (i : Nat) {x : Str} (hN : Γ.N[i]? = some x := by rfl) (hv : Vis Γ.sc x := by first | exact Or.inl rfl | exact Or.inr (Or.inl rfl) | exact Or.inr (Or.inr rfl)) (hd : (x == ("__debug__" : Str)) = false := by decide)
    (hcd : (x == ("__classdict__" : Str)) = false := by decide) : DE Γ (.Name x pos) (eVar i) := by
  refine ⟨fun _ => tVar i, fun X W ok _ => pe_var (by rw [ok.N]; exact hN) (by rw [ok.sc]; exact hv) hd hcd, fun W F ρ sl cs σ H Q r h => ?_⟩
  unfold eVar at h
  split at h
  · rename_i v e
    obtain ⟨u, e2, q⟩ := r.slot i _ e
    exact ⟨u, e2, h u H ρ r Grow.refl (AtT.of q)⟩
  · rename_i x e
    obtain ⟨u, e2, a, rfl, q⟩ := r.slot i _ e
    exact ⟨_, e2, h _ H ρ r Grow.refl ⟨a, rfl, (r.fr a ⟨i, x, e, e2⟩).2, q⟩⟩
  · exact h.elim
theorem de_const {e : Expr} {x : PyData} {v : V} (hp : ∀ X, PE X e (tC v)) (ha : ∀ K G, AtD K G x v) : DE Γ e (eC x) :=
  ⟨fun _ => tC v, fun X W _ _ => hp X, fun W F ρ sl cs σ H Q r h => h v H ρ r Grow.refl (AtT.of (ha _ _))⟩
theorem de_int {i j} : DE Γ (.Constant (.int i) j pos) (eC (.int i)) := de_const (fun X => pe_int) fun _ _ => at_int
theorem de_bl {i j} : DE Γ (.Constant (.bool i) j pos) (eC (.bool i)) := de_const (fun X => pe_bl) fun _ _ => at_bl
theorem de_non {j} : DE Γ (.Constant .none j pos) (eC .none) := de_const (fun X => pe_non) fun _ _ => at_non
theorem de_str {x j} : DE Γ (.Constant (.str x) j pos) (eC (.str x)) := de_const (fun X => pe_str) fun _ _ => at_str
/-- a constant of the module -/
structure GlobD (K : PySem.W.Frag) (mg : Str → Option Value) (x : Str) (d : PyData) : Prop where
  ex : ∃ u v, mg x = some u ∧ RelV v u ∧ ∀ G, AtD K G d v
def Gls (sc : Scope) (x : Str) : Prop := sc.names.lookup x = some .globalImplicit
theorem gl_of {X : Cx} (ok : Γ.Ok X) {x : Str} (h : Gls Γ.sc x) : Gl X x := by
  show X.env.scope.names.lookup x = _
  rw [ok.sc]
  exact h
theorem de_glob {x : Str} {d : PyData} (g : GlobD Γ.K Γ.mg x d) (hg : Gls Γ.sc x := by rfl) (hd : (x == ("__debug__" : Str)) = false := by decide) : DE Γ (.Name x pos) (eC d) := by
  obtain ⟨u, v, hm, r, ha⟩ := g.ex
  exact ⟨fun _ => tC v, fun X W ok _ => pe_glob (gl_of ok hg) (by rw [ok.mg]; exact hm) r hd, fun W F ρ sl cs σ H Q r h => h v H ρ r Grow.refl (AtT.of (ha _))⟩
end

/-! ### argument lists -/
section
variable {Γ : Cf} {e : Expr} {es : List Expr}
def aNil : SA := fun _ cs => .ok [] cs
def aCons (f : SE) (g : SA) : SA := fun sl cs => (f sl cs).bind fun x cs1 => if x.solid = true then (g sl cs1).bind fun xs cs2 => .ok (x :: xs) cs2 else .bad
theorem da_nil : DA Γ [] aNil := ⟨fun _ => tNil, fun X W _ _ => pa_nil, fun W F ρ sl cs σ H Q r h => h [] H ρ r Grow.refl .nil⟩
theorem Paired.monoV {K : PySem.W.Frag} {mg : Str → Option Value} {ρ ρ' : List Addr} {G G' : Hp} (hs : Sub G G') (hp : ∀ (n : Nat) (a : Addr), ρ[n]? = some a → ρ'[n]? = some a) {xs : List Val} {us : List V} (h : Paired (AtV K mg ρ G) xs us) : Paired (AtV K mg ρ' G') xs us :=
  L2.Paired.mapP h fun _ _ q => q.mono hs hp
theorem da_cons {f : SE} {g : SA} (h1 : DE Γ e f) (h2 : DA Γ es g) (hs : ∀ env, starEach (e :: es) env = (false, eval e env) :: starEach es env := by intro _; rfl) : DA Γ (e :: es) (aCons f g) := by
  obtain ⟨t, p1, q1⟩ := h1.ex
  obtain ⟨u, p2, q2⟩ := h2.ex
  refine ⟨fun W => tCons (t W) (u W), fun X W ok gd => pa_cons (p1 X W ok gd) (p2 X W ok gd) (hs _), fun W F ρ sl cs σ H Q r h => ?_⟩
  refine q1 W F ρ sl cs σ H _ r (PostG.mono (PostG.bind (rel := relV Γ F sl σ) h) fun v H1 ⟨x, cs1, ρ1, r1, g1, a1, h1⟩ => ?_)
  by_cases hsd : x.solid = true
  · rw [if_pos hsd] at h1
    refine q2 W F ρ1 sl cs1 σ H1 _ r1 (PostG.mono (PostG.bind (rel := relVs Γ F sl σ) h1) fun vs H2 ⟨xs, cs2, ρ2, r2, g2, a2, h2⟩ => ?_)
    exact h2 (v :: vs) H2 ρ2 r2 Grow.refl (.cons (AtV.mono (g2.vis r1) g2.pre (a1.solid hsd)) a2)
  · rw [if_neg hsd] at h1
    exact h1.elim
end
end DL
end
section
set_option Elab.async false
set_option linter.all false
set_option maxRecDepth 100000
set_option autoImplicit false
namespace DL
open PySem PySem.Spec PyProof.Rows L2

section
variable {K : PySem.W.Frag} {mg : Str → Option Value} {F : Fx} {ρ ρ' ρ1 ρ2 : List Addr} {sl sl' : Sl} {cs cs' : Cs} {σ σ' : St} {H H' H1 H2 G G' : Hp}
theorem vis_le : Sub (vis F ρ sl σ H) H := hide_le
theorem Rep.free (r : Rep K mg F ρ sl cs σ H) {p : Addr} (h : H p = none) : ¬ Hid F ρ sl σ p := fun z => by
  obtain ⟨h1, h2, h3⟩ := r.fresh h
  rcases z with z | z | z
  · obtain ⟨o, e⟩ := F.hxt p z
    rw [h1] at e; cases e
  · exact h2 z
  · exact h3 z
theorem Grow.upd {p : Addr} {o : HO} (h : H p = none) : Grow ρ H ρ (upd H p o) :=
  ⟨fun a u e _ => by rw [upd_ne (ne_of_none e h)]; exact e, [], by simp, fun _ z => by simp at z⟩
/-- a new object, seen -/
theorem Rep.alloc (r : Rep K mg F ρ sl cs σ H) {p : Addr} (h : H p = none) (o : HO) : Rep K mg F ρ sl cs σ (upd H p o) ∧ vis F ρ sl σ (upd H p o) p = some o := by
  have g : Grow ρ H ρ (upd H p o) := Grow.upd h
  have hv := g.vis r
  refine ⟨r.grow g ⟨r.cells.len, fun n c a e1 e2 => ?_⟩ r.nd, hide_iff.mpr ⟨r.free h, upd_same⟩⟩
  have q := r.cells.at_ n c a e1 e2
  obtain ⟨o', eo⟩ := q.there
  exact q.mono hv (fun _ _ z => z) (upd_ne (ne_of_none eo h))
/-- .. and one that no one sees yet -/
theorem Rep.own_new (r : Rep K mg F ρ sl cs σ H) {p : Addr} (h : H p = none) : F.H0 p = none ∧ p ∉ ρ ∧ ¬ Own sl σ p := r.fresh h
theorem AtT.bl {b : Bool} {v : V} (h : AtT K mg ρ H G (.d (.bool b)) v) : v = .bl b := at_bl_iff (K := K) (G := G) |>.mp h
theorem AtT.int {i : Int} {v : V} (h : AtT K mg ρ H G (.d (.int i)) v) : v = .int i := at_int_iff (K := K) (G := G) |>.mp h
theorem AtT.str {i : Str} {v : V} (h : AtT K mg ρ H G (.d (.str i)) v) : v = .str i := at_str_iff (K := K) (G := G) |>.mp h
theorem AtT.non {v : V} (h : AtT K mg ρ H G (.d .none) v) : v = .non := at_non_iff (K := K) (G := G) |>.mp h
theorem AtT.tup {xs : List PyData} {v : V} (h : AtT K mg ρ H G (.d (.tuple xs)) v) : ∃ a vs, v = .ref a ∧ SqT K G a vs ∧ AtL K G xs vs := at_tup_iff (K := K) (G := G) |>.mp h
theorem AtT.d {x : PyData} {v : V} (h : AtT K mg ρ H G (.d x) v) : AtD K G x v := h
theorem AtT.mk {x : PyData} {v : V} (h : AtD K G x v) : AtT K mg ρ H G (.d x) v := h
theorem AtT.mkB {b : Bool} : AtT K mg ρ H G (.d (.bool b)) (.bl b) := at_bl (K := K) (G := G)
theorem AtT.mkI {i : Int} : AtT K mg ρ H G (.d (.int i)) (.int i) := at_int (K := K) (G := G)
theorem AtT.mkS {i : Str} : AtT K mg ρ H G (.d (.str i)) (.str i) := at_str (K := K) (G := G)
theorem AtT.mkN : AtT K mg ρ H G (.d .none) .non := at_non (K := K) (G := G)
/-- top views -/
theorem AtT.list {x : Val} {xs : List PyData} {v : V} (h : AtT K mg ρ H (DL.vis F ρ sl σ H) x v) (e : x = .d (.list xs) ∨ x = .br (.list xs)) : ∃ a vs, v = .ref a ∧ H a = some (.lst vs) ∧ AtL K (DL.vis F ρ sl σ H) xs vs := by
  rcases e with rfl | rfl
  · obtain ⟨a, vs, e, q, l⟩ := at_list_iff.mp (show AtD K _ (.list xs) v from h)
    exact ⟨a, vs, e, vis_le _ _ q, l⟩
  · obtain ⟨a, e, _, vs, q, l⟩ := h
    exact ⟨a, vs, e, q, l⟩
end

/-! ### operations on two values -/
def Val.dat : Val → Option PyData
  | .d x => some x
  | .br x => some x
  | _ => none
def datsL : List Val → Option (List PyData)
  | [] => some []
  | .d x :: r => (datsL r).map (x :: ·)
  | _ :: _ => none
/-- a cell of data as what it holds -/
def Val.cv (cs : Cs) : Val → Val
  | .cel n => match cs[n]? with
    | some (.lst xs) => (match datsL xs with
      | some ds => .br (.list ds)
      | none => .cel n)
    | _ => .cel n
  | x => x
theorem datsL_at {mg : Str → Option Value} {K : PySem.W.Frag} {ρ : List Addr} {G : Hp} : ∀ {xs : List Val} {vs : List V} {ds : List PyData}, datsL xs = some ds → Paired (AtV K mg ρ G) xs vs → AtL K G ds vs
  | [], _, _, e, .nil => by cases e; exact AtL.nil
  | .d x :: r, _, ds, e, .cons q t => by
    simp only [datsL] at e
    cases er : datsL r with
    | none => rw [er] at e; cases e
    | some l =>
      rw [er] at e
      cases e
      exact AtL.cons q (datsL_at er t)
  | .br _ :: _, _, _, e, _ => by cases e
  | .lk _ :: _, _, _, e, _ => by cases e
  | .cel _ :: _, _, _, e, _ => by cases e
  | .fn _ :: _, _, _, e, _ => by cases e
theorem AtT.cv {K : PySem.W.Frag} {mg : Str → Option Value} {F : Fx} {ρ : List Addr} {sl : Sl} {cs : Cs} {σ : St} {H : Hp} {x : Val} {v : V} (rp : Rep K mg F ρ sl cs σ H) (h : AtT K mg ρ H (DL.vis F ρ sl σ H) x v) : AtW K mg ρ H (DL.vis F ρ sl σ H) (x.cv cs) v := by
  cases x with
  | cel n =>
    unfold Val.cv
    dsimp only
    split
    · rename_i xs en
      split
      · rename_i ds ed
        obtain ⟨p, ep, rfl⟩ : ∃ p, ρ[n]? = some p ∧ v = .ref p := h
        obtain ⟨vs, q, l⟩ := rp.cells.at_ n _ p en ep
        exact ⟨p, rfl, vs, q, datsL_at ed l⟩
      · exact h
    · exact h
  | _ => exact h.w
def op2 (g : PyData → PyData → Option PyData) (x y : Val) (cs : Cs) : R Val := match (x.cv cs).dat, (y.cv cs).dat with
  | some a, some b => R.of ((g a b).map Val.d) cs
  | _, _ => .bad
def eOp (g : PyData → PyData → Option PyData) (fa fb : SE) : SE := fun sl cs => (fa sl cs).bind fun x cs1 => (fb sl cs1).bind fun y cs2 => op2 g x y cs2
/-- a two-place operation by data -/
structure OpD (Γ : Cf) (f : Value → Value → Sem Value) (g : PyData → PyData → Option PyData) : Prop where
  ex : ∃ r : R2, (∀ X, Γ.Ok X → OpR X f r) ∧ ∀ W F ρ sl cs σ H Q x y a b u v, Rep Γ.K Γ.mg F ρ sl cs σ H → x.dat = some a → y.dat = some b → AtW Γ.K Γ.mg ρ H (vis F ρ sl σ H) x u → AtW Γ.K Γ.mg ρ H (vis F ρ sl σ H) y v →
    PostG Γ F ρ sl σ H W (relV Γ F sl σ) (R.of ((g a b).map Val.d) cs) Q → r u v H Q
section
variable {Γ : Cf} {pos : Pos} {a b c : Expr} {fa fb fc : SE}
theorem OpD.or {f : Value → Value → Sem Value} {g g' : PyData → PyData → Option PyData} (h : OpD Γ f g) (h' : OpD Γ f g') : OpD Γ f (fun x y => (g x y).or (g' x y)) := by
  obtain ⟨r, p, q⟩ := h.ex
  obtain ⟨r', p', q'⟩ := h'.ex
  refine ⟨fun x y H Q => r x y H Q ∨ r' x y H Q, fun X ok => OpR.or (p X ok) (p' X ok), fun W F ρ sl cs σ H Q x y a b u v rp e1 e2 h1 h2 hp => ?_⟩
  cases e : g a b with
  | some z => exact .inl (q W F ρ sl cs σ H Q x y a b u v rp e1 e2 h1 h2 (by rw [e] at hp ⊢; exact hp))
  | none => exact .inr (q' W F ρ sl cs σ H Q x y a b u v rp e1 e2 h1 h2 (by rw [e] at hp; exact hp))
theorem bin2 {ta tb : WX → TE} {r : R2} {g : PyData → PyData → Option PyData}
    (q1 : ∀ W F ρ sl cs σ H Q, Rep Γ.K Γ.mg F ρ sl cs σ H → PostG Γ F ρ sl σ H W (relV Γ F sl σ) (fa sl cs) Q → ta W σ H Q) (q2 : ∀ W F ρ sl cs σ H Q, Rep Γ.K Γ.mg F ρ sl cs σ H → PostG Γ F ρ sl σ H W (relV Γ F sl σ) (fb sl cs) Q → tb W σ H Q)
    (q3 : ∀ W F ρ sl cs σ H Q x y a b u v, Rep Γ.K Γ.mg F ρ sl cs σ H → x.dat = some a → y.dat = some b → AtW Γ.K Γ.mg ρ H (vis F ρ sl σ H) x u → AtW Γ.K Γ.mg ρ H (vis F ρ sl σ H) y v →
      PostG Γ F ρ sl σ H W (relV Γ F sl σ) (R.of ((g a b).map Val.d) cs) Q → r u v H Q) {W : WX} {F : Fx} {ρ : List Addr} {sl : Sl} {cs : Cs} {σ : St} {H : Hp} {Q : VK} (rp : Rep Γ.K Γ.mg F ρ sl cs σ H)
    (h : PostG Γ F ρ sl σ H W (relV Γ F sl σ) (eOp g fa fb sl cs) Q) : tOp r (ta W) (tb W) σ H Q := by
  refine q1 W F ρ sl cs σ H _ rp (PostG.mono (PostG.bind (rel := relV Γ F sl σ) h) fun u H1 ⟨x, cs1, ρ1, r1, g1, a1, h1⟩ => ?_)
  refine q2 W F ρ1 sl cs1 σ H1 _ r1 (PostG.mono (PostG.bind (rel := relV Γ F sl σ) h1) fun v H2 ⟨y, cs2, ρ2, r2, g2, a2, h2⟩ => ?_)
  have a1' := AtT.grow r1 g2 a1
  unfold op2 at h2
  cases e1 : (x.cv cs2).dat with
  | none => rw [e1] at h2; exact h2.elim
  | some d1 =>
    cases e2 : (y.cv cs2).dat with
    | none => rw [e1, e2] at h2; exact h2.elim
    | some d2 =>
      rw [e1, e2] at h2
      exact q3 W F ρ2 sl cs2 σ H2 Q (x.cv cs2) (y.cv cs2) d1 d2 u v r2 e1 e2 (AtT.cv r2 a1') (AtT.cv r2 a2) h2
theorem de_op {op : Operator} {g : PyData → PyData → Option PyData} (ho : OpD Γ (binaryOp op) g) (ha : DE Γ a fa) (hb : DE Γ b fb) : DE Γ (.BinOp a op b pos) (eOp g fa fb) := by
  obtain ⟨r, p, q⟩ := ho.ex
  obtain ⟨ta, p1, q1⟩ := ha.ex
  obtain ⟨tb, p2, q2⟩ := hb.ex
  exact ⟨fun W => tOp r (ta W) (tb W), fun X W ok gd => pe_op (p X ok) (p1 X W ok gd) (p2 X W ok gd), fun W F ρ sl cs σ H Q rp h => bin2 q1 q2 q rp h⟩
theorem de_cmp {op : CmpOp} {g : PyData → PyData → Option PyData} (ho : OpD Γ (compareOp op) g) (ha : DE Γ a fa) (hb : DE Γ b fb) (hm : behindInMarks op b = false := by first | exact nomark _ | with_unfolding_all rfl) : DE Γ (.Compare a [op] [b] pos) (eOp g fa fb) := by
  obtain ⟨r, p, q⟩ := ho.ex
  obtain ⟨ta, p1, q1⟩ := ha.ex
  obtain ⟨tb, p2, q2⟩ := hb.ex
  exact ⟨fun W => tOp r (ta W) (tb W), fun X W ok gd => pe_cmpR (p X ok) (p1 X W ok gd) (p2 X W ok gd) hm, fun W F ρ sl cs σ H Q rp h => bin2 q1 q2 q rp h⟩
/-- a bool's test -/
def asB (x : Val) (cs : Cs) : R Bool := match x with
  | .d (.bool b) => .ok b cs
  | _ => .bad
def tBool (f : SE) : ST := fun sl cs => (f sl cs).bind asB
theorem post_bool {F : Fx} {ρ : List Addr} {sl : Sl} {cs : Cs} {σ : St} {H : Hp} {W : WX} {Q : Bool → Hp → Prop} {f : SE} (h : PostG Γ F ρ sl σ H W relB (tBool f sl cs) Q) :
    PostG Γ F ρ sl σ H W (relV Γ F sl σ) (f sl cs) (fun x H' => ∃ k, x = .bl k ∧ Q k H') := by
  refine PostG.mono (PostG.bind (rel := relV Γ F sl σ) h) fun u H1 ⟨x, cs1, ρ1, r1, g1, a1, h1⟩ => ?_
  unfold asB at h1
  split at h1
  · rename_i k
    exact ⟨k, AtT.bl a1, h1 k H1 ρ1 r1 Grow.refl rfl⟩
  · exact h1.elim
theorem dt_cmp {op : CmpOp} {g : PyData → PyData → Option PyData} (ho : OpD Γ (compareOp op) g) (ha : DE Γ a fa) (hb : DE Γ b fb) (hm : behindInMarks op b = false := by first | exact nomark _ | with_unfolding_all rfl) : DT Γ (.Compare a [op] [b] pos) (tBool (eOp g fa fb)) := by
  obtain ⟨r, p, q⟩ := ho.ex
  obtain ⟨ta, p1, q1⟩ := ha.ex
  obtain ⟨tb, p2, q2⟩ := hb.ex
  exact ⟨fun W => tTest (tOp r (ta W) (tb W)), fun X W ok gd => pt_cmpR (p X ok) (p1 X W ok gd) (p2 X W ok gd) hm, fun W F ρ sl cs σ H Q rp h => bin2 q1 q2 q rp (post_bool h)⟩
/-- a op b op' c -/
def eChain (g g' : PyData → PyData → Option PyData) (fa fb fc : SE) : SE := fun sl cs => (fa sl cs).bind fun x cs1 => (fb sl cs1).bind fun y cs2 => (op2 g x y cs2).bind fun z cs3 => (asB z cs3).bind fun k cs4 =>
  if k = true then (fc sl cs4).bind fun w cs5 => op2 g' y w cs5 else .ok (.d (.bool false)) cs4
theorem chain2 {ta tb tc : WX → TE} {r r' : R2} {g g' : PyData → PyData → Option PyData}
    (q1 : ∀ W F ρ sl cs σ H Q, Rep Γ.K Γ.mg F ρ sl cs σ H → PostG Γ F ρ sl σ H W (relV Γ F sl σ) (fa sl cs) Q → ta W σ H Q) (q2 : ∀ W F ρ sl cs σ H Q, Rep Γ.K Γ.mg F ρ sl cs σ H → PostG Γ F ρ sl σ H W (relV Γ F sl σ) (fb sl cs) Q → tb W σ H Q)
    (q4 : ∀ W F ρ sl cs σ H Q, Rep Γ.K Γ.mg F ρ sl cs σ H → PostG Γ F ρ sl σ H W (relV Γ F sl σ) (fc sl cs) Q → tc W σ H Q)
    (q3 : ∀ W F ρ sl cs σ H Q x y a b u v, Rep Γ.K Γ.mg F ρ sl cs σ H → x.dat = some a → y.dat = some b → AtW Γ.K Γ.mg ρ H (vis F ρ sl σ H) x u → AtW Γ.K Γ.mg ρ H (vis F ρ sl σ H) y v →
      PostG Γ F ρ sl σ H W (relV Γ F sl σ) (R.of ((g a b).map Val.d) cs) Q → r u v H Q)
    (q5 : ∀ W F ρ sl cs σ H Q x y a b u v, Rep Γ.K Γ.mg F ρ sl cs σ H → x.dat = some a → y.dat = some b → AtW Γ.K Γ.mg ρ H (vis F ρ sl σ H) x u → AtW Γ.K Γ.mg ρ H (vis F ρ sl σ H) y v →
      PostG Γ F ρ sl σ H W (relV Γ F sl σ) (R.of ((g' a b).map Val.d) cs) Q → r' u v H Q) {W : WX} {F : Fx} {ρ : List Addr} {sl : Sl} {cs : Cs} {σ : St} {H : Hp} {Q : VK} (rp : Rep Γ.K Γ.mg F ρ sl cs σ H)
    (h : PostG Γ F ρ sl σ H W (relV Γ F sl σ) (eChain g g' fa fb fc sl cs) Q) : tChain r r' (ta W) (tb W) (tc W) σ H Q := by
  refine q1 W F ρ sl cs σ H _ rp (PostG.mono (PostG.bind (rel := relV Γ F sl σ) h) fun u H1 ⟨x, cs1, ρ1, r1, g1, a1, h1⟩ => ?_)
  refine q2 W F ρ1 sl cs1 σ H1 _ r1 (PostG.mono (PostG.bind (rel := relV Γ F sl σ) h1) fun v H2 ⟨y, cs2, ρ2, r2, g2, a2, h2⟩ => ?_)
  have a1' := AtT.grow r1 g2 a1
  unfold op2 at h2
  cases e1 : (x.cv cs2).dat with
  | none => rw [e1] at h2; exact h2.elim
  | some d1 =>
    cases e2 : (y.cv cs2).dat with
    | none => rw [e1, e2] at h2; exact h2.elim
    | some d2 =>
      rw [e1, e2] at h2
      refine q3 W F ρ2 sl cs2 σ H2 _ (x.cv cs2) (y.cv cs2) d1 d2 u v r2 e1 e2 (AtT.cv r2 a1') (AtT.cv r2 a2) (PostG.mono (PostG.bind (rel := relV Γ F sl σ) h2) fun w H3 ⟨z, cs3, ρ3, r3, g3, a3, h3⟩ => ?_)
      have a2' := AtT.grow r2 g3 a2
      unfold asB at h3
      split at h3
      · rename_i k
        refine ⟨k, AtT.bl a3, ?_⟩
        rw [R.bind_ok] at h3
        cases k with
        | false =>
          rw [if_neg (by decide)] at h3 ⊢
          exact h3 _ H3 ρ3 r3 Grow.refl AtT.mkB
        | true =>
          rw [if_pos rfl] at h3 ⊢
          refine q4 W F ρ3 sl cs3 σ H3 _ r3 (PostG.mono (PostG.bind (rel := relV Γ F sl σ) h3) fun w' H4 ⟨z4, cs4, ρ4, r4, g4, a4, h4⟩ => ?_)
          have a2'' := AtT.grow r3 g4 a2'
          cases e5 : (y.cv cs4).dat with
          | none => rw [e5] at h4; exact h4.elim
          | some d5 =>
            cases e4 : (z4.cv cs4).dat with
            | none => rw [e5, e4] at h4; exact h4.elim
            | some d4 =>
              rw [e5, e4] at h4
              exact q5 W F ρ4 sl cs4 σ H4 Q (y.cv cs4) (z4.cv cs4) d5 d4 v w' r4 e5 e4 (AtT.cv r4 a2'') (AtT.cv r4 a4) h4
      · exact h3.elim
theorem de_chain {op op' : CmpOp} {g g' : PyData → PyData → Option PyData} (ho : OpD Γ (compareOp op) g) (ho' : OpD Γ (compareOp op') g') (ha : DE Γ a fa) (hb : DE Γ b fb) (hc : DE Γ c fc)
    (hm : lastMarks [op, op'] [b, c] = false := by with_unfolding_all rfl) : DE Γ (.Compare a [op, op'] [b, c] pos) (eChain g g' fa fb fc) := by
  obtain ⟨r, p, q⟩ := ho.ex
  obtain ⟨r', p', q'⟩ := ho'.ex
  obtain ⟨ta, p1, q1⟩ := ha.ex
  obtain ⟨tb, p2, q2⟩ := hb.ex
  obtain ⟨tc, p3, q3⟩ := hc.ex
  exact ⟨fun W => tChain r r' (ta W) (tb W) (tc W), fun X W ok gd => pe_chain (p X ok) (p' X ok) (p1 X W ok gd) (p2 X W ok gd) (p3 X W ok gd) hm, fun W F ρ sl cs σ H Q rp h => chain2 q1 q2 q3 q q' rp h⟩
theorem dt_chain {op op' : CmpOp} {g g' : PyData → PyData → Option PyData} (ho : OpD Γ (compareOp op) g) (ho' : OpD Γ (compareOp op') g') (ha : DE Γ a fa) (hb : DE Γ b fb) (hc : DE Γ c fc)
    (hm : lastMarks [op, op'] [b, c] = false := by with_unfolding_all rfl) : DT Γ (.Compare a [op, op'] [b, c] pos) (tBool (eChain g g' fa fb fc)) := by
  obtain ⟨r, p, q⟩ := ho.ex
  obtain ⟨r', p', q'⟩ := ho'.ex
  obtain ⟨ta, p1, q1⟩ := ha.ex
  obtain ⟨tb, p2, q2⟩ := hb.ex
  obtain ⟨tc, p3, q3⟩ := hc.ex
  exact ⟨fun W => tTest (tChain r r' (ta W) (tb W) (tc W)), fun X W ok gd => pt_chain (p X ok) (p' X ok) (p1 X W ok gd) (p2 X W ok gd) (p3 X W ok gd) hm, fun W F ρ sl cs σ H Q rp h => chain2 q1 q2 q3 q q' rp (post_bool h)⟩

/-! ### truth -/
def truV : Val → Cs → Option Bool
  | .d .none, _ => some false
  | .d (.bool b), _ => some b
  | .d (.int i), _ => some (i != 0)
  | .d (.str y), _ => if y.length ≤ 16777216 then some ((y.length : Int) != 0) else none
  | .d (.list xs), _ => some (!xs.isEmpty)
  | .d (.tuple xs), _ => some (!xs.isEmpty)
  | .br (.list xs), _ => some (!xs.isEmpty)
  | _, _ => none
theorem AtL.isEmpty {K : PySem.W.Frag} {G : Hp} {xs : List PyData} {vs : List V} (h : AtL K G xs vs) : (!xs.isEmpty) = !vs.isEmpty := by
  have := h.length
  cases xs <;> cases vs <;> simp_all
theorem tru_of {F : Fx} {ρ : List Addr} {sl : Sl} {cs : Cs} {σ : St} {H : Hp} {x : Val} {u : V} {k : Bool} (h : AtT Γ.K Γ.mg ρ H (vis F ρ sl σ H) x u) (e : truV x cs = some k) : TruV Γ.K u H k := by
  unfold truV at e
  split at e
  · cases e
    rw [AtT.non h]
    rfl
  · cases e
    rename_i b
    rw [AtT.bl h]
    rfl
  · cases e
    rename_i i
    rw [AtT.int h]
    rfl
  · rename_i y
    split at e
    · rename_i hl
      cases e
      rw [AtT.str h]
      exact ⟨by rw [sizeLine_eq]; exact hl, rfl⟩
    · cases e
  · cases e
    rename_i xs
    obtain ⟨a, vs, rfl, q, l⟩ := AtT.list h (.inl rfl)
    exact .inl ⟨vs, SqL.of q, l.isEmpty⟩
  · cases e
    rename_i xs
    obtain ⟨a, vs, rfl, q, l⟩ := AtT.tup h
    exact .inr (.inl ⟨vs, sqT_sub vis_le q, l.isEmpty⟩)
  · cases e
    rename_i xs
    obtain ⟨a, vs, rfl, q, l⟩ := AtT.list h (.inr rfl)
    exact .inl ⟨vs, SqL.of q, l.isEmpty⟩
  · cases e
def tTru (f : SE) : ST := fun sl cs => (f sl cs).bind fun x cs1 => R.of (truV x cs1) cs1
theorem dt_truth {e : Expr} {f : SE} (he : DE Γ e f) (hi : ∀ env whole, isTrue e env whole = (do let v ← whole; standAt e.pos; holding [v] (truthy v)) := by intro _ _; rfl) : DT Γ e (tTru f) := by
  obtain ⟨t, p, q⟩ := he.ex
  refine ⟨fun W σ H Q => t W σ H fun x H' => ∃ k, TruV Γ.K x H' k ∧ Q k H', fun X W ok gd => ?_, fun W F ρ sl cs σ H Q rp h => ?_⟩
  · rw [← ok.K]
    exact pt_truth (p X W ok gd) (hi _)
  · refine q W F ρ sl cs σ H _ rp (PostG.mono (PostG.bind (rel := relV Γ F sl σ) h) fun u H1 ⟨x, cs1, ρ1, r1, g1, a1, h1⟩ => ?_)
    cases e : truV x cs1 with
    | none => rw [e] at h1; exact h1.elim
    | some k =>
      rw [e] at h1
      exact ⟨k, tru_of a1 e, h1 k H1 ρ1 r1 Grow.refl rfl⟩
/-- and, or, not as tests -/
structure DW (Γ : Cf) (e : Expr) (f : ST) : Prop where
  ex : ∃ t : WX → TT, (∀ X W, Γ.Ok X → Good X W → PW X e (t W)) ∧ ∀ W F ρ sl cs σ H Q, Rep Γ.K Γ.mg F ρ sl cs σ H → PostG Γ F ρ sl σ H W relB (f sl cs) Q → t W σ H Q
theorem DW.dt {e : Expr} {f : ST} (h : DW Γ e f) : DT Γ e f := by
  obtain ⟨t, p, q⟩ := h.ex
  exact ⟨t, fun X W ok gd => (p X W ok gd).pt, q⟩
def tAndD (f g : ST) : ST := fun sl cs => (f sl cs).bind fun k cs1 => if k = true then g sl cs1 else .ok false cs1
def tOrD (f g : ST) : ST := fun sl cs => (f sl cs).bind fun k cs1 => if k = true then .ok true cs1 else g sl cs1
def tNotD (f : ST) : ST := fun sl cs => (f sl cs).bind fun k cs1 => .ok (!k) cs1
variable {f g : ST} {rest : List Expr}
theorem dw_and1 (h : DT Γ a f) : DW Γ (.BoolOp .And [a] pos) f := by
  obtain ⟨t, p, q⟩ := h.ex
  exact ⟨t, fun X W ok gd => pw_and1 (p X W ok gd), q⟩
theorem dw_or1 (h : DT Γ a f) : DW Γ (.BoolOp .Or [a] pos) f := by
  obtain ⟨t, p, q⟩ := h.ex
  exact ⟨t, fun X W ok gd => pw_or1 (p X W ok gd), q⟩
theorem dw_and (h1 : DT Γ a f) (h2 : DW Γ (.BoolOp .And (b :: rest) pos) g) : DW Γ (.BoolOp .And (a :: b :: rest) pos) (tAndD f g) := by
  obtain ⟨t, p, q⟩ := h1.ex
  obtain ⟨u, p2, q2⟩ := h2.ex
  refine ⟨fun W => tAnd (t W) (u W), fun X W ok gd => pw_and (p X W ok gd) (p2 X W ok gd), fun W F ρ sl cs σ H Q rp h => ?_⟩
  refine q W F ρ sl cs σ H _ rp (PostG.mono (PostG.bind (rel := relB) h) fun k H1 ⟨x, cs1, ρ1, r1, g1, a1, h1⟩ => ?_)
  have e : x = k := a1
  subst e
  cases x with
  | true => rw [if_pos rfl] at h1 ⊢; exact q2 W F ρ1 sl cs1 σ H1 Q r1 h1
  | false => rw [if_neg (by decide)] at h1 ⊢; exact h1 _ H1 ρ1 r1 Grow.refl rfl
theorem dw_or (h1 : DT Γ a f) (h2 : DW Γ (.BoolOp .Or (b :: rest) pos) g) : DW Γ (.BoolOp .Or (a :: b :: rest) pos) (tOrD f g) := by
  obtain ⟨t, p, q⟩ := h1.ex
  obtain ⟨u, p2, q2⟩ := h2.ex
  refine ⟨fun W => tOr (t W) (u W), fun X W ok gd => pw_or (p X W ok gd) (p2 X W ok gd), fun W F ρ sl cs σ H Q rp h => ?_⟩
  refine q W F ρ sl cs σ H _ rp (PostG.mono (PostG.bind (rel := relB) h) fun k H1 ⟨x, cs1, ρ1, r1, g1, a1, h1⟩ => ?_)
  have e : x = k := a1
  subst e
  cases x with
  | false => rw [if_neg (by decide)] at h1 ⊢; exact q2 W F ρ1 sl cs1 σ H1 Q r1 h1
  | true => rw [if_pos rfl] at h1 ⊢; exact h1 _ H1 ρ1 r1 Grow.refl rfl
theorem dt_not (h1 : DT Γ a f) : DT Γ (.UnaryOp .Not a pos) (tNotD f) := by
  obtain ⟨t, p, q⟩ := h1.ex
  refine ⟨fun W => tNot (t W), fun X W ok gd => pt_not (p X W ok gd), fun W F ρ sl cs σ H Q rp h => ?_⟩
  refine q W F ρ sl cs σ H _ rp (PostG.mono (PostG.bind (rel := relB) h) fun k H1 ⟨x, cs1, ρ1, r1, g1, a1, h1⟩ => ?_)
  have e : x = k := a1
  subst e
  exact h1 _ H1 ρ1 r1 Grow.refl rfl
/-- as values -/
def eAnd (f g : SE) : SE := fun sl cs => (f sl cs).bind fun x cs1 => (R.of (truV x cs1) cs1).bind fun k cs2 => if k = true then g sl cs2 else .ok x cs2
def eOr (f g : SE) : SE := fun sl cs => (f sl cs).bind fun x cs1 => (R.of (truV x cs1) cs1).bind fun k cs2 => if k = true then .ok x cs2 else g sl cs2
def eNot (f : SE) : SE := fun sl cs => (f sl cs).bind fun x cs1 => (R.of (truV x cs1) cs1).bind fun k cs2 => .ok (.d (.bool (!k))) cs2
theorem de_one {op} (h : DE Γ a fa) : DE Γ (.BoolOp op [a] pos) fa := by
  obtain ⟨t, p, q⟩ := h.ex
  exact ⟨t, fun X W ok gd => pe_one (p X W ok gd), q⟩
theorem de_and (h1 : DE Γ a fa) (h2 : DE Γ (.BoolOp .And (b :: rest) pos) fb) : DE Γ (.BoolOp .And (a :: b :: rest) pos) (eAnd fa fb) := by
  obtain ⟨t, p, q⟩ := h1.ex
  obtain ⟨u, p2, q2⟩ := h2.ex
  refine ⟨fun W => tAndT Γ.K (t W) (u W), fun X W ok gd => by rw [← ok.K]; exact pe_andT (p X W ok gd) (p2 X W ok gd), fun W F ρ sl cs σ H Q rp h => ?_⟩
  refine q W F ρ sl cs σ H _ rp (PostG.mono (PostG.bind (rel := relV Γ F sl σ) h) fun v H1 ⟨x, cs1, ρ1, r1, g1, a1, h1⟩ => ?_)
  cases e : truV x cs1 with
  | none => rw [e] at h1; exact h1.elim
  | some k =>
    rw [e] at h1
    refine ⟨k, tru_of a1 e, ?_⟩
    rw [R.of_some, R.bind_ok] at h1
    cases k with
    | true => rw [if_pos rfl] at h1 ⊢; exact q2 W F ρ1 sl cs1 σ H1 Q r1 h1
    | false => rw [if_neg (by decide)] at h1 ⊢; exact h1 _ H1 ρ1 r1 Grow.refl a1
theorem de_or (h1 : DE Γ a fa) (h2 : DE Γ (.BoolOp .Or (b :: rest) pos) fb) : DE Γ (.BoolOp .Or (a :: b :: rest) pos) (eOr fa fb) := by
  obtain ⟨t, p, q⟩ := h1.ex
  obtain ⟨u, p2, q2⟩ := h2.ex
  refine ⟨fun W => tOrT Γ.K (t W) (u W), fun X W ok gd => by rw [← ok.K]; exact pe_orT (p X W ok gd) (p2 X W ok gd), fun W F ρ sl cs σ H Q rp h => ?_⟩
  refine q W F ρ sl cs σ H _ rp (PostG.mono (PostG.bind (rel := relV Γ F sl σ) h) fun v H1 ⟨x, cs1, ρ1, r1, g1, a1, h1⟩ => ?_)
  cases e : truV x cs1 with
  | none => rw [e] at h1; exact h1.elim
  | some k =>
    rw [e] at h1
    refine ⟨k, tru_of a1 e, ?_⟩
    rw [R.of_some, R.bind_ok] at h1
    cases k with
    | false => rw [if_neg (by decide)] at h1 ⊢; exact q2 W F ρ1 sl cs1 σ H1 Q r1 h1
    | true => rw [if_pos rfl] at h1 ⊢; exact h1 _ H1 ρ1 r1 Grow.refl a1
theorem de_not (h1 : DE Γ a fa) : DE Γ (.UnaryOp .Not a pos) (eNot fa) := by
  obtain ⟨t, p, q⟩ := h1.ex
  refine ⟨fun W => tNotT Γ.K (t W), fun X W ok gd => by rw [← ok.K]; exact pe_notT (p X W ok gd), fun W F ρ sl cs σ H Q rp h => ?_⟩
  refine q W F ρ sl cs σ H _ rp (PostG.mono (PostG.bind (rel := relV Γ F sl σ) h) fun v H1 ⟨x, cs1, ρ1, r1, g1, a1, h1⟩ => ?_)
  cases e : truV x cs1 with
  | none => rw [e] at h1; exact h1.elim
  | some k =>
    rw [e] at h1
    exact ⟨k, tru_of a1 e, h1 _ H1 ρ1 r1 Grow.refl AtT.mkB⟩
/-- a if t else b -/
def eIf (t : ST) (f g : SE) : SE := fun sl cs => (t sl cs).bind fun k cs1 => if k = true then f sl cs1 else g sl cs1
theorem de_if {tt : ST} (hc : DT Γ c tt) (ha : DE Γ a fa) (hb : DE Γ b fb) : DE Γ (.IfExp c a b pos) (eIf tt fa fb) := by
  obtain ⟨t, p, q⟩ := hc.ex
  obtain ⟨u1, p1, q1⟩ := ha.ex
  obtain ⟨u2, p2, q2⟩ := hb.ex
  refine ⟨fun W => tIf (t W) (u1 W) (u2 W), fun X W ok gd => pe_ifExp (p X W ok gd) (p1 X W ok gd) (p2 X W ok gd), fun W F ρ sl cs σ H Q rp h => ?_⟩
  refine q W F ρ sl cs σ H _ rp (PostG.mono (PostG.bind (rel := relB) h) fun k H1 ⟨x, cs1, ρ1, r1, g1, a1, h1⟩ => ?_)
  have e : x = k := a1
  subst e
  cases x with
  | true => rw [if_pos rfl] at h1 ⊢; exact q1 W F ρ1 sl cs1 σ H1 Q r1 h1
  | false => rw [if_neg (by decide)] at h1 ⊢; exact q2 W F ρ1 sl cs1 σ H1 Q r1 h1
end
end DL
end
section
set_option Elab.async false
set_option linter.all false
set_option maxRecDepth 100000
set_option autoImplicit false
namespace DL
open PySem PySem.Spec PyProof.Rows L2

/-! ### rules of operations -/
def gI (c : Int → Int → Bool) (g : Int → Int → PyData) (x y : PyData) : Option PyData := match x, y with
  | .int i, .int j => if c i j = true then some (g i j) else none
  | _, _ => none
section
variable {Γ : Cf}
theorem dat_int {x : Val} {i : Int} (h : x.dat = some (.int i)) {K : PySem.W.Frag} {mg : Str → Option Value} {ρ : List Addr} {H G : Hp} {v : V} (a : AtW K mg ρ H G x v) : v = .int i := by
  cases x with
  | d x => cases h; exact AtT.int (H := H) a
  | br x => cases h; obtain ⟨_, _, z⟩ := a; exact z.elim
  | _ => cases h
theorem dat_str {x : Val} {i : Str} (h : x.dat = some (.str i)) {K : PySem.W.Frag} {mg : Str → Option Value} {ρ : List Addr} {H G : Hp} {v : V} (a : AtW K mg ρ H G x v) : v = .str i := by
  cases x with
  | d x => cases h; exact AtT.str (H := H) a
  | br x => cases h; obtain ⟨_, _, z⟩ := a; exact z.elim
  | _ => cases h
theorem dat_bl {x : Val} {i : Bool} (h : x.dat = some (.bool i)) {K : PySem.W.Frag} {mg : Str → Option Value} {ρ : List Addr} {H G : Hp} {v : V} (a : AtW K mg ρ H G x v) : v = .bl i := by
  cases x with
  | d x => cases h; exact AtT.bl (H := H) a
  | br x => cases h; obtain ⟨_, _, z⟩ := a; exact z.elim
  | _ => cases h
theorem dat_non {x : Val} (h : x.dat = some .none) {K : PySem.W.Frag} {mg : Str → Option Value} {ρ : List Addr} {H G : Hp} {v : V} (a : AtW K mg ρ H G x v) : v = .non := by
  cases x with
  | d x => cases h; exact AtT.non (H := H) a
  | br x => cases h; obtain ⟨_, _, z⟩ := a; exact z.elim
  | _ => cases h
theorem dat_tup {x : Val} {xs : List PyData} (h : x.dat = some (.tuple xs)) {K : PySem.W.Frag} {mg : Str → Option Value} {ρ : List Addr} {H G : Hp} {v : V} (a : AtW K mg ρ H G x v) : ∃ a vs, v = .ref a ∧ SqT K G a vs ∧ AtL K G xs vs := by
  cases x with
  | d x => cases h; exact AtT.tup (H := H) a
  | br x => cases h; obtain ⟨_, _, z⟩ := a; exact z.elim
  | _ => cases h
theorem dat_list {x : Val} {xs : List PyData} (h : x.dat = some (.list xs)) {K : PySem.W.Frag} {mg : Str → Option Value} {F : Fx} {ρ : List Addr} {sl : Sl} {σ : St} {H : Hp} {v : V} (a : AtW K mg ρ H (vis F ρ sl σ H) x v) :
    ∃ a vs, v = .ref a ∧ H a = some (.lst vs) ∧ AtL K (vis F ρ sl σ H) xs vs := by
  cases x with
  | d x => cases h; exact AtT.list (x := .d (.list xs)) (mg := mg) (ρ := ρ) a (.inl rfl)
  | br x =>
    cases h
    obtain ⟨p, e, vs, q, l⟩ := a
    exact ⟨p, vs, e, q, l⟩
  | _ => cases h
theorem dat_dp {x : Val} {d : PyData} (h : x.dat = some d) (c : d.canLay0 = true) {K : PySem.W.Frag} {mg : Str → Option Value} {F : Fx} {ρ : List Addr} {sl : Sl} {σ : St} {H : Hp} {v : V} (a : AtW K mg ρ H (vis F ρ sl σ H) x v) : Dp K H v d := by
  cases x with
  | d x => cases h; exact AtD.dp vis_le d v c a
  | br x =>
    cases h
    obtain ⟨p, rfl, q⟩ := a
    cases d with
    | list xs =>
      obtain ⟨vs, e, l⟩ := q
      simp only [PyData.canLay0] at c
      exact .lst (SqL.of e) (AtL.dp vis_le xs vs c l)
    | dict kvs => simp [PyData.canLay0] at c
    | _ => exact q.elim
  | _ => cases h
/-- ints to an int or a bool -/
theorem opD_int {f : Value → Value → Sem Value} {C : Int → Int → Prop} {c : Int → Int → Bool} {g : Int → Int → V} {gd : Int → Int → PyData} (h : ∀ X : Cx, OpR X f (rI C g)) (hc : ∀ i j, c i j = true → C i j) (hg : ∀ K G i j, AtD K G (gd i j) (g i j)) : OpD Γ f (gI c gd) := by
  refine ⟨rI C g, fun X _ => h X, fun W F ρ sl cs σ H Q x y a b u v rp e1 e2 h1 h2 hp => ?_⟩
  unfold gI at hp
  split at hp
  · rename_i i j
    split at hp
    · rename_i hcc
      exact ⟨i, j, dat_int e1 h1, dat_int e2 h2, hc _ _ hcc, hp _ H ρ rp Grow.refl (AtT.mk (hg _ _ _ _))⟩
    · exact hp.elim
  · exact hp.elim
theorem opR_of0 {X : Cx} {f : Value → Value → Sem Value} {g : Int → Int → V} (h : OpR X f (rI0 g)) : OpR X f (rI (fun _ _ => True) g) := by
  intro pins s σ H x y v u Q I rx ry q
  obtain ⟨i, j, e1, e2, _, q⟩ := q
  exact h pins s σ H x y v u Q I rx ry ⟨i, j, e1, e2, q⟩
abbrev cT : Int → Int → Bool := fun _ _ => true
theorem od_addI : OpD Γ (binaryOp .Add) (gI cT fun i j => .int (i + j)) := opD_int (fun X => opR_of0 op_add) (fun _ _ _ => trivial) fun _ _ _ _ => at_int
theorem od_subI : OpD Γ (binaryOp .Sub) (gI cT fun i j => .int (i - j)) := opD_int (fun X => opR_of0 op_sub) (fun _ _ _ => trivial) fun _ _ _ _ => at_int
def cMul (i j : Int) : Bool := decide (i.natAbs.log2 + j.natAbs.log2 < 1000000)
def cDiv (_ j : Int) : Bool := decide (0 < j) && decide (j.natAbs.log2 < 9000)
def cMod (_ j : Int) : Bool := decide (0 < j)
def cPow (i j : Int) : Bool := decide (0 ≤ j) && decide (j ≤ 1000000) && decide (i.natAbs < 2 ^ 64)
theorem od_mulI : OpD Γ (binaryOp .Mult) (gI cMul fun i j => .int (i * j)) := opD_int (fun X => op_mulW) (fun i j h => by unfold cMul at h; have h := of_decide_eq_true h; exact h) fun _ _ _ _ => at_int
theorem od_divI : OpD Γ (binaryOp .FloorDiv) (gI cDiv fun i j => .int (i / j)) := opD_int (fun X => op_fdivW) (fun i j h => by
  unfold cDiv at h
  simp only [Bool.and_eq_true, decide_eq_true_eq] at h
  exact ⟨h.1, h.2⟩) fun _ _ _ _ => at_int
theorem od_modI : OpD Γ (binaryOp .Mod) (gI cMod fun i j => .int (i % j)) := opD_int (fun X => op_mod) (fun i j h => by unfold cMod at h; exact of_decide_eq_true h) fun _ _ _ _ => at_int
theorem od_powI : OpD Γ (binaryOp .Pow) (gI cPow fun i j => .int (i ^ j.toNat)) := opD_int (fun X => op_pow) (fun i j h => by
  unfold cPow at h
  simp only [Bool.and_eq_true, decide_eq_true_eq] at h
  exact ⟨h.1.1, h.1.2, h.2⟩) fun _ _ _ _ => at_int
theorem od_ltI : OpD Γ (compareOp .Lt) (gI cT fun i j => .bool (decide (i < j))) := opD_int (fun X => opR_of0 op_lt) (fun _ _ _ => trivial) fun _ _ _ _ => at_bl
theorem od_leI : OpD Γ (compareOp .LtE) (gI cT fun i j => .bool (decide (i ≤ j))) := opD_int (fun X => opR_of0 op_le) (fun _ _ _ => trivial) fun _ _ _ _ => at_bl
theorem od_gtI : OpD Γ (compareOp .Gt) (gI cT fun i j => .bool (decide (j < i))) := opD_int (fun X => opR_of0 op_gt) (fun _ _ _ => trivial) fun _ _ _ _ => at_bl
theorem od_geI : OpD Γ (compareOp .GtE) (gI cT fun i j => .bool (decide (j ≤ i))) := opD_int (fun X => opR_of0 op_ge) (fun _ _ _ => trivial) fun _ _ _ _ => at_bl
def gAddS (x y : PyData) : Option PyData := match x, y with
  | .str i, .str j => if i.length + j.length ≤ 16777216 then some (.str (i ++ j)) else none
  | _, _ => none
theorem od_addS : OpD Γ (binaryOp .Add) gAddS := by
  refine ⟨_, fun X _ => op_add_str, fun W F ρ sl cs σ H Q x y a b u v rp e1 e2 h1 h2 hp => ?_⟩
  unfold gAddS at hp
  split at hp
  · rename_i i j
    split at hp
    · rename_i hcc
      exact ⟨i, j, dat_str e1 h1, dat_str e2 h2, by rw [sizeLine_eq]; exact hcc, hp _ H ρ rp Grow.refl AtT.mkS⟩
    · exact hp.elim
  · exact hp.elim
def gAddL (x y : PyData) : Option PyData := match x, y with
  | .list i, .list j => if i.length + j.length ≤ 16777216 then some (.list (i ++ j)) else none
  | _, _ => none
theorem od_addL : OpD Γ (binaryOp .Add) gAddL := by
  refine ⟨_, fun X _ => op_cat, fun W F ρ sl cs σ H Q x y a b u v rp e1 e2 h1 h2 hp => ?_⟩
  unfold gAddL at hp
  split at hp
  · rename_i i j
    split at hp
    · rename_i hcc
      obtain ⟨p, us, rfl, q1, l1⟩ := dat_list e1 h1
      obtain ⟨p2, us2, rfl, q2, l2⟩ := dat_list e2 h2
      refine ⟨p, p2, us, us2, rfl, rfl, q1, q2, by rw [sizeLine_eq, ← l1.length, ← l2.length]; exact hcc, fun t ht => ?_⟩
      obtain ⟨rp', hv⟩ := rp.alloc ht (.lst (us ++ us2))
      exact hp _ _ ρ rp' (Grow.upd ht) (AtT.mk (at_list_iff.mpr ⟨t, _, rfl, hv, AtL.mono ((Grow.upd ht).vis rp) _ _ (l1.append l2)⟩))
    · exact hp.elim
  · exact hp.elim
def gAddT (x y : PyData) : Option PyData := match x, y with
  | .tuple i, .tuple j => if i.length + j.length ≤ 16777216 then some (.tuple (i ++ j)) else none
  | _, _ => none
theorem od_addT : OpD Γ (binaryOp .Add) gAddT := by
  refine ⟨rCatA Γ.K, fun X ok => by rw [← ok.K]; exact op_catA, fun W F ρ sl cs σ H Q x y a b u v rp e1 e2 h1 h2 hp => ?_⟩
  unfold gAddT at hp
  split at hp
  · rename_i i j
    split at hp
    · rename_i hcc
      obtain ⟨p, us, rfl, q1, l1⟩ := dat_tup e1 h1
      obtain ⟨p2, us2, rfl, q2, l2⟩ := dat_tup e2 h2
      refine ⟨p, p2, us, us2, rfl, rfl, sqT_sub vis_le q1, sqT_sub vis_le q2, by rw [sizeLine_eq, ← l1.length, ← l2.length]; exact hcc, fun z => ?_, fun _ z => ?_, fun _ _ t ht => ?_⟩
      · have : i = [] := List.length_eq_zero_iff.mp (by rw [l1.length, z]; rfl)
        subst this
        exact hp _ H ρ rp Grow.refl (AtT.mk (at_tup_iff.mpr ⟨p2, us2, rfl, q2, by simpa using l2⟩))
      · have : j = [] := List.length_eq_zero_iff.mp (by rw [l2.length, z]; rfl)
        subst this
        exact hp _ H ρ rp Grow.refl (AtT.mk (at_tup_iff.mpr ⟨p, us, rfl, q1, by simpa using l1⟩))
      · obtain ⟨rp', hv⟩ := rp.alloc ht (.tup (us ++ us2))
        exact hp _ _ ρ rp' (Grow.upd ht) (AtT.mk (at_tup_iff.mpr ⟨t, _, rfl, SqT.of hv, AtL.mono ((Grow.upd ht).vis rp) _ _ (l1.append l2)⟩))
    · exact hp.elim
  · exact hp.elim
/-- [..] * n -/
def gRepL (x y : PyData) : Option PyData := match x, y with
  | .list i, .int n => if -(2 ^ 63) ≤ n ∧ n < 2 ^ 63 ∧ i.length * n.toNat ≤ 16777216 then some (.list (List.replicate n.toNat i).flatten) else none
  | _, _ => none
theorem AtL.rep {K : PySem.W.Frag} {G : Hp} {xs : List PyData} {vs : List V} (h : AtL K G xs vs) : ∀ n : Nat, AtL K G (List.replicate n xs).flatten (List.replicate n vs).flatten
  | 0 => AtL.nil
  | n + 1 => by
    rw [List.replicate_succ, List.replicate_succ, List.flatten_cons, List.flatten_cons]
    exact h.append (AtL.rep h n)
theorem od_repL : OpD Γ (binaryOp .Mult) gRepL := by
  refine ⟨_, fun X _ => op_rep, fun W F ρ sl cs σ H Q x y a b u v rp e1 e2 h1 h2 hp => ?_⟩
  unfold gRepL at hp
  split at hp
  · rename_i i n
    split at hp
    · rename_i hcc
      obtain ⟨p, us, rfl, q1, l1⟩ := dat_list e1 h1
      refine ⟨p, n, us, rfl, dat_int e2 h2, q1, hcc.1, hcc.2.1, by rw [sizeLine_eq, ← l1.length]; exact hcc.2.2, fun t ht => ?_⟩
      obtain ⟨rp', hv⟩ := rp.alloc ht (.lst (List.replicate n.toNat us).flatten)
      exact hp _ _ ρ rp' (Grow.upd ht) (AtT.mk (at_list_iff.mpr ⟨t, _, rfl, hv, AtL.mono ((Grow.upd ht).vis rp) _ _ (l1.rep n.toNat)⟩))
    · exact hp.elim
  · exact hp.elim
def addD (x y : PyData) : Option PyData := (gI cT (fun i j => .int (i + j)) x y).or ((gAddS x y).or ((gAddT x y).or (gAddL x y)))
theorem od_add : OpD Γ (binaryOp .Add) addD := od_addI.or (od_addS.or (od_addT.or od_addL))
def mulD (x y : PyData) : Option PyData := (gI cMul (fun i j => .int (i * j)) x y).or (gRepL x y)
theorem od_mul : OpD Γ (binaryOp .Mult) mulD := od_mulI.or od_repL

/-! ### == and in by data -/
def eqOk (x y : PyData) : Bool := x.canLay0 && y.canLay0 && decide (min x.depth y.depth ≤ 150)
def eqD (x y : PyData) : Option PyData := if eqOk x y = true then some (.bool (PyData.eqv x y)) else none
def neD (x y : PyData) : Option PyData := if eqOk x y = true then some (.bool (!PyData.eqv x y)) else none
def rEqX (K : PySem.W.Frag) (neg : Bool) : R2 := fun x y H Q => ∃ d e, Dp K H x d ∧ Dp K H y e ∧ eqOk d e = true ∧ Q (.bl (if neg then !PyData.eqv d e else PyData.eqv d e)) H
theorem eqOk_of {d e : PyData} (h : eqOk d e = true) : d.canLay0 = true ∧ e.canLay0 = true ∧ min d.depth e.depth ≤ 150 := by
  unfold eqOk at h
  simp only [Bool.and_eq_true, decide_eq_true_eq] at h
  exact ⟨h.1.1, h.1.2, h.2⟩
theorem op_eqX {X : Cx} (hu : X.A.units + 151 < cLine) : OpR X (compareOp .Eq) (rEqX X.K false) := by
  intro pins s σ H x y v u Q I rx ry h
  obtain ⟨d, e, hd, he, ok, q⟩ := h
  obtain ⟨c1, c2, c3⟩ := eqOk_of ok
  obtain ⟨as, r1⟩ := Dp.reads I d x v hd rx
  obtain ⟨bs, r2⟩ := Dp.reads I e y u he ry
  exact SeqAt.compareEq_reads r1 r2 c1 c2 (by omega) ⟨.bl _, H, I, rfl, q⟩
theorem op_neX {X : Cx} (hu : X.A.units + 151 < cLine) : OpR X (compareOp .NotEq) (rEqX X.K true) := by
  intro pins s σ H x y v u Q I rx ry h
  obtain ⟨d, e, hd, he, ok, q⟩ := h
  obtain ⟨c1, c2, c3⟩ := eqOk_of ok
  obtain ⟨as, r1⟩ := Dp.reads I d x v hd rx
  obtain ⟨bs, r2⟩ := Dp.reads I e y u he ry
  exact SeqAt.compareNe_reads r1 r2 c1 c2 (by omega) ⟨.bl _, H, I, rfl, q⟩
theorem od_eq : OpD Γ (compareOp .Eq) eqD := by
  refine ⟨rEqX Γ.K false, fun X ok => by rw [← ok.K]; exact op_eqX (by have := ok.un; omega), fun W F ρ sl cs σ H Q x y a b u v rp e1 e2 h1 h2 hp => ?_⟩
  unfold eqD at hp
  split at hp
  · rename_i hc
    obtain ⟨c1, c2, c3⟩ := eqOk_of hc
    exact ⟨a, b, dat_dp e1 c1 h1, dat_dp e2 c2 h2, hc, hp _ H ρ rp Grow.refl AtT.mkB⟩
  · exact hp.elim
theorem od_ne : OpD Γ (compareOp .NotEq) neD := by
  refine ⟨rEqX Γ.K true, fun X ok => by rw [← ok.K]; exact op_neX (by have := ok.un; omega), fun W F ρ sl cs σ H Q x y a b u v rp e1 e2 h1 h2 hp => ?_⟩
  unfold neD at hp
  split at hp
  · rename_i hc
    obtain ⟨c1, c2, c3⟩ := eqOk_of hc
    exact ⟨a, b, dat_dp e1 c1 h1, dat_dp e2 c2 h2, hc, hp _ H ρ rp Grow.refl AtT.mkB⟩
  · exact hp.elim
def isNone : PyData → Bool
  | .none => true
  | _ => false
/-- is: None, and bools -/
def isD (x y : PyData) : Option PyData := match y with
  | .none => some (.bool (isNone x))
  | .bool b => (match x with | .bool a => some (.bool (a == b)) | _ => none)
  | _ => none
def isNotD (x y : PyData) : Option PyData := match y with
  | .none => some (.bool (!isNone x))
  | .bool b => (match x with | .bool a => some (.bool (!(a == b))) | _ => none)
  | _ => none
theorem non_iff {x : Val} {a : PyData} (h : x.dat = some a) {K : PySem.W.Frag} {mg : Str → Option Value} {ρ : List Addr} {H G : Hp} {v : V} (q : AtW K mg ρ H G x v) : decide (v = V.non) = isNone a := by
  cases x with
  | d x =>
    cases h
    have q := AtT.d (H := H) q
    cases a with
    | none => rw [at_non_iff.mp q]; rfl
    | bool b => rw [at_bl_iff.mp q]; rfl
    | int b => rw [at_int_iff.mp q]; rfl
    | str b => rw [at_str_iff.mp q]; rfl
    | list xs => obtain ⟨p, vs, rfl, _⟩ := at_list_iff.mp q; rfl
    | tuple xs => obtain ⟨p, vs, rfl, _⟩ := at_tup_iff.mp q; rfl
    | dict xs => obtain ⟨p, rfl, _⟩ := at_dict_iff.mp q; rfl
  | br x =>
    cases h
    obtain ⟨p, rfl, z⟩ := q
    cases a with
    | none => exact z.elim
    | _ => rfl
  | _ => cases h
def rIsX (neg : Bool) : R2 := fun x y H Q => (y = .non ∧ Q (.bl (if neg then !decide (x = .non) else decide (x = .non))) H) ∨ ∃ a b : Bool, x = .bl a ∧ y = .bl b ∧ Q (.bl (if neg then !decide (a = b) else decide (a = b))) H
theorem od_is : OpD Γ (compareOp .Is) isD := by
  refine ⟨rIsX false, fun X ok => OpR.or op_isN op_isBl, fun W F ρ sl cs σ H Q x y a b u v rp e1 e2 h1 h2 hp => ?_⟩
  unfold isD at hp
  split at hp
  · refine .inl ⟨dat_non e2 h2, hp _ H ρ rp Grow.refl ?_⟩
    rw [if_neg (by decide), non_iff e1 h1]
    exact AtT.mkB
  · rename_i b
    split at hp
    · rename_i a
      refine .inr ⟨a, b, dat_bl e1 h1, dat_bl e2 h2, hp _ H ρ rp Grow.refl ?_⟩
      rw [show (if false = true then !decide (a = b) else decide (a = b)) = (a == b) by cases a <;> cases b <;> rfl]
      exact AtT.mkB
    · exact hp.elim
  · exact hp.elim
theorem od_isNot : OpD Γ (compareOp .IsNot) isNotD := by
  refine ⟨rIsX true, fun X ok => OpR.or op_notN op_notBl, fun W F ρ sl cs σ H Q x y a b u v rp e1 e2 h1 h2 hp => ?_⟩
  unfold isNotD at hp
  split at hp
  · refine .inl ⟨dat_non e2 h2, hp _ H ρ rp Grow.refl ?_⟩
    have e := non_iff e1 h1
    rw [if_pos rfl, e]
    exact AtT.mkB
  · rename_i b
    split at hp
    · rename_i a
      refine .inr ⟨a, b, dat_bl e1 h1, dat_bl e2 h2, hp _ H ρ rp Grow.refl ?_⟩
      rw [show (if true = true then !decide (a = b) else decide (a = b)) = (!(a == b)) by cases a <;> cases b <;> rfl]
      exact AtT.mkB
    · exact hp.elim
  · exact hp.elim
/-- in: a list or tuple of data, a text -/
def inSeqD (x y : PyData) : Option (List PyData) := match y with
  | .list ds => if x.canLay0 = true ∧ PyData.canLayAll0 ds = true ∧ x.depth ≤ 150 then some ds else none
  | .tuple ds => if x.canLay0 = true ∧ PyData.canLayAll0 ds = true ∧ x.depth ≤ 150 then some ds else none
  | _ => none
def inSD (x y : PyData) : Option PyData := (inSeqD x y).map fun ds => .bool (ds.any fun z => PyData.eqv z x)
def notInSD (x y : PyData) : Option PyData := (inSeqD x y).map fun ds => .bool (!ds.any fun z => PyData.eqv z x)
def rInX (K : PySem.W.Frag) (neg : Bool) : R2 := fun x y H Q => ∃ d ds, Dp K H x d ∧ (Dp K H y (.list ds) ∨ Dp K H y (.tuple ds)) ∧ d.canLay0 = true ∧ PyData.canLayAll0 ds = true ∧ d.depth ≤ 150 ∧ Q (.bl (if neg then !ds.any fun z => PyData.eqv z d else ds.any fun z => PyData.eqv z d)) H
theorem op_inX {X : Cx} (hu : X.A.units + 152 < cLine) : OpR X (compareOp .In) (rInX X.K false) := by
  intro pins s σ H x y v u Q I rx ry h
  obtain ⟨d, ds, hd, he, c1, c2, c3, q⟩ := h
  obtain ⟨as, r1⟩ := Dp.reads I d x v hd rx
  rcases he with he | he
  · obtain ⟨bs, r2⟩ := Dp.reads I (.list ds) y u he ry
    exact SeqAt.in_list_reads r2 r1 c2 c1 (by have := Nat.min_le_right (PyData.depthAll ds) d.depth; omega) ⟨.bl _, H, I, rfl, q⟩
  · obtain ⟨bs, r2⟩ := Dp.reads I (.tuple ds) y u he ry
    exact SeqAt.in_tuple_reads r2 r1 c2 c1 (by have := Nat.min_le_right (PyData.depthAll ds) d.depth; omega) ⟨.bl _, H, I, rfl, q⟩
theorem op_notInX {X : Cx} (hu : X.A.units + 152 < cLine) : OpR X (compareOp .NotIn) (rInX X.K true) := by
  intro pins s σ H x y v u Q I rx ry h
  obtain ⟨d, ds, hd, he, c1, c2, c3, q⟩ := h
  obtain ⟨as, r1⟩ := Dp.reads I d x v hd rx
  rcases he with he | he
  · obtain ⟨bs, r2⟩ := Dp.reads I (.list ds) y u he ry
    exact SeqAt.notIn_list_reads r2 r1 c2 c1 (by have := Nat.min_le_right (PyData.depthAll ds) d.depth; omega) ⟨.bl _, H, I, rfl, q⟩
  · obtain ⟨bs, r2⟩ := Dp.reads I (.tuple ds) y u he ry
    exact SeqAt.notIn_tuple_reads r2 r1 c2 c1 (by have := Nat.min_le_right (PyData.depthAll ds) d.depth; omega) ⟨.bl _, H, I, rfl, q⟩
theorem inSeq_of {x y : Val} {a b : PyData} {ds : List PyData} {K : PySem.W.Frag} {mg : Str → Option Value} {F : Fx} {ρ : List Addr} {sl : Sl} {σ : St} {H : Hp} {u v : V} (e1 : x.dat = some a) (e2 : y.dat = some b) (h : inSeqD a b = some ds)
    (h1 : AtW K mg ρ H (vis F ρ sl σ H) x u) (h2 : AtW K mg ρ H (vis F ρ sl σ H) y v) : Dp K H u a ∧ (Dp K H v (.list ds) ∨ Dp K H v (.tuple ds)) ∧ a.canLay0 = true ∧ PyData.canLayAll0 ds = true ∧ a.depth ≤ 150 := by
  unfold inSeqD at h
  split at h
  · split at h
    · rename_i hc
      cases h
      exact ⟨dat_dp e1 hc.1 h1, .inl (dat_dp e2 (by simp only [PyData.canLay0]; exact hc.2.1) h2), hc.1, hc.2.1, hc.2.2⟩
    · cases h
  · split at h
    · rename_i hc
      cases h
      exact ⟨dat_dp e1 hc.1 h1, .inr (dat_dp e2 (by simp only [PyData.canLay0]; exact hc.2.1) h2), hc.1, hc.2.1, hc.2.2⟩
    · cases h
  · cases h
theorem od_inS : OpD Γ (compareOp .In) inSD := by
  refine ⟨rInX Γ.K false, fun X ok => by rw [← ok.K]; exact op_inX (by have := ok.un; omega), fun W F ρ sl cs σ H Q x y a b u v rp e1 e2 h1 h2 hp => ?_⟩
  unfold inSD at hp
  cases e : inSeqD a b with
  | none => rw [e] at hp; exact hp.elim
  | some ds =>
    rw [e] at hp
    obtain ⟨q1, q2, c1, c2, c3⟩ := inSeq_of e1 e2 e h1 h2
    exact ⟨a, ds, q1, q2, c1, c2, c3, hp _ H ρ rp Grow.refl AtT.mkB⟩
theorem od_notInS : OpD Γ (compareOp .NotIn) notInSD := by
  refine ⟨rInX Γ.K true, fun X ok => by rw [← ok.K]; exact op_notInX (by have := ok.un; omega), fun W F ρ sl cs σ H Q x y a b u v rp e1 e2 h1 h2 hp => ?_⟩
  unfold notInSD at hp
  cases e : inSeqD a b with
  | none => rw [e] at hp; exact hp.elim
  | some ds =>
    rw [e] at hp
    obtain ⟨q1, q2, c1, c2, c3⟩ := inSeq_of e1 e2 e h1 h2
    exact ⟨a, ds, q1, q2, c1, c2, c3, hp _ H ρ rp Grow.refl AtT.mkB⟩
def inStrB (i j : Str) : Bool := !(Builtin.Str.occurrences j i 0 j.length 1).isEmpty
def inTD (x y : PyData) : Option PyData := match x, y with
  | .str i, .str j => some (.bool (inStrB i j))
  | _, _ => none
def notInTD (x y : PyData) : Option PyData := match x, y with
  | .str i, .str j => some (.bool (!inStrB i j))
  | _, _ => none
theorem od_inT : OpD Γ (compareOp .In) inTD := by
  refine ⟨_, fun X ok => op_in_str, fun W F ρ sl cs σ H Q x y a b u v rp e1 e2 h1 h2 hp => ?_⟩
  unfold inTD at hp
  split at hp
  · rename_i i j
    exact ⟨i, j, dat_str e1 h1, dat_str e2 h2, hp _ H ρ rp Grow.refl AtT.mkB⟩
  · exact hp.elim
theorem od_notInT : OpD Γ (compareOp .NotIn) notInTD := by
  refine ⟨_, fun X ok => L2.op_notIn_str, fun W F ρ sl cs σ H Q x y a b u v rp e1 e2 h1 h2 hp => ?_⟩
  unfold notInTD at hp
  split at hp
  · rename_i i j
    exact ⟨i, j, dat_str e1 h1, dat_str e2 h2, hp _ H ρ rp Grow.refl AtT.mkB⟩
  · exact hp.elim
/-- in: a dict -/
def dGet (kvs : List (PyData × PyData)) (k : PyData) : Option PyData := (kvs.find? fun p => PyData.eqv p.1 k).map (·.2)
end
end DL
end
section
set_option Elab.async false
set_option linter.all false
set_option maxRecDepth 100000
set_option autoImplicit false
namespace DL
open PySem PySem.Spec PyProof.Rows L2

/-! ### o[i] -/
def idxV (x y : Val) (cs : Cs) : R Val := match x, y with
  | .d (.list xs), .d (.int i) => R.of ((atI xs i).map Val.d) cs
  | .br (.list xs), .d (.int i) => R.of ((atI xs i).map Val.d) cs
  | .lk xs, .d (.int i) => R.of ((atI xs i).map Val.d) cs
  | .d (.tuple xs), .d (.int i) => R.of ((atI xs i).map Val.d) cs
  | .d (.str s), .d (.int i) => if s.length ≤ 16777216 then R.of ((atI s.cps.toList i).map fun c => .d (.str ⟨#[c]⟩)) cs else .bad
  | .cel n, .d (.int i) => match cs[n]? with
    | some (.lst xs) => (match atI xs i with
      | some v => if v.solid = true then .ok v cs else .bad
      | none => .bad)
    | _ => .bad
  | _, _ => .bad
def eIdx (fa fb : SE) : SE := fun sl cs => (fa sl cs).bind fun x cs1 => (fb sl cs1).bind fun y cs2 => idxV x y cs2
theorem atI_AtL {K : PySem.W.Frag} {G : Hp} {xs : List PyData} {vs : List V} {i : Int} {x : PyData} (h : AtL K G xs vs) (e : atI xs i = some x) : ∃ v, atI vs i = some v ∧ AtD K G x v := by
  unfold atI at e ⊢
  rw [← h.length]
  cases q : ixN xs.length i with
  | none => rw [q] at e; cases e
  | some j =>
    rw [q] at e
    exact h.get e
theorem Paired.get {α β : Type} {R : α → β → Prop} : ∀ {xs : List α} {ys : List β} {i : Nat} {x : α}, Paired R xs ys → xs[i]? = some x → ∃ y, ys[i]? = some y ∧ R x y
  | _, _, i, _, .nil, e => by simp at e
  | _, _, 0, _, .cons r _, e => by simp at e; subst e; exact ⟨_, rfl, r⟩
  | _, _, i + 1, _, .cons _ t, e => by simpa using Paired.get t (by simpa using e)
theorem Paired.len {α β : Type} {R : α → β → Prop} : ∀ {xs : List α} {ys : List β}, Paired R xs ys → xs.length = ys.length
  | _, _, .nil => rfl
  | _, _, .cons _ t => congrArg (· + 1) (Paired.len t)
section
variable {Γ : Cf} {pos : Pos} {a b c e : Expr} {fa fb fc f : SE}
theorem idx_ok {F : Fx} {ρ : List Addr} {sl : Sl} {cs : Cs} {σ : St} {H : Hp} {W : WX} {Q : VK} {x y : Val} {u v : V} (rp : Rep Γ.K Γ.mg F ρ sl cs σ H) (h1 : AtT Γ.K Γ.mg ρ H (vis F ρ sl σ H) x u) (h2 : AtT Γ.K Γ.mg ρ H (vis F ρ sl σ H) y v)
    (hp : PostG Γ F ρ sl σ H W (relV Γ F sl σ) (idxV x y cs) Q) : rIx Γ.K u v H Q := by
  unfold idxV at hp
  split at hp
  · rename_i xs i
    cases e : atI xs i with
    | none => rw [e] at hp; exact hp.elim
    | some z =>
      rw [e] at hp
      obtain ⟨p, vs, rfl, q, l⟩ := AtT.list h1 (.inl rfl)
      obtain ⟨w, ew, aw⟩ := atI_AtL l e
      exact .inl ⟨p, vs, i, w, rfl, AtT.int h2, SqL.of q, ew, hp w H ρ rp Grow.refl (AtT.mk aw)⟩
  · rename_i xs i
    cases e : atI xs i with
    | none => rw [e] at hp; exact hp.elim
    | some z =>
      rw [e] at hp
      obtain ⟨p, vs, rfl, q, l⟩ := AtT.list h1 (.inr rfl)
      obtain ⟨w, ew, aw⟩ := atI_AtL l e
      exact .inl ⟨p, vs, i, w, rfl, AtT.int h2, SqL.of q, ew, hp w H ρ rp Grow.refl (AtT.mk aw)⟩
  · rename_i xs i
    cases e : atI xs i with
    | none => rw [e] at hp; exact hp.elim
    | some z =>
      rw [e] at hp
      obtain ⟨p, vs, rfl, q, l⟩ : ∃ p vs, u = .ref p ∧ SqL Γ.K (vis F ρ sl σ H) p vs ∧ AtL Γ.K (vis F ρ sl σ H) xs vs := h1
      obtain ⟨w, ew, aw⟩ := atI_AtL l e
      exact .inl ⟨p, vs, i, w, rfl, AtT.int h2, sqL_sub vis_le q, ew, hp w H ρ rp Grow.refl (AtT.mk aw)⟩
  · rename_i xs i
    cases e : atI xs i with
    | none => rw [e] at hp; exact hp.elim
    | some z =>
      rw [e] at hp
      obtain ⟨p, vs, rfl, q, l⟩ := AtT.tup h1
      obtain ⟨w, ew, aw⟩ := atI_AtL l e
      exact .inr (.inl ⟨p, vs, i, w, rfl, AtT.int h2, sqT_sub vis_le q, ew, hp w H ρ rp Grow.refl (AtT.mk aw)⟩)
  · rename_i s i
    split at hp
    · rename_i hl
      cases e : atI s.cps.toList i with
      | none => rw [e] at hp; exact hp.elim
      | some z =>
        rw [e] at hp
        exact .inr (.inr ⟨s, i, z, AtT.str h1, AtT.int h2, by rw [sizeLine_eq]; exact hl, e, hp _ H ρ rp Grow.refl AtT.mkS⟩)
    · exact hp.elim
  · rename_i n i
    split at hp
    · rename_i xs en
      split at hp
      · rename_i z e
        split at hp
        · rename_i hs
          obtain ⟨p, ep, rfl⟩ : ∃ p, ρ[n]? = some p ∧ u = .ref p := h1
          obtain ⟨vs, q, l⟩ := rp.cells.at_ n _ p en ep
          unfold atI at e
          cases ej : ixN xs.length i with
          | none => rw [ej] at e; cases e
          | some j =>
            rw [ej] at e
            obtain ⟨w, ew, aw⟩ := Paired.get l e
            refine .inl ⟨p, vs, i, w, rfl, AtT.int h2, SqL.of q, ?_, hp w H ρ rp Grow.refl (AtT.of aw)⟩
            unfold atI
            rw [← Paired.len l, ej]
            exact ew
        · exact hp.elim
      · exact hp.elim
    · exact hp.elim
  · exact hp.elim
theorem de_idx (ha : DE Γ a fa) (hb : DE Γ b fb) (hs : PlainIx b := by intro _ _; rfl) : DE Γ (.Subscript a b pos) (eIdx fa fb) := by
  obtain ⟨ta, p1, q1⟩ := ha.ex
  obtain ⟨tb, p2, q2⟩ := hb.ex
  refine ⟨fun W => tOp (rIx Γ.K) (ta W) (tb W), fun X W ok gd => by rw [← ok.K]; exact pe_ix ix_seq (p1 X W ok gd) (p2 X W ok gd) hs, fun W F ρ sl cs σ H Q rp h => ?_⟩
  refine q1 W F ρ sl cs σ H _ rp (PostG.mono (PostG.bind (rel := relV Γ F sl σ) h) fun u H1 ⟨x, cs1, ρ1, r1, g1, a1, h1⟩ => ?_)
  refine q2 W F ρ1 sl cs1 σ H1 _ r1 (PostG.mono (PostG.bind (rel := relV Γ F sl σ) h1) fun v H2 ⟨y, cs2, ρ2, r2, g2, a2, h2⟩ => ?_)
  exact idx_ok r2 (AtT.grow r1 g2 a1) a2 h2

/-! ### o[a:b] -/
abbrev SI := Sl → Cs → R (Option Int)
structure DI (Γ : Cf) (e : Option Expr) (f : SI) : Prop where
  ex : ∃ t : WX → TO, (∀ X W, Γ.Ok X → Good X W → PO X e (t W)) ∧ ∀ W F ρ sl cs σ H Q, Rep Γ.K Γ.mg F ρ sl cs σ H → PostG Γ F ρ sl σ H W (fun _ _ _ (x y : Option Int) => x = y) (f sl cs) Q → t W σ H Q
def iNone : SI := fun _ cs => .ok none cs
def iSome (f : SE) : SI := fun sl cs => (f sl cs).bind fun x cs1 => match x with
  | .d (.int i) => .ok (some i) cs1
  | _ => .bad
theorem di_none : DI Γ none iNone := ⟨fun _ => tNoPart, fun X W _ _ => po_none, fun W F ρ sl cs σ H Q rp h => h none H ρ rp Grow.refl rfl⟩
theorem di_some (h : DE Γ e f) : DI Γ (some e) (iSome f) := by
  obtain ⟨t, p, q⟩ := h.ex
  refine ⟨fun W => tPart (t W), fun X W ok gd => po_some (p X W ok gd), fun W F ρ sl cs σ H Q rp h => ?_⟩
  refine q W F ρ sl cs σ H _ rp (PostG.mono (PostG.bind (rel := relV Γ F sl σ) h) fun u H1 ⟨x, cs1, ρ1, r1, g1, a1, h1⟩ => ?_)
  split at h1
  · rename_i i
    exact ⟨i, AtT.int a1, h1 _ H1 ρ1 r1 Grow.refl rfl⟩
  · exact h1.elim
def cut {α : Type} (xs : List α) (lo hi : Option Int) : List α := (xs.drop (HT.sIx xs.length 0 lo)).take (HT.sIx xs.length xs.length hi - HT.sIx xs.length 0 lo)
theorem AtL.cut {K : PySem.W.Frag} {G : Hp} {xs : List PyData} {vs : List V} (h : AtL K G xs vs) (lo hi : Option Int) : AtL K G (DL.cut xs lo hi) (cutV vs lo hi) := by
  unfold DL.cut cutV
  rw [← h.length]
  exact (h.drop _).take _
def sliceV (x : Val) (lo hi : Option Int) (cs : Cs) : R Val := match x with
  | .d (.list xs) => .ok (.d (.list (cut xs lo hi))) cs
  | .br (.list xs) => .ok (.d (.list (cut xs lo hi))) cs
  | .lk xs => .ok (.d (.list (cut xs lo hi))) cs
  | .d (.tuple xs) => .ok (.d (.tuple (cut xs lo hi))) cs
  | .d (.str z) => if z.length ≤ 16777216 then .ok (.d (.str (cutS z lo hi))) cs else .bad
  | _ => .bad
def eSl (f : SE) (l h : SI) : SE := fun sl cs => (f sl cs).bind fun x cs1 => (l sl cs1).bind fun lo cs2 => (h sl cs2).bind fun hi cs3 => sliceV x lo hi cs3
theorem slice_ok {F : Fx} {ρ : List Addr} {sl : Sl} {cs : Cs} {σ : St} {H : Hp} {W : WX} {Q : VK} {x : Val} {u : V} {lo hi : Option Int} (rp : Rep Γ.K Γ.mg F ρ sl cs σ H) (h1 : AtT Γ.K Γ.mg ρ H (vis F ρ sl σ H) x u)
    (hp : PostG Γ F ρ sl σ H W (relV Γ F sl σ) (sliceV x lo hi cs) Q) : rSlL Γ.K u lo hi H Q ∨ rSlA Γ.K u lo hi H Q ∨ rSlS u lo hi H Q := by
  unfold sliceV at hp
  split at hp
  · rename_i xs
    obtain ⟨p, vs, rfl, q, l⟩ := AtT.list h1 (.inl rfl)
    refine .inl ⟨p, vs, rfl, SqL.of q, fun t ht => ?_⟩
    obtain ⟨rp', hv⟩ := rp.alloc ht (.lst (cutV vs lo hi))
    exact hp _ _ ρ rp' (Grow.upd ht) (AtT.mk (at_list_iff.mpr ⟨t, _, rfl, hv, AtL.mono ((Grow.upd ht).vis rp) _ _ (l.cut lo hi)⟩))
  · rename_i xs
    obtain ⟨p, vs, rfl, q, l⟩ := AtT.list h1 (.inr rfl)
    refine .inl ⟨p, vs, rfl, SqL.of q, fun t ht => ?_⟩
    obtain ⟨rp', hv⟩ := rp.alloc ht (.lst (cutV vs lo hi))
    exact hp _ _ ρ rp' (Grow.upd ht) (AtT.mk (at_list_iff.mpr ⟨t, _, rfl, hv, AtL.mono ((Grow.upd ht).vis rp) _ _ (l.cut lo hi)⟩))
  · rename_i xs
    obtain ⟨p, vs, rfl, q, l⟩ : ∃ p vs, u = .ref p ∧ SqL Γ.K (vis F ρ sl σ H) p vs ∧ AtL Γ.K (vis F ρ sl σ H) xs vs := h1
    refine .inl ⟨p, vs, rfl, sqL_sub vis_le q, fun t ht => ?_⟩
    obtain ⟨rp', hv⟩ := rp.alloc ht (.lst (cutV vs lo hi))
    exact hp _ _ ρ rp' (Grow.upd ht) (AtT.mk (at_list_iff.mpr ⟨t, _, rfl, hv, AtL.mono ((Grow.upd ht).vis rp) _ _ (l.cut lo hi)⟩))
  · rename_i xs
    obtain ⟨p, vs, rfl, q, l⟩ := AtT.tup h1
    refine .inr (.inl ⟨p, vs, rfl, sqT_sub vis_le q, fun hw => ?_, fun _ t ht => ?_⟩)
    · have e : cutV vs lo hi = vs := by
        unfold cutV
        rw [hw.1, hw.2]
        simp
      have e2 : cut xs lo hi = xs := by
        have hl := l.length
        unfold cut
        rw [hl, hw.1, hw.2, ← hl]
        simp
      rw [e2] at hp
      exact hp _ H ρ rp Grow.refl (AtT.mk (at_tup_iff.mpr ⟨p, vs, rfl, q, l⟩))
    · obtain ⟨rp', hv⟩ := rp.alloc ht (.tup (cutV vs lo hi))
      exact hp _ _ ρ rp' (Grow.upd ht) (AtT.mk (at_tup_iff.mpr ⟨t, _, rfl, SqT.of hv, AtL.mono ((Grow.upd ht).vis rp) _ _ (l.cut lo hi)⟩))
  · rename_i z
    split at hp
    · rename_i hl
      exact .inr (.inr ⟨z, AtT.str h1, by rw [sizeLine_eq]; exact hl, hp _ H ρ rp Grow.refl AtT.mkS⟩)
    · exact hp.elim
  · exact hp.elim
theorem de_slice {lo hi : Option Expr} {l h : SI} {p2 : Pos} (he : DE Γ e f) (hl : DI Γ lo l) (hh : DI Γ hi h) : DE Γ (.Subscript e (.Slice lo hi none p2) pos) (eSl f l h) := by
  obtain ⟨t, p, q⟩ := he.ex
  obtain ⟨t1, p1, q1⟩ := hl.ex
  obtain ⟨t2, p2', q2⟩ := hh.ex
  refine ⟨fun W => tSl (fun x lo hi H Q => rSlL Γ.K x lo hi H Q ∨ rSlA Γ.K x lo hi H Q ∨ rSlS x lo hi H Q) (t W) (t1 W) (t2 W), fun X W ok gd => ?_, fun W F ρ sl cs σ H Q rp h => ?_⟩
  · rw [← ok.K]
    exact pe_slice (SlR.or sl_list (SlR.or sl_tupA sl_str)) (p X W ok gd) (p1 X W ok gd) (p2' X W ok gd)
  · refine q W F ρ sl cs σ H _ rp (PostG.mono (PostG.bind (rel := relV Γ F sl σ) h) fun u H1 ⟨x, cs1, ρ1, r1, g1, a1, h1⟩ => ?_)
    refine q1 W F ρ1 sl cs1 σ H1 _ r1 (PostG.mono (PostG.bind (rel := fun _ _ _ (x y : Option Int) => x = y) h1) fun lo' H2 ⟨lo, cs2, ρ2, r2, g2, a2, h2⟩ => ?_)
    refine q2 W F ρ2 sl cs2 σ H2 _ r2 (PostG.mono (PostG.bind (rel := fun _ _ _ (x y : Option Int) => x = y) h2) fun hi' H3 ⟨hi, cs3, ρ3, r3, g3, a3, h3⟩ => ?_)
    have e1 : lo = lo' := a2
    have e2 : hi = hi' := a3
    subst e1 e2
    exact slice_ok r3 (AtT.grow r2 g3 (AtT.grow r1 g2 a1)) h3

/-! ### displays -/
def datsOf : List Val → Option (List PyData)
  | [] => some []
  | .d x :: r => (datsOf r).map (x :: ·)
  | _ :: _ => none
theorem dats_at {mg : Str → Option Value} {K : PySem.W.Frag} {ρ : List Addr} {G : Hp} : ∀ {xs : List Val} {vs : List V} {ds : List PyData}, datsOf xs = some ds → Paired (AtV K mg ρ G) xs vs → AtL K G ds vs
  | [], _, _, e, .nil => by cases e; exact AtL.nil
  | .d x :: r, _, ds, e, .cons q t => by
    simp only [datsOf] at e
    cases er : datsOf r with
    | none => rw [er] at e; cases e
    | some l =>
      rw [er] at e
      cases e
      exact AtL.cons q (dats_at er t)
  | .br _ :: _, _, _, e, _ => by cases e
  | .lk _ :: _, _, _, e, _ => by cases e
  | .cel _ :: _, _, _, e, _ => by cases e
  | .fn _ :: _, _, _, e, _ => by cases e
def mkD (g : List PyData → PyData) (xs : List Val) (cs : Cs) : R Val := match datsOf xs with
  | some ds => if ds.length ≤ 16777216 then .ok (.d (g ds)) cs else .bad
  | none => .bad
def eTup (f : SA) : SE := fun sl cs => (f sl cs).bind fun xs cs1 => mkD .tuple xs cs1
def eLst (f : SA) : SE := fun sl cs => (f sl cs).bind fun xs cs1 => mkD .list xs cs1
def mkO (xs : List Val) (cs : Cs) : R Slot := match datsOf xs with
  | some ds => if ds.length ≤ 16777216 then .ok (.ow (.list ds)) cs else .bad
  | none => .bad
def oLst (f : SA) : SO := fun sl cs => (f sl cs).bind fun xs cs1 => mkO xs cs1
theorem de_tup {es : List Expr} {g : SA} {x1} (h : DA Γ es g) : DE Γ (.Tuple es x1 pos) (eTup g) := by
  obtain ⟨t, p, q⟩ := h.ex
  refine ⟨fun W => tTup (t W), fun X W ok gd => pe_tup (p X W ok gd), fun W F ρ sl cs σ H Q rp h => ?_⟩
  refine q W F ρ sl cs σ H _ rp (PostG.mono (PostG.bind (rel := relVs Γ F sl σ) h) fun us H1 ⟨xs, cs1, ρ1, r1, g1, a1, h1⟩ => ?_)
  unfold mkD at h1
  split at h1
  · rename_i ds e
    split at h1
    · rename_i hl
      have l := dats_at e a1
      refine ⟨by rw [sizeLine_eq, ← l.length]; exact hl, fun t ht => ?_⟩
      obtain ⟨rp', hv⟩ := r1.alloc ht (.tup us)
      exact h1 _ _ ρ1 rp' (Grow.upd ht) (AtT.mk (at_tup_iff.mpr ⟨t, _, rfl, SqT.of hv, AtL.mono ((Grow.upd ht).vis r1) _ _ l⟩))
    · exact h1.elim
  · exact h1.elim
theorem de_lst {es : List Expr} {g : SA} (h : DA Γ es g) : DE Γ (.List es pos) (eLst g) := by
  obtain ⟨t, p, q⟩ := h.ex
  refine ⟨fun W => tLst (t W), fun X W ok gd => pe_lst (p X W ok gd), fun W F ρ sl cs σ H Q rp h => ?_⟩
  refine q W F ρ sl cs σ H _ rp (PostG.mono (PostG.bind (rel := relVs Γ F sl σ) h) fun us H1 ⟨xs, cs1, ρ1, r1, g1, a1, h1⟩ => ?_)
  unfold mkD at h1
  split at h1
  · rename_i ds e
    split at h1
    · rename_i hl
      have l := dats_at e a1
      refine ⟨by rw [sizeLine_eq, ← l.length]; exact hl, fun t ht => ?_⟩
      obtain ⟨rp', hv⟩ := r1.alloc ht (.lst us)
      exact h1 _ _ ρ1 rp' (Grow.upd ht) (AtT.mk (at_list_iff.mpr ⟨t, _, rfl, hv, AtL.mono ((Grow.upd ht).vis r1) _ _ l⟩))
    · exact h1.elim
  · exact h1.elim
theorem hide_upd {H : Hp} {p : Addr} {o : HO} (hp : H p = none) : hide (· = p) (upd H p o) = H := by
  funext a
  unfold hide
  by_cases h : a = p
  · rw [if_pos h, h, hp]
  · rw [if_neg h, upd_ne h]
theorem do_lst {es : List Expr} {g : SA} (h : DA Γ es g) : DO Γ (.List es pos) (oLst g) := by
  obtain ⟨t, p, q⟩ := h.ex
  refine ⟨fun W => tLst (t W), fun X W ok gd => pe_lst (p X W ok gd), fun W F ρ sl cs σ H Q rp h => ?_⟩
  refine q W F ρ sl cs σ H _ rp (PostG.mono (PostG.bind (rel := relVs Γ F sl σ) h) fun us H1 ⟨xs, cs1, ρ1, r1, g1, a1, h1⟩ => ?_)
  unfold mkO at h1
  split at h1
  · rename_i ds e
    split at h1
    · rename_i hl
      have l := dats_at e a1
      refine ⟨by rw [sizeLine_eq, ← l.length]; exact hl, fun t ht => ?_⟩
      obtain ⟨rp', hv⟩ := r1.alloc ht (.lst us)
      exact h1 _ _ ρ1 rp' (Grow.upd ht) ⟨t, rfl, g1.back r1 ht, by rw [hide_upd ht]; exact r1, us, upd_same, by rw [hide_upd ht]; exact l⟩
    · exact h1.elim
  · exact h1.elim
/-- a frozen value as one to be stored -/
def oFr (f : SE) : SO := fun sl cs => (f sl cs).bind fun x cs1 => if x.solid = true then .ok (.fr x) cs1 else .bad
theorem do_of (h : DE Γ e f) : DO Γ e (oFr f) := by
  obtain ⟨t, p, q⟩ := h.ex
  refine ⟨t, p, fun W F ρ sl cs σ H Q rp h => ?_⟩
  refine q W F ρ sl cs σ H _ rp (PostG.mono (PostG.bind (rel := relV Γ F sl σ) h) fun u H1 ⟨x, cs1, ρ1, r1, g1, a1, h1⟩ => ?_)
  by_cases hs : x.solid = true
  · rw [if_pos hs] at h1
    exact h1 u H1 ρ1 r1 Grow.refl (a1.solid hs)
  · rw [if_neg hs] at h1
    exact h1.elim
/-- -a -/
def negV (x : Val) (cs : Cs) : R Val := match x with
  | .d (.int i) => .ok (.d (.int (-i))) cs
  | _ => .bad
def eNeg (f : SE) : SE := fun sl cs => (f sl cs).bind negV
theorem de_neg (h : DE Γ e f) : DE Γ (.UnaryOp .USub e pos) (eNeg f) := by
  obtain ⟨t, p, q⟩ := h.ex
  refine ⟨fun W => tUn (rU fun i => .int (-i)) (t W), fun X W ok gd => pe_un un_neg (p X W ok gd), fun W F ρ sl cs σ H Q rp h => ?_⟩
  refine q W F ρ sl cs σ H _ rp (PostG.mono (PostG.bind (rel := relV Γ F sl σ) h) fun u H1 ⟨x, cs1, ρ1, r1, g1, a1, h1⟩ => ?_)
  unfold negV at h1
  split at h1
  · rename_i i
    exact ⟨i, AtT.int a1, h1 _ H1 ρ1 r1 Grow.refl AtT.mkI⟩
  · exact h1.elim
end

/-! ### built-in calls -/
def relTs (Γ : Cf) (F : Fx) (sl : Sl) (σ : St) (ρ : List Addr) (H : Hp) (_ : Cs) (xs : List Val) (us : List V) : Prop := Paired (AtT Γ.K Γ.mg ρ H (vis F ρ sl σ H)) xs us
structure DB (Γ : Cf) (es : List Expr) (f : SA) : Prop where
  ex : ∃ t : WX → TA, (∀ X W, Γ.Ok X → Good X W → PA X es (t W)) ∧ ∀ W F ρ sl cs σ H Q, Rep Γ.K Γ.mg F ρ sl cs σ H → PostG Γ F ρ sl σ H W (relTs Γ F sl σ) (f sl cs) Q → t W σ H Q
def bCons (f : SE) (g : SA) : SA := fun sl cs => (f sl cs).bind fun x cs1 => (g sl cs1).bind fun xs cs2 => .ok (x :: xs) cs2
structure CallD (Γ : Cf) (v : Value) (g : List Val → Cs → R Val) : Prop where
  ex : ∃ r : List V → Hp → VK → Prop, (∀ X, Γ.Ok X → CallR X v r) ∧ ∀ W F ρ sl cs σ H Q xs us, Rep Γ.K Γ.mg F ρ sl cs σ H → relTs Γ F sl σ ρ H cs xs us → PostG Γ F ρ sl σ H W (relV Γ F sl σ) (g xs cs) Q → r us H Q
structure CallO (Γ : Cf) (v : Value) (g : List Val → Cs → R Slot) : Prop where
  ex : ∃ r : List V → Hp → VK → Prop, (∀ X, Γ.Ok X → CallR X v r) ∧ ∀ W F ρ sl cs σ H Q xs us, Rep Γ.K Γ.mg F ρ sl cs σ H → relTs Γ F sl σ ρ H cs xs us → PostG Γ F ρ sl σ H W (relO Γ F sl σ H) (g xs cs) Q → r us H Q
def eCall (g : List Val → Cs → R Val) (f : SA) : SE := fun sl cs => (f sl cs).bind g
def oCall (g : List Val → Cs → R Slot) (f : SA) : SO := fun sl cs => (f sl cs).bind g
section
variable {Γ : Cf} {pos p : Pos} {e : Expr} {es : List Expr} {f : SE} {g : SA} {x : Str}
theorem db_nil : DB Γ [] aNil := ⟨fun _ => tNil, fun X W _ _ => pa_nil, fun W F ρ sl cs σ H Q r h => h [] H ρ r Grow.refl .nil⟩
theorem db_cons (h1 : DE Γ e f) (h2 : DB Γ es g) (hs : ∀ env, starEach (e :: es) env = (false, eval e env) :: starEach es env := by intro _; rfl) : DB Γ (e :: es) (bCons f g) := by
  obtain ⟨t, p1, q1⟩ := h1.ex
  obtain ⟨u, p2, q2⟩ := h2.ex
  refine ⟨fun W => tCons (t W) (u W), fun X W ok gd => pa_cons (p1 X W ok gd) (p2 X W ok gd) (hs _), fun W F ρ sl cs σ H Q r h => ?_⟩
  refine q1 W F ρ sl cs σ H _ r (PostG.mono (PostG.bind (rel := relV Γ F sl σ) h) fun v H1 ⟨x, cs1, ρ1, r1, g1, a1, h1⟩ => ?_)
  refine q2 W F ρ1 sl cs1 σ H1 _ r1 (PostG.mono (PostG.bind (rel := relTs Γ F sl σ) h1) fun vs H2 ⟨xs, cs2, ρ2, r2, g2, a2, h2⟩ => ?_)
  exact h2 (v :: vs) H2 ρ2 r2 Grow.refl (.cons (AtT.grow r1 g2 a1) a2)
theorem de_callB {id : String} {gv : List Val → Cs → R Val} (hc : CallD Γ (.builtin id) gv) (hm : Γ.mg x = none) (ha : DB Γ (e :: es) g) (hv : bootBuiltins x = some (.builtin id) := by decide +kernel) (hg : Gls Γ.sc x := by rfl) (hn : x ≠ "__name__" := by decide) (hdb : (x == ("__debug__" : Str)) = false := by decide)
    (he : ∀ env, starEach (e :: es) env = (false, eval e env) :: starEach es env := by intro _; rfl) (hpl : ∀ env, (backTo pos (starEach es env)).any (·.1) = false := by intro _; rfl) : DE Γ (.Call (.Name x p) (e :: es) [] pos) (eCall gv g) := by
  obtain ⟨r, c1, c2⟩ := hc.ex
  obtain ⟨t, p1, q1⟩ := ha.ex
  refine ⟨fun W => tCB r (t W), fun X W ok gd => pe_callB (c1 X ok) (gl_of ok hg) (by rw [ok.mg]; exact hm) hv (p1 X W ok gd) hn hdb (he _) (hpl _), fun W F ρ sl cs σ H Q rp h => ?_⟩
  refine q1 W F ρ sl cs σ H _ rp (PostG.mono (PostG.bind (rel := relTs Γ F sl σ) h) fun us H1 ⟨xs, cs1, ρ1, r1, g1, a1, h1⟩ => ?_)
  exact c2 W F ρ1 sl cs1 σ H1 Q xs us r1 a1 h1
theorem do_callB {id : String} {gv : List Val → Cs → R Slot} (hc : CallO Γ (.builtin id) gv) (hm : Γ.mg x = none) (ha : DB Γ (e :: es) g) (hv : bootBuiltins x = some (.builtin id) := by decide +kernel) (hg : Gls Γ.sc x := by rfl) (hn : x ≠ "__name__" := by decide) (hdb : (x == ("__debug__" : Str)) = false := by decide)
    (he : ∀ env, starEach (e :: es) env = (false, eval e env) :: starEach es env := by intro _; rfl) (hpl : ∀ env, (backTo pos (starEach es env)).any (·.1) = false := by intro _; rfl) : DO Γ (.Call (.Name x p) (e :: es) [] pos) (oCall gv g) := by
  obtain ⟨r, c1, c2⟩ := hc.ex
  obtain ⟨t, p1, q1⟩ := ha.ex
  refine ⟨fun W => tCB r (t W), fun X W ok gd => pe_callB (c1 X ok) (gl_of ok hg) (by rw [ok.mg]; exact hm) hv (p1 X W ok gd) hn hdb (he _) (hpl _), fun W F ρ sl cs σ H Q rp h => ?_⟩
  refine q1 W F ρ sl cs σ H _ rp (PostG.mono (PostG.bind (rel := relTs Γ F sl σ) h) fun us H1 ⟨xs, cs1, ρ1, r1, g1, a1, h1⟩ => ?_)
  exact c2 W F ρ1 sl cs1 σ H1 Q xs us r1 a1 (h1.imp (relO_back fun p hp => g1.back r1 hp))
theorem de_callT {T : String} {gv : List Val → Cs → R Val} (hc : CallD Γ (.type T) gv) (hm : Γ.mg x = none) (ha : DB Γ (e :: es) g) (hv : bootBuiltins x = some (.type T) := by decide +kernel) (hg : Gls Γ.sc x := by rfl) (hn : x ≠ "__name__" := by decide) (hdb : (x == ("__debug__" : Str)) = false := by decide)
    (he : ∀ env, starEach (e :: es) env = (false, eval e env) :: starEach es env := by intro _; rfl) (hpl : ∀ env, (backTo pos (starEach es env)).any (·.1) = false := by intro _; rfl) : DE Γ (.Call (.Name x p) (e :: es) [] pos) (eCall gv g) := by
  obtain ⟨r, c1, c2⟩ := hc.ex
  obtain ⟨t, p1, q1⟩ := ha.ex
  refine ⟨fun W => tCB r (t W), fun X W ok gd => pe_callTy (c1 X ok) (gl_of ok hg) (by rw [ok.mg]; exact hm) hv (p1 X W ok gd) hn hdb (he _) (hpl _), fun W F ρ sl cs σ H Q rp h => ?_⟩
  refine q1 W F ρ sl cs σ H _ rp (PostG.mono (PostG.bind (rel := relTs Γ F sl σ) h) fun us H1 ⟨xs, cs1, ρ1, r1, g1, a1, h1⟩ => ?_)
  exact c2 W F ρ1 sl cs1 σ H1 Q xs us r1 a1 h1
theorem do_callT {T : String} {gv : List Val → Cs → R Slot} (hc : CallO Γ (.type T) gv) (hm : Γ.mg x = none) (ha : DB Γ (e :: es) g) (hv : bootBuiltins x = some (.type T) := by decide +kernel) (hg : Gls Γ.sc x := by rfl) (hn : x ≠ "__name__" := by decide) (hdb : (x == ("__debug__" : Str)) = false := by decide)
    (he : ∀ env, starEach (e :: es) env = (false, eval e env) :: starEach es env := by intro _; rfl) (hpl : ∀ env, (backTo pos (starEach es env)).any (·.1) = false := by intro _; rfl) : DO Γ (.Call (.Name x p) (e :: es) [] pos) (oCall gv g) := by
  obtain ⟨r, c1, c2⟩ := hc.ex
  obtain ⟨t, p1, q1⟩ := ha.ex
  refine ⟨fun W => tCB r (t W), fun X W ok gd => pe_callTy (c1 X ok) (gl_of ok hg) (by rw [ok.mg]; exact hm) hv (p1 X W ok gd) hn hdb (he _) (hpl _), fun W F ρ sl cs σ H Q rp h => ?_⟩
  refine q1 W F ρ sl cs σ H _ rp (PostG.mono (PostG.bind (rel := relTs Γ F sl σ) h) fun us H1 ⟨xs, cs1, ρ1, r1, g1, a1, h1⟩ => ?_)
  exact c2 W F ρ1 sl cs1 σ H1 Q xs us r1 a1 (h1.imp (relO_back fun p hp => g1.back r1 hp))

/-! the single built-ins -/
theorem one_of {R : Val → V → Prop} {x : Val} {us : List V} (h : Paired R [x] us) : ∃ u, us = [u] ∧ R x u := by
  cases h with
  | cons r t => cases t; exact ⟨_, rfl, r⟩
theorem two_of {R : Val → V → Prop} {x y : Val} {us : List V} (h : Paired R [x, y] us) : ∃ u v, us = [u, v] ∧ R x u ∧ R y v := by
  cases h with
  | cons r t =>
    cases t with
    | cons r2 t2 => cases t2; exact ⟨_, _, rfl, r, r2⟩
def lenB (xs : List Val) (cs : Cs) : R Val := match xs with
  | [.d (.str s)] => if s.length ≤ 16777216 then .ok (.d (.int s.length)) cs else .bad
  | [.d (.list l)] => .ok (.d (.int l.length)) cs
  | [.br (.list l)] => .ok (.d (.int l.length)) cs
  | [.lk l] => .ok (.d (.int l.length)) cs
  | [.d (.tuple l)] => .ok (.d (.int l.length)) cs
  | [.cel n] => match cs[n]? with
    | some (.lst l) => .ok (.d (.int l.length)) cs
    | _ => .bad
  | _ => .bad
theorem cd_len : CallD Γ (.builtin "len") lenB := by
  refine ⟨fun xs H Q => ∃ x n, xs = [x] ∧ LenV Γ.K x H n ∧ Q (.int n) H, fun X ok => by rw [← ok.K]; exact call_len, fun W F ρ sl cs σ H Q xs us rp ha hp => ?_⟩
  unfold lenB at hp
  split at hp
  · rename_i s
    obtain ⟨u, rfl, q⟩ := one_of ha
    split at hp
    · rename_i hl
      rw [AtT.str q]
      exact ⟨_, _, rfl, ⟨by rw [sizeLine_eq]; exact hl, rfl⟩, hp _ H ρ rp Grow.refl AtT.mkI⟩
    · exact hp.elim
  · rename_i l
    obtain ⟨u, rfl, q⟩ := one_of ha
    obtain ⟨a, vs, rfl, q, ll⟩ := AtT.list q (.inl rfl)
    exact ⟨_, l.length, rfl, .inl ⟨vs, SqL.of q, ll.length⟩, hp _ H ρ rp Grow.refl AtT.mkI⟩
  · rename_i l
    obtain ⟨u, rfl, q⟩ := one_of ha
    obtain ⟨a, vs, rfl, q, ll⟩ := AtT.list q (.inr rfl)
    exact ⟨_, l.length, rfl, .inl ⟨vs, SqL.of q, ll.length⟩, hp _ H ρ rp Grow.refl AtT.mkI⟩
  · rename_i l
    obtain ⟨u, rfl, q⟩ := one_of ha
    obtain ⟨a, vs, rfl, q, ll⟩ : ∃ p vs, u = .ref p ∧ SqL Γ.K (vis F ρ sl σ H) p vs ∧ AtL Γ.K (vis F ρ sl σ H) l vs := q
    exact ⟨_, l.length, rfl, .inl ⟨vs, sqL_sub vis_le q, ll.length⟩, hp _ H ρ rp Grow.refl AtT.mkI⟩
  · rename_i l
    obtain ⟨u, rfl, q⟩ := one_of ha
    obtain ⟨a, vs, rfl, q, ll⟩ := AtT.tup q
    exact ⟨_, l.length, rfl, .inr ⟨vs, sqT_sub vis_le q, ll.length⟩, hp _ H ρ rp Grow.refl AtT.mkI⟩
  · rename_i n
    split at hp
    · rename_i l en
      obtain ⟨u, rfl, q⟩ := one_of ha
      obtain ⟨a, ep, rfl⟩ : ∃ p, ρ[n]? = some p ∧ u = .ref p := q
      obtain ⟨vs, q, ll⟩ := rp.cells.at_ n _ a en ep
      exact ⟨_, l.length, rfl, .inl ⟨vs, SqL.of q, Paired.len ll⟩, hp _ H ρ rp Grow.refl AtT.mkI⟩
    · exact hp.elim
  · exact hp.elim
/-- f of one int, f of two -/
theorem cd_int1 {v : Value} {g : Int → Int} (h : ∀ X : Cx, CallR X v (fun xs H Q => ∃ i, xs = [.int i] ∧ Q (.int (g i)) H)) : CallD Γ v (fun xs cs => match xs with
    | [.d (.int i)] => .ok (.d (.int (g i))) cs
    | _ => .bad) := by
  refine ⟨_, fun X ok => h X, fun W F ρ sl cs σ H Q xs us rp ha hp => ?_⟩
  split at hp
  · rename_i i
    obtain ⟨u, rfl, q⟩ := one_of ha
    rw [AtT.int q]
    exact ⟨i, rfl, hp _ H ρ rp Grow.refl AtT.mkI⟩
  · exact hp.elim
def absB (xs : List Val) (cs : Cs) : R Val := match xs with
  | [.d (.int i)] => .ok (.d (.int (if i < 0 then -i else i))) cs
  | _ => .bad
theorem cd_abs : CallD Γ (.builtin "abs") absB := cd_int1 fun X => call_abs
def intB (xs : List Val) (cs : Cs) : R Val := match xs with
  | [.d (.int i)] => .ok (.d (.int i)) cs
  | [.d (.bool b)] => .ok (.d (.int (if b then 1 else 0))) cs
  | _ => .bad
theorem cd_int : CallD Γ (.type "int") intB := by
  refine ⟨_, fun X ok => call_int1, fun W F ρ sl cs σ H Q xs us rp ha hp => ?_⟩
  unfold intB at hp
  split at hp
  · rename_i i
    obtain ⟨u, rfl, q⟩ := one_of ha
    rw [AtT.int q]
    exact .inl ⟨i, rfl, hp _ H ρ rp Grow.refl AtT.mkI⟩
  · rename_i b
    obtain ⟨u, rfl, q⟩ := one_of ha
    rw [AtT.bl q]
    exact .inr ⟨b, rfl, hp _ H ρ rp Grow.refl AtT.mkI⟩
  · exact hp.elim
/-- lists of ints, of bools -/
def intsOf : List PyData → Option (List Int)
  | [] => some []
  | .int i :: r => (intsOf r).map (i :: ·)
  | _ :: _ => none
def blsOf : List PyData → Option (List Bool)
  | [] => some []
  | .bool i :: r => (blsOf r).map (i :: ·)
  | _ :: _ => none
theorem ints_at {K : PySem.W.Frag} {G : Hp} : ∀ {xs : List PyData} {vs : List V} {ns : List Int}, intsOf xs = some ns → AtL K G xs vs → vs = ns.map V.int
  | [], vs, _, e, q => by cases e; simp only [AtL] at q; exact q
  | .int i :: r, vs, ns, e, q => by
    simp only [intsOf] at e
    cases er : intsOf r with
    | none => rw [er] at e; cases e
    | some l =>
      rw [er] at e
      cases e
      simp only [AtL] at q
      obtain ⟨v, t, rfl, q1, q2⟩ := q
      rw [ints_at er q2, at_int_iff.mp q1]
      rfl
  | .none :: _, _, _, e, _ => by cases e
  | .bool _ :: _, _, _, e, _ => by cases e
  | .str _ :: _, _, _, e, _ => by cases e
  | .list _ :: _, _, _, e, _ => by cases e
  | .tuple _ :: _, _, _, e, _ => by cases e
  | .dict _ :: _, _, _, e, _ => by cases e
theorem bls_at {K : PySem.W.Frag} {G : Hp} : ∀ {xs : List PyData} {vs : List V} {ns : List Bool}, blsOf xs = some ns → AtL K G xs vs → vs = ns.map V.bl
  | [], vs, _, e, q => by cases e; simp only [AtL] at q; exact q
  | .bool i :: r, vs, ns, e, q => by
    simp only [blsOf] at e
    cases er : blsOf r with
    | none => rw [er] at e; cases e
    | some l =>
      rw [er] at e
      cases e
      simp only [AtL] at q
      obtain ⟨v, t, rfl, q1, q2⟩ := q
      rw [bls_at er q2, at_bl_iff.mp q1]
      rfl
  | .none :: _, _, _, e, _ => by cases e
  | .int _ :: _, _, _, e, _ => by cases e
  | .str _ :: _, _, _, e, _ => by cases e
  | .list _ :: _, _, _, e, _ => by cases e
  | .tuple _ :: _, _, _, e, _ => by cases e
  | .dict _ :: _, _, _, e, _ => by cases e
/-- a list by its items, lent or not, or locked -/
def seqL : Val → Option (List PyData)
  | .d (.list l) => some l
  | .br (.list l) => some l
  | .lk l => some l
  | _ => none
theorem seqL_at {F : Fx} {ρ : List Addr} {sl : Sl} {σ : St} {H : Hp} {x : Val} {l : List PyData} {u : V} (e : seqL x = some l) (q : AtT Γ.K Γ.mg ρ H (vis F ρ sl σ H) x u) : ∃ a vs, u = .ref a ∧ SqL Γ.K H a vs ∧ AtL Γ.K (vis F ρ sl σ H) l vs := by
  unfold seqL at e
  split at e
  · cases e
    obtain ⟨a, vs, rfl, q, ll⟩ := AtT.list q (.inl rfl)
    exact ⟨a, vs, rfl, SqL.of q, ll⟩
  · cases e
    obtain ⟨a, vs, rfl, q, ll⟩ := AtT.list q (.inr rfl)
    exact ⟨a, vs, rfl, SqL.of q, ll⟩
  · cases e
    obtain ⟨a, vs, rfl, q, ll⟩ : ∃ p vs, u = .ref p ∧ SqL Γ.K (vis F ρ sl σ H) p vs ∧ AtL Γ.K (vis F ρ sl σ H) l vs := q
    exact ⟨a, vs, rfl, sqL_sub vis_le q, ll⟩
  · cases e
def intsL (xs : List Val) : Option (List Int) := match xs with
  | [x] => (seqL x).bind intsOf
  | _ => none
def blsL (xs : List Val) : Option (List Bool) := match xs with
  | [x] => (seqL x).bind blsOf
  | _ => none
theorem intsL_at {F : Fx} {ρ : List Addr} {sl : Sl} {σ : St} {H : Hp} {cs : Cs} {xs : List Val} {ns : List Int} {us : List V} (e : intsL xs = some ns) (q0 : relTs Γ F sl σ ρ H cs xs us) : ∃ a, us = [.ref a] ∧ SqL Γ.K H a (ns.map V.int) := by
  unfold intsL at e
  split at e
  · rename_i x
    obtain ⟨u, rfl, q⟩ := one_of q0
    cases es : seqL x with
    | none => rw [es] at e; cases e
    | some l =>
      rw [es] at e
      obtain ⟨a, vs, rfl, s, ll⟩ := seqL_at es q
      rw [ints_at e ll] at s
      exact ⟨a, rfl, s⟩
  · cases e
theorem blsL_at {F : Fx} {ρ : List Addr} {sl : Sl} {σ : St} {H : Hp} {cs : Cs} {xs : List Val} {ns : List Bool} {us : List V} (e : blsL xs = some ns) (q0 : relTs Γ F sl σ ρ H cs xs us) : ∃ a, us = [.ref a] ∧ SqL Γ.K H a (ns.map V.bl) := by
  unfold blsL at e
  split at e
  · rename_i x
    obtain ⟨u, rfl, q⟩ := one_of q0
    cases es : seqL x with
    | none => rw [es] at e; cases e
    | some l =>
      rw [es] at e
      obtain ⟨a, vs, rfl, s, ll⟩ := seqL_at es q
      rw [bls_at e ll] at s
      exact ⟨a, rfl, s⟩
  · cases e
def sumB (xs : List Val) (cs : Cs) : R Val := R.of ((intsL xs).map fun ns => .d (.int ns.sum)) cs
def allB (xs : List Val) (cs : Cs) : R Val := R.of ((blsL xs).map fun ns => .d (.bool (ns.all id))) cs
def anyB (xs : List Val) (cs : Cs) : R Val := R.of ((blsL xs).map fun ns => .d (.bool (ns.any id))) cs
theorem cd_sum (hc : Γ.cm = true) : CallD Γ (.builtin "sum") sumB := by
  refine ⟨rSum Γ.K, fun X ok => by rw [← ok.K]; exact cr_sum (ok.cm hc).1, fun W F ρ sl cs σ H Q xs us rp ha hp => ?_⟩
  unfold sumB at hp
  cases e : intsL xs with
  | none => rw [e] at hp; exact hp.elim
  | some ns =>
    rw [e] at hp
    obtain ⟨a, rfl, s⟩ := intsL_at e ha
    exact ⟨a, ns, rfl, s, hp _ H ρ rp Grow.refl AtT.mkI⟩
theorem cd_all (hc : Γ.cm = true) : CallD Γ (.builtin "all") allB := by
  refine ⟨rAll Γ.K, fun X ok => by rw [← ok.K]; exact cr_all (ok.cm hc).1, fun W F ρ sl cs σ H Q xs us rp ha hp => ?_⟩
  unfold allB at hp
  cases e : blsL xs with
  | none => rw [e] at hp; exact hp.elim
  | some ns =>
    rw [e] at hp
    obtain ⟨a, rfl, s⟩ := blsL_at e ha
    exact ⟨a, ns, rfl, s, hp _ H ρ rp Grow.refl AtT.mkB⟩
theorem cd_any (hc : Γ.cm = true) : CallD Γ (.builtin "any") anyB := by
  refine ⟨rAny Γ.K, fun X ok => by rw [← ok.K]; exact cr_any (ok.cm hc).1, fun W F ρ sl cs σ H Q xs us rp ha hp => ?_⟩
  unfold anyB at hp
  cases e : blsL xs with
  | none => rw [e] at hp; exact hp.elim
  | some ns =>
    rw [e] at hp
    obtain ⟨a, rfl, s⟩ := blsL_at e ha
    exact ⟨a, ns, rfl, s, hp _ H ρ rp Grow.refl AtT.mkB⟩
/-- max, min: of two ints, of a list -/
def maxOf : List Int → Option Int
  | [] => none
  | x :: xs => some (xs.foldl max x)
def minOf : List Int → Option Int
  | [] => none
  | x :: xs => some (xs.foldl min x)
theorem foldl_max : ∀ (xs : List Int) (x m : Int), m ∈ x :: xs → (∀ y ∈ x :: xs, y ≤ m) → xs.foldl max x = m
  | [], x, m, h1, h2 => by simp at h1; exact h1.symm
  | y :: xs, x, m, h1, h2 => by
    show xs.foldl max (max x y) = m
    refine foldl_max xs (max x y) m ?_ fun z hz => ?_
    · rcases List.mem_cons.mp h1 with e | h1
      · subst e
        have := h2 y (by simp)
        rw [Int.max_eq_left this]
        exact List.mem_cons_self
      · rcases List.mem_cons.mp h1 with e | h1
        · subst e
          have := h2 x (by simp)
          rw [Int.max_eq_right this]
          exact List.mem_cons_self
        · exact List.mem_cons_of_mem _ h1
    · rcases List.mem_cons.mp hz with e | hz
      · subst e
        have a := h2 x (by simp)
        have b := h2 y (by simp)
        omega
      · exact h2 z (by simp [hz])
theorem foldl_min : ∀ (xs : List Int) (x m : Int), m ∈ x :: xs → (∀ y ∈ x :: xs, m ≤ y) → xs.foldl min x = m
  | [], x, m, h1, h2 => by simp at h1; exact h1.symm
  | y :: xs, x, m, h1, h2 => by
    show xs.foldl min (min x y) = m
    refine foldl_min xs (min x y) m ?_ fun z hz => ?_
    · rcases List.mem_cons.mp h1 with e | h1
      · subst e
        have := h2 y (by simp)
        rw [Int.min_eq_left this]
        exact List.mem_cons_self
      · rcases List.mem_cons.mp h1 with e | h1
        · subst e
          have := h2 x (by simp)
          rw [Int.min_eq_right this]
          exact List.mem_cons_self
        · exact List.mem_cons_of_mem _ h1
    · rcases List.mem_cons.mp hz with e | hz
      · subst e
        have a := h2 x (by simp)
        have b := h2 y (by simp)
        omega
      · exact h2 z (by simp [hz])
def maxB (xs : List Val) (cs : Cs) : R Val := match xs with
  | [.d (.int i), .d (.int j)] => .ok (.d (.int (max i j))) cs
  | xs => R.of (((intsL xs).bind maxOf).map fun n => .d (.int n)) cs
def minB (xs : List Val) (cs : Cs) : R Val := match xs with
  | [.d (.int i), .d (.int j)] => .ok (.d (.int (min i j))) cs
  | xs => R.of (((intsL xs).bind minOf).map fun n => .d (.int n)) cs
theorem CallR.or {X : Cx} {v : Value} {r r' : List V → Hp → VK → Prop} (h : CallR X v r) (h' : CallR X v r') : CallR X v (fun xs H Q => r xs H Q ∨ r' xs H Q) := by
  intro pins s σ H xs us Q I rx q
  rcases q with q | q
  · exact h pins s σ H xs us Q I rx q
  · exact h' pins s σ H xs us Q I rx q
theorem cd_max (hc : Γ.cm = true) : CallD Γ (.builtin "max") maxB := by
  refine ⟨fun xs H Q => (∃ i j, xs = [.int i, .int j] ∧ Q (.int (if j > i then j else i)) H) ∨ rMax Γ.K xs H Q, fun X ok => by rw [← ok.K]; exact CallR.or (call_max2 (ok.cm hc).1) (cr_max (ok.cm hc).1), fun W F ρ sl cs σ H Q xs us rp ha hp => ?_⟩
  unfold maxB at hp
  split at hp
  · rename_i i j
    obtain ⟨u, v, rfl, q1, q2⟩ := two_of ha
    rw [AtT.int q1, AtT.int q2]
    refine .inl ⟨i, j, rfl, ?_⟩
    rw [show (if j > i then j else i) = max i j by rw [Int.max_def]; split <;> split <;> omega]
    exact hp _ H ρ rp Grow.refl AtT.mkI
  · cases e : intsL xs with
    | none => rw [e] at hp; exact hp.elim
    | some ns =>
      rw [e] at hp
      obtain ⟨a, rfl, s⟩ := intsL_at e ha
      cases ns with
      | nil => exact hp.elim
      | cons n ns =>
        refine .inr ⟨a, _, rfl, s, by simp, fun m h1 h2 => ?_⟩
        rw [← foldl_max ns n m h1 h2]
        exact hp _ H ρ rp Grow.refl AtT.mkI
theorem cd_min (hc : Γ.cm = true) : CallD Γ (.builtin "min") minB := by
  refine ⟨fun xs H Q => (∃ i j, xs = [.int i, .int j] ∧ Q (.int (if j < i then j else i)) H) ∨ rMin Γ.K xs H Q, fun X ok => by rw [← ok.K]; exact CallR.or (call_min2 (ok.cm hc).1) (cr_min (ok.cm hc).1), fun W F ρ sl cs σ H Q xs us rp ha hp => ?_⟩
  unfold minB at hp
  split at hp
  · rename_i i j
    obtain ⟨u, v, rfl, q1, q2⟩ := two_of ha
    rw [AtT.int q1, AtT.int q2]
    refine .inl ⟨i, j, rfl, ?_⟩
    rw [show (if j < i then j else i) = min i j by rw [Int.min_def]; split <;> split <;> omega]
    exact hp _ H ρ rp Grow.refl AtT.mkI
  · cases e : intsL xs with
    | none => rw [e] at hp; exact hp.elim
    | some ns =>
      rw [e] at hp
      obtain ⟨a, rfl, s⟩ := intsL_at e ha
      cases ns with
      | nil => exact hp.elim
      | cons n ns =>
        refine .inr ⟨a, _, rfl, s, by simp, fun m h1 h2 => ?_⟩
        rw [← foldl_min ns n m h1 h2]
        exact hp _ H ρ rp Grow.refl AtT.mkI
/-- tuple(x), list(x) -/
def tupleB (xs : List Val) (cs : Cs) : R Val := match xs with
  | [.d (.tuple l)] => .ok (.d (.tuple l)) cs
  | [x] => R.of ((seqL x).map fun l => .d (.tuple l)) cs
  | _ => .bad
theorem cd_tuple : CallD Γ (.type "tuple") tupleB := by
  refine ⟨fun xs H Q => ∃ p ys, xs = [.ref p] ∧ ((SqL Γ.K H p ys ∧ ∀ l, H l = none → Q (.ref l) (upd H l (.tup ys))) ∨ (SqT Γ.K H p ys ∧ Q (.ref p) H)), fun X ok => by rw [← ok.K]; exact call_tuple_of, fun W F ρ sl cs σ H Q xs us rp ha hp => ?_⟩
  unfold tupleB at hp
  split at hp
  · rename_i l
    obtain ⟨u, rfl, q⟩ := one_of ha
    obtain ⟨p, vs, rfl, s, ll⟩ := AtT.tup q
    exact ⟨p, vs, rfl, .inr ⟨sqT_sub vis_le s, hp _ H ρ rp Grow.refl (AtT.mk (at_tup_iff.mpr ⟨p, vs, rfl, s, ll⟩))⟩⟩
  · rename_i x _
    obtain ⟨u, rfl, q⟩ := one_of ha
    cases es : seqL x with
    | none => rw [es] at hp; exact hp.elim
    | some l =>
      rw [es] at hp
      obtain ⟨a, vs, rfl, s, ll⟩ := seqL_at es q
      refine ⟨a, vs, rfl, .inl ⟨s, fun t ht => ?_⟩⟩
      obtain ⟨rp', hv⟩ := rp.alloc ht (.tup vs)
      exact hp _ _ ρ rp' (Grow.upd ht) (AtT.mk (at_tup_iff.mpr ⟨t, vs, rfl, SqT.of hv, AtL.mono ((Grow.upd ht).vis rp) _ _ ll⟩))
  · exact hp.elim
def listItems (xs : List Val) : Option (List PyData) := match xs with
  | [.d (.tuple l)] => some l
  | [x] => seqL x
  | _ => none
def listO (xs : List Val) (cs : Cs) : R Slot := R.of ((listItems xs).map fun l => .ow (.list l)) cs
def listB (xs : List Val) (cs : Cs) : R Val := R.of ((listItems xs).map fun l => .d (.list l)) cs
theorem listItems_at {F : Fx} {ρ : List Addr} {sl : Sl} {σ : St} {H : Hp} {cs : Cs} {xs : List Val} {l : List PyData} {us : List V} (e : listItems xs = some l) (q0 : relTs Γ F sl σ ρ H cs xs us) : ∃ p vs, us = [.ref p] ∧ (SqL Γ.K H p vs ∨ SqT Γ.K H p vs) ∧ AtL Γ.K (vis F ρ sl σ H) l vs := by
  unfold listItems at e
  split at e
  · cases e
    obtain ⟨u, rfl, q⟩ := one_of q0
    obtain ⟨p, vs, rfl, s, ll⟩ := AtT.tup q
    exact ⟨p, vs, rfl, .inr (sqT_sub vis_le s), ll⟩
  · obtain ⟨u, rfl, q⟩ := one_of q0
    obtain ⟨a, vs, rfl, s, ll⟩ := seqL_at e q
    exact ⟨a, vs, rfl, .inl s, ll⟩
  · cases e
theorem co_list : CallO Γ (.type "list") listO := by
  refine ⟨fun xs H Q => ∃ p ys, xs = [.ref p] ∧ (SqL Γ.K H p ys ∨ SqT Γ.K H p ys) ∧ ∀ l, H l = none → Q (.ref l) (upd H l (.lst ys)), fun X ok => by rw [← ok.K]; exact call_list_of, fun W F ρ sl cs σ H Q xs us rp ha hp => ?_⟩
  unfold listO at hp
  cases e : listItems xs with
  | none => rw [e] at hp; exact hp.elim
  | some l =>
    rw [e] at hp
    obtain ⟨p, vs, rfl, s, ll⟩ := listItems_at e ha
    refine ⟨p, vs, rfl, s, fun t ht => ?_⟩
    obtain ⟨rp', hv⟩ := rp.alloc ht (.lst vs)
    exact hp _ _ ρ rp' (Grow.upd ht) ⟨t, rfl, ht, by rw [hide_upd ht]; exact rp, vs, upd_same, by rw [hide_upd ht]; exact ll⟩
theorem cd_list : CallD Γ (.type "list") listB := by
  refine ⟨fun xs H Q => ∃ p ys, xs = [.ref p] ∧ (SqL Γ.K H p ys ∨ SqT Γ.K H p ys) ∧ ∀ l, H l = none → Q (.ref l) (upd H l (.lst ys)), fun X ok => by rw [← ok.K]; exact call_list_of, fun W F ρ sl cs σ H Q xs us rp ha hp => ?_⟩
  unfold listB at hp
  cases e : listItems xs with
  | none => rw [e] at hp; exact hp.elim
  | some l =>
    rw [e] at hp
    obtain ⟨p, vs, rfl, s, ll⟩ := listItems_at e ha
    refine ⟨p, vs, rfl, s, fun t ht => ?_⟩
    obtain ⟨rp', hv⟩ := rp.alloc ht (.lst vs)
    exact hp _ _ ρ rp' (Grow.upd ht) (AtT.mk (at_list_iff.mpr ⟨t, vs, rfl, hv, AtL.mono ((Grow.upd ht).vis rp) _ _ ll⟩))

/-! ### isinstance -/
inductive Ty where
  | int | bool | str | tuple | list | dict
def Ty.nm : Ty → String
  | .int => "int" | .bool => "bool" | .str => "str" | .tuple => "tuple" | .list => "list" | .dict => "dict"
def isiB : Ty → PyData → Bool
  | .int, .int _ => true | .int, .bool _ => true
  | .bool, .bool _ => true
  | .str, .str _ => true
  | .tuple, .tuple _ => true
  | .list, .list _ => true
  | .dict, .dict _ => true
  | _, _ => false
def tyNm : PyData → String
  | .none => "NoneType" | .bool _ => "bool" | .int _ => "int" | .str _ => "str" | .list _ => "list" | .tuple _ => "tuple" | .dict _ => "dict"
theorem kitB_all (t : Ty) (n : String) (h : n = "NoneType" ∨ n = "bool" ∨ n = "int" ∨ n = "str" ∨ n = "list" ∨ n = "tuple" ∨ n = "dict") : kitB n t.nm = some (decide (n = t.nm) || (decide (n = "bool") && decide (t.nm = "int"))) := by
  rcases h with rfl | rfl | rfl | rfl | rfl | rfl | rfl <;> cases t <;> decide +kernel
theorem kitB_isi (t : Ty) (x : PyData) : kitB (tyNm x) t.nm = some (isiB t x) := by
  rw [kitB_all t _ (by cases x <;> simp [tyNm])]
  cases x <;> cases t <;> simp [tyNm, Ty.nm, isiB]
def datT : Val → Option PyData
  | .d x => some x
  | .br x => some x
  | .lk l => some (.list l)
  | _ => none
theorem tyX_of {F : Fx} {ρ : List Addr} {sl : Sl} {σ : St} {H : Hp} {x : Val} {a : PyData} {u : V} (e : datT x = some a) (q : AtT Γ.K Γ.mg ρ H (vis F ρ sl σ H) x u) : TyX Γ.K H u (.type (tyNm a)) := by
  have fin : ∀ {p : Addr} {vs : List V}, SqT Γ.K H p vs → TyX Γ.K H (.ref p) (.type "tuple") := fun {p vs} s => by
    rcases s with (s | ⟨o, s⟩) | ⟨o, its, n, hk, hc, _⟩
    · exact .base (.tup s)
    · exact .fTuple s
    · exact .kTuple hk hc
  have finL : ∀ {p : Addr} {vs : List V}, SqL Γ.K H p vs → TyX Γ.K H (.ref p) (.type "list") := fun {p vs} s => by
    rcases s with (s | ⟨o, s⟩) | ⟨o, its, n, hk, hc, _⟩
    · exact .base (.lst s)
    · exact .base (.frz s)
    · exact .kList hk hc
  cases x with
  | d x =>
    cases e
    have q := AtT.d q
    cases a with
    | none => rw [at_non_iff.mp q]; exact .base .non
    | bool b => rw [at_bl_iff.mp q]; exact .base (.bl b)
    | int b => rw [at_int_iff.mp q]; exact .base (.int b)
    | str b => rw [at_str_iff.mp q]; exact .base (.str b)
    | list xs => obtain ⟨p, vs, rfl, s, _⟩ := at_list_iff.mp q; exact .base (.lst (vis_le _ _ s))
    | tuple xs => obtain ⟨p, vs, rfl, s, _⟩ := at_tup_iff.mp q; exact fin (sqT_sub vis_le s)
    | dict xs =>
      obtain ⟨p, rfl, s⟩ := at_dict_iff.mp q
      rcases s with ⟨kv, s, _⟩ | ⟨kv, _, s, _⟩
      · exact .base (.dK (vis_le _ _ s))
      · exact .base (.dT (vis_le _ _ s))
  | br x =>
    cases e
    obtain ⟨p, rfl, _, z⟩ := q
    cases a with
    | list xs => obtain ⟨vs, s, _⟩ := z; exact .base (.lst s)
    | dict xs =>
      rcases z with ⟨kv, s, _⟩ | ⟨kv, _, s, _⟩
      · exact .base (.dK s)
      · exact .base (.dT s)
    | _ => exact z.elim
  | lk l =>
    cases e
    obtain ⟨p, vs, rfl, s, _⟩ : ∃ p vs, u = .ref p ∧ SqL Γ.K (vis F ρ sl σ H) p vs ∧ AtL Γ.K (vis F ρ sl σ H) l vs := q
    exact finL (sqL_sub vis_le s)
  | _ => cases e
def isiV (t : Ty) (x : Val) (cs : Cs) : R Val := R.of ((datT x).map fun a => .d (.bool (isiB t a))) cs
def eIsi (t : Ty) (f : SE) : SE := fun sl cs => (f sl cs).bind (isiV t)
theorem de_isi (t : Ty) {a : Expr} {y : Str} {p2 : Pos} (hi : Γ.mg "isinstance" = none) (hy : Γ.mg y = none) (ha : DE Γ a f) (hyv : bootBuiltins y = some (.type t.nm) := by decide +kernel) (hg : Gls Γ.sc "isinstance" := by rfl) (hgy : Gls Γ.sc y := by rfl) (hny : y ≠ "__name__" := by decide) (hdy : (y == ("__debug__" : Str)) = false := by decide)
    (hs1 : ∀ env, starEach [a, .Name y p2] env = (false, eval a env) :: starEach [.Name y p2] env := by intro _; rfl) :
    DE Γ (.Call (.Name "isinstance" p) [a, .Name y p2] [] pos) (eIsi t f) := by
  obtain ⟨ta, p1, q1⟩ := ha.ex
  refine ⟨fun W => tCB (rIsi Γ.K) (tCons (ta W) (tCons (tC (.ty t.nm)) tNil)), fun X W ok gd => ?_, fun W F ρ sl cs σ H Q rp h => ?_⟩
  · rw [← ok.K]
    exact pe_callB call_isi (gl_of ok hg) (by rw [ok.mg]; exact hi) (by decide +kernel) (pa_cons (p1 X W ok gd) (pa_cons (pe_bltn (gl_of ok hgy) (by rw [ok.mg]; exact hy) hyv rfl hny hdy) pa_nil) (hs1 _)) (by decide) (by decide) (hs1 _)
  · refine q1 W F ρ sl cs σ H _ rp (PostG.mono (PostG.bind (rel := relV Γ F sl σ) h) fun u H1 ⟨x, cs1, ρ1, r1, g1, a1, h1⟩ => ?_)
    unfold isiV at h1
    cases e : datT x with
    | none => rw [e] at h1; exact h1.elim
    | some d =>
      rw [e] at h1
      exact ⟨u, .ty t.nm, _, .type t.nm, isiB t d, rfl, .ty _, tyX_of e a1, kit_ty (kitB_isi t d), h1 _ H1 ρ1 r1 Grow.refl AtT.mkB⟩
end
end DL
end
section
set_option Elab.async false
set_option linter.all false
set_option maxRecDepth 100000
set_option autoImplicit false
namespace DL
open PySem PySem.Spec PyProof.Rows L2

/-! ### moves of the state -/
section
variable {K : PySem.W.Frag} {mg : Str → Option Value} {F : Fx} {ρ ρ' : List Addr} {sl : Sl} {cs cs' : Cs} {σ : St} {H H' : Hp}
theorem hide_hide {p q : Addr → Prop} : hide p (hide q H) = hide (fun a => q a ∨ p a) H := by
  funext a
  unfold hide
  by_cases h : p a <;> by_cases h2 : q a <;> simp [h, h2]
theorem hide_congr {p q : Addr → Prop} (h : ∀ a, p a ↔ q a) : hide p H = hide q H := by
  have : p = q := funext fun a => propext (h a)
  rw [this]
theorem hide_ne {p a : Addr} (h : a ≠ p) : hide (· = p) H a = H a := by
  unfold hide
  rw [if_neg h]
theorem hide_self {p : Addr} : hide (· = p) H p = none := by
  unfold hide
  rw [if_pos rfl]
theorem ne_hid {p a : Addr} {o : HO} (h : hide (· = p) H a = some o) : a ≠ p := (hide_iff.mp h).1
theorem vis_mono_hid {p : Addr} : Sub (vis F ρ sl σ (hide (· = p) H)) (vis F ρ sl σ H) := hide_sub fun a o hn e => ⟨hn, hide_le _ _ e⟩
theorem CellsAt.unhide {G G' : Hp} {p : Addr} (hs : Sub G G') (c : CellsAt K mg ρ G (hide (· = p) H) cs) : CellsAt K mg ρ G' H cs := by
  refine ⟨c.len, fun n x a e1 e2 => ?_⟩
  have q := c.at_ n x a e1 e2
  obtain ⟨o, e⟩ := q.there
  exact q.mono hs (fun _ _ z => z) (hide_ne (ne_hid e)).symm
/-- an object that no one saw is seen -/
theorem Rep.unhide {p : Addr} (r : Rep K mg F ρ sl cs σ (hide (· = p) H)) : Rep K mg F ρ sl cs σ H := by
  refine ⟨r.len, r.cells.unhide vis_mono_hid, r.nd, r.pre, r.fr, r.inj, fun a o h hn => hide_le _ _ (r.keep a o h hn), fun i s e => ?_⟩
  obtain ⟨v, e1, q⟩ := r.slot i s e
  refine ⟨v, e1, ?_⟩
  cases s with
  | fr x => exact AtV.mono vis_mono_hid (fun _ _ z => z) q
  | ow x =>
    obtain ⟨a, rfl, q⟩ := q
    obtain ⟨o, eo⟩ := q.there
    exact ⟨a, rfl, q.mono vis_mono_hid (hide_ne (ne_hid eo)).symm⟩
theorem set_get {α : Type} {l : List α} {i j : Nat} {x y : α} (h : (l.set i x)[j]? = some y) : (j = i ∧ i < l.length ∧ y = x) ∨ (j ≠ i ∧ l[j]? = some y) := by
  by_cases e : i = j
  · subst e
    by_cases hl : i < l.length
    · rw [List.getElem?_set_self hl] at h
      exact .inl ⟨rfl, hl, (Option.some.inj h).symm⟩
    · rw [List.getElem?_eq_none (by simpa using hl)] at h
      cases h
  · rw [List.getElem?_set_ne e] at h
    exact .inr ⟨fun z => e z.symm, h⟩
theorem own_setFr {i : Nat} {v : Val} {u : Option V} {a : Addr} (h : Own (sl.set i (some (.fr v))) (σ.set i u) a) : Own sl σ a := by
  obtain ⟨j, x, e1, e2⟩ := h
  rcases set_get e1 with ⟨_, _, e⟩ | ⟨hj, e1⟩
  · cases e
  · rw [List.getElem?_set_ne (Ne.symm hj)] at e2
    exact ⟨j, x, e1, e2⟩
theorem own_setNone {i : Nat} {u : Option V} {a : Addr} (h : Own (sl.set i none) (σ.set i u) a) : Own sl σ a := by
  obtain ⟨j, x, e1, e2⟩ := h
  rcases set_get e1 with ⟨_, _, e⟩ | ⟨hj, e1⟩
  · cases e
  · rw [List.getElem?_set_ne (Ne.symm hj)] at e2
    exact ⟨j, x, e1, e2⟩
theorem Rep.setFr (r : Rep K mg F ρ sl cs σ H) {i : Nat} {v : Val} {u : V} (h : AtV K mg ρ (vis F ρ sl σ H) v u) :
    Rep K mg F ρ (sl.set i (some (.fr v))) cs (σ.set i (some u)) H ∧ Sub (vis F ρ sl σ H) (vis F ρ (sl.set i (some (.fr v))) (σ.set i (some u)) H) := by
  have hs : Sub (vis F ρ sl σ H) (vis F ρ (sl.set i (some (.fr v))) (σ.set i (some u)) H) := hide_sub fun a o hn e => ⟨fun z => hn (z.imp id (Or.imp id own_setFr)), e⟩
  refine ⟨⟨by simpa using r.len, ⟨r.cells.len, fun n c a e1 e2 => (r.cells.at_ n c a e1 e2).mono hs (fun _ _ z => z) rfl⟩, r.nd, r.pre, fun a z => r.fr a (own_setFr z), fun j k x y a e1 e2 e3 e4 => ?_, r.keep, fun j s e => ?_⟩, hs⟩
  · rcases set_get e1 with ⟨_, _, z⟩ | ⟨hj, e1⟩
    · cases z
    · rcases set_get e2 with ⟨_, _, z⟩ | ⟨hk, e2⟩
      · cases z
      · rw [List.getElem?_set_ne (Ne.symm hj)] at e3
        rw [List.getElem?_set_ne (Ne.symm hk)] at e4
        exact r.inj j k x y a e1 e2 e3 e4
  · rcases set_get e with ⟨rfl, hl, z⟩ | ⟨hj, e⟩
    · cases z
      exact ⟨u, List.getElem?_set_self (by rw [← r.len]; exact hl), AtV.mono hs (fun _ _ z => z) h⟩
    · obtain ⟨w, e1, q⟩ := r.slot j s e
      refine ⟨w, by rw [List.getElem?_set_ne (Ne.symm hj)]; exact e1, ?_⟩
      cases s with
      | fr x => exact AtV.mono hs (fun _ _ z => z) q
      | ow x => obtain ⟨a, rfl, q⟩ := q; exact ⟨a, rfl, q.mono hs rfl⟩
/-- a slot forgotten -/
theorem Rep.setNone (r : Rep K mg F ρ sl cs σ H) {i : Nat} {u : Option V} :
    Rep K mg F ρ (sl.set i none) cs (σ.set i u) H ∧ Sub (vis F ρ sl σ H) (vis F ρ (sl.set i none) (σ.set i u) H) := by
  have hs : Sub (vis F ρ sl σ H) (vis F ρ (sl.set i none) (σ.set i u) H) := hide_sub fun a o hn e => ⟨fun z => hn (z.imp id (Or.imp id own_setNone)), e⟩
  refine ⟨⟨by simpa using r.len, ⟨r.cells.len, fun n c a e1 e2 => (r.cells.at_ n c a e1 e2).mono hs (fun _ _ z => z) rfl⟩, r.nd, r.pre, fun a z => r.fr a (own_setNone z), fun j k x y a e1 e2 e3 e4 => ?_, r.keep, fun j s e => ?_⟩, hs⟩
  · rcases set_get e1 with ⟨_, _, z⟩ | ⟨hj, e1⟩
    · cases z
    · rcases set_get e2 with ⟨_, _, z⟩ | ⟨hk, e2⟩
      · cases z
      · rw [List.getElem?_set_ne (Ne.symm hj)] at e3
        rw [List.getElem?_set_ne (Ne.symm hk)] at e4
        exact r.inj j k x y a e1 e2 e3 e4
  · rcases set_get e with ⟨rfl, hl, z⟩ | ⟨hj, e⟩
    · cases z
    · obtain ⟨w, e1, q⟩ := r.slot j s e
      refine ⟨w, by rw [List.getElem?_set_ne (Ne.symm hj)]; exact e1, ?_⟩
      cases s with
      | fr x => exact AtV.mono hs (fun _ _ z => z) q
      | ow x => obtain ⟨a, rfl, q⟩ := q; exact ⟨a, rfl, q.mono hs rfl⟩
theorem own_setOw {i : Nat} {x : PyData} {p a : Addr} (h : Own (sl.set i (some (.ow x))) (σ.set i (some (.ref p))) a) : a = p ∨ Own sl σ a := by
  obtain ⟨j, y, e1, e2⟩ := h
  rcases set_get e1 with ⟨rfl, hl, e⟩ | ⟨hj, e1⟩
  · rcases set_get e2 with ⟨_, _, e⟩ | ⟨hj, _⟩
    · cases e; exact .inl rfl
    · exact absurd rfl hj
  · rw [List.getElem?_set_ne (Ne.symm hj)] at e2
    exact .inr ⟨j, y, e1, e2⟩
theorem Rep.setOw {p : Addr} (r : Rep K mg F ρ sl cs σ (hide (· = p) H)) {i : Nat} {x : PyData} (h : OwnAt K H (vis F ρ sl σ (hide (· = p) H)) x p) :
    Rep K mg F ρ (sl.set i (some (.ow x))) cs (σ.set i (some (.ref p))) H ∧ Sub (vis F ρ sl σ (hide (· = p) H)) (vis F ρ (sl.set i (some (.ow x))) (σ.set i (some (.ref p))) H) := by
  obtain ⟨f1, f2, f3⟩ := r.fresh hide_self
  have hs : Sub (vis F ρ sl σ (hide (· = p) H)) (vis F ρ (sl.set i (some (.ow x))) (σ.set i (some (.ref p))) H) := hide_sub fun a o hn e => by
    refine ⟨fun z => ?_, hide_le _ _ e⟩
    rcases z with z | z | z
    · exact hn (.inl z)
    · exact hn (.inr (.inl z))
    · rcases own_setOw z with z | z
      · exact ne_hid e z
      · exact hn (.inr (.inr z))
  have np : ∀ {j : Nat} {y : PyData} {a : Addr}, sl[j]? = some (some (.ow y)) → σ[j]? = some (some (.ref a)) → a ≠ p := fun {j y a} e1 e2 z => f3 ⟨j, y, e1, by rw [← z]; exact e2⟩
  refine ⟨⟨by simpa using r.len, r.cells.unhide hs, r.nd, r.pre, fun a z => ?_, fun j k y y' a e1 e2 e3 e4 => ?_, fun a o h hn => hide_le _ _ (r.keep a o h hn), fun j s e => ?_⟩, hs⟩
  · rcases own_setOw z with z | z
    · rw [z]; exact ⟨f1, f2⟩
    · exact r.fr a z
  · rcases set_get e1 with ⟨h1, _, z⟩ | ⟨hj, e1⟩
    · rcases set_get e2 with ⟨h2, _, z⟩ | ⟨hk, e2⟩
      · rw [h1, h2]
      · rw [List.getElem?_set_ne (Ne.symm hk)] at e4
        rcases set_get e3 with ⟨_, _, z3⟩ | ⟨z3, _⟩
        · cases z3; exact absurd rfl (np e2 e4)
        · exact absurd h1 z3
    · rw [List.getElem?_set_ne (Ne.symm hj)] at e3
      rcases set_get e2 with ⟨h2, _, z⟩ | ⟨hk, e2⟩
      · rcases set_get e4 with ⟨_, _, z4⟩ | ⟨z4, _⟩
        · cases z4; exact absurd rfl (np e1 e3)
        · exact absurd h2 z4
      · rw [List.getElem?_set_ne (Ne.symm hk)] at e4
        exact r.inj j k y y' a e1 e2 e3 e4
  · rcases set_get e with ⟨rfl, hl, z⟩ | ⟨hj, e⟩
    · cases z
      exact ⟨.ref p, List.getElem?_set_self (by rw [← r.len]; exact hl), p, rfl, h.mono hs rfl⟩
    · obtain ⟨w, e1, q⟩ := r.slot j s e
      refine ⟨w, by rw [List.getElem?_set_ne (Ne.symm hj)]; exact e1, ?_⟩
      cases s with
      | fr y => exact AtV.mono hs (fun _ _ z => z) q
      | ow y =>
        obtain ⟨a, rfl, q⟩ := q
        obtain ⟨o, eo⟩ := q.there
        exact ⟨a, rfl, q.mono hs (hide_ne (ne_hid eo)).symm⟩
/-- an own list is changed -/
theorem Rep.mut (r : Rep K mg F ρ sl cs σ H) {j : Nat} {x x' : PyData} {a : Addr} {o : HO} (e1 : sl[j]? = some (some (.ow x))) (e2 : σ[j]? = some (some (.ref a))) (h : OwnAt K (upd H a o) (vis F ρ sl σ H) x' a) :
    Rep K mg F ρ (sl.set j (some (.ow x'))) cs σ (upd H a o) ∧ Sub (vis F ρ sl σ H) (vis F ρ (sl.set j (some (.ow x'))) σ (upd H a o)) := by
  have hjl : j < sl.length := (List.getElem?_eq_some_iff.mp e1).1
  have own : ∀ b, Own (sl.set j (some (.ow x'))) σ b → Own sl σ b := fun b ⟨k, y, h1, h2⟩ => by
    rcases set_get h1 with ⟨rfl, _, _⟩ | ⟨hk, h1⟩
    · rw [e2] at h2
      cases h2
      exact ⟨k, x, e1, e2⟩
    · exact ⟨k, y, h1, h2⟩
  have oa : Own sl σ a := ⟨j, x, e1, e2⟩
  obtain ⟨n1, n2⟩ := r.fr a oa
  have hs : Sub (vis F ρ sl σ H) (vis F ρ (sl.set j (some (.ow x'))) σ (upd H a o)) := hide_sub fun b u hn e => by
    have ne : b ≠ a := fun z => hn (.inr (.inr (by rw [z]; exact oa)))
    exact ⟨fun z => hn (z.imp id (Or.imp id (own b))), by rw [upd_ne ne]; exact e⟩
  refine ⟨⟨by simpa using r.len, ⟨r.cells.len, fun n c b h1 h2 => (r.cells.at_ n c b h1 h2).mono hs (fun _ _ z => z) (upd_ne fun z => n2 (by rw [← z]; exact List.mem_of_getElem? h2))⟩, r.nd, r.pre, fun b z => r.fr b (own b z), fun i k y y' b h1 h2 h3 h4 => ?_, fun b u hb hn => ?_, fun i s e => ?_⟩, hs⟩
  · have f : ∀ {i : Nat} {y : PyData}, (sl.set j (some (.ow x')))[i]? = some (some (.ow y)) → ∃ z, sl[i]? = some (some (Slot.ow z)) := fun {i y} h => by
      rcases set_get h with ⟨rfl, _, _⟩ | ⟨_, h⟩
      · exact ⟨x, e1⟩
      · exact ⟨y, h⟩
    obtain ⟨z, h1⟩ := f h1
    obtain ⟨z', h2⟩ := f h2
    exact r.inj i k z z' b h1 h2 h3 h4
  · have ne : b ≠ a := fun z => by rw [z, n1] at hb; cases hb
    rw [upd_ne ne]
    exact r.keep b u hb hn
  · rcases set_get e with ⟨rfl, hl, z⟩ | ⟨hj, e⟩
    · cases z
      exact ⟨.ref a, e2, a, rfl, h.mono hs rfl⟩
    · obtain ⟨w, h1, q⟩ := r.slot i s e
      refine ⟨w, h1, ?_⟩
      cases s with
      | fr y => exact AtV.mono hs (fun _ _ z => z) q
      | ow y =>
        obtain ⟨b, rfl, q⟩ := q
        exact ⟨b, rfl, q.mono hs (upd_ne fun z => hj (r.inj i j y x a e e1 (by rw [← z]; exact h1) e2))⟩
/-- a cell is changed -/
theorem Rep.mutCell (r : Rep K mg F ρ sl cs σ H) {n : Nat} {c c' : Cell} {a : Addr} {o : HO} (e1 : cs[n]? = some c) (e2 : ρ[n]? = some a) (h : CellAt K mg ρ (vis F ρ sl σ H) (upd H a o) c' a) :
    Rep K mg F ρ sl (cs.set n c') σ (upd H a o) ∧ Grow ρ H ρ (upd H a o) ∧ Sub (vis F ρ sl σ H) (vis F ρ sl σ (upd H a o)) := by
  have ma : a ∈ ρ := List.mem_of_getElem? e2
  have g : Grow ρ H ρ (upd H a o) := ⟨fun b u e hn => by rw [upd_ne fun z => hn (by rw [z]; exact ma)]; exact e, [], by simp, fun _ z => by simp at z⟩
  have hs := g.vis r
  refine ⟨r.grow g ⟨by simpa using r.cells.len, fun m d b h1 h2 => ?_⟩ r.nd, g, hs⟩
  rcases set_get h1 with ⟨rfl, hl, z⟩ | ⟨hm, h1⟩
  · rw [e2] at h2
    cases h2
    rw [z]
    exact h.mono hs (fun _ _ z => z) rfl
  · refine (r.cells.at_ m d b h1 h2).mono hs (fun _ _ z => z) (upd_ne fun z => hm ?_)
    rw [z] at h2
    exact nodup_ix' r.nd h2 e2
where
  nodup_ix' {l : List Addr} (hN : l.Nodup) {i j : Nat} {x : Addr} (a : l[i]? = some x) (b : l[j]? = some x) : i = j := by
    obtain ⟨h1, e1⟩ := List.getElem?_eq_some_iff.mp a
    obtain ⟨h2, e2⟩ := List.getElem?_eq_some_iff.mp b
    exact (List.getElem_inj hN).mp (e1.trans e2.symm)
end

/-! ### what is fresh, frozen or made a cell -/
section
variable {Γ : Cf} {e : Expr} {f : SO}
def fz : Slot → Val
  | .fr v => v
  | .ow x => .d x
def eFz (f : SO) : SE := fun sl cs => (f sl cs).bind fun s cs1 => .ok (fz s) cs1
theorem own_atD {F : Fx} {ρ : List Addr} {sl : Sl} {σ : St} {cs : Cs} {H : Hp} {p : Addr} {x : PyData} (r : Rep Γ.K Γ.mg F ρ sl cs σ (hide (· = p) H)) (h : OwnAt Γ.K H (vis F ρ sl σ (hide (· = p) H)) x p) : AtD Γ.K (vis F ρ sl σ H) x (.ref p) := by
  have hf := r.free (p := p) hide_self
  have hv : ∀ o, H p = some o → vis F ρ sl σ H p = some o := fun o e => hide_iff.mpr ⟨hf, e⟩
  cases x with
  | list xs =>
    obtain ⟨vs, e, l⟩ := h
    exact at_list_iff.mpr ⟨p, vs, rfl, hv _ e, AtL.mono vis_mono_hid _ _ l⟩
  | dict kvs =>
    rcases h with ⟨kv, e, l⟩ | ⟨kv, ne, e, l⟩
    · exact at_dict_iff.mpr ⟨p, rfl, .inl ⟨kv, hv _ e, AtP.mono vis_mono_hid _ _ l⟩⟩
    · exact at_dict_iff.mpr ⟨p, rfl, .inr ⟨kv, ne, hv _ e, AtQ.mono vis_mono_hid _ _ l⟩⟩
  | _ => exact h.elim
theorem de_fz (h : DO Γ e f) : DE Γ e (eFz f) := by
  obtain ⟨t, p, q⟩ := h.ex
  refine ⟨t, p, fun W F ρ sl cs σ H Q rp h => ?_⟩
  refine q W F ρ sl cs σ H _ rp (PostG.mono (PostG.bind (rel := relO Γ F sl σ H) h) fun u H1 ⟨x, cs1, ρ1, r1, g1, a1, h1⟩ => ?_)
  cases x with
  | fr v => exact h1 u H1 ρ1 r1 Grow.refl (AtT.of a1)
  | ow x =>
    obtain ⟨p, rfl, _, r2, o⟩ := a1
    exact h1 _ H1 ρ1 r1 Grow.refl (AtT.mk (own_atD r2 o))
def celV (s : Slot) (cs : Cs) : R Val := match s with
  | .ow (.list xs) => .ok (.cel cs.length) (cs ++ [.lst (xs.map Val.d)])
  | _ => .bad
def eCel (f : SO) : SE := fun sl cs => (f sl cs).bind celV
theorem atL_paired {K : PySem.W.Frag} {mg : Str → Option Value} {ρ : List Addr} {G : Hp} : ∀ {xs : List PyData} {vs : List V}, AtL K G xs vs → Paired (AtV K mg ρ G) (xs.map Val.d) vs
  | [], vs, q => by simp only [AtL] at q; subst q; exact .nil
  | x :: xs, vs, q => by
    simp only [AtL] at q
    obtain ⟨v, t, rfl, q1, q2⟩ := q
    exact .cons q1 (atL_paired q2)
theorem de_cel (h : DO Γ e f) : DE Γ e (eCel f) := by
  obtain ⟨t, p, q⟩ := h.ex
  refine ⟨t, p, fun W F ρ sl cs σ H Q rp h => ?_⟩
  refine q W F ρ sl cs σ H _ rp ?_
  unfold eCel at h
  cases ef : f sl cs with
  | bad => rw [ef] at h; exact h.elim
  | ex x cs1 => rw [ef] at h; exact h
  | ok x cs1 =>
    rw [ef, R.bind_ok] at h
    intro u H1 ρ1 r1 g1 a1
    unfold celV at h
    split at h
    · rename_i xs
      obtain ⟨p, rfl, hp, r2, vs, e1, l⟩ := a1
      obtain ⟨f1, f2, f3⟩ := r2.fresh hide_self
      have hv : vis F (ρ1 ++ [p]) sl σ H1 = vis F ρ1 sl σ (hide (· = p) H1) := by
        unfold vis
        rw [hide_hide]
        refine hide_congr fun a => ?_
        unfold Hid
        simp only [List.mem_append, List.mem_singleton]
        constructor
        · rintro (z | (z | z) | z)
          · exact .inr (.inl z)
          · exact .inr (.inr (.inl z))
          · exact .inl z
          · exact .inr (.inr (.inr z))
        · rintro (z | z | z | z)
          · exact .inr (.inl (.inr z))
          · exact .inl z
          · exact .inr (.inl (.inl z))
          · exact .inr (.inr z)
      have g2 : Grow ρ H (ρ1 ++ [p]) H1 := by
        refine ⟨g1.keep, ?_⟩
        obtain ⟨t, rfl, ht⟩ := g1.ext
        refine ⟨t ++ [p], by simp, fun a ha => ?_⟩
        rcases List.mem_append.mp ha with z | z
        · exact ht a z
        · rw [List.mem_singleton.mp z]; exact hp
      have pre : ∀ (n : Nat) (a : Addr), ρ1[n]? = some a → (ρ1 ++ [p])[n]? = some a := fun n a z => prefix_get z
      have cl : CellsAt Γ.K Γ.mg (ρ1 ++ [p]) (vis F (ρ1 ++ [p]) sl σ H1) H1 (cs1 ++ [.lst (xs.map Val.d)]) := by
        rw [hv]
        refine ⟨by simp [r2.cells.len], fun n c a z1 z2 => ?_⟩
        by_cases hn : n < cs1.length
        · rw [List.getElem?_append_left hn] at z1
          rw [List.getElem?_append_left (by rw [r2.cells.len]; exact hn)] at z2
          have w := r2.cells.at_ n c a z1 z2
          obtain ⟨o, eo⟩ := w.there
          exact w.mono (fun _ _ z => z) pre (hide_ne (ne_hid eo)).symm
        · rw [List.getElem?_append_right (by omega)] at z1
          rw [List.getElem?_append_right (by rw [r2.cells.len]; omega)] at z2
          have e0 : n - cs1.length = 0 := by
            have := (List.getElem?_eq_some_iff.mp z1).1
            simp at this
            omega
          rw [r2.cells.len] at z2
          rw [e0] at z1 z2
          simp at z1 z2
          subst z1 z2
          exact ⟨vs, e1, atL_paired l⟩
      have nd : (ρ1 ++ [p]).Nodup := by
        rw [List.nodup_append]
        exact ⟨r2.nd, by simp, fun a ha b hb z => f2 (by rw [List.mem_singleton] at hb; rw [← hb, ← z]; exact ha)⟩
      exact h _ H1 (ρ1 ++ [p]) (rp.grow g2 cl nd) g2 ⟨p, by rw [List.getElem?_append_right (by rw [r2.cells.len]; exact Nat.le_refl _), r2.cells.len]; simp, rfl⟩
    · exact h.elim
end
end DL
end
section
set_option Elab.async false
set_option linter.all false
set_option maxRecDepth 100000
set_option autoImplicit false
namespace DL
open PySem PySem.Spec PyProof.Rows L2

/-! ### what a def promises -/
abbrev FS := List Val → Cs → R Slot
section
variable (K : PySem.W.Frag) (mg : Str → Option Value)
def relF (hx : Addr → Prop) (Hs : Hp) (ρ : List Addr) (H : Hp) (cs : Cs) (x : Slot) (u : V) : Prop := match x with
  | .fr v => AtV K mg ρ (hide (fun a => hx a ∨ a ∈ ρ) H) v u
  | .ow x => ∃ p, u = .ref p ∧ Hs p = none ∧ p ∉ ρ ∧ OwnAt K H (hide (fun a => a = p ∨ hx a ∨ a ∈ ρ) H) x p ∧ CellsAt K mg ρ (hide (fun a => a = p ∨ hx a ∨ a ∈ ρ) H) H cs
def PostF (hx : Addr → Prop) (ρ : List Addr) (H : Hp) (r : R Slot) (Q : VK) (E : XK) : Prop := match r with
  | .ok s cs' => ∀ u H' ρ', Grow ρ H ρ' H' → ρ'.Nodup → CellsAt K mg ρ' (hide (fun a => hx a ∨ a ∈ ρ') H') H' cs' → relF K mg hx H ρ' H' cs' s u → Q u H'
  | .ex e cs' => ∀ c d H' ρ', Grow ρ H ρ' H' → ρ'.Nodup → CellsAt K mg ρ' (hide (fun a => hx a ∨ a ∈ ρ') H') H' cs' → ExAt K mg (hide (fun a => hx a ∨ a ∈ ρ') H') H' e c d → E c d H'
  | .bad => False
def spOf (n : Nat) (f : FS) : Sp := fun vs H Q E => vs.length = n ∧ ∃ (args : List Val) (hx : Addr → Prop) (ρ : List Addr) (cs : Cs), (∀ a, hx a → ∃ o, H a = some o) ∧ Paired (AtV K mg ρ (hide (fun a => hx a ∨ a ∈ ρ) H)) args vs ∧
  CellsAt K mg ρ (hide (fun a => hx a ∨ a ∈ ρ) H) H cs ∧ ρ.Nodup ∧ PostF K mg hx ρ H (f args cs) Q E
end
/-- a def of the module: what it computes is f -/
structure FnD (K : PySem.W.Frag) (mg : Str → Option Value) (P : Program) (w : World) (base : Heap) (k : Nat) (x : Str) (n : Nat) (ds : List Val) (f : FS) : Prop where
  ex : ∃ (a : Addr) (fd : FuncData) (ps : List Str) (dvs : List V) (dus : List Value), mg x = some (.ref a) ∧ PySem.W.keepIn K (.ref a) = true ∧ ps.length = n ∧ Binds K fd ps dus ∧ Vals dvs dus ∧ (∀ ρ G, Paired (AtV K mg ρ G) ds dvs) ∧
    FnG P w K mg base (L2.CX P w) k a fd ps (spOf K mg n f)
def oDef (f : FS) (ds : List Val) (g : SA) : SO := fun sl cs => (g sl cs).bind fun xs cs1 => f (xs ++ ds) cs1
theorem Paired.app {α β : Type} {R : α → β → Prop} : ∀ {xs ys : List α} {us vs : List β}, Paired R xs us → Paired R ys vs → Paired R (xs ++ ys) (us ++ vs)
  | _, _, _, _, .nil, t => t
  | _, _, _, _, .cons r s, t => .cons r (Paired.app s t)
section
variable {Γ : Cf} {F : Fx} {ρ : List Addr} {sl : Sl} {cs : Cs} {σ : St} {H : Hp} {W : WX}
theorem hide_or {hx : Addr → Prop} : vis F ρ sl σ H = hide (fun a => (F.hx a ∨ Own sl σ a) ∨ a ∈ ρ) H := hide_congr fun a => by
  unfold Hid
  constructor
  · rintro (z | z | z)
    · exact .inl (.inl z)
    · exact .inr z
    · exact .inl (.inr z)
  · rintro ((z | z) | z)
    · exact .inl z
    · exact .inr (.inr z)
    · exact .inr (.inl z)
/-- the caller's question, asked of the callee -/
theorem call_post {r : R Slot} {Q : VK} (rp : Rep Γ.K Γ.mg F ρ sl cs σ H) (h : PostG Γ F ρ sl σ H W (relO Γ F sl σ H) r Q) : PostF Γ.K Γ.mg (fun a => F.hx a ∨ Own sl σ a) ρ H r Q (fun c d H' => W c d σ H') := by
  cases r with
  | ok s cs' =>
    intro u H' ρ' g nd c q
    rw [← hide_or (hx := F.hx) (F := F)] at c
    refine h u H' ρ' (rp.grow g c nd) g ?_
    cases s with
    | fr v =>
      show AtV Γ.K Γ.mg ρ' (vis F ρ' sl σ H') v u
      rw [hide_or (hx := F.hx)]
      exact q
    | ow x =>
      obtain ⟨p, rfl, hp, np, o, c2⟩ := q
      have hv : hide (fun a => a = p ∨ (F.hx a ∨ Own sl σ a) ∨ a ∈ ρ') H' = vis F ρ' sl σ (hide (· = p) H') := by
        rw [hide_or (hx := F.hx), hide_hide]
      have g2 : Grow ρ H ρ' (hide (· = p) H') := ⟨fun a u e hn => by rw [hide_ne (ne_of_none e hp)]; exact g.keep a u e hn, g.ext⟩
      rw [hv] at o c2
      refine ⟨p, rfl, hp, rp.grow g2 ⟨c2.len, fun n x a e1 e2 => ?_⟩ nd, o⟩
      exact (c2.at_ n x a e1 e2).mono (fun _ _ z => z) (fun _ _ z => z) (hide_ne fun z => np (by rw [← z]; exact List.mem_of_getElem? e2))
  | ex e cs' =>
    intro cl d H' ρ' g nd c q
    rw [← hide_or (hx := F.hx) (F := F)] at c q
    exact h cl d H' ρ' (rp.grow g c nd) g q
  | bad => exact h
theorem do_def {x : Str} {n : Nat} {ds : List Val} {f : FS} {g : SA} {e : Expr} {es : List Expr} {p pos : Pos} (F : FnD Γ.K Γ.mg Γ.P Γ.w Γ.base Γ.k x n ds f) (hcm : Γ.cm = true) (ha : DA Γ (e :: es) g) (hg : Gls Γ.sc x := by rfl) (hdb : (x == ("__debug__" : Str)) = false := by decide)
    (hn : ∀ xs cs r, f (xs ++ ds) cs = r → (∃ s c, r = .ok s c) ∨ (∃ e c, r = .ex e c) → xs.length + ds.length = n)
    (he : ∀ env, starEach (e :: es) env = (false, eval e env) :: starEach es env := by intro _; rfl) (hpl : ∀ env, (backTo pos (starEach es env)).any (·.1) = false := by intro _; rfl) : DO Γ (.Call (.Name x p) (e :: es) [] pos) (oDef f ds g) := by
  obtain ⟨a, fd, ps, dvs, dus, gm, kp, hl, hb, hv, hd, ok⟩ := F.ex
  obtain ⟨t, p1, q1⟩ := ha.ex
  refine ⟨fun W => tCallSD (spOf Γ.K Γ.mg n f) dvs (WE W) (t W), fun X W okX gd => ?_, fun W F ρ sl cs σ H Q rp h => ?_⟩
  · have ok' : FnG X.prog X.w X.K X.mg X.base (L2.CX X.prog X.w) Γ.k a fd ps (spOf Γ.K Γ.mg n f) := by rw [okX.P, okX.w, okX.K, okX.mg, okX.base]; exact ok
    exact pe_callG ok' (okX.cm hcm).2 (gl_of okX hg) (by rw [okX.mg]; exact gm) (by rw [okX.K]; exact kp) (by rw [okX.K]; exact hb) hv (fun σ => passAt gd.tk σ) (p1 X W okX gd) hdb (he _) (hpl _)
  · refine q1 W F ρ sl cs σ H _ rp (PostG.mono (PostG.bind (rel := relVs Γ F sl σ) h) fun us H1 ⟨xs, cs1, ρ1, r1, g1, a1, h1⟩ => ?_)
    have h1 := h1.imp (rl := relO Γ F sl σ H1) (relO_back fun p hp => g1.back r1 hp)
    have hlen : xs.length + ds.length = n := by
      refine hn xs cs1 _ rfl ?_
      cases er : f (xs ++ ds) cs1 with
      | ok s c => exact .inl ⟨s, c, rfl⟩
      | ex e c => exact .inr ⟨e, c, rfl⟩
      | bad => rw [er] at h1; exact h1.elim
    have la : Paired (AtV Γ.K Γ.mg ρ1 (vis F ρ1 sl σ H1)) (xs ++ ds) (us ++ dvs) := Paired.app a1 (hd _ _)
    refine ⟨by rw [← Paired.len la, List.length_append]; exact hlen, xs ++ ds, fun b => F.hx b ∨ Own sl σ b, ρ1, cs1, fun b hb => ?_, ?_, ?_, r1.nd, ?_⟩
    · rcases hb with z | z
      · obtain ⟨o, e⟩ := F.hxt b z
        by_cases hm : b ∈ F.ρ0
        · obtain ⟨t, e2, _⟩ := r1.pre
          exact r1.cells.there (by rw [e2]; exact List.mem_append_left _ hm)
        · exact ⟨o, r1.keep b o e hm⟩
      · exact r1.own_there z
    · rw [← hide_or (hx := F.hx)]
      exact la
    · rw [← hide_or (hx := F.hx)]
      exact r1.cells
    · exact call_post r1 h1
end

/-! ### statements -/
inductive RS where
  | nx (sl : Sl) (cs : Cs)
  | rt (s : Slot) (cs : Cs)
  | bk (sl : Sl) (cs : Cs)
  | ct (sl : Sl) (cs : Cs)
  | ex (e : Ex) (sl : Sl) (cs : Cs)
  | bad
abbrev SS := Sl → Cs → RS
/-- an expression's result within a statement -/
def R.go {α : Type} (r : R α) (sl : Sl) (k : α → Cs → RS) : RS := match r with
  | .ok a cs => k a cs
  | .ex e cs => .ex e sl cs
  | .bad => .bad
def RS.seq (r : RS) (k : SS) : RS := match r with
  | .nx sl cs => k sl cs
  | r => r
section
variable {α : Type}
@[simp] theorem R.go_ok (a : α) (cs : Cs) (sl : Sl) (k : α → Cs → RS) : (R.ok a cs).go sl k = k a cs := rfl
@[simp] theorem R.go_ex (e : Ex) (cs : Cs) (sl : Sl) (k : α → Cs → RS) : (R.ex (α := α) e cs).go sl k = .ex e sl cs := rfl
@[simp] theorem R.go_bad (sl : Sl) (k : α → Cs → RS) : (R.bad (α := α)).go sl k = .bad := rfl
@[simp] theorem RS.seq_nx (sl : Sl) (cs : Cs) (k : SS) : (RS.nx sl cs).seq k = k sl cs := rfl
@[simp] theorem RS.seq_rt (s : Slot) (cs : Cs) (k : SS) : (RS.rt s cs).seq k = .rt s cs := rfl
@[simp] theorem RS.seq_bk (sl : Sl) (cs : Cs) (k : SS) : (RS.bk sl cs).seq k = .bk sl cs := rfl
@[simp] theorem RS.seq_ct (sl : Sl) (cs : Cs) (k : SS) : (RS.ct sl cs).seq k = .ct sl cs := rfl
@[simp] theorem RS.seq_ex (e : Ex) (sl : Sl) (cs : Cs) (k : SS) : (RS.ex e sl cs).seq k = .ex e sl cs := rfl
@[simp] theorem RS.seq_bad (k : SS) : RS.bad.seq k = .bad := rfl
end
/-- the state as a def's end sees it -/
structure Out (K : PySem.W.Frag) (mg : Str → Option Value) (F : Fx) (ρ : List Addr) (cs : Cs) (H : Hp) : Prop where
  cells : CellsAt K mg ρ (hide (fun a => F.hx a ∨ a ∈ ρ) H) H cs
  nd : ρ.Nodup
  pre : ∃ t, ρ = F.ρ0 ++ t ∧ ∀ a ∈ t, F.H0 a = none
  keep : ∀ a o, F.H0 a = some o → a ∉ F.ρ0 → H a = some o
section
variable (Γ : Cf) (F : Fx)
def PostS (ρ : List Addr) (sl : Sl) (σ : St) (H : Hp) (W : WX) (r : RS) (D : Ends) : Prop := match r with
  | .nx sl' cs' => ∀ σ' H' ρ', Rep Γ.K Γ.mg F ρ' sl' cs' σ' H' → Sub (vis F ρ sl σ H) (vis F ρ' sl' σ' H') → D.nx σ' H'
  | .bk sl' cs' => ∀ σ' H' ρ', Rep Γ.K Γ.mg F ρ' sl' cs' σ' H' → Sub (vis F ρ sl σ H) (vis F ρ' sl' σ' H') → D.bk σ' H'
  | .ct sl' cs' => ∀ σ' H' ρ', Rep Γ.K Γ.mg F ρ' sl' cs' σ' H' → Sub (vis F ρ sl σ H) (vis F ρ' sl' σ' H') → D.ct σ' H'
  | .rt s cs' => ∀ u H' ρ', Out Γ.K Γ.mg F ρ' cs' H' → relF Γ.K Γ.mg F.hx F.H0 ρ' H' cs' s u → D.rt u H'
  | .ex e sl' cs' => ∀ c d σ' H' ρ', Rep Γ.K Γ.mg F ρ' sl' cs' σ' H' → Sub (vis F ρ sl σ H) (vis F ρ' sl' σ' H') → ExAt Γ.K Γ.mg (vis F ρ' sl' σ' H') H' e c d → W c d σ' H'
  | .bad => False
end
structure DS (Γ : Cf) (st : Stmt) (f : SS) : Prop where
  ex : ∃ t : WX → TS, (∀ X W, Γ.Ok X → Good X W → PS X st (t W)) ∧ ∀ W F ρ sl cs σ H D, Rep Γ.K Γ.mg F ρ sl cs σ H → PostS Γ F ρ sl σ H W (f sl cs) D → t W D σ H
structure DSs (Γ : Cf) (st : List Stmt) (f : SS) : Prop where
  ex : ∃ t : WX → TS, (∀ X W, Γ.Ok X → Good X W → PSs X st (t W)) ∧ ∀ W F ρ sl cs σ H D, Rep Γ.K Γ.mg F ρ sl cs σ H → PostS Γ F ρ sl σ H W (f sl cs) D → t W D σ H
section
variable {Γ : Cf} {F : Fx} {ρ ρ1 : List Addr} {sl sl1 : Sl} {cs cs1 : Cs} {σ σ1 : St} {H H1 : Hp} {W : WX} {D D' : Ends}
theorem PostS.weak {r : RS} (h : PostS Γ F ρ sl σ H W r D) (hs : Sub (vis F ρ sl σ H) (vis F ρ1 sl1 σ1 H1)) : PostS Γ F ρ1 sl1 σ1 H1 W r D := by
  cases r with
  | nx sl' cs' => exact fun σ' H' ρ' rp s => h σ' H' ρ' rp fun a o e => s a o (hs a o e)
  | bk sl' cs' => exact fun σ' H' ρ' rp s => h σ' H' ρ' rp fun a o e => s a o (hs a o e)
  | ct sl' cs' => exact fun σ' H' ρ' rp s => h σ' H' ρ' rp fun a o e => s a o (hs a o e)
  | ex e sl' cs' => exact fun c d σ' H' ρ' rp s => h c d σ' H' ρ' rp fun a o e => s a o (hs a o e)
  | rt s cs' => exact h
  | bad => exact h
theorem PostS.go {α β : Type} {rel : List Addr → Hp → Cs → α → β → Prop} {r : R α} {k : α → Cs → RS} (h : PostS Γ F ρ sl σ H W (r.go sl k) D) (rp : Rep Γ.K Γ.mg F ρ sl cs σ H) :
    PostG Γ F ρ sl σ H W rel r (fun u H1 => ∃ x cs1 ρ1, Rep Γ.K Γ.mg F ρ1 sl cs1 σ H1 ∧ Grow ρ H ρ1 H1 ∧ rel ρ1 H1 cs1 x u ∧ PostS Γ F ρ sl σ H W (k x cs1) D) := by
  cases r with
  | ok x cs' => exact fun u H' ρ' r1 g q => ⟨x, cs', ρ', r1, g, q, h⟩
  | ex e cs' => exact fun c d H' ρ' r1 g q => h c d σ H' ρ' r1 (g.vis rp) q
  | bad => exact h
theorem PostS.seq {r : RS} {k : SS} (h : PostS Γ F ρ sl σ H W (r.seq k) D) {N : St → Hp → Prop} (hN : ∀ sl1 cs1 σ1 H1 ρ1, Rep Γ.K Γ.mg F ρ1 sl1 cs1 σ1 H1 → PostS Γ F ρ1 sl1 σ1 H1 W (k sl1 cs1) D → N σ1 H1) : PostS Γ F ρ sl σ H W r { D with nx := N } := by
  cases r with
  | nx sl' cs' => exact fun σ' H' ρ' rp s => hN _ _ _ _ _ rp (PostS.weak h s)
  | bk sl' cs' => exact h
  | ct sl' cs' => exact h
  | ex e sl' cs' => exact h
  | rt s cs' => exact h
  | bad => exact h
/-- the end of the state behind a return -/
theorem Rep.out (r : Rep Γ.K Γ.mg F ρ sl cs σ H) : Out Γ.K Γ.mg F ρ cs H := by
  have hs : Sub (vis F ρ sl σ H) (hide (fun a => F.hx a ∨ a ∈ ρ) H) := hide_sub fun a o hn e => ⟨fun z => hn (z.imp id Or.inl), e⟩
  exact ⟨⟨r.cells.len, fun n c a e1 e2 => (r.cells.at_ n c a e1 e2).mono hs (fun _ _ z => z) rfl⟩, r.nd, r.pre, r.keep⟩
theorem relF_of {Hs : Hp} {s : Slot} {u : V} (r : Rep Γ.K Γ.mg F ρ sl cs σ H) (h : relO Γ F sl σ Hs ρ H cs s u) : relF Γ.K Γ.mg F.hx F.H0 ρ H cs s u := by
  cases s with
  | fr v => exact AtV.mono (hide_sub fun a o hn e => ⟨fun z => hn (z.imp id Or.inl), e⟩) (fun _ _ z => z) h
  | ow x =>
    obtain ⟨p, rfl, hp, r2, o⟩ := h
    obtain ⟨f1, f2, f3⟩ := r2.fresh hide_self
    have hs : Sub (vis F ρ sl σ (hide (· = p) H)) (hide (fun a => a = p ∨ F.hx a ∨ a ∈ ρ) H) := hide_sub fun a o hn e => ⟨fun z => z.elim (ne_hid e) fun z => hn (z.imp id Or.inl), hide_le _ _ e⟩
    refine ⟨p, rfl, f1, f2, o.mono hs rfl, r2.cells.len, fun n c a e1 e2 => ?_⟩
    have q := r2.cells.at_ n c a e1 e2
    obtain ⟨w, ew⟩ := q.there
    exact q.mono hs (fun _ _ z => z) (hide_ne (ne_hid ew)).symm
variable {st : Stmt} {rest : List Stmt} {f g : SS} {pos : Pos} {e : Expr}
def sNil : SS := fun sl cs => .nx sl cs
def sSeq (f g : SS) : SS := fun sl cs => (f sl cs).seq g
theorem dss_nil : DSs Γ [] sNil := ⟨fun _ => tNext, fun X W _ _ => pss_nil, fun W F ρ sl cs σ H D r h => h σ H ρ r fun _ _ z => z⟩
theorem dss_cons (h1 : DS Γ st f) (h2 : DSs Γ rest g) : DSs Γ (st :: rest) (sSeq f g) := by
  obtain ⟨t, p, q⟩ := h1.ex
  obtain ⟨u, p2, q2⟩ := h2.ex
  refine ⟨fun W => tSeq (t W) (u W), fun X W ok gd => pss_cons (p X W ok gd) (p2 X W ok gd), fun W F ρ sl cs σ H D r h => ?_⟩
  exact q W F ρ sl cs σ H _ r (PostS.seq h fun sl1 cs1 σ1 H1 ρ1 r1 h1 => q2 W F ρ1 sl1 cs1 σ1 H1 D r1 h1)
theorem dss_one (h1 : DS Γ st f) : DSs Γ [st] f := by
  obtain ⟨t, p, q⟩ := h1.ex
  exact ⟨t, fun X W ok gd => pss_one (p X W ok gd), q⟩
/-- pass, break, continue -/
theorem ds_pass : DS Γ (.Pass pos) sNil := ⟨fun _ => tNext, fun X W _ _ => ps_pass, fun W F ρ sl cs σ H D r h => h σ H ρ r fun _ _ z => z⟩
theorem ds_break : DS Γ (.Break pos) (fun sl cs => .bk sl cs) := ⟨fun _ => tBreak, fun X W _ _ => ps_break, fun W F ρ sl cs σ H D r h => h σ H ρ r fun _ _ z => z⟩
theorem ds_continue : DS Γ (.Continue pos) (fun sl cs => .ct sl cs) := ⟨fun _ => tCont, fun X W _ _ => ps_continue, fun W F ρ sl cs σ H D r h => h σ H ρ r fun _ _ z => z⟩
/-- return -/
def sRet (f : SO) : SS := fun sl cs => (f sl cs).go sl fun s cs1 => .rt s cs1
theorem ds_ret {f : SO} (h : DO Γ e f) : DS Γ (.Return (some e) pos) (sRet f) := by
  obtain ⟨t, p, q⟩ := h.ex
  refine ⟨fun W => tRet (t W), fun X W ok gd => ps_ret (p X W ok gd), fun W F ρ sl cs σ H D r h => ?_⟩
  refine q W F ρ sl cs σ H _ r (PostG.mono (PostS.go h r) fun u H1 ⟨x, cs1, ρ1, r1, g1, a1, h1⟩ => ?_)
  exact h1 u H1 ρ1 r1.out (relF_of r1 a1)
def sRetN : SS := fun _ cs => .rt (.fr (.d .none)) cs
theorem ds_retN : DS Γ (.Return none pos) sRetN := ⟨fun _ => tRetN, fun X W _ _ => ps_retN, fun W F ρ sl cs σ H D r h => h .non H ρ r.out (at_non (K := Γ.K) (G := hide (fun a => F.hx a ∨ a ∈ ρ) H))⟩
/-- return x, x a slot that owns -/
def sRetV (i : Nat) : SS := fun sl cs => match sl[i]? with
  | some (some s) => .rt s cs
  | _ => .bad
theorem ds_retV (i : Nat) {x : Str} {p : Pos} (hN : Γ.N[i]? = some x := by rfl) (hv : Vis Γ.sc x := by first | exact Or.inl rfl | exact Or.inr (Or.inl rfl) | exact Or.inr (Or.inr rfl)) (hd : (x == ("__debug__" : Str)) = false := by decide)
    (hcd : (x == ("__classdict__" : Str)) = false := by decide) : DS Γ (.Return (some (.Name x p)) pos) (sRetV i) := by
  refine ⟨fun _ => tRet (tVar i), fun X W ok _ => ps_ret (pe_var (by rw [ok.N]; exact hN) (by rw [ok.sc]; exact hv) hd hcd), fun W F ρ sl cs σ H D r h => ?_⟩
  unfold sRetV at h
  split at h
  · rename_i s e
    obtain ⟨u, e2, q⟩ := r.slot i _ e
    refine ⟨u, e2, h u H ρ r.out ?_⟩
    cases s with
    | fr v => exact AtV.mono (hide_sub fun a o hn e => ⟨fun z => hn (z.imp id Or.inl), e⟩) (fun _ _ z => z) q
    | ow x =>
      obtain ⟨a, rfl, q⟩ := q
      have ow : Own sl σ a := ⟨i, x, e, e2⟩
      obtain ⟨f1, f2⟩ := r.fr a ow
      have hs : Sub (vis F ρ sl σ H) (hide (fun b => b = a ∨ F.hx b ∨ b ∈ ρ) H) := hide_sub fun b o hn e => ⟨fun z => z.elim (fun z => hn (.inr (.inr (by rw [z]; exact ow)))) fun z => hn (z.imp id Or.inl), e⟩
      exact ⟨a, rfl, f1, f2, q.mono hs rfl, r.cells.len, fun n c b e1 e2 => (r.cells.at_ n c b e1 e2).mono hs (fun _ _ z => z) rfl⟩
  · exact h.elim
/-- an expression whose value is dropped -/
def sExpr (f : SE) : SS := fun sl cs => (f sl cs).go sl fun _ cs1 => .nx sl cs1
theorem ds_expr {f : SE} (h : DE Γ e f) (hs : ∀ env, swapsWith e none pos.line env = pure false := by intro _; rfl) : DS Γ (.Expr e pos) (sExpr f) := by
  obtain ⟨t, p, q⟩ := h.ex
  refine ⟨fun W => tDrop (t W), fun X W ok gd => ps_expr (p X W ok gd) (hs _), fun W F ρ sl cs σ H D r h => ?_⟩
  refine q W F ρ sl cs σ H _ r (PostG.mono (PostS.go h r) fun u H1 ⟨x, cs1, ρ1, r1, g1, a1, h1⟩ => ?_)
  exact h1 σ H1 ρ1 r1 (g1.vis r)
/-- x = e -/
def sSet (i : Nat) (f : SO) : SS := fun sl cs => (f sl cs).go sl fun s cs1 => .nx (sl.set i (some s)) cs1
theorem set_post {Hs : Hp} {i : Nat} {s : Slot} {u : V} (r : Rep Γ.K Γ.mg F ρ sl cs σ H) (r1 : Rep Γ.K Γ.mg F ρ1 sl cs1 σ H1) (g1 : Grow ρ H ρ1 H1) (a1 : relO Γ F sl σ H ρ1 H1 cs1 s u) (h : PostS Γ F ρ sl σ H W (.nx (sl.set i (some s)) cs1) D) : D.nx (σ.set i (some u)) H1 := by
  cases s with
  | fr v =>
    obtain ⟨r2, hs⟩ := r1.setFr (i := i) a1
    exact h _ _ ρ1 r2 fun a o e => hs a o (g1.vis r a o e)
  | ow x =>
    obtain ⟨p, rfl, hp, r2, o⟩ := a1
    obtain ⟨r3, hs⟩ := r2.setOw (i := i) o
    have g2 : Grow ρ H ρ1 (hide (· = p) H1) := ⟨fun a u e hn => by rw [hide_ne (ne_of_none e hp)]; exact g1.keep a u e hn, g1.ext⟩
    exact h _ _ ρ1 r3 fun a o e => hs a o (g2.vis r a o e)
theorem ds_set (i : Nat) {x : Str} {p : Pos} {f : SO} (h : DO Γ e f) (hnd : Γ.N.Nodup) (hN : Γ.N[i]? = some x := by rfl) (hx : Loc Γ.sc x := by first | exact Or.inl rfl | exact Or.inr rfl) (hst : Γ.st x = true := by rfl) (hs : ∀ env, swapsWith e (some (.Name x p)) pos.line env = pure false := by intro _; rfl) :
    DS Γ (.Assign [.Name x p] e pos) (sSet i f) := by
  obtain ⟨t, p1, q⟩ := h.ex
  refine ⟨fun W => tAsg (t W) (gName i), fun X W ok gd => ps_set (by rw [ok.N]; exact hnd) (by rw [ok.N]; exact hN) (by rw [ok.sc]; exact hx) (p1 X W ok gd) (hs _) (by rw [ok.sc]; exact ok.fn x hst), fun W F ρ sl cs σ H D r h => ?_⟩
  refine q W F ρ sl cs σ H _ r (PostG.mono (PostS.go h r) fun u H1 ⟨x, cs1, ρ1, r1, g1, a1, h1⟩ => ?_)
  exact set_post (Hs := H) r r1 g1 a1 h1
/-- if -/
def sIf (t : ST) (f g : SS) : SS := fun sl cs => (t sl cs).go sl fun k cs1 => if k = true then f sl cs1 else g sl cs1
theorem ds_if {c : Expr} {a b : List Stmt} {tt : ST} (hc : DT Γ c tt) (ha : DSs Γ a f) (hb : DSs Γ b g) : DS Γ (.If c a b pos) (sIf tt f g) := by
  obtain ⟨t, p, q⟩ := hc.ex
  obtain ⟨u1, p1, q1⟩ := ha.ex
  obtain ⟨u2, p2, q2⟩ := hb.ex
  refine ⟨fun W => tIfS (t W) (u1 W) (u2 W), fun X W ok gd => ps_if (p X W ok gd) (p1 X W ok gd) (p2 X W ok gd), fun W F ρ sl cs σ H D r h => ?_⟩
  refine q W F ρ sl cs σ H _ r (PostG.mono (PostS.go h r) fun k H1 ⟨x, cs1, ρ1, r1, g1, a1, h1⟩ => ?_)
  have e : x = k := a1
  subst e
  have h1 := h1.weak (g1.vis r)
  cases x with
  | true => rw [if_pos rfl] at h1 ⊢; exact q1 W F ρ1 sl cs1 σ H1 D r1 h1
  | false => rw [if_neg (by decide)] at h1 ⊢; exact q2 W F ρ1 sl cs1 σ H1 D r1 h1
/-- a slot that owns is frozen: nothing is done -/
def sFz (i : Nat) : SS := fun sl cs => match sl[i]? with
  | some (some s) => .nx (sl.set i (some (.fr (fz s)))) cs
  | _ => .bad
theorem Rep.freeze {i : Nat} {x : PyData} (r : Rep Γ.K Γ.mg F ρ sl cs σ H) (e : sl[i]? = some (some (.ow x))) : Rep Γ.K Γ.mg F ρ (sl.set i (some (.fr (.d x)))) cs σ H ∧ Sub (vis F ρ sl σ H) (vis F ρ (sl.set i (some (.fr (.d x)))) σ H) := by
  obtain ⟨u, e2, a, rfl, q⟩ := r.slot i _ e
  have hσ : σ.set i (some (.ref a)) = σ := by
    obtain ⟨hl, e3⟩ := List.getElem?_eq_some_iff.mp e2
    apply List.ext_getElem?
    intro j
    by_cases hj : i = j
    · subst hj
      rw [List.getElem?_set_self hl, e2]
    · rw [List.getElem?_set_ne hj]
  have ow : Own sl σ a := ⟨i, x, e, e2⟩
  have back : ∀ b, Own (sl.set i (some (.fr (.d x)))) σ b → Own sl σ b := fun b z => own_setFr (v := .d x) (u := some (.ref a)) (by rw [hσ]; exact z)
  have hs : Sub (vis F ρ sl σ H) (vis F ρ (sl.set i (some (.fr (.d x)))) σ H) := hide_sub fun b o hn e => ⟨fun z => hn (z.imp id (Or.imp id (back b))), e⟩
  have nh : ¬ Hid F ρ (sl.set i (some (.fr (.d x)))) σ a := fun z => by
    obtain ⟨f1, f2⟩ := r.fr a ow
    rcases z with z | z | ⟨j, y, z1, z2⟩
    · obtain ⟨o, eo⟩ := F.hxt a z
      rw [f1] at eo; cases eo
    · exact f2 z
    · rcases set_get z1 with ⟨_, _, w⟩ | ⟨hj, z1⟩
      · cases w
      · exact hj (r.inj j i y x a z1 e z2 e2)
  refine ⟨⟨by simpa using r.len, ⟨r.cells.len, fun n c b e1 e2 => (r.cells.at_ n c b e1 e2).mono hs (fun _ _ z => z) rfl⟩, r.nd, r.pre, fun b z => r.fr b (back b z), fun j k y y' b e1 e2 e3 e4 => ?_, r.keep, fun j s e1 => ?_⟩, hs⟩
  · rcases set_get e1 with ⟨_, _, z⟩ | ⟨hj, e1⟩
    · cases z
    · rcases set_get e2 with ⟨_, _, z⟩ | ⟨hk, e2⟩
      · cases z
      · exact r.inj j k y y' b e1 e2 e3 e4
  · rcases set_get e1 with ⟨rfl, _, z⟩ | ⟨hj, e1⟩
    · cases z
      refine ⟨.ref a, e2, ?_⟩
      show AtD Γ.K _ x (.ref a)
      cases x with
      | list xs =>
        obtain ⟨vs, e, l⟩ := q
        exact at_list_iff.mpr ⟨a, vs, rfl, hide_iff.mpr ⟨nh, e⟩, AtL.mono hs _ _ l⟩
      | dict kvs =>
        rcases q with ⟨kv, e, l⟩ | ⟨kv, ne, e, l⟩
        · exact at_dict_iff.mpr ⟨a, rfl, .inl ⟨kv, hide_iff.mpr ⟨nh, e⟩, AtP.mono hs _ _ l⟩⟩
        · exact at_dict_iff.mpr ⟨a, rfl, .inr ⟨kv, ne, hide_iff.mpr ⟨nh, e⟩, AtQ.mono hs _ _ l⟩⟩
      | _ => exact q.elim
    · obtain ⟨w, e3, q⟩ := r.slot j s e1
      refine ⟨w, e3, ?_⟩
      cases s with
      | fr y => exact AtV.mono hs (fun _ _ z => z) q
      | ow y => obtain ⟨b, rfl, q⟩ := q; exact ⟨b, rfl, q.mono hs rfl⟩
theorem set_self {i : Nat} {s : Slot} (e : sl[i]? = some (some s)) : sl.set i (some s) = sl := by
  obtain ⟨hl, e3⟩ := List.getElem?_eq_some_iff.mp e
  apply List.ext_getElem?
  intro j
  by_cases hj : i = j
  · subst hj
    rw [List.getElem?_set_self hl, e]
  · rw [List.getElem?_set_ne hj]
/-- ahead of statements -/
theorem dss_fz (i : Nat) {sts : List Stmt} (h : DSs Γ sts f) : DSs Γ sts (sSeq (sFz i) f) := by
  obtain ⟨t, p, q⟩ := h.ex
  refine ⟨t, p, fun W F ρ sl cs σ H D r h => ?_⟩
  unfold sSeq sFz at h
  split at h
  · rename_i s e
    rw [RS.seq_nx] at h
    cases s with
    | fr v =>
      rw [show (some (Slot.fr (fz (.fr v))) : Option Slot) = some (.fr v) from rfl, set_self e] at h
      exact q W F ρ sl cs σ H D r h
    | ow x =>
      obtain ⟨r2, hs⟩ := r.freeze e
      exact q W F ρ _ cs σ H D r2 (h.weak hs)
  · exact h.elim
end
end DL
end
section
set_option Elab.async false
set_option linter.all false
set_option maxRecDepth 100000
set_option autoImplicit false
namespace DL
open PySem PySem.Spec PyProof.Rows L2
/-! ### a, b = a list -/
section
variable {prog : Program} {w : World} {A : Around} {E : Value → Shared → Prop} {s : Shared}
theorem draw_list {it t : Addr} {items : Array Value} (hne : t ≠ it) : ∀ (n i : Nat) (s : Shared) (Q : List Value → Shared → Prop), s.heap.IsListIter it t i → s.heap.IsList t items → i + n ≤ items.size →
    (∀ h' : Heap, h'.IsListIter it t (i + n) → Heap.SameBut it s.heap h' → Q ((items.toList.drop i).take n) { s with heap := h' }) → wpAny (model prog w) A (draw (.ref it) n) Q E s
  | 0, i, s, Q, hit, _, _, hQ => by
    show wpAny _ _ (pure []) Q E s
    exact wpAny_pure (by simpa using hQ s.heap hit (Heap.SameBut.refl ..))
  | n + 1, i, s, Q, hit, ht, hle, hQ => by
    have hlt : i < items.size := by omega
    show wpAny _ _ (pyNext (.ref it) >>= _) Q E s
    refine wpAny_bind (wpAny_pyNext_list_item hit ht (x := items[i]) (by simp [hlt]) fun h₁ hit₁ hs₁ => ?_)
    refine wpAny_bind (wpAny_holding (draw_list hne n (i + 1) _ _ hit₁ (ht.extBut hs₁.extBut hne) (by omega) fun h₂ hit₂ hs₂ => wpAny_pure ?_))
    have hd : items.toList.drop i = items[i] :: items.toList.drop (i + 1) := by simp [List.drop_eq_getElem_cons, hlt]
    have := hQ h₂ (by rw [show i + (n + 1) = i + 1 + n by omega]; exact hit₂) (hs₁.trans hs₂)
    rw [hd, List.take_succ_cons] at this
    exact this
theorem unpackItems_list {t : Addr} {items : Array Value} {Q : List Value → Shared → Prop} (hh : A.handled = none) (ht : s.heap.IsList t items)
    (hQ : ∀ h', Heap.ExtBut s.heap.objs.size s.heap h' → Q items.toList { s with heap := h' }) : wpAny (model prog w) A (unpackItems (.ref t) items.size none) Q E s := by
  have hlt : t ≠ s.heap.objs.size := by obtain ⟨o, ho, _⟩ := ht; exact Nat.ne_of_lt (Heap.lt_size ho)
  unfold unpackItems
  refine wpAny_bind ?_
  unfold notIterableAtAll
  refine wpAny_bind (wpAny_specialOf ht.typeIs slot_list_iter.lookup ?_)
  refine wpAny_pure ?_
  simp only [Bool.false_eq_true, if_false]
  refine wpAny_bind (wpAny_holding (wpAny_pyIter_list ht ?_))
  refine wpAny_bind (wpAny_holding (draw_list hlt items.size 0 _ _ ⟨_, Heap.get?_push_size _ rfl, rfl, rfl⟩ (ht.push _) (by omega) fun h₁ hit₁ hs₁ => ?_))
  have hall : List.take items.size (List.drop 0 items.toList) = items.toList := by
    rw [List.drop_zero]; exact List.take_of_length_le (by simp)
  rw [hall]
  rw [if_neg (by simp)]
  have ht₁ : Heap.IsList h₁ t items := (ht.push _).extBut hs₁.extBut hlt
  refine wpAny_bind (wpAny_holding (wpAny_pyNext_list_end hh hit₁ ht₁ (by simp) fun h₂ he₂ => ?_))
  simp only [Option.isSome_none, Bool.false_eq_true, if_false]
  refine wpAny_pure (hQ h₂ fun b o hb e => he₂ b o hb (hs₁.extBut b o hb (Heap.get?_push_of_some _ e)))
theorem unpack_list {t : Addr} {items : Array Value} {targets : List (Bool × (Value → Sem Unit))} {Q : Unit → Shared → Prop} (hh : A.handled = none) (ht : s.heap.IsList t items)
    (hn : targets.length = items.size) (hstar : targets.findIdx? (·.1) = none)
    (h : ∀ h', Heap.ExtBut s.heap.objs.size s.heap h' → wpAny (model prog w) A (assignInOrder (targets.map (·.2)) items.toList) Q E { s with heap := h' }) :
    wpAny (model prog w) A (unpack (.ref t) targets) Q E s := by
  unfold unpack
  rw [hn, hstar]
  exact wpAny_bind (wpAny_holding (unpackItems_list hh ht h))
theorem assign_Tuple_list {env : Env} {elts : List Expr} {x1} {pos : Pos} {t : Addr} {items : Array Value} {Q : Unit → Shared → Prop} (hh : A.handled = none) (ht : s.heap.IsList t items)
    (hn : (assignEach elts env).length = items.size) (hstar : (assignEach elts env).findIdx? (·.1) = none)
    (h : ∀ h', Heap.ExtBut s.heap.objs.size s.heap h' → wpAny (model prog w) A (assignInOrder ((assignEach elts env).map (·.2)) items.toList) Q E { s with heap := h' }) :
    wpAny (model prog w) A (assign (.Tuple elts x1 pos) env (.ref t)) Q E s := by
  rw [assign_Tuple]
  exact wpAny_bind (wpAny_standAt (unpack_list hh ht hn hstar h))
end
section
variable {X : Cx} {pos : Pos}
def gLs (K : PySem.W.Frag) (n : Nat) (t : TGs) : TG := fun v σ H Q => ∃ a xs, v = .ref a ∧ SqL K H a xs ∧ xs.length = n ∧ t xs σ H Q
theorem pg_lst {es : List Expr} {k : Nat} {t : TGs} {n : Nat} (hc : X.calm = true) (h : PGs X es t)
    (hn : (assignEach es X.env).length = n := by rfl) (hst : (assignEach es X.env).findIdx? (·.1) = none := by rfl) : PG X (.Tuple es k pos) (gLs X.K n t) := by
  refine ⟨fun pins s σ H v u Q I r hw => ?_⟩
  obtain ⟨a, xs, e1, hq, hl, hw⟩ := hw
  subst e1
  cases r
  obtain ⟨its, rv, ht, hz⟩ := I.list hq
  refine assign_Tuple_list (I.ok.hd hc) ht.isList (by simp [hn, ← hl, rv.length]) hst fun h' hx => ?_
  have I1 : Inv X pins σ H { s with heap := h' } := I.kept (t' := s.toks) fun b o e => hx b o (Nat.ne_of_lt (Heap.lt_size e)) e
  exact h.run pins _ σ H xs _ Q I1 (by simpa using rv) hw
theorem pg_or {tg : Expr} {t u : TG} (h : PG X tg t) (k : PG X tg u) : PG X tg fun v σ H Q => t v σ H Q ∨ u v σ H Q :=
  ⟨fun pins s σ H v w Q I r hw => hw.elim (h.run pins s σ H v w Q I r) (k.run pins s σ H v w Q I r)⟩
end
end DL
end
section
set_option Elab.async false
set_option linter.all false
set_option maxRecDepth 100000
set_option autoImplicit false
namespace DL
open PySem PySem.Spec PyProof.Rows L2

/-! ### targets -/
/-- what a target does to the slots: only those of ix change -/
structure DG (Γ : Cf) (tg : Expr) (ix : List Nat) (g : Val → Sl → Option Sl) : Prop where
  ex : ∃ t : TG, (∀ X, Γ.Ok X → PG X tg t) ∧ ∀ F ρ sl cs σ H x u Q sl', Rep Γ.K Γ.mg F ρ sl cs σ H → AtV Γ.K Γ.mg ρ (vis F ρ sl σ H) x u → g x sl = some sl' →
    (∀ σ', Rep Γ.K Γ.mg F ρ sl' cs σ' H → Sub (vis F ρ sl σ H) (vis F ρ sl' σ' H) → (∀ vs : List Nat, (∀ i ∈ ix, i ∈ vs) → wipe σ' vs = wipe σ vs) → Q σ' H) → t u σ H Q
def gNm (i : Nat) (x : Val) (sl : Sl) : Option Sl := some (sl.set i (some (.fr x)))
theorem wipe_set {σ : St} {u : Option V} : ∀ {vs : List Nat} {i : Nat}, i ∈ vs → wipe (σ.set i u) vs = wipe σ vs
  | [], _, h => by simp at h
  | v :: vs, i, h => by
    unfold wipe
    by_cases e : i ∈ vs
    · rw [wipe_set e]
    · have hv : i = v := by
        rcases List.mem_cons.mp h with z | z
        · exact z
        · exact absurd z e
      subst hv
      have hcomm : ∀ (ws : List Nat), i ∉ ws → wipe (σ.set i u) ws = (wipe σ ws).set i u := by
        intro ws
        induction ws with
        | nil => intro _; rfl
        | cons w ws ih =>
          intro hw
          unfold wipe
          rw [ih fun z => hw (List.mem_cons_of_mem _ z), List.set_comm _ _ (fun z => hw (by rw [z]; exact List.mem_cons_self))]
      rw [hcomm vs e, List.set_set]
section
variable {Γ : Cf} {pos : Pos}
theorem dg_name (i : Nat) {x : Str} (hnd : Γ.N.Nodup) (hN : Γ.N[i]? = some x := by rfl) (hx : Loc Γ.sc x := by first | exact Or.inl rfl | exact Or.inr rfl) (hst : Γ.st x = true := by rfl) : DG Γ (.Name x pos) [i] (gNm i) := by
  refine ⟨gName i, fun X ok => pg_name (by rw [ok.N]; exact hnd) (by rw [ok.N]; exact hN) (by rw [ok.sc]; exact hx) (by rw [ok.sc]; exact ok.fn x hst), fun F ρ sl cs σ H x u Q sl' r a e h => ?_⟩
  cases e
  obtain ⟨r2, hs⟩ := r.setFr (i := i) a
  exact h _ r2 hs fun vs hv => wipe_set (hv i (by simp))
/-- several -/
structure DGs (Γ : Cf) (tgs : List Expr) (ix : List Nat) (g : List PyData → Sl → Option Sl) : Prop where
  ex : ∃ t : TGs, (∀ X, Γ.Ok X → PGs X tgs t) ∧ ∀ F ρ sl cs σ H xs us Q sl', Rep Γ.K Γ.mg F ρ sl cs σ H → AtL Γ.K (vis F ρ sl σ H) xs us → g xs sl = some sl' →
    (∀ σ', Rep Γ.K Γ.mg F ρ sl' cs σ' H → Sub (vis F ρ sl σ H) (vis F ρ sl' σ' H) → (∀ vs : List Nat, (∀ i ∈ ix, i ∈ vs) → wipe σ' vs = wipe σ vs) → Q σ' H) → t us σ H Q
def gsNil (xs : List PyData) (sl : Sl) : Option Sl := match xs with
  | [] => some sl
  | _ => none
def gsCons (g : Val → Sl → Option Sl) (gs : List PyData → Sl → Option Sl) (xs : List PyData) (sl : Sl) : Option Sl := match xs with
  | x :: r => (g (.d x) sl).bind (gs r)
  | [] => none
theorem dgs_nil : DGs Γ [] [] gsNil := by
  refine ⟨gNil, fun X _ => pgs_nil, fun F ρ sl cs σ H xs us Q sl' r a e h => ?_⟩
  unfold gsNil at e
  split at e
  · cases e
    simp only [AtL] at a
    exact ⟨a, h σ r (fun _ _ z => z) fun _ _ => rfl⟩
  · cases e
theorem dgs_cons {e : Expr} {es : List Expr} {ix ixs : List Nat} {g : Val → Sl → Option Sl} {gs : List PyData → Sl → Option Sl} (h1 : DG Γ e ix g) (h2 : DGs Γ es ixs gs) (hs : ∀ env, (assignEach (e :: es) env).map (·.2) = assign e env :: (assignEach es env).map (·.2) := by intro _; rfl) :
    DGs Γ (e :: es) (ix ++ ixs) (gsCons g gs) := by
  obtain ⟨t, p, q⟩ := h1.ex
  obtain ⟨u, p2, q2⟩ := h2.ex
  refine ⟨gCons t u, fun X ok => pgs_cons (p X ok) (p2 X ok) (hs _), fun F ρ sl cs σ H xs us Q sl' r a e h => ?_⟩
  unfold gsCons at e
  split at e
  · rename_i x r'
    simp only [AtL] at a
    obtain ⟨v, t', rfl, a1, a2⟩ := a
    cases e1 : g (.d x) sl with
    | none => rw [e1] at e; cases e
    | some sl1 =>
      rw [e1] at e
      refine ⟨v, t', rfl, q F ρ sl cs σ H (.d x) v _ sl1 r a1 e1 fun σ1 r1 s1 w1 => ?_⟩
      refine q2 F ρ sl1 cs σ1 H r' t' Q sl' r1 (AtL.mono s1 _ _ a2) e fun σ2 r2 s2 w2 => h σ2 r2 (fun a o z => s2 a o (s1 a o z)) fun vs hv => ?_
      rw [w2 vs fun i hi => hv i (List.mem_append_right _ hi), w1 vs fun i hi => hv i (List.mem_append_left _ hi)]
  · cases e
def gTp (gs : List PyData → Sl → Option Sl) (x : Val) (sl : Sl) : Option Sl := match x with
  | .d (.tuple xs) => gs xs sl
  | .d (.list xs) => gs xs sl
  | _ => none
theorem dg_tup {es : List Expr} {k n : Nat} {ix : List Nat} {gs : List PyData → Sl → Option Sl} (hcm : Γ.cm = true) (h : DGs Γ es ix gs) (hl : ∀ xs sl sl', gs xs sl = some sl' → xs.length = n) (hn : ∀ env, (assignEach es env).length = n := by intro _; rfl)
    (hst : ∀ env, (assignEach es env).findIdx? (·.1) = none := by intro _; rfl) : DG Γ (.Tuple es k pos) ix (gTp gs) := by
  obtain ⟨t, p, q⟩ := h.ex
  refine ⟨fun v σ H Q => gTup Γ.K n t v σ H Q ∨ gLs Γ.K n t v σ H Q, fun X ok => by rw [← ok.K]; exact pg_or (pg_tup (ok.cm hcm).1 (p X ok) (hn _) (hst _)) (pg_lst (ok.cm hcm).1 (p X ok) (hn _) (hst _)), fun F ρ sl cs σ H x u Q sl' r a e h => ?_⟩
  unfold gTp at e
  split at e
  · rename_i xs
    obtain ⟨b, vs, rfl, s, l⟩ := at_tup_iff.mp (show AtD Γ.K (vis F ρ sl σ H) (.tuple xs) u from a)
    exact .inl ⟨b, vs, rfl, sqT_sub vis_le s, by rw [← l.length]; exact hl _ _ _ e, q F ρ sl cs σ H xs vs Q sl' r l e h⟩
  · rename_i xs
    obtain ⟨b, vs, rfl, s, l⟩ := at_list_iff.mp (show AtD Γ.K (vis F ρ sl σ H) (.list xs) u from a)
    exact .inr ⟨b, vs, rfl, SqL.of (vis_le _ _ s), by rw [← l.length]; exact hl _ _ _ e, q F ρ sl cs σ H xs vs Q sl' r l e h⟩
  · cases e
theorem gs_len0 : ∀ xs sl sl', gsNil xs sl = some sl' → xs.length = 0 := fun xs sl sl' e => by
  unfold gsNil at e
  split at e
  · rfl
  · cases e
theorem gs_lenS {n : Nat} {g : Val → Sl → Option Sl} {gs : List PyData → Sl → Option Sl} (h : ∀ xs sl sl', gs xs sl = some sl' → xs.length = n) : ∀ xs sl sl', gsCons g gs xs sl = some sl' → xs.length = n + 1 := fun xs sl sl' e => by
  unfold gsCons at e
  split at e
  · rename_i x r
    cases e1 : g (.d x) sl with
    | none => rw [e1] at e; cases e
    | some sl1 =>
      rw [e1] at e
      rw [List.length_cons, h _ _ _ e]
  · cases e
end

/-! ### what is walked -/
/-- J yields these items as long as what is seen stays seen -/
def relI (Γ : Cf) (F : Fx) (sl : Sl) (σ : St) (ρ : List Addr) (H : Hp) (_ : Cs) (xs : List Val) (J : It) : Prop :=
  ∀ (i : Nat) (F1 : Fx) (ρ1 : List Addr) (sl1 : Sl) (cs1 : Cs) (σ1 : St) (H1 H2 : Hp) (D : Addr → Prop), Rep Γ.K Γ.mg F1 ρ1 sl1 cs1 σ1 H1 → H1 = hide D H2 → (∀ a, D a → ∃ o, H2 a = some o) → Sub (vis F ρ sl σ H) (vis F1 ρ1 sl1 σ1 H1) →
    (xs.length ≤ i → J.stop i H2) ∧ ∀ x, xs[i]? = some x → J.go i H2 ∧ ∀ u H3, J.yld i H2 u H3 → ∃ H4, H4 = hide D H3 ∧ (∀ a, D a → H3 a = H2 a) ∧ Rep Γ.K Γ.mg F1 ρ1 sl1 cs1 σ1 H4 ∧ Grow ρ1 H1 ρ1 H4 ∧ AtV Γ.K Γ.mg ρ1 (vis F1 ρ1 sl1 σ1 H4) x u
structure DP (Γ : Cf) (tg iter : Expr) (f : SA) : Prop where
  ex : ∃ t : WX → TI, (∀ X W, Γ.Ok X → Good X W → PI X tg iter (t W)) ∧ ∀ W F ρ sl cs σ H R, Rep Γ.K Γ.mg F ρ sl cs σ H → PostG Γ F ρ sl σ H W (relI Γ F sl σ) (f sl cs) R → t W σ H R
section
variable {Γ : Cf} {pos p : Pos} {e e2 tg : Expr} {f g : SE}
theorem PI.or {X : Cx} {tg iter : Expr} {w1 w2 : TI} (h1 : PI X tg iter w1) (h2 : PI X tg iter w2) : PI X tg iter (fun σ H R => w1 σ H R ∨ w2 σ H R) :=
  ⟨fun pins s σ H R I h => h.elim (h1.run pins s σ H R I) (h2.run pins s σ H R I)⟩
def seqV (x : Val) (cs : Cs) : R (List Val) := match x with
  | .d (.list xs) => .ok (xs.map Val.d) cs
  | .d (.tuple xs) => .ok (xs.map Val.d) cs
  | .lk xs => .ok (xs.map Val.d) cs
  | .d (.str z) => .ok (z.cps.toList.map fun c => .d (.str ⟨#[c]⟩)) cs
  | _ => .bad
def pSeq (f : SE) : SA := fun sl cs => (f sl cs).bind seqV
theorem get_map {xs : List PyData} {i : Nat} {x : Val} (h : (xs.map Val.d)[i]? = some x) : ∃ y, x = .d y ∧ xs[i]? = some y := by
  rw [List.getElem?_map] at h
  cases e : xs[i]? with
  | none => rw [e] at h; cases h
  | some y => rw [e] at h; cases h; exact ⟨y, rfl, rfl⟩
theorem sqL_inj {K : PySem.W.Frag} {H : Hp} {a : Addr} {xs : List V} (h : H a = some (.lst xs)) {ys : List V} (h2 : Rd H a (.lst ys)) : xs = ys := by
  rcases h2 with q | ⟨o, q⟩
  · rw [h] at q; cases q; rfl
  · rw [h] at q; cases q
/-- the heap behind a turn that changes nothing -/
theorem rel_still {K : PySem.W.Frag} {mg : Str → Option Value} {F1 : Fx} {ρ1 : List Addr} {sl1 : Sl} {cs1 : Cs} {σ1 : St} {H1 H2 : Hp} {D : Addr → Prop} {x : Val} {u : V} (r : Rep K mg F1 ρ1 sl1 cs1 σ1 H1) (e : H1 = hide D H2) (h : AtV K mg ρ1 (vis F1 ρ1 sl1 σ1 H1) x u) :
    ∃ H4, H4 = hide D H2 ∧ (∀ a, D a → H2 a = H2 a) ∧ Rep K mg F1 ρ1 sl1 cs1 σ1 H4 ∧ Grow ρ1 H1 ρ1 H4 ∧ AtV K mg ρ1 (vis F1 ρ1 sl1 σ1 H4) x u := ⟨H1, e, fun _ _ => rfl, r, Grow.refl, h⟩
theorem hide_le' {D : Addr → Prop} {H1 H2 : Hp} (e : H1 = hide D H2) : Sub H1 H2 := by rw [e]; exact hide_le
theorem dp_seq (h : DE Γ e f) : DP Γ tg e (pSeq f) := by
  obtain ⟨t, p, q⟩ := h.ex
  refine ⟨fun W σ H R => iList Γ.K (t W) σ H R ∨ iTup Γ.K (t W) σ H R ∨ iStr (t W) σ H R, fun X W ok gd => ?_, fun W F ρ sl cs σ H R rp h => ?_⟩
  · rw [← ok.K]
    exact PI.or (pi_list (p X W ok gd)) (PI.or (pi_tup (p X W ok gd)) (pi_str (p X W ok gd)))
  · unfold pSeq at h
    cases ef : f sl cs with
    | bad => rw [ef] at h; exact h.elim
    | ex x cs1 =>
      rw [ef] at h
      exact .inl (q W F ρ sl cs σ H _ rp (by rw [ef]; exact h))
    | ok x cs1 =>
      rw [ef, DL.R.bind_ok] at h
      have go : ∀ {xs : List PyData} {Q : VK}, (∀ u H1 ρ1, Rep Γ.K Γ.mg F ρ1 sl cs1 σ H1 → Grow ρ H ρ1 H1 → AtT Γ.K Γ.mg ρ1 H1 (vis F ρ1 sl σ H1) x u → Q u H1) → t W σ H Q := fun {xs Q} k => q W F ρ sl cs σ H Q rp (by rw [ef]; exact fun u H1 ρ1 r1 g1 a1 => k u H1 ρ1 r1 g1 a1)
      have list : ∀ {xs : List PyData} {H1 : Hp} {ρ1 : List Addr} {a : Addr} {vs : List V}, SqL Γ.K (vis F ρ1 sl σ H1) a vs → AtL Γ.K (vis F ρ1 sl σ H1) xs vs → relI Γ F sl σ ρ1 H1 cs1 (xs.map Val.d) (Itl Γ.K a) := by
        intro xs H1 ρ1 a vs s l i F1 ρ2 sl1 cs2 σ1 H2 H3 D r1 eD hD sub
        have s2 : SqL Γ.K H3 a vs := sqL_sub (hide_le' eD) (sqL_sub vis_le (sqL_sub sub s))
        refine ⟨fun hi => ⟨vs, s2, by rw [← l.length]; simpa using hi⟩, fun y hy => ?_⟩
        obtain ⟨d, rfl, ed⟩ := get_map hy
        obtain ⟨v, ev, av⟩ := l.get ed
        refine ⟨⟨vs, v, s2, ev⟩, fun u H4 hu => ?_⟩
        obtain ⟨rfl, hu⟩ := hu
        have e2 := hu vs s2
        rw [ev] at e2
        cases e2
        exact rel_still (x := .d d) r1 eD (AtD.mono sub d v av)
      unfold seqV at h
      split at h
      · rename_i xs
        refine .inl (go (xs := xs) fun u H1 ρ1 r1 g1 a1 => ?_)
        obtain ⟨a, vs, rfl, s, l⟩ := at_list_iff.mp a1.d
        exact ⟨a, rfl, ⟨vs, SqL.of (vis_le _ _ s)⟩, h _ H1 ρ1 r1 g1 (list (SqL.of s) l)⟩
      · rename_i xs
        refine .inr (.inl (go (xs := xs) fun u H1 ρ1 r1 g1 a1 => ?_))
        obtain ⟨a, vs, rfl, s, l⟩ := AtT.tup a1
        refine ⟨a, rfl, ⟨vs, sqT_sub vis_le s⟩, h _ H1 ρ1 r1 g1 ?_⟩
        intro i F1 ρ2 sl1 cs2 σ1 H2 H3 D r2 eD hD sub
        have s2 : SqT Γ.K H3 a vs := sqT_sub (hide_le' eD) (sqT_sub vis_le (sqT_sub sub s))
        refine ⟨fun hi => ⟨vs, s2, by rw [← l.length]; simpa using hi⟩, fun y hy => ?_⟩
        obtain ⟨d, rfl, ed⟩ := get_map hy
        obtain ⟨v, ev, av⟩ := l.get ed
        refine ⟨⟨vs, v, s2, ev⟩, fun u H4 hu => ?_⟩
        obtain ⟨rfl, hu⟩ := hu
        have e2 := hu vs s2
        rw [ev] at e2
        cases e2
        exact rel_still (x := .d d) r2 eD (AtD.mono sub d v av)
      · rename_i xs
        refine .inl (go (xs := xs) fun u H1 ρ1 r1 g1 a1 => ?_)
        obtain ⟨a, vs, rfl, s, l⟩ : ∃ p vs, u = .ref p ∧ SqL Γ.K (vis F ρ1 sl σ H1) p vs ∧ AtL Γ.K (vis F ρ1 sl σ H1) xs vs := a1
        exact ⟨a, rfl, ⟨vs, sqL_sub vis_le s⟩, h _ H1 ρ1 r1 g1 (list s l)⟩
      · rename_i z
        refine .inr (.inr (go (xs := []) fun u H1 ρ1 r1 g1 a1 => ?_))
        refine ⟨z, AtT.str a1, h _ H1 ρ1 r1 g1 ?_⟩
        intro i F1 ρ2 sl1 cs2 σ1 H2 H3 D r2 eD hD sub
        refine ⟨fun hi => (by simpa using hi : z.cps.size ≤ i), fun y hy => ?_⟩
        rw [List.getElem?_map] at hy
        cases ec : z.cps.toList[i]? with
        | none => rw [ec] at hy; cases hy
        | some c =>
          rw [ec] at hy
          cases hy
          have ec' : z.cps[i]? = some c := by rw [← Array.getElem?_toList]; exact ec
          refine ⟨(Array.getElem?_eq_some_iff.mp ec').1, fun u H4 hu => ?_⟩
          obtain ⟨rfl, c2, e2, rfl⟩ := hu
          rw [ec'] at e2
          cases e2
          exact rel_still (x := .d (.str ⟨#[c]⟩)) r2 eD (at_str (K := Γ.K) (G := vis F1 ρ2 sl1 σ1 H2))
      · exact h.elim
/-- range -/
def rangeL (lo : Int) (n : Nat) : List Val := (List.range n).map fun i => .d (.int (lo + (i : Nat)))
theorem range_rel {F : Fx} {ρ : List Addr} {sl : Sl} {σ : St} {H : Hp} {cs : Cs} {lo : Int} {n : Nat} : relI Γ F sl σ ρ H cs (rangeL lo n) (Itr lo n) := by
  intro i F1 ρ2 sl1 cs2 σ1 H2 H3 D r1 eD hD sub
  refine ⟨fun hi => (by simpa [rangeL] using hi : n ≤ i), fun y hy => ?_⟩
  unfold rangeL at hy
  rw [List.getElem?_map] at hy
  by_cases hi : i < n
  · rw [List.getElem?_range hi] at hy
    cases hy
    refine ⟨hi, fun u H4 hu => ?_⟩
    obtain ⟨rfl, rfl⟩ := hu
    exact rel_still (x := .d _) r1 eD (at_int (K := Γ.K) (G := vis F1 ρ2 sl1 σ1 H2))
  · rw [List.getElem?_eq_none (by simpa using hi)] at hy
    cases hy
def inB (i : Int) : Bool := decide (-(2 ^ 62) ≤ i) && decide (i < 2 ^ 62)
theorem inB_of {i : Int} (h : inB i = true) : -(2 ^ 62) ≤ i ∧ i < 2 ^ 62 := by
  unfold inB at h
  simp only [Bool.and_eq_true, decide_eq_true_eq] at h
  exact h
def rangeV1 (xs : List Val) (cs : Cs) : R (List Val) := match xs with
  | [.d (.int n)] => if inB n = true then .ok (rangeL 0 n.toNat) cs else .bad
  | _ => .bad
def rangeV2 (xs : List Val) (cs : Cs) : R (List Val) := match xs with
  | [.d (.int a), .d (.int b)] => if inB a = true ∧ inB b = true then .ok (rangeL a (b - a).toNat) cs else .bad
  | _ => .bad
def pRange1 (g : SA) : SA := fun sl cs => (g sl cs).bind rangeV1
def pRange2 (g : SA) : SA := fun sl cs => (g sl cs).bind rangeV2
theorem dp_range1 {g : SA} (hm : Γ.mg "range" = none) (ha : DB Γ [e] g) (hg : Gls Γ.sc "range" := by rfl) (hs : ∀ env, starEach [e] env = [(false, eval e env)] := by intro _; rfl) : DP Γ tg (.Call (.Name "range" p) [e] [] pos) (pRange1 g) := by
  obtain ⟨t, p1, q⟩ := ha.ex
  refine ⟨fun W => iRng1 (t W), fun X W ok gd => pi_range1 (gl_of ok hg) (by rw [ok.mg]; exact hm) (p1 X W ok gd) (hs _), fun W F ρ sl cs σ H R rp h => ?_⟩
  refine q W F ρ sl cs σ H _ rp (PostG.mono (PostG.bind (rel := relTs Γ F sl σ) h) fun us H1 ⟨xs, cs1, ρ1, r1, g1, a1, h1⟩ => ?_)
  unfold rangeV1 at h1
  split at h1
  · rename_i n
    split at h1
    · rename_i hb
      obtain ⟨u, rfl, q1⟩ := one_of a1
      obtain ⟨b1, b2⟩ := inB_of hb
      exact ⟨n, by rw [AtT.int q1], b1, b2, h1 _ H1 ρ1 r1 Grow.refl range_rel⟩
    · exact h1.elim
  · exact h1.elim
theorem dp_range2 {g : SA} (hm : Γ.mg "range" = none) (ha : DB Γ [e, e2] g) (hg : Gls Γ.sc "range" := by rfl) (hs : ∀ env, starEach [e, e2] env = [(false, eval e env), (false, eval e2 env)] := by intro _; rfl) (hs2 : ∀ env, starEach [e2] env = [(false, eval e2 env)] := by intro _; rfl) :
    DP Γ tg (.Call (.Name "range" p) [e, e2] [] pos) (pRange2 g) := by
  obtain ⟨t, p1, q⟩ := ha.ex
  refine ⟨fun W => iRng2 (t W), fun X W ok gd => pi_range2 (gl_of ok hg) (by rw [ok.mg]; exact hm) (p1 X W ok gd) (hs _) (hs2 _), fun W F ρ sl cs σ H R rp h => ?_⟩
  refine q W F ρ sl cs σ H _ rp (PostG.mono (PostG.bind (rel := relTs Γ F sl σ) h) fun us H1 ⟨xs, cs1, ρ1, r1, g1, a1, h1⟩ => ?_)
  unfold rangeV2 at h1
  split at h1
  · rename_i a b
    split at h1
    · rename_i hb
      obtain ⟨u, v, rfl, q1, q2⟩ := two_of a1
      obtain ⟨b1, b2⟩ := inB_of hb.1
      obtain ⟨b3, b4⟩ := inB_of hb.2
      exact ⟨a, b, by rw [AtT.int q1, AtT.int q2], ⟨b1, b2, b3, b4⟩, h1 _ H1 ρ1 r1 Grow.refl range_rel⟩
    · exact h1.elim
  · exact h1.elim
/-- a turn that lays a pair -/
theorem rel_pair {K : PySem.W.Frag} {mg : Str → Option Value} {F1 : Fx} {ρ1 : List Addr} {sl1 : Sl} {cs1 : Cs} {σ1 : St} {H1 H2 : Hp} {D : Addr → Prop} {xs : List PyData} {us : List V} {T : Addr} (r : Rep K mg F1 ρ1 sl1 cs1 σ1 H1) (e : H1 = hide D H2) (hD : ∀ a, D a → ∃ o, H2 a = some o) (hT : H2 T = none)
    (h : AtL K (vis F1 ρ1 sl1 σ1 H1) xs us) : ∃ H4, H4 = hide D (upd H2 T (.tup us)) ∧ (∀ a, D a → upd H2 T (.tup us) a = H2 a) ∧ Rep K mg F1 ρ1 sl1 cs1 σ1 H4 ∧ Grow ρ1 H1 ρ1 H4 ∧ AtV K mg ρ1 (vis F1 ρ1 sl1 σ1 H4) (.d (.tuple xs)) (.ref T) := by
  have nD : ¬ D T := fun z => by
    obtain ⟨o, eo⟩ := hD T z
    rw [hT] at eo; cases eo
  have ne : ∀ a, D a → a ≠ T := fun a z q => nD (by rw [← q]; exact z)
  have e1 : H1 T = none := by
    rw [e]
    unfold hide
    rw [if_neg nD, hT]
  have e2 : upd H1 T (.tup us) = hide D (upd H2 T (.tup us)) := by
    funext a
    by_cases ha : a = T
    · subst ha
      unfold hide
      rw [upd_same, if_neg nD, upd_same]
    · rw [upd_ne ha, e]
      unfold hide
      by_cases hd : D a
      · rw [if_pos hd, if_pos hd]
      · rw [if_neg hd, if_neg hd, upd_ne ha]
  obtain ⟨r2, hv⟩ := r.alloc e1 (.tup us)
  refine ⟨_, e2, fun a z => upd_ne (ne a z), r2, Grow.upd e1, at_tup_iff.mpr ⟨T, us, rfl, SqT.of hv, AtL.mono ((Grow.upd e1).vis r) _ _ h⟩⟩
/-- enumerate(list) -/
def enumFrom (n : Nat) : List PyData → List Val
  | [] => []
  | x :: r => .d (.tuple [.int n, x]) :: enumFrom (n + 1) r
theorem enum_get : ∀ {xs : List PyData} {n i : Nat} {y : Val}, (enumFrom n xs)[i]? = some y → ∃ x, xs[i]? = some x ∧ y = .d (.tuple [.int ((n + i : Nat) : Int), x])
  | [], _, _, _, h => by simp [enumFrom] at h
  | x :: r, n, 0, y, h => by
    simp [enumFrom] at h
    exact ⟨x, rfl, h.symm⟩
  | x :: r, n, i + 1, y, h => by
    simp only [enumFrom, List.getElem?_cons_succ] at h
    obtain ⟨z, e1, e2⟩ := enum_get h
    refine ⟨z, by simpa using e1, ?_⟩
    rw [e2, show n + 1 + i = n + (i + 1) by omega]
theorem enum_len : ∀ {xs : List PyData} {n : Nat}, (enumFrom n xs).length = xs.length
  | [], _ => rfl
  | x :: r, n => by simp [enumFrom, enum_len (xs := r)]
def enumV (xs : List Val) (cs : Cs) : R (List Val) := match xs with
  | [.d (.list l)] => .ok (enumFrom 0 l) cs
  | _ => .bad
def pEnum (g : SA) : SA := fun sl cs => (g sl cs).bind enumV
theorem dp_enum {g : SA} {elts : List Expr} {kk : Nat} {tpos : Pos} (hm : Γ.mg "enumerate" = none) (ha : DB Γ [e] g) (hg : Gls Γ.sc "enumerate" := by rfl) (hs : ∀ env, starEach [e] env = [(false, eval e env)] := by intro _; rfl) :
    DP Γ (.Tuple elts kk tpos) (.Call (.Name "enumerate" p) [e] [] pos) (pEnum g) := by
  obtain ⟨t, p1, q⟩ := ha.ex
  refine ⟨fun W => iEnum Γ.K (t W), fun X W ok gd => by rw [← ok.K]; exact pi_enum (gl_of ok hg) (by rw [ok.mg]; exact hm) (p1 X W ok gd) (hs _), fun W F ρ sl cs σ H R rp h => ?_⟩
  refine q W F ρ sl cs σ H _ rp (PostG.mono (PostG.bind (rel := relTs Γ F sl σ) h) fun us H1 ⟨xs, cs1, ρ1, r1, g1, a1, h1⟩ => ?_)
  unfold enumV at h1
  split at h1
  · rename_i l
    obtain ⟨u, rfl, q1⟩ := one_of a1
    obtain ⟨a, vs, rfl, s, ll⟩ := at_list_iff.mp q1.d
    refine ⟨a, vs, rfl, SqL.of (vis_le _ _ s), h1 _ H1 ρ1 r1 Grow.refl ?_⟩
    intro i F1 ρ2 sl1 cs2 σ1 H2 H3 D r2 eD hD sub
    have s2 : SqL Γ.K H3 a vs := SqL.of (hide_le' eD _ _ (vis_le _ _ (sub _ _ s)))
    refine ⟨fun hi => ⟨vs, s2, by rw [← ll.length, ← enum_len (n := 0)]; exact hi⟩, fun y hy => ?_⟩
    obtain ⟨d, ed, rfl⟩ := enum_get hy
    obtain ⟨v, ev, av⟩ := ll.get ed
    refine ⟨⟨vs, v, s2, ev⟩, fun u H4 hu => ?_⟩
    obtain ⟨T, x, rfl, hT, rfl, hu⟩ := hu
    have e2 := hu vs s2
    rw [ev] at e2
    cases e2
    exact rel_pair r2 eD hD hT (AtL.cons (by rw [Nat.zero_add]; exact at_int) (AtL.cons (AtD.mono sub d v av) AtL.nil))
  · exact h1.elim
/-- zip of two lists, of two tuples -/
def zipL : List PyData → List PyData → List Val
  | x :: xs, y :: ys => .d (.tuple [x, y]) :: zipL xs ys
  | _, _ => []
theorem zip_get : ∀ {xs ys : List PyData} {i : Nat} {z : Val}, (zipL xs ys)[i]? = some z → ∃ x y, xs[i]? = some x ∧ ys[i]? = some y ∧ z = .d (.tuple [x, y])
  | [], _, _, _, h => by simp [zipL] at h
  | _ :: _, [], _, _, h => by simp [zipL] at h
  | x :: xs, y :: ys, 0, z, h => by simp [zipL] at h; exact ⟨x, y, rfl, rfl, h.symm⟩
  | x :: xs, y :: ys, i + 1, z, h => by
    simp only [zipL, List.getElem?_cons_succ] at h
    obtain ⟨a, b, e1, e2, e3⟩ := zip_get h
    exact ⟨a, b, by simpa using e1, by simpa using e2, e3⟩
theorem zip_len : ∀ {xs ys : List PyData}, (zipL xs ys).length = min xs.length ys.length
  | [], _ => by simp [zipL]
  | _ :: _, [] => by simp [zipL]
  | x :: xs, y :: ys => by simp only [zipL, List.length_cons, zip_len (xs := xs)]; omega
def zipV (xs : List Val) (cs : Cs) : R (List Val) := match xs with
  | [.d (.list a), .d (.list b)] => .ok (zipL a b) cs
  | [.d (.tuple a), .d (.tuple b)] => .ok (zipL a b) cs
  | _ => .bad
def pZip (g : SA) : SA := fun sl cs => (g sl cs).bind zipV
theorem dp_zip {g : SA} {elts : List Expr} {kk : Nat} {tpos : Pos} (hm : Γ.mg "zip" = none) (ha : DB Γ [e, e2] g) (hg : Gls Γ.sc "zip" := by rfl) (hs : ∀ env, starEach [e, e2] env = (false, eval e env) :: starEach [e2] env := by intro _; rfl) (hpl : ∀ env, (backTo pos (starEach [e2] env)).any (·.1) = false := by intro _; rfl) :
    DP Γ (.Tuple elts kk tpos) (.Call (.Name "zip" p) [e, e2] [] pos) (pZip g) := by
  obtain ⟨t, p1, q⟩ := ha.ex
  refine ⟨fun W => RZ.iZipA Γ.K (t W), fun X W ok gd => by rw [← ok.K]; exact RZ.pi_zipA (gl_of ok hg) (by rw [ok.mg]; exact hm) (p1 X W ok gd) (hs _) (hpl _), fun W F ρ sl cs σ H R rp h => ?_⟩
  refine q W F ρ sl cs σ H _ rp (PostG.mono (PostG.bind (rel := relTs Γ F sl σ) h) fun us H1 ⟨xs, cs1, ρ1, r1, g1, a1, h1⟩ => ?_)
  unfold zipV at h1
  split at h1
  · rename_i l m
    obtain ⟨u, u2, rfl, q1, q2⟩ := two_of a1
    obtain ⟨a, vs, rfl, s, ll⟩ := at_list_iff.mp q1.d
    obtain ⟨b, ws, rfl, s', mm⟩ := at_list_iff.mp q2.d
    refine ⟨a, b, vs, ws, rfl, .inl ⟨SqL.of (vis_le _ _ s), SqL.of (vis_le _ _ s'), h1 _ H1 ρ1 r1 Grow.refl ?_⟩⟩
    intro i F1 ρ2 sl1 cs2 σ1 H2 H3 D r2 eD hD sub
    have s2 : SqL Γ.K H3 a vs := SqL.of (hide_le' eD _ _ (vis_le _ _ (sub _ _ s)))
    have s3 : SqL Γ.K H3 b ws := SqL.of (hide_le' eD _ _ (vis_le _ _ (sub _ _ s')))
    refine ⟨fun hi => ⟨vs, ws, s2, s3, by rw [← ll.length, ← mm.length]; rw [zip_len] at hi; omega⟩, fun y hy => ?_⟩
    obtain ⟨d, d2, ed, ed2, rfl⟩ := zip_get hy
    obtain ⟨v, ev, av⟩ := ll.get ed
    obtain ⟨v2, ev2, av2⟩ := mm.get ed2
    refine ⟨⟨vs, ws, v, v2, s2, s3, ev, ev2⟩, fun u H4 hu => ?_⟩
    obtain ⟨T, x, x2, rfl, hT, rfl, hu, hu2⟩ := hu
    have e2 := hu vs s2
    have e3 := hu2 ws s3
    rw [ev] at e2
    rw [ev2] at e3
    cases e2
    cases e3
    exact rel_pair r2 eD hD hT (AtL.cons (AtD.mono sub d v av) (AtL.cons (AtD.mono sub d2 v2 av2) AtL.nil))
  · rename_i l m
    obtain ⟨u, u2, rfl, q1, q2⟩ := two_of a1
    obtain ⟨a, vs, rfl, s, ll⟩ := AtT.tup q1
    obtain ⟨b, ws, rfl, s', mm⟩ := AtT.tup q2
    refine ⟨a, b, vs, ws, rfl, .inr ⟨sqT_sub vis_le s, sqT_sub vis_le s', h1 _ H1 ρ1 r1 Grow.refl ?_⟩⟩
    intro i F1 ρ2 sl1 cs2 σ1 H2 H3 D r2 eD hD sub
    have s2 : SqT Γ.K H3 a vs := sqT_sub (hide_le' eD) (sqT_sub vis_le (sqT_sub sub s))
    have s3 : SqT Γ.K H3 b ws := sqT_sub (hide_le' eD) (sqT_sub vis_le (sqT_sub sub s'))
    refine ⟨fun hi => ⟨vs, ws, s2, s3, by rw [← ll.length, ← mm.length]; rw [zip_len] at hi; omega⟩, fun y hy => ?_⟩
    obtain ⟨d, d2, ed, ed2, rfl⟩ := zip_get hy
    obtain ⟨v, ev, av⟩ := ll.get ed
    obtain ⟨v2, ev2, av2⟩ := mm.get ed2
    refine ⟨⟨vs, ws, v, v2, s2, s3, ev, ev2⟩, fun u H4 hu => ?_⟩
    obtain ⟨T, x, x2, rfl, hT, rfl, hu, hu2⟩ := hu
    have e2 := hu vs s2
    have e3 := hu2 ws s3
    rw [ev] at e2
    rw [ev2] at e3
    cases e2
    cases e3
    exact rel_pair r2 eD hD hT (AtL.cons (AtD.mono sub d v av) (AtL.cons (AtD.mono sub d2 v2 av2) AtL.nil))
  · exact h1.elim
end

/-! ### loops -/
def forL (g : Val → Sl → Option Sl) (body : SS) : List Val → SS
  | [], sl, cs => .nx sl cs
  | x :: xs, sl, cs => match g x sl with
    | none => .bad
    | some sl1 => match body sl1 cs with
      | .nx sl2 cs2 => forL g body xs sl2 cs2
      | .ct sl2 cs2 => forL g body xs sl2 cs2
      | .bk sl2 cs2 => .nx sl2 cs2
      | r => r
def sFor (it : SA) (g : Val → Sl → Option Sl) (body : SS) : SS := fun sl cs => (it sl cs).go sl fun xs cs1 => forL g body xs sl cs1
section
variable {Γ : Cf} {pos : Pos} {tg iter c : Expr} {body : List Stmt} {f : SS}
theorem ds_for {ix : List Nat} {it : SA} {g : Val → Sl → Option Sl} (hcm : Γ.cm = true) (hi : DP Γ tg iter it) (hg : DG Γ tg ix g) (hb : DSs Γ body f) (hs : ∀ env x, foldedSetIterable iter env x = pure x := by intro _ _; rfl) : DS Γ (.For tg iter body [] pos) (sFor it g f) := by
  obtain ⟨t, p, q⟩ := hi.ex
  obtain ⟨tg', pg, qg⟩ := hg.ex
  obtain ⟨tb, pb, qb⟩ := hb.ex
  refine ⟨fun W => tFor (t W) tg' (tb W), fun X W ok gd => ps_for gd.po (ok.cm hcm).1 (p X W ok gd) (pg X ok) (pb X W ok gd) (hs _), fun W F ρ sl cs σ H D r h => ?_⟩
  refine q W F ρ sl cs σ H _ r (PostG.mono (PostS.go h r) fun J H1 ⟨xs, cs1, ρ1, r1, g1, a1, h1⟩ => ?_)
  have h1 := h1.weak (g1.vis r)
  refine ⟨fun i m σ2 H2 => m = xs.length - i ∧ ∃ sl2 cs2 ρ2, Rep Γ.K Γ.mg F ρ2 sl2 cs2 σ2 H2 ∧ Sub (vis F ρ1 sl σ H1) (vis F ρ2 sl2 σ2 H2) ∧ PostS Γ F ρ2 sl2 σ2 H2 W (forL g f (xs.drop i) sl2 cs2) D, ⟨_, rfl, sl, cs1, ρ1, r1, fun _ _ z => z, h1⟩, ?_⟩
  rintro i m σ2 H2 ⟨rfl, sl2, cs2, ρ2, r2, sub2, h2⟩
  have hide0 : H2 = hide (fun _ => False) H2 := by funext a; unfold hide; rw [if_neg id]
  obtain ⟨st, it⟩ := a1 i F ρ2 sl2 cs2 σ2 H2 H2 (fun _ => False) r2 hide0 (fun _ z => z.elim) sub2
  by_cases hlt : i < xs.length
  · obtain ⟨go, yl⟩ := it xs[i] (List.getElem?_eq_getElem hlt)
    refine .inr ⟨go, fun σ' H' => ∃ sl2 cs2 ρ2, Rep Γ.K Γ.mg F ρ2 sl2 cs2 σ' H' ∧ Sub (vis F ρ1 sl σ H1) (vis F ρ2 sl2 σ' H') ∧ PostS Γ F ρ2 sl2 σ' H' W (forL g f (xs.drop (i + 1)) sl2 cs2) D, fun σ' H' hN => ⟨xs.length - (i + 1), by omega, rfl, hN⟩, fun u H3 hy => ?_⟩
    obtain ⟨H4, e4, _, r4, g4, a4⟩ := yl u H3 hy
    have e5 : H4 = H3 := by rw [e4]; funext a; unfold hide; rw [if_neg id]
    subst e5
    rw [List.drop_eq_getElem_cons hlt] at h2
    unfold forL at h2
    cases eg : g xs[i] sl2 with
    | none => rw [eg] at h2; exact h2.elim
    | some sl3 =>
      rw [eg] at h2
      dsimp only at h2
      have sub4 := g4.vis r2
      refine qg F ρ2 sl2 cs2 σ2 H4 xs[i] u _ sl3 r4 a4 eg fun σ5 r5 sub5 _ => ?_
      have sub6 : Sub (vis F ρ2 sl2 σ2 H2) (vis F ρ2 sl3 σ5 H4) := fun a o z => sub5 a o (sub4 a o z)
      refine qb W F ρ2 sl3 cs2 σ5 H4 _ r5 ?_
      have h2 := h2.weak sub6
      have hN : ∀ {sl' : Sl} {cs' : Cs}, PostS Γ F ρ2 sl3 σ5 H4 W (forL g f (xs.drop (i + 1)) sl' cs') D → ∀ σ' H' ρ', Rep Γ.K Γ.mg F ρ' sl' cs' σ' H' → Sub (vis F ρ2 sl3 σ5 H4) (vis F ρ' sl' σ' H') →
          ∃ sl2 cs2 ρ2, Rep Γ.K Γ.mg F ρ2 sl2 cs2 σ' H' ∧ Sub (vis F ρ1 sl σ H1) (vis F ρ2 sl2 σ' H') ∧ PostS Γ F ρ2 sl2 σ' H' W (forL g f (xs.drop (i + 1)) sl2 cs2) D :=
        fun {sl' cs'} hh σ' H' ρ' rp s => ⟨sl', cs', ρ', rp, fun a o z => s a o (sub6 a o (sub2 a o z)), hh.weak s⟩
      cases eb : f sl3 cs2 with
      | nx sl' cs' => rw [eb] at h2; exact hN h2
      | ct sl' cs' => rw [eb] at h2; exact hN h2
      | bk sl' cs' => rw [eb] at h2; exact h2
      | rt s cs' => rw [eb] at h2; exact h2
      | ex e sl' cs' => rw [eb] at h2; exact h2
      | bad => rw [eb] at h2; exact h2
  · rw [List.drop_eq_nil_of_le (by omega)] at h2
    exact .inl ⟨st (by omega), h2 σ2 H2 ρ2 r2 fun _ _ z => z⟩
/-- while, n turns at most -/
def whileN (t : ST) (body : SS) : Nat → SS
  | 0, _, _ => .bad
  | n + 1, sl, cs => (t sl cs).go sl fun k cs1 => if k = true then (match body sl cs1 with
      | .nx sl2 cs2 => whileN t body n sl2 cs2
      | .ct sl2 cs2 => whileN t body n sl2 cs2
      | .bk sl2 cs2 => .nx sl2 cs2
      | r => r) else .nx sl cs1
open Classical in
/-- the first number of turns that is enough -/
noncomputable def sWhile (t : ST) (body : SS) : SS := fun sl cs => if h : ∃ n, whileN t body n sl cs ≠ .bad then whileN t body (choose h) sl cs else .bad
theorem ds_while {tt : ST} (hc : DT Γ c tt) (hb : DSs Γ body f) : DS Γ (.While c body [] pos) (sWhile tt f) := by
  obtain ⟨tc, pc, qc⟩ := hc.ex
  obtain ⟨tb, pb, qb⟩ := hb.ex
  refine ⟨fun W => tWhile (tc W) (tb W), fun X W ok gd => ps_while gd.po (pc X W ok gd) (pb X W ok gd), fun W F ρ sl cs σ H D r h => ?_⟩
  obtain ⟨n, hn⟩ : ∃ n, PostS Γ F ρ sl σ H W (whileN tt f n sl cs) D := by
    unfold sWhile at h
    split at h
    · exact ⟨_, h⟩
    · exact h.elim
  refine ⟨fun m σ2 H2 => ∃ sl2 cs2 ρ2, Rep Γ.K Γ.mg F ρ2 sl2 cs2 σ2 H2 ∧ PostS Γ F ρ2 sl2 σ2 H2 W (whileN tt f m sl2 cs2) D, ⟨n, sl, cs, ρ, r, hn⟩, ?_⟩
  rintro m σ2 H2 ⟨sl2, cs2, ρ2, r2, h2⟩
  cases m with
  | zero => exact h2.elim
  | succ m =>
    unfold whileN at h2
    refine qc W F ρ2 sl2 cs2 σ2 H2 _ r2 (PostG.mono (PostS.go h2 r2) fun k H3 ⟨x, cs3, ρ3, r3, g3, a3, h3⟩ => ?_)
    have e : x = k := a3
    subst e
    have h3 := h3.weak (g3.vis r2)
    cases x with
    | false =>
      rw [if_neg (by decide)] at h3 ⊢
      exact h3 σ2 H3 ρ3 r3 fun _ _ z => z
    | true =>
      rw [if_pos rfl] at h3 ⊢
      refine ⟨fun σ' H' => ∃ sl2 cs2 ρ2, Rep Γ.K Γ.mg F ρ2 sl2 cs2 σ' H' ∧ PostS Γ F ρ2 sl2 σ' H' W (whileN tt f m sl2 cs2) D, fun σ' H' hN => ⟨m, Nat.lt_succ_self m, hN⟩, ?_⟩
      refine qb W F ρ3 sl2 cs3 σ2 H3 _ r3 ?_
      cases eb : f sl2 cs3 with
      | nx sl' cs' => rw [eb] at h3; exact fun σ' H' ρ' rp s => ⟨sl', cs', ρ', rp, h3.weak s⟩
      | ct sl' cs' => rw [eb] at h3; exact fun σ' H' ρ' rp s => ⟨sl', cs', ρ', rp, h3.weak s⟩
      | bk sl' cs' => rw [eb] at h3; exact h3
      | rt s cs' => rw [eb] at h3; exact h3
      | ex e sl' cs' => rw [eb] at h3; exact h3
      | bad => rw [eb] at h3; exact h3
/-- what a while comes to, by one turn -/
theorem whileN_mono {t : ST} {body : SS} : ∀ {n : Nat} {sl : Sl} {cs : Cs}, whileN t body n sl cs ≠ .bad → whileN t body (n + 1) sl cs = whileN t body n sl cs
  | 0, _, _, h => absurd rfl h
  | n + 1, sl, cs, h => by
    have ih := fun sl cs => whileN_mono (t := t) (body := body) (n := n) (sl := sl) (cs := cs)
    rw [whileN] at h ⊢
    rw [whileN]
    cases et : t sl cs with
    | bad => rfl
    | ex e c => rfl
    | ok k cs1 =>
      rw [et] at h
      simp only [R.go_ok] at h ⊢
      cases k with
      | false => rfl
      | true =>
        simp only [if_true] at h ⊢
        cases eb : body sl cs1 with
        | nx sl2 cs2 => rw [eb] at h; exact ih sl2 cs2 h
        | ct sl2 cs2 => rw [eb] at h; exact ih sl2 cs2 h
        | bk sl2 cs2 => rfl
        | rt s c => rfl
        | ex e s c => rfl
        | bad => rfl
theorem whileN_le {t : ST} {body : SS} {n : Nat} {sl : Sl} {cs : Cs} (h : whileN t body n sl cs ≠ .bad) : ∀ k, whileN t body (n + k) sl cs = whileN t body n sl cs
  | 0 => rfl
  | k + 1 => by
    have e := whileN_le h k
    rw [← Nat.add_assoc, whileN_mono (by rw [e]; exact h), e]
theorem sWhile_of {t : ST} {body : SS} {n : Nat} {sl : Sl} {cs : Cs} (h : whileN t body n sl cs ≠ .bad) : sWhile t body sl cs = whileN t body n sl cs := by
  have ex : ∃ n, whileN t body n sl cs ≠ .bad := ⟨n, h⟩
  unfold sWhile
  rw [dif_pos ex]
  have hc := Classical.choose_spec ex
  rcases Nat.le_total n (Classical.choose ex) with hl | hl
  · obtain ⟨k, e⟩ := Nat.le.dest hl
    rw [← e, whileN_le h k]
  · obtain ⟨k, e⟩ := Nat.le.dest hl
    rw [← e, whileN_le hc k]
end
end DL
end
section
set_option Elab.async false
set_option linter.all false
set_option maxRecDepth 100000
set_option autoImplicit false
namespace DL
open PySem PySem.Spec PyProof.Rows L2

/-! ### a comprehension's block -/
def Cf.blk (Γ : Cf) (scope : Scope) : Cf := { Γ with sc := relS scope Γ.sc, tp := false, st := fun x => match scope.names.lookup x with
  | some .local => true
  | some .cell => true
  | _ => false }
theorem blk_ok {Γ : Cf} {X : Cx} {scope : Scope} (ok : Γ.Ok X) (s : Shared) (H : Hp) (C : Addr) (cl : List (Str × Addr)) (fp : List Addr) : (Γ.blk scope).Ok (X.blk s H scope (compEnvC scope cl C X.env) fp) := by
  refine ⟨ok.K, ok.mg, ok.P, ok.w, ok.base, ok.N, ?_, ok.cm, ok.un, fun h => (by cases h), fun x hx => ?_⟩
  · show relS scope X.env.scope = relS scope Γ.sc
    rw [ok.sc]
  · unfold Cf.blk at hx
    dsimp only at hx
    split at hx
    · rename_i e
      exact .inr (lookup_relS_keep (by decide) e)
    · rename_i e
      refine .inl ?_
      show (scope.names.lookup x == some NameKind.cell) = true
      rw [e]
      rfl
    · cases hx
abbrev W0 : WX := fun _ _ _ _ => False
theorem blk_good {X : Cx} {scope : Scope} (s : Shared) (H : Hp) (C : Addr) (cl : List (Str × Addr)) (fp : List Addr) : Good (X.blk s H scope (compEnvC scope cl C X.env) fp) W0 := ⟨takes0, PassesOwn.never⟩
def wipeS (sl : Sl) : List Nat → Sl
  | [] => sl
  | v :: vs => (wipeS sl vs).set v none
def unOwn : Option Slot → Option Slot
  | some (.ow _) => none
  | s => s
def blkSl (sl : Sl) (vs : List Nat) : Sl := (wipeS sl vs).map unOwn
theorem wipeS_length (sl : Sl) : ∀ vs : List Nat, (wipeS sl vs).length = sl.length
  | [] => rfl
  | v :: vs => by unfold wipeS; rw [List.length_set, wipeS_length sl vs]
theorem wipeS_get {sl : Sl} {i : Nat} {s : Slot} : ∀ {vs : List Nat}, (wipeS sl vs)[i]? = some (some s) → sl[i]? = some (some s) ∧ i ∉ vs
  | [], h => ⟨h, by simp⟩
  | v :: vs, h => by
    unfold wipeS at h
    rcases set_get h with ⟨_, _, z⟩ | ⟨hi, h⟩
    · cases z
    · obtain ⟨h1, h2⟩ := wipeS_get h
      exact ⟨h1, fun z => (List.mem_cons.mp z).elim (fun e => hi e) h2⟩
theorem blkSl_get {sl : Sl} {i : Nat} {s : Slot} {vs : List Nat} (h : (blkSl sl vs)[i]? = some (some s)) : ∃ v, s = .fr v ∧ sl[i]? = some (some (.fr v)) ∧ i ∉ vs := by
  unfold blkSl at h
  rw [List.getElem?_map] at h
  cases e : (wipeS sl vs)[i]? with
  | none => rw [e] at h; cases h
  | some o =>
    rw [e] at h
    cases o with
    | none => cases h
    | some s' =>
      cases s' with
      | ow x => cases h
      | fr v =>
        cases h
        obtain ⟨h1, h2⟩ := wipeS_get e
        exact ⟨v, rfl, h1, h2⟩
theorem wipe_at {σ : St} {i : Nat} : ∀ {vs : List Nat}, i ∉ vs → (wipe σ vs)[i]? = σ[i]?
  | [], _ => rfl
  | v :: vs, h => by
    unfold wipe
    rw [List.getElem?_set_ne fun e => h (by rw [e]; exact List.mem_cons_self), wipe_at fun z => h (List.mem_cons_of_mem _ z)]
theorem wipe_wipe {σ : St} : ∀ {vs ws : List Nat}, (∀ i ∈ vs, i ∈ ws) → wipe (wipe σ vs) ws = wipe σ ws
  | [], _, _ => rfl
  | v :: vs, ws, h => by
    show wipe ((wipe σ vs).set v none) ws = _
    rw [wipe_set (h v List.mem_cons_self), wipe_wipe fun i hi => h i (List.mem_cons_of_mem _ hi)]
/-- the frame of a turn: D, the list that grows, and all that the def owns are hidden -/
def subF (F : Fx) (ρ : List Addr) (sl : Sl) (σ : St) (H : Hp) (D : Addr) (h : ∀ a, (a = D ∨ F.hx a ∨ Own sl σ a) → ∃ o, H a = some o) : Fx := ⟨fun a => a = D ∨ F.hx a ∨ Own sl σ a, H, ρ, h⟩
section
variable {K : PySem.W.Frag} {mg : Str → Option Value} {F : Fx} {ρ ρ' : List Addr} {sl slB : Sl} {cs cs' : Cs} {σ σB : St} {H H' : Hp} {D : Addr}
theorem hx_there (r : Rep K mg F ρ sl cs σ H) {a : Addr} (h : F.hx a) : ∃ o, H a = some o := by
  obtain ⟨o, e⟩ := F.hxt a h
  by_cases hm : a ∈ F.ρ0
  · obtain ⟨t, e2, _⟩ := r.pre
    exact r.cells.there (by rw [e2]; exact List.mem_append_left _ hm)
  · exact ⟨o, r.keep a o e hm⟩
theorem sub_there (r : Rep K mg F ρ sl cs σ (hide (· = D) H)) (hD : ∃ o, H D = some o) : ∀ a, (a = D ∨ F.hx a ∨ Own sl σ a) → ∃ o, H a = some o := fun a z => by
  rcases z with z | z | z
  · rw [z]; exact hD
  · obtain ⟨o, e⟩ := hx_there r z
    exact ⟨o, hide_le _ _ e⟩
  · obtain ⟨o, e⟩ := r.own_there z
    exact ⟨o, hide_le _ _ e⟩
theorem vis_sub {h : ∀ a, (a = D ∨ F.hx a ∨ Own sl σ a) → ∃ o, H' a = some o} : Sub (vis (subF F ρ' sl σ H' D h) ρ slB σB H) (vis F ρ sl σ (hide (· = D) H)) := by
  unfold vis
  rw [hide_hide]
  refine hide_sub fun a o hn e => ⟨fun z => hn ?_, e⟩
  rcases z with z | z | z | z
  · exact .inl (.inl z)
  · exact .inl (.inr (.inl z))
  · exact .inr (.inl z)
  · exact .inl (.inr (.inr z))
theorem vis_sub' {vs : List Nat} {h : ∀ a, (a = D ∨ F.hx a ∨ Own sl σ a) → ∃ o, H' a = some o} : Sub (vis F ρ sl σ (hide (· = D) H)) (vis (subF F ρ' sl σ H' D h) ρ (blkSl sl vs) (wipe σ vs) H) := by
  unfold vis
  rw [hide_hide]
  refine hide_sub fun a o hn e => ⟨fun z => hn ?_, e⟩
  rcases z with (z | z | z) | z | ⟨i, x, e1, e2⟩
  · exact .inl z
  · exact .inr (.inl z)
  · exact .inr (.inr (.inr z))
  · exact .inr (.inr (.inl z))
  · obtain ⟨v, e3, _⟩ := blkSl_get e1
    cases e3
theorem rep_blk (r : Rep K mg F ρ sl cs σ (hide (· = D) H)) (vs : List Nat) (h : ∀ a, (a = D ∨ F.hx a ∨ Own sl σ a) → ∃ o, H a = some o) : Rep K mg (subF F ρ sl σ H D h) ρ (blkSl sl vs) cs (wipe σ vs) H := by
  have hs : Sub (vis F ρ sl σ (hide (· = D) H)) (vis (subF F ρ sl σ H D h) ρ (blkSl sl vs) (wipe σ vs) H) := vis_sub'
  refine ⟨by unfold blkSl; rw [List.length_map, wipeS_length, wipe_length]; exact r.len, r.cells.unhide hs, r.nd, ⟨[], by simp [subF], fun _ z => by simp at z⟩, fun a z => ?_, fun i j x y a e1 => ?_, fun a o e _ => e, fun i s e => ?_⟩
  · obtain ⟨i, x, e1, _⟩ := z
    obtain ⟨v, e3, _⟩ := blkSl_get e1
    cases e3
  · obtain ⟨v, e3, _⟩ := blkSl_get e1
    cases e3
  · obtain ⟨v, rfl, e1, hi⟩ := blkSl_get e
    obtain ⟨u, e2, q⟩ := r.slot i _ e1
    exact ⟨u, by rw [wipe_at hi]; exact e2, AtV.mono (v := v) hs (fun _ _ z => z) q⟩
/-- back from a turn's part to the def's own state -/
theorem rep_back {h : ∀ a, (a = D ∨ F.hx a ∨ Own sl σ a) → ∃ o, H a = some o} (r : Rep K mg F ρ sl cs σ (hide (· = D) H)) (rb : Rep K mg (subF F ρ sl σ H D h) ρ' slB cs' σB H') (g : Grow ρ H ρ' H') :
    Rep K mg F ρ' sl cs' σ (hide (· = D) H') ∧ Grow ρ (hide (· = D) H) ρ' (hide (· = D) H') ∧ H' D = H D := by
  obtain ⟨f1, f2, f3⟩ := r.fresh hide_self
  have g2 : Grow ρ (hide (· = D) H) ρ' (hide (· = D) H') := by
    refine ⟨fun a o e hn => by rw [hide_ne (ne_hid e)]; exact g.keep a o (hide_le _ _ e) hn, ?_⟩
    obtain ⟨t, e, ht⟩ := g.ext
    refine ⟨t, e, fun a ha => ?_⟩
    cases q : hide (· = D) H a with
    | none => rfl
    | some o =>
      have z := hide_le _ _ q
      rw [ht a ha] at z
      cases z
  obtain ⟨o, eo⟩ := h D (.inl rfl)
  have eD := g.keep D o eo f2
  have nD : D ∉ ρ' := g.not_mem f2 eo
  refine ⟨r.grow g2 ⟨rb.cells.len, fun n c a e1 e2 => ?_⟩ rb.nd, g2, eD.trans eo.symm⟩
  exact (rb.cells.at_ n c a e1 e2).mono vis_sub (fun _ _ z => z) (hide_ne fun z => nD (by rw [← z]; exact List.mem_of_getElem? e2))
end
theorem hide_upd' {H : Hp} {p : Addr} {o : HO} : hide (· = p) (upd H p o) = hide (· = p) H := by
  funext a
  unfold hide
  by_cases h : a = p
  · rw [if_pos h, if_pos h]
  · rw [if_neg h, if_neg h, upd_ne h]
theorem R.bind_assoc {α β γ : Type} (r : R α) (k : α → Cs → R β) (m : β → Cs → R γ) : (r.bind k).bind m = r.bind fun a cs => (k a cs).bind m := by
  cases r <;> rfl

/-! ### list comprehensions -/
def noEx {α : Type} (r : R α) : R α := match r with
  | .ex _ _ => .bad
  | r => r
def lcL (g : Val → Sl → Option Sl) (tt : ST) (te : SE) (slB : Sl) : List Val → Cs → R (List PyData)
  | [], cs => .ok [] cs
  | x :: xs, cs => match g x slB with
    | none => .bad
    | some sl1 => (noEx (tt sl1 cs)).bind fun b cs1 => if b = true then (noEx (te sl1 cs1)).bind fun v cs2 => match v with
        | .d y => (lcL g tt te slB xs cs2).bind fun ys cs3 => .ok (y :: ys) cs3
        | _ => .bad
      else lcL g tt te slB xs cs1
def oLc (it : SA) (g : Val → Sl → Option Sl) (tt : ST) (te : SE) (vs : List Nat) : SO := fun sl cs => (it sl cs).bind fun xs cs1 => if xs.length ≤ 16777216 then (lcL g tt te (blkSl sl vs) xs cs1).bind fun ys cs2 => .ok (.ow (.list ys)) cs2 else .bad
structure DTs (Γ : Cf) (ifs : List Expr) (f : ST) : Prop where
  ex : ∃ t : WX → TT, (∀ X W, Γ.Ok X → Good X W → PTs X ifs (t W)) ∧ ∀ W F ρ sl cs σ H Q, Rep Γ.K Γ.mg F ρ sl cs σ H → PostG Γ F ρ sl σ H W relB (f sl cs) Q → t W σ H Q
def tTrue : ST := fun _ cs => .ok true cs
theorem dts_nil {Γ : Cf} : DTs Γ [] tTrue := ⟨fun _ => tYes, fun X W _ _ => pts_nil, fun W F ρ sl cs σ H Q r h => h true H ρ r Grow.refl rfl⟩
theorem dts_one {Γ : Cf} {c : Expr} {f : ST} (h : DT Γ c f) : DTs Γ [c] f := by
  obtain ⟨t, p, q⟩ := h.ex
  exact ⟨t, fun X W ok gd => pts_one (p X W ok gd), q⟩
section
variable {Γ : Cf}
/-- what follows in the turn, asked in the turn's frame -/
theorem post_noEx {α β γ δ : Type} {F F' : Fx} {ρ ρ' : List Addr} {sl sl' : Sl} {σ σ' : St} {H H' : Hp} {W : WX} {rel : List Addr → Hp → Cs → α → β → Prop} {rel' : List Addr → Hp → Cs → γ → δ → Prop} {r : R α} {k : α → Cs → R γ} {Q : δ → Hp → Prop} {Q' : β → Hp → Prop}
    (h : PostG Γ F' ρ' sl' σ' H' W rel' ((noEx r).bind k) Q) (hk : ∀ x cs1, r = .ok x cs1 → PostG Γ F' ρ' sl' σ' H' W rel' (k x cs1) Q → ∀ u H1 ρ1, Rep Γ.K Γ.mg F ρ1 sl cs1 σ H1 → Grow ρ H ρ1 H1 → rel ρ1 H1 cs1 x u → Q' u H1) : PostG Γ F ρ sl σ H W0 rel r Q' := by
  cases r with
  | ok x cs1 => exact hk x cs1 rfl h
  | ex e cs1 => exact h.elim
  | bad => exact h.elim
theorem lc_sem {F : Fx} {ρ ρ1 : List Addr} {sl : Sl} {cs cs1 : Cs} {σ : St} {H H1 : Hp} {W : WX} {Q : VK} {D : Addr} {ix vs : List Nat} {g : Val → Sl → Option Sl} {tt : ST} {te : SE} {scope : Scope} {tg' : TG} {tt' : WX → TT} {te' : WX → TE} {J : It} {xs : List Val}
    (qg : ∀ F ρ sl cs σ H x u Q sl', Rep Γ.K Γ.mg F ρ sl cs σ H → AtV Γ.K Γ.mg ρ (vis F ρ sl σ H) x u → g x sl = some sl' →
      (∀ σ', Rep Γ.K Γ.mg F ρ sl' cs σ' H → Sub (vis F ρ sl σ H) (vis F ρ sl' σ' H) → (∀ vs : List Nat, (∀ i ∈ ix, i ∈ vs) → wipe σ' vs = wipe σ vs) → Q σ' H) → tg' u σ H Q)
    (qt : ∀ W F ρ sl cs σ H Q, Rep Γ.K Γ.mg F ρ sl cs σ H → PostG (Γ.blk scope) F ρ sl σ H W relB (tt sl cs) Q → tt' W σ H Q)
    (qe : ∀ W F ρ sl cs σ H Q, Rep Γ.K Γ.mg F ρ sl cs σ H → PostG (Γ.blk scope) F ρ sl σ H W (relV (Γ.blk scope) F sl σ) (te sl cs) Q → te' W σ H Q)
    (hix : ∀ i ∈ ix, i ∈ vs) (r : Rep Γ.K Γ.mg F ρ sl cs σ H) (r1 : Rep Γ.K Γ.mg F ρ1 sl cs1 σ H1) (g1 : Grow ρ H ρ1 H1) (a1 : relI Γ F sl σ ρ1 H1 cs1 xs J) (hl : xs.length ≤ 16777216)
    (h1 : PostG Γ F ρ1 sl σ H1 W (relO Γ F sl σ H) ((lcL g tt te (blkSl sl vs) xs cs1).bind fun ys cs2 => .ok (.ow (.list ys)) cs2) Q) (hD : H1 D = none) :
    ∃ W : Nat → Nat → Hp → Prop, (∃ m, W 0 m (upd H1 D (.lst []))) ∧ ∀ i m H, W i m H → (J.stop i H ∧ Q (.ref D) H) ∨ (J.go i H ∧ ∃ Nx : Hp → Prop, (∀ H', Nx H' → ∃ m', m' < m ∧ W (i + 1) m' H') ∧ ∀ x H', J.yld i H x H' →
      tg' x (wipe σ vs) H' fun σ2 H2 => wipe σ2 vs = wipe σ vs ∧ tt' W0 σ2 H2 fun b H3 => if b = true then te' W0 σ2 H3 fun y H4 => ∃ acc, H4 D = some (.lst acc) ∧ acc.length < sizeLine ∧ Nx (upd H4 D (.lst (acc ++ [y]))) else Nx H3) := by
  refine ⟨fun i m H' => m = xs.length - i ∧ ∃ cs' ρ' acc accV, Rep Γ.K Γ.mg F ρ' sl cs' σ (hide (· = D) H') ∧ Grow ρ1 H1 ρ' (hide (· = D) H') ∧ H' D = some (.lst accV) ∧ AtL Γ.K (vis F ρ' sl σ (hide (· = D) H')) acc accV ∧ acc.length ≤ i ∧ i ≤ xs.length ∧
    PostG Γ F ρ1 sl σ H1 W (relO Γ F sl σ H) ((lcL g tt te (blkSl sl vs) (xs.drop i) cs').bind fun ys cs2 => .ok (.ow (.list (acc ++ ys))) cs2) Q, ⟨_, rfl, cs1, ρ1, [], [], ?_, ?_, upd_same, AtL.nil, Nat.le_refl _, Nat.zero_le _, ?_⟩, ?_⟩
  · rw [hide_upd hD]; exact r1
  · rw [hide_upd hD]; exact Grow.refl
  · exact h1
  rintro i m H2 ⟨rfl, cs', ρ', acc, accV, r2, g2, eD, l, hacc, hi, h2⟩
  obtain ⟨st, it⟩ := a1 i F ρ' sl cs' σ (hide (· = D) H2) H2 (· = D) r2 rfl (fun a z => (show ∃ o, H2 a = some o from (show a = D from z) ▸ ⟨_, eD⟩)) (g2.vis r1)
  by_cases hlt : i < xs.length
  · obtain ⟨go, yl⟩ := it xs[i] (List.getElem?_eq_getElem hlt)
    refine .inr ⟨go, fun H' => ∃ cs' ρ' acc accV, Rep Γ.K Γ.mg F ρ' sl cs' σ (hide (· = D) H') ∧ Grow ρ1 H1 ρ' (hide (· = D) H') ∧ H' D = some (.lst accV) ∧ AtL Γ.K (vis F ρ' sl σ (hide (· = D) H')) acc accV ∧ acc.length ≤ i + 1 ∧ i + 1 ≤ xs.length ∧
      PostG Γ F ρ1 sl σ H1 W (relO Γ F sl σ H) ((lcL g tt te (blkSl sl vs) (xs.drop (i + 1)) cs').bind fun ys cs2 => .ok (.ow (.list (acc ++ ys))) cs2) Q, fun H' hN => ⟨xs.length - (i + 1), by omega, rfl, hN⟩, fun u H3 hy => ?_⟩
    obtain ⟨H4, e4, hD4, r4, g4, a4⟩ := yl u H3 hy
    subst e4
    have eD3 : H3 D = some (.lst accV) := (hD4 D rfl).trans eD
    have l4 := AtL.mono (g4.vis r2) _ _ l
    have g14 := g2.trans r2.cells g4
    have th := sub_there r4 ⟨_, eD3⟩
    have rb := rep_blk r4 vs th
    rw [List.drop_eq_getElem_cons hlt] at h2
    unfold lcL at h2
    cases eg : g xs[i] (blkSl sl vs) with
    | none => rw [eg] at h2; exact h2.elim
    | some sl5 =>
      rw [eg] at h2
      dsimp only at h2
      rw [R.bind_assoc] at h2
      refine qg _ ρ' (blkSl sl vs) cs' (wipe σ vs) H3 xs[i] u _ sl5 rb (AtV.mono vis_sub' (fun _ _ z => z) a4) eg fun σ5 r5 sub5 w5 => ⟨by rw [w5 vs hix, wipe_wipe fun _ z => z], ?_⟩
      refine qt W0 _ ρ' sl5 cs' σ5 H3 _ r5 (post_noEx (Γ := Γ) (rel := relB) h2 fun b cs6 _ h3 b' H6 ρ6 r6 g6 eb => ?_)
      have eb : b = b' := eb
      subst eb
      obtain ⟨r6', g6', eD6⟩ := rep_back r4 r6 g6
      have l6 := AtL.mono (g6'.vis r4) _ _ l4
      have g16 := g14.trans r4.cells g6'
      cases b with
      | false =>
        rw [if_neg (by decide)] at h3 ⊢
        exact ⟨cs6, ρ6, acc, accV, r6', g16, eD6.trans eD3, l6, by omega, by omega, h3⟩
      | true =>
        rw [if_pos rfl] at h3 ⊢
        rw [R.bind_assoc] at h3
        refine qe W0 _ ρ6 sl5 cs6 σ5 H6 _ r6 (post_noEx (Γ := Γ) (rel := relV Γ _ sl5 σ5) h3 fun v cs7 _ h4 u7 H7 ρ7 r7 g7 a7 => ?_)
        obtain ⟨r7', g7', eD7⟩ := rep_back r4 r7 (g6.trans r6.cells g7)
        have l7 := AtL.mono (g7'.vis r4) _ _ l4
        have g17 := g14.trans r4.cells g7'
        have e7 : H7 D = some (.lst accV) := eD7.trans eD3
        split at h4
        · rename_i _ y _
          have ay : AtD Γ.K (vis F ρ7 sl σ (hide (· = D) H7)) y u7 := AtD.mono vis_sub _ _ a7.d
          have ll := l7.length
          refine ⟨accV, e7, by rw [sizeLine_eq, ← ll]; omega, cs7, ρ7, acc ++ [y], accV ++ [u7], ?_, ?_, upd_same, ?_, by rw [List.length_append, List.length_singleton]; omega, by omega, ?_⟩
          · rw [hide_upd']; exact r7'
          · rw [hide_upd']; exact g17
          · rw [hide_upd']; exact l7.append (AtL.cons ay AtL.nil)
          · rw [R.bind_assoc] at h4
            simp only [R.bind_ok] at h4
            simp only [List.append_assoc, List.singleton_append]
            exact h4
        · exact h4.elim
  · refine .inl ⟨st (by omega), ?_⟩
    rw [List.drop_eq_nil_of_le (by omega)] at h2
    unfold lcL at h2
    simp only [R.bind_ok, List.append_nil] at h2
    refine h2 (.ref D) H2 ρ' r2.unhide ⟨fun a o e hn => hide_le _ _ (g2.keep a o e hn), g2.ext⟩ ⟨D, rfl, g1.back r1 hD, r2, accV, eD, l⟩
theorem do_lc {elt tg iter : Expr} {ifs : List Expr} {scope : Scope} {own : List (Str × Nat)} {pos : Pos} {it : SA} {ix : List Nat} {g : Val → Sl → Option Sl} {tt : ST} {te : SE} (hcm : Γ.cm = true) (hN : Γ.N.Nodup) (hb : BlkOk Γ.N Γ.sc scope own)
    (hi : DP Γ tg iter it) (hg : DG (Γ.blk scope) tg ix g) (ht : DTs (Γ.blk scope) ifs tt) (he : DE (Γ.blk scope) elt te) (hix : ∀ i ∈ ix, i ∈ own.map (·.2) := by decide) (hs : ∀ env x, foldedSetIterable iter env x = pure x := by intro _ _; rfl) :
    DO Γ (.ListComp elt [⟨tg, iter, ifs, 0⟩] scope pos) (oLc it g tt te (own.map (·.2))) := by
  obtain ⟨wi, pi, qi⟩ := hi.ex
  obtain ⟨tg', pg, qg⟩ := hg.ex
  obtain ⟨tt', pt, qt⟩ := ht.ex
  obtain ⟨te', pe, qe⟩ := he.ex
  refine ⟨fun W => tLc (wi W) tg' (tt' W0) (te' W0) (own.map (·.2)), fun X W ok gd => ?_, fun W F ρ sl cs σ H Q r h => ?_⟩
  · exact pe_lc (ok.cm hcm).1 (by rw [ok.N]; exact hN) (pi X W ok gd) (by rw [ok.N, ok.sc]; exact hb) (fun s H C cl fp => pg _ (blk_ok ok s H C cl fp)) (fun s H C cl fp => pt _ W0 (blk_ok ok s H C cl fp) (blk_good s H C cl fp)) (fun s H C cl fp => pe _ W0 (blk_ok ok s H C cl fp) (blk_good s H C cl fp)) (hs _)
  · refine qi W F ρ sl cs σ H _ r (PostG.mono (PostG.bind (rel := relI Γ F sl σ) h) fun J H1 ⟨xs, cs1, ρ1, r1, g1, a1, h1⟩ D hD => ?_)
    by_cases hl : xs.length ≤ 16777216
    · rw [if_pos hl] at h1
      exact lc_sem (Γ := Γ) (scope := scope) qg qt qe hix r r1 g1 a1 hl h1 hD
    · rw [if_neg hl] at h1
      exact h1.elim
/-- y = [..] on one line -/
theorem ds_setLc (i : Nat) {y : Str} {py : Pos} {elt tg iter : Expr} {ifs : List Expr} {scope : Scope} {own : List (Str × Nat)} {pos spos : Pos} {it : SA} {ix : List Nat} {g : Val → Sl → Option Sl} {tt : ST} {te : SE} (hcm : Γ.cm = true) (hN : Γ.N.Nodup) (hb : BlkOk Γ.N Γ.sc scope own)
    (hi : DP Γ tg iter it) (hg : DG (Γ.blk scope) tg ix g) (ht : DTs (Γ.blk scope) ifs tt) (he : DE (Γ.blk scope) elt te) (hk : Γ.sc.kind = .function) (hyl : Γ.sc.names.lookup y = some .local) (hl : (py.line == pos.line) = true) (ha : (scope.names.any fun (n, k) => n == y && (k == .local || k == .cell)) = false)
    (hy : Γ.N[i]? = some y := by rfl) (hix : ∀ i ∈ ix, i ∈ own.map (·.2) := by decide) (hs : ∀ env x, foldedSetIterable iter env x = pure x := by intro _ _; rfl) :
    DS Γ (.Assign [.Name y py] (.ListComp elt [⟨tg, iter, ifs, 0⟩] scope pos) spos) (sSet i (oLc it g tt te (own.map (·.2)))) := by
  obtain ⟨wi, pi, qi⟩ := hi.ex
  obtain ⟨tg', pg, qg⟩ := hg.ex
  obtain ⟨tt', pt, qt⟩ := ht.ex
  obtain ⟨te', pe, qe⟩ := he.ex
  refine ⟨fun W => tAsg (tLc (wi W) tg' (tt' W0) (te' W0) (own.map (·.2))) (gName i), fun X W ok gd => ?_, fun W F ρ sl cs σ H D r h => ?_⟩
  · exact ps_setLc (ok.cm hcm).1 (by rw [ok.N]; exact hN) (by rw [ok.N]; exact hy) (by rw [ok.sc]; exact hyl) (sw_true (by rw [ok.sc]; exact hk) (by rw [ok.sc]; exact hyl) hl ha) (pi X W ok gd) (by rw [ok.N, ok.sc]; exact hb)
      (fun s H C cl fp => pg _ (blk_ok ok s H C cl fp)) (fun s H C cl fp => pt _ W0 (blk_ok ok s H C cl fp) (blk_good s H C cl fp)) (fun s H C cl fp => pe _ W0 (blk_ok ok s H C cl fp) (blk_good s H C cl fp)) (hs _)
  · have h0 : PostG Γ F ρ sl σ H W (relO Γ F sl σ H) (oLc it g tt te (own.map (·.2)) sl cs) (fun u H1 => D.nx (σ.set i (some u)) H1) := by
      refine PostG.mono (PostS.go h r) fun u H1 ⟨x, cs1, ρ1, r1, g1, a1, h1⟩ => ?_
      exact set_post (Hs := H) r r1 g1 a1 h1
    refine qi W F ρ sl cs σ H _ r (PostG.mono (PostG.bind (rel := relI Γ F sl σ) h0) fun J H1 ⟨xs, cs1, ρ1, r1, g1, a1, h1⟩ D hD => ?_)
    by_cases hl : xs.length ≤ 16777216
    · rw [if_pos hl] at h1
      exact lc_sem (Γ := Γ) (scope := scope) qg qt qe hix r r1 g1 a1 hl h1 hD
    · rw [if_neg hl] at h1
      exact h1.elim
end
end DL
end
section
set_option Elab.async false
set_option linter.all false
set_option maxRecDepth 100000
set_option autoImplicit false
namespace DL
open PySem PySem.Spec PyProof.Rows L2

/-! ### len(set(t)), t a tuple of texts -/
def SetO (P : Program) (w : World) (a : Addr) (ks : List Str) (n : Nat) : HO := .ext fun h => SetT P w h a ks n
theorem setO_new {P : Program} {w : World} {H : Hp} {h : Heap} {a : Addr} {ks : List Str} {n : Nat} (R : SetT P w h a ks n) : ObjOk P w H h a (SetO P w a ks n) := by
  have ⟨o, _, _, _, ho, _⟩ := R
  exact ⟨R, ⟨o, ho⟩, fun h1 h2 p k => SetT.keep p k⟩
theorem strsAre_of : ∀ {ys : List Str} {us : List Value}, Vals (ys.map V.str) us → StrsAre us ys
  | [], us, r => by rw [List.map_nil] at r; cases r; exact .nil
  | y :: ys, us, r => by
    rw [List.map_cons] at r
    cases r with
    | cons a b =>
      obtain ⟨t, rfl⟩ := a
      exact .cons y t (strsAre_of b)
def rSetT (P : Program) (w : World) (K : PySem.W.Frag) : List V → Hp → VK → Prop := fun xs H Q => ∃ (l : Addr) (ys : List Str), xs = [.ref l] ∧ SqT K H l (ys.map V.str) ∧ ys.length < 4095 ∧ ∀ p, H p = none → Q (.ref p) (upd H p (SetO P w p ys (cntS ys 0 [])))
theorem cr_setT {X : Cx} (hc : X.calm = true) : CallR X (.type "set") (rSetT X.prog X.w X.K) := by
  intro pins s σ H xs us Q I r h
  obtain ⟨l, ys, rfl, hs, hb, q⟩ := h
  obtain ⟨its, rv, hl, _⟩ := I.tuple hs
  rw [Vals.ref1 r]
  refine call_setT (I.ok.hd hc) hl (xs := ys) (strsAre_of (by simpa using rv)) (by unfold scanBound; omega) fun h' tk fin keep => ?_
  exact ⟨.ref s.heap.objs.size, _, I.laid (t' := tk) (fun b o e => keep b o e) (Nat.le_refl _) (setO_new fin), rfl, q _ (I.hok.fresh (Nat.le_refl _))⟩
def rLenSet (P : Program) (w : World) : List V → Hp → VK → Prop := fun xs H Q => ∃ p ks n, xs = [.ref p] ∧ H p = some (SetO P w p ks n) ∧ Q (.int (n : Nat)) H
theorem cr_lenSet {X : Cx} : CallR X (.builtin "len") (rLenSet X.prog X.w) := by
  intro pins s σ H xs us Q I r h
  obtain ⟨p, ks, n, rfl, hp, q⟩ := h
  rw [Vals.ref1 r]
  obtain ⟨o, es, ep, t, ho, hex, hd, hel, hmem, hb, hf, hn⟩ : SetT X.prog X.w s.heap p ks n := (I.hok p _ hp).1
  subst hn
  have hb' : es.size < 4096 := hb
  exact call_len_set ho hex hd hf (by omega) ⟨.int _, H, I.tok _, ⟨_, rfl⟩, q⟩
def strsOf : List PyData → Option (List Str)
  | [] => some []
  | .str i :: r => (strsOf r).map (i :: ·)
  | _ :: _ => none
theorem strs_at {K : PySem.W.Frag} {G : Hp} : ∀ {xs : List PyData} {vs : List V} {ns : List Str}, strsOf xs = some ns → AtL K G xs vs → vs = ns.map V.str
  | [], vs, _, e, q => by cases e; simp only [AtL] at q; exact q
  | .str i :: r, vs, ns, e, q => by
    simp only [strsOf] at e
    cases er : strsOf r with
    | none => rw [er] at e; cases e
    | some l =>
      rw [er] at e
      cases e
      simp only [AtL] at q
      obtain ⟨v, t, rfl, q1, q2⟩ := q
      rw [strs_at er q2, at_str_iff.mp q1]
      rfl
  | .none :: _, _, _, e, _ => by cases e
  | .bool _ :: _, _, _, e, _ => by cases e
  | .int _ :: _, _, _, e, _ => by cases e
  | .list _ :: _, _, _, e, _ => by cases e
  | .tuple _ :: _, _, _, e, _ => by cases e
  | .dict _ :: _, _, _, e, _ => by cases e
def lenSetV (x : Val) (cs : Cs) : R Val := match x with
  | .d (.tuple l) => match strsOf l with
    | some ys => if ys.length < 4095 then .ok (.d (.int (cntS ys 0 [] : Nat))) cs else .bad
    | none => .bad
  | _ => .bad
def eLenSet (f : SE) : SE := fun sl cs => (f sl cs).bind lenSetV
section
variable {Γ : Cf} {pos p p2 pos2 : Pos} {e : Expr} {f : SE}
theorem de_lenset (hcm : Γ.cm = true) (hl : Γ.mg "len" = none) (hst : Γ.mg "set" = none) (he : DE Γ e f) (hg : Gls Γ.sc "len" := by rfl) (hgs : Gls Γ.sc "set" := by rfl)
    (hs1 : ∀ env, starEach [e] env = [(false, eval e env)] := by intro _; rfl) : DE Γ (.Call (.Name "len" p) [.Call (.Name "set" p2) [e] [] pos2] [] pos) (eLenSet f) := by
  obtain ⟨t, p1, q⟩ := he.ex
  refine ⟨fun W => tCB (rLenSet Γ.P Γ.w) (tCons (tCB (rSetT Γ.P Γ.w Γ.K) (tCons (t W) tNil)) tNil), fun X W ok gd => ?_, fun W F ρ sl cs σ H Q rp h => ?_⟩
  · rw [← ok.K, ← ok.P, ← ok.w]
    exact pe_callB cr_lenSet (gl_of ok hg) (by rw [ok.mg]; exact hl) (by decide +kernel) (pa_cons (pe_callTy (cr_setT (ok.cm hcm).1) (gl_of ok hgs) (by rw [ok.mg]; exact hst) (by decide +kernel) (pa_cons (p1 X W ok gd) pa_nil (hs1 _)) (by decide) (by decide) (hs1 _) rfl) pa_nil rfl) (by decide) (by decide) rfl rfl
  · refine q W F ρ sl cs σ H _ rp (PostG.mono (PostG.bind (rel := relV Γ F sl σ) h) fun u H1 ⟨x, cs1, ρ1, r1, g1, a1, h1⟩ => ?_)
    unfold lenSetV at h1
    split at h1
    · rename_i l
      split at h1
      · rename_i ys ey
        split at h1
        · rename_i hlen
          obtain ⟨a, vs, rfl, s, ll⟩ := AtT.tup a1
          rw [strs_at ey ll] at s
          refine ⟨a, ys, rfl, sqT_sub vis_le s, hlen, fun t ht => ?_⟩
          obtain ⟨rp', hv⟩ := r1.alloc ht (SetO Γ.P Γ.w t ys (cntS ys 0 []))
          exact ⟨t, ys, _, rfl, upd_same, h1 _ _ ρ1 rp' (Grow.upd ht) AtT.mkI⟩
        · exact h1.elim
      · exact h1.elim
    · exact h1.elim
end

/-! ### lists that are changed in place: own slots, cells -/
def lstAt (i : Nat) (sl : Sl) (cs : Cs) : Option (List Val) := match sl[i]? with
  | some (some (.ow (.list xs))) => some (xs.map Val.d)
  | some (some (.fr (.cel n))) => match cs[n]? with
    | some (.lst xs) => some xs
    | _ => none
  | _ => none
def lstPut (i : Nat) (ys : List Val) (sl : Sl) (cs : Cs) : Option (Sl × Cs) := match sl[i]? with
  | some (some (.ow (.list _))) => (datsOf ys).map fun ds => (sl.set i (some (.ow (.list ds))), cs)
  | some (some (.fr (.cel n))) => match cs[n]? with
    | some (.lst _) => some (sl, cs.set n (.lst ys))
    | _ => none
  | _ => none
theorem lst_view {K : PySem.W.Frag} {mg : Str → Option Value} {F : Fx} {ρ : List Addr} {sl : Sl} {cs : Cs} {σ : St} {H : Hp} {i : Nat} {xs : List Val} (r : Rep K mg F ρ sl cs σ H) (e : lstAt i sl cs = some xs) :
    ∃ a vs, σ[i]? = some (some (.ref a)) ∧ H a = some (.lst vs) ∧ Paired (AtV K mg ρ (vis F ρ sl σ H)) xs vs ∧ ∀ ys ws sl' cs', lstPut i ys sl cs = some (sl', cs') → Paired (AtV K mg ρ (vis F ρ sl σ H)) ys ws →
      Rep K mg F ρ sl' cs' σ (upd H a (.lst ws)) ∧ Sub (vis F ρ sl σ H) (vis F ρ sl' σ (upd H a (.lst ws))) := by
  unfold lstAt at e
  split at e
  · rename_i xs e1
    cases e
    obtain ⟨u, e2, a, rfl, vs, e3, l⟩ := r.slot i _ e1
    refine ⟨a, vs, e2, e3, atL_paired l, fun ys ws sl' cs' ep pw => ?_⟩
    unfold lstPut at ep
    rw [e1] at ep
    dsimp only at ep
    cases ed : datsOf ys with
    | none => rw [ed] at ep; cases ep
    | some ds =>
      rw [ed] at ep
      cases ep
      exact r.mut e1 e2 ⟨ws, upd_same, dats_at ed pw⟩
  · rename_i n e1
    split at e
    · rename_i ys ec
      cases e
      obtain ⟨u, e2, a, ea, rfl⟩ : ∃ u, σ[i]? = some (some u) ∧ ∃ a, ρ[n]? = some a ∧ u = .ref a := r.slot i _ e1
      obtain ⟨vs, e3, l⟩ := r.cells.at_ n _ a ec ea
      refine ⟨a, vs, e2, e3, l, fun zs ws sl' cs' ep pw => ?_⟩
      unfold lstPut at ep
      rw [e1] at ep
      dsimp only at ep
      rw [ec] at ep
      cases ep
      obtain ⟨r2, _, s⟩ := r.mutCell (c' := .lst zs) (o := .lst ws) ec ea ⟨ws, upd_same, pw⟩
      exact ⟨r2, s⟩
    · cases e
  · cases e
/-- the list's own address stays while arguments are made -/
theorem lst_stay {K : PySem.W.Frag} {mg : Str → Option Value} {F : Fx} {ρ ρ1 : List Addr} {sl : Sl} {cs cs1 : Cs} {σ : St} {H H1 : Hp} {i : Nat} {xs ys : List Val} {a b : Addr} (e1 : σ[i]? = some (some (.ref a))) (e2 : σ[i]? = some (some (.ref b))) : a = b := by
  rw [e1] at e2; cases e2; rfl
def put2 (i : Nat) (sl : Sl) (cs : Cs) (o : Option (List Val)) : RS := match o with
  | none => .bad
  | some ys => match lstPut i ys sl cs with
    | some (sl', cs') => .nx sl' cs'
    | none => .bad
section
variable {Γ : Cf} {pos apos cpos pos' : Pos} {e ix : Expr} {f fx : SE}
theorem put_post {F : Fx} {ρ : List Addr} {sl : Sl} {cs : Cs} {σ : St} {H : Hp} {W : WX} {D : Ends} {i : Nat} {xs : List Val} {o : Option (List Val)} (r : Rep Γ.K Γ.mg F ρ sl cs σ H) (ex : lstAt i sl cs = some xs) {a : Addr} (ea : σ[i]? = some (some (.ref a)))
    (h : PostS Γ F ρ sl σ H W (put2 i sl cs o) D) : ∃ ys, o = some ys ∧ ∀ ws, Paired (AtV Γ.K Γ.mg ρ (vis F ρ sl σ H)) ys ws → D.nx σ (upd H a (.lst ws)) := by
  obtain ⟨b, vs, e1, e2, l, wr⟩ := lst_view r ex
  obtain rfl := lst_stay (K := Γ.K) (mg := Γ.mg) (F := F) (ρ := ρ) (ρ1 := ρ) (sl := sl) (cs := cs) (cs1 := cs) (H := H) (H1 := H) (xs := xs) (ys := xs) ea e1
  unfold put2 at h
  split at h
  · exact h.elim
  · rename_i ys
    split at h
    · rename_i sl' cs' ep
      refine ⟨ys, rfl, fun ws pw => ?_⟩
      obtain ⟨r2, s⟩ := wr ys ws sl' cs' ep pw
      exact h σ _ ρ r2 s
    · exact h.elim
/-- x[k] = e -/
def setAt (xs : List Val) (ix v : Val) : Option (List Val) := match ix with
  | .d (.int k) => match ixN xs.length k with
    | some j => if v.solid = true then some (xs.set j v) else none
    | none => none
  | _ => none
def sPut (i : Nat) (fv fx : SE) : SS := fun sl cs => (fv sl cs).go sl fun v cs1 => match lstAt i sl cs1 with
  | none => .bad
  | some _ => (fx sl cs1).go sl fun k cs2 => match lstAt i sl cs2 with
    | none => .bad
    | some xs => put2 i sl cs2 (setAt xs k v)
theorem Paired.set {α β : Type} {R : α → β → Prop} : ∀ {xs : List α} {us : List β} (n : Nat) {x : α} {u : β}, Paired R xs us → R x u → Paired R (xs.set n x) (us.set n u)
  | _, _, _, _, _, .nil, _ => .nil
  | _, _, 0, _, _, .cons _ t, h => .cons h t
  | _, _, n + 1, _, _, .cons r t, h => .cons r (Paired.set n t h)
theorem ds_put (i : Nat) {x : Str} {p : Pos} (hv : DE Γ e f) (hx : DE Γ ix fx) (hN : Γ.N[i]? = some x := by rfl) (hvs : Vis Γ.sc x := by first | exact Or.inl rfl | exact Or.inr (Or.inl rfl) | exact Or.inr (Or.inr rfl)) (hd : (x == ("__debug__" : Str)) = false := by decide)
    (hcd : (x == ("__classdict__" : Str)) = false := by decide) (hs : ∀ env, swapsWithSole [.Subscript (.Name x p) ix pos'] e pos.line env = pure false := by intro _; rfl) (hw : ∀ env, swappedStores [.Subscript (.Name x p) ix pos'] e env = pure none := by intro _; rfl)
    (ha : ∀ env v, assign (.Subscript (.Name x p) ix pos') env v = (do
      let ov ← holding [v] (eval (.Name x p) env)
      let iv ← holding [v, ov] (eval ix env)
      standAt pos'
      holding [v, ov, iv] (setItem ov iv v)
      release [v, ov, iv] []) := by intro _ _; rfl) : DS Γ (.Assign [.Subscript (.Name x p) ix pos'] e pos) (sPut i f fx) := by
  obtain ⟨t, p1, q1⟩ := hv.ex
  obtain ⟨u, p2, q2⟩ := hx.ex
  refine ⟨fun W => tAsg (t W) (gSub (tVar i) (u W) rSetL), fun X W ok gd => ps_asg (p1 X W ok gd) (pg_sub (pe_var (by rw [ok.N]; exact hN) (by rw [ok.sc]; exact hvs) hd hcd) (p2 X W ok gd) set_list (ha _)) (hs _) (hw _) rfl, fun W F ρ sl cs σ H D r h => ?_⟩
  refine q1 W F ρ sl cs σ H _ r (PostG.mono (PostS.go h r) fun v H1 ⟨y, cs1, ρ1, r1, g1, a1, h1⟩ => ?_)
  split at h1
  · exact h1.elim
  rename_i xs0 ex0
  obtain ⟨a, vs0, e1, e2, l0, _⟩ := lst_view r1 ex0
  refine ⟨.ref a, e1, ?_⟩
  refine q2 W F ρ1 sl cs1 σ H1 _ r1 (PostG.mono (PostS.go (h1.weak (g1.vis r)) r1) fun k H2 ⟨z, cs2, ρ2, r2, g2, a2, h2⟩ => ?_)
  split at h2
  · exact h2.elim
  rename_i xs ex
  obtain ⟨b, vs, e3, e4, l, _⟩ := lst_view r2 ex
  obtain rfl : a = b := by rw [e1] at e3; cases e3; rfl
  obtain ⟨ys, eys, fin⟩ := put_post r2 ex e1 (h2.weak (g2.vis r1))
  unfold setAt at eys
  split at eys
  · rename_i k'
    split at eys
    · rename_i j ej
      split at eys
      · rename_i hsol
        cases eys
        refine ⟨a, vs, k', j, rfl, AtT.int a2, e4, by rw [← Paired.len l]; exact ej, fin _ (Paired.set j l ?_)⟩
        exact (AtT.grow r1 g2 a1).solid hsol
      · cases eys
    · cases eys
  · cases eys
/-- x.append(e) -/
def appAt (xs : List Val) (v : Val) : Option (List Val) := if xs.length < 16777216 ∧ v.solid = true then some (xs ++ [v]) else none
def extAt (xs : List Val) (v : Val) : Option (List Val) := match v with
  | .d (.list zs) => if xs.length + zs.length ≤ 16777216 then some (xs ++ zs.map Val.d) else none
  | .br (.list zs) => if xs.length + zs.length ≤ 16777216 then some (xs ++ zs.map Val.d) else none
  | _ => none
def sMeth (i : Nat) (mu : List Val → Val → Option (List Val)) (f : SE) : SS := fun sl cs => match lstAt i sl cs with
  | none => .bad
  | some _ => (f sl cs).go sl fun v cs1 => match lstAt i sl cs1 with
    | none => .bad
    | some xs => put2 i sl cs1 (mu xs v)
theorem Paired.snoc {α β : Type} {R : α → β → Prop} {xs : List α} {us : List β} {x : α} {u : β} (h : Paired R xs us) (t : R x u) : Paired R (xs ++ [x]) (us ++ [u]) := Paired.app h (.cons t .nil)
theorem ds_meth (i : Nat) {name : Str} {id : String} {rr : V → List V → Hp → VK → Prop} {mu : List Val → Val → Option (List Val)} (slot : PySem.Slot "list" name id) (hty : typeOf (.builtin id) = pure (.type "method_descriptor")) (hm : ∀ X, MtR X id rr)
    (hr : ∀ (F : Fx) (ρ : List Addr) (sl : Sl) (σ : St) (H : Hp) (a : Addr) (xs : List Val) (vs : List V) (y : Val) (u : V) (ys : List Val) (Q : VK), H a = some (.lst vs) → Paired (AtV Γ.K Γ.mg ρ (vis F ρ sl σ H)) xs vs → AtT Γ.K Γ.mg ρ H (vis F ρ sl σ H) y u → mu xs y = some ys →
      (∀ ws, Paired (AtV Γ.K Γ.mg ρ (vis F ρ sl σ H)) ys ws → Q .non (upd H a (.lst ws))) → rr (.ref a) [u] H Q)
    {x : Str} {p : Pos} (he : DE Γ e f) (hN : Γ.N[i]? = some x := by rfl) (hvs : Vis Γ.sc x := by first | exact Or.inl rfl | exact Or.inr (Or.inl rfl) | exact Or.inr (Or.inr rfl)) (hd : (x == ("__debug__" : Str)) = false := by decide)
    (hcd : (x == ("__classdict__" : Str)) = false := by decide) (hsw : ∀ env, swapsWith (.Call (.Attribute (.Name x p) name apos) [e] [] cpos) none pos.line env = pure false := by intro _; rfl)
    (hbase : ∀ env, attributeBase (.Name x p) name env (eval (.Name x p) env) = eval (.Name x p) env := by intro _; rfl)
    (hfew : ∀ env, ((backTo cpos (starEach [e] env)).all (fun x => !x.1) && (backToKw cpos (keywordEach [] env)).all (fun x => x.1.isSome) && decide ([e].length + ([] : List Keyword).length + (if ([] : List Keyword).isEmpty then 0 else 1) < 30)) = true := by intro _; rfl)
    (hline : (apos.endLine == cpos.line) = true := by rfl) (hs : ∀ env, starEach [e] env = [(false, eval e env)] := by intro _; rfl) : DS Γ (.Expr (.Call (.Attribute (.Name x p) name apos) [e] [] cpos) pos) (sMeth i mu f) := by
  obtain ⟨t, p1, q1⟩ := he.ex
  refine ⟨fun W => tDrop (tBM Γ.K "list" rr (tVar i) (tCons (t W) tNil)), fun X W ok gd => ?_, fun W F ρ sl cs σ H D r h => ?_⟩
  · rw [← ok.K]
    exact ps_expr (pe_bm F.plainAttrs_list slot hty (hm X) (pe_var (by rw [ok.N]; exact hN) (by rw [ok.sc]; exact hvs) hd hcd) (pa_cons (p1 X W ok gd) pa_nil (hs _)) (hbase _) (hfew _) hline (hs _) rfl) (hsw _)
  · unfold sMeth at h
    split at h
    · exact h.elim
    rename_i xs0 ex0
    obtain ⟨a, vs0, e1, e2, l0, _⟩ := lst_view r ex0
    refine ⟨.ref a, e1, .inl ⟨rfl, vs0, SqL.of e2⟩, ?_⟩
    refine q1 W F ρ sl cs σ H _ r (PostG.mono (PostS.go h r) fun u H1 ⟨y, cs1, ρ1, r1, g1, a1, h1⟩ => ?_)
    split at h1
    · exact h1.elim
    rename_i xs ex
    obtain ⟨b, vs, e3, e4, l, _⟩ := lst_view r1 ex
    obtain rfl : a = b := by rw [e1] at e3; cases e3; rfl
    obtain ⟨ys, eys, fin⟩ := put_post r1 ex e1 (h1.weak (g1.vis r))
    exact hr F ρ1 sl σ H1 a xs vs y u ys _ e4 l a1 eys fin
theorem ds_append (i : Nat) {x : Str} {p : Pos} (he : DE Γ e f) (hN : Γ.N[i]? = some x := by rfl) (hvs : Vis Γ.sc x := by first | exact Or.inl rfl | exact Or.inr (Or.inl rfl) | exact Or.inr (Or.inr rfl)) (hd : (x == ("__debug__" : Str)) = false := by decide)
    (hcd : (x == ("__classdict__" : Str)) = false := by decide) (hsw : ∀ env, swapsWith (.Call (.Attribute (.Name x p) "append" apos) [e] [] cpos) none pos.line env = pure false := by intro _; rfl)
    (hbase : ∀ env, attributeBase (.Name x p) "append" env (eval (.Name x p) env) = eval (.Name x p) env := by intro _; rfl)
    (hfew : ∀ env, ((backTo cpos (starEach [e] env)).all (fun x => !x.1) && (backToKw cpos (keywordEach [] env)).all (fun x => x.1.isSome) && decide ([e].length + ([] : List Keyword).length + (if ([] : List Keyword).isEmpty then 0 else 1) < 30)) = true := by intro _; rfl)
    (hline : (apos.endLine == cpos.line) = true := by rfl) (hs : ∀ env, starEach [e] env = [(false, eval e env)] := by intro _; rfl) : DS Γ (.Expr (.Call (.Attribute (.Name x p) "append" apos) [e] [] cpos) pos) (sMeth i appAt f) :=
  ds_meth i F.slot_list_append F.type_list_append (fun X => mt_append) (fun F ρ sl σ H a xs vs y u ys Q ea l ay em fin => by
    unfold appAt at em
    split at em
    · rename_i hc
      cases em
      exact ⟨a, vs, u, rfl, rfl, ea, by rw [sizeLine_eq, ← Paired.len l]; exact hc.1, fin _ (Paired.snoc l (ay.solid hc.2))⟩
    · cases em) he hN hvs hd hcd hsw hbase hfew hline hs
theorem ds_extend (i : Nat) {x : Str} {p : Pos} (he : DE Γ e f) (hN : Γ.N[i]? = some x := by rfl) (hvs : Vis Γ.sc x := by first | exact Or.inl rfl | exact Or.inr (Or.inl rfl) | exact Or.inr (Or.inr rfl)) (hd : (x == ("__debug__" : Str)) = false := by decide)
    (hcd : (x == ("__classdict__" : Str)) = false := by decide) (hsw : ∀ env, swapsWith (.Call (.Attribute (.Name x p) "extend" apos) [e] [] cpos) none pos.line env = pure false := by intro _; rfl)
    (hbase : ∀ env, attributeBase (.Name x p) "extend" env (eval (.Name x p) env) = eval (.Name x p) env := by intro _; rfl)
    (hfew : ∀ env, ((backTo cpos (starEach [e] env)).all (fun x => !x.1) && (backToKw cpos (keywordEach [] env)).all (fun x => x.1.isSome) && decide ([e].length + ([] : List Keyword).length + (if ([] : List Keyword).isEmpty then 0 else 1) < 30)) = true := by intro _; rfl)
    (hline : (apos.endLine == cpos.line) = true := by rfl) (hs : ∀ env, starEach [e] env = [(false, eval e env)] := by intro _; rfl) : DS Γ (.Expr (.Call (.Attribute (.Name x p) "extend" apos) [e] [] cpos) pos) (sMeth i extAt f) :=
  ds_meth i F.slot_list_extend F.type_list_extend (fun X => mt_extend) (fun F ρ sl σ H a xs vs y u ys Q ea l ay em fin => by
    unfold extAt at em
    split at em
    · rename_i zs
      split at em
      · rename_i hc
        cases em
        obtain ⟨b, ws, rfl, eb, lb⟩ := AtT.list ay (.inl rfl)
        exact ⟨a, b, vs, ws, rfl, rfl, ea, eb, by rw [sizeLine_eq, ← Paired.len l, ← lb.length]; exact hc, fin _ (Paired.app l (atL_paired lb))⟩
      · cases em
    · rename_i zs
      split at em
      · rename_i hc
        cases em
        obtain ⟨b, ws, rfl, eb, lb⟩ := AtT.list ay (.inr rfl)
        exact ⟨a, b, vs, ws, rfl, rfl, ea, eb, by rw [sizeLine_eq, ← Paired.len l, ← lb.length]; exact hc, fin _ (Paired.app l (atL_paired lb))⟩
      · cases em
    · cases em) he hN hvs hd hcd hsw hbase hfew hline hs
/-- x op= e, x a value -/
def sAug (i : Nat) (g : PyData → PyData → Option PyData) (f : SE) : SS := fun sl cs => match sl[i]? with
  | some (some (.fr x)) => (f sl cs).go sl fun y cs1 => (op2 g x y cs1).go sl fun z cs2 => if z.solid = true then .nx (sl.set i (some (.fr z))) cs2 else .bad
  | _ => .bad
theorem ds_aug (i : Nat) {x : Str} {p : Pos} {op : Operator} {g : PyData → PyData → Option PyData} (ho : OpD Γ (inplaceOp op) g) (h : DE Γ e f) (hnd : Γ.N.Nodup) (hN : Γ.N[i]? = some x := by rfl) (hx : Loc Γ.sc x := by first | exact Or.inl rfl | exact Or.inr rfl) (hst : Γ.st x = true := by rfl) :
    DS Γ (.AugAssign (.Name x p) op e pos) (sAug i g f) := by
  obtain ⟨t, p1, q1⟩ := h.ex
  obtain ⟨r2, p2, q2⟩ := ho.ex
  refine ⟨fun W => tAug i (t W) r2, fun X W ok gd => ps_aug (by rw [ok.N]; exact hnd) (by rw [ok.N]; exact hN) (by rw [ok.sc]; exact hx) (p1 X W ok gd) (fun pins s σ H x y v u Q I rx ry q => p2 X ok pins s σ H x y v u Q I rx ry q) (by rw [ok.sc]; exact ok.fn x hst), fun W F ρ sl cs σ H D r h => ?_⟩
  unfold sAug at h
  split at h
  · rename_i z ez
    obtain ⟨u0, e2, a0⟩ := r.slot i _ ez
    refine ⟨u0, e2, ?_⟩
    refine q1 W F ρ sl cs σ H _ r (PostG.mono (PostS.go h r) fun v H1 ⟨y, cs1, ρ1, r1, g1, a1, h1⟩ => ?_)
    have a0' : AtT Γ.K Γ.mg ρ1 H1 (vis F ρ1 sl σ H1) z u0 := AtT.of (AtV.mono (g1.vis r) g1.pre a0)
    have h1 := h1.weak (g1.vis r)
    unfold op2 at h1
    cases d1 : (z.cv cs1).dat with
    | none => rw [d1] at h1; exact h1.elim
    | some d =>
      cases d2 : (y.cv cs1).dat with
      | none => rw [d1, d2] at h1; exact h1.elim
      | some d' =>
        rw [d1, d2] at h1
        refine q2 W F ρ1 sl cs1 σ H1 _ (z.cv cs1) (y.cv cs1) d d' u0 v r1 d1 d2 (AtT.cv r1 a0') (AtT.cv r1 a1) (PostG.mono (PostS.go h1 r1) fun w H2 ⟨k, cs2, ρ2, r3, g3, a3, h3⟩ => ?_)
        by_cases hs : k.solid = true
        · rw [if_pos hs] at h3
          obtain ⟨r4, s4⟩ := r3.setFr (i := i) (a3.solid hs)
          exact (h3.weak (g3.vis r1)) _ _ ρ2 r4 s4
        · rw [if_neg hs] at h3
          exact h3.elim
  · exact h.elim
theorem iod_add : OpD Γ (inplaceOp .Add) (fun x y => (gI cT (fun i j => .int (i + j)) x y).or (gAddS x y)) := by
  refine OpD.or (opD_int (fun X => opR_of0 iop_add) (fun _ _ _ => trivial) fun _ _ _ _ => at_int) ⟨_, fun X _ => iop_add_str, fun W F ρ sl cs σ H Q x y a b u v rp e1 e2 h1 h2 hp => ?_⟩
  unfold gAddS at hp
  split at hp
  · rename_i i j
    split at hp
    · rename_i hcc
      exact ⟨i, j, dat_str e1 h1, dat_str e2 h2, by rw [sizeLine_eq]; exact hcc, hp _ H ρ rp Grow.refl AtT.mkS⟩
    · exact hp.elim
  · exact hp.elim
theorem iod_sub : OpD Γ (inplaceOp .Sub) (gI cT fun i j => .int (i - j)) := opD_int (fun X => opR_of0 iop_sub) (fun _ _ _ => trivial) fun _ _ _ _ => at_int
end
end DL
end
section
set_option Elab.async false
set_option linter.all false
set_option maxRecDepth 100000
set_option autoImplicit false
namespace DL
open PySem PySem.Spec PyProof.Rows L2

/-! ### a def's body is what the def computes -/
def bodyR (r : RS) : R Slot := match r with
  | .nx _ cs => .ok (.fr (.d .none)) cs
  | .rt s cs => .ok s cs
  | .ex e _ cs => .ex e cs
  | _ => .bad
def bodyF (n m : Nat) (f : SS) : FS := fun args cs => if args.length = n then bodyR (f (args.map (fun v => some (Slot.fr v)) ++ List.replicate m none) cs) else .bad
abbrev cfOf (K : PySem.W.Frag) (mg : Str → Option Value) (P : Program) (w : World) (base : Heap) (N : List Str) (sc : Scope) (k : Nat) : Cf := ⟨K, mg, P, w, base, N, sc, k, true, true, fun _ => true⟩
theorem ExAt.mono {K : PySem.W.Frag} {mg : Str → Option Value} {G G' H : Hp} {e : Ex} {c : Value} {d : Option Addr} (hs : Sub G G') (h : ExAt K mg G H e c d) : ExAt K mg G' H e c d := by
  obtain ⟨h1, h2⟩ := h
  refine ⟨h1, ?_⟩
  cases hf : e.flds with
  | nil => rw [hf] at h2; exact h2
  | cons p ps =>
    rw [hf] at h2
    obtain ⟨a, vs, e1, e2, q⟩ := h2
    exact ⟨a, vs, e1, e2, L2.Paired.mapP q fun _ _ z => ⟨z.1, AtD.mono hs _ _ z.2⟩⟩
section
variable {P : Program} {w : World} {K : PySem.W.Frag} {mg : Str → Option Value} {base : Heap}
theorem get_args {args : List Val} {m i : Nat} {s : Slot} (h : (args.map (fun v => some (Slot.fr v)) ++ List.replicate m (none : Option Slot))[i]? = some (some s)) : ∃ v, s = .fr v ∧ args[i]? = some v := by
  rcases Nat.lt_or_ge i (args.map fun v => some (Slot.fr v)).length with hl | hl
  · rw [List.getElem?_append_left hl, List.getElem?_map] at h
    cases e : args[i]? with
    | none => rw [e] at h; cases h
    | some v => rw [e] at h; cases h; exact ⟨v, rfl, rfl⟩
  · rw [List.getElem?_append_right hl, List.getElem?_replicate] at h
    split at h <;> cases h
theorem rep_start {hx : Addr → Prop} {ρ : List Addr} {H : Hp} {cs : Cs} {args : List Val} {vs : List V} {N : List Str} {m : Nat} (hxt : ∀ a, hx a → ∃ o, H a = some o) (pa : Paired (AtV K mg ρ (hide (fun a => hx a ∨ a ∈ ρ) H)) args vs) (hc : CellsAt K mg ρ (hide (fun a => hx a ∨ a ∈ ρ) H) H cs)
    (nd : ρ.Nodup) (hN : N.length = vs.length + m) : Rep K mg ⟨hx, H, ρ, hxt⟩ ρ (args.map (fun v => some (Slot.fr v)) ++ List.replicate m none) cs (L2.start N vs) H := by
  have no : ∀ a, ¬ Own (args.map (fun v => some (Slot.fr v)) ++ List.replicate m none) (L2.start N vs) a := fun a ⟨i, x, e1, _⟩ => by
    obtain ⟨v, e, _⟩ := get_args e1
    cases e
  have hv : vis ⟨hx, H, ρ, hxt⟩ ρ (args.map (fun v => some (Slot.fr v)) ++ List.replicate m none) (L2.start N vs) H = hide (fun a => hx a ∨ a ∈ ρ) H := hide_congr fun a => by
    unfold Hid
    constructor
    · rintro (z | z | z)
      · exact .inl z
      · exact .inr z
      · exact (no a z).elim
    · rintro (z | z)
      · exact .inl z
      · exact .inr (.inl z)
  have hl := Paired.len pa
  refine ⟨?_, by rw [hv]; exact hc, nd, ⟨[], by simp, fun _ z => by simp at z⟩, fun a z => (no a z).elim, fun i j x y a e1 => ?_, fun a o e _ => e, fun i s e => ?_⟩
  · unfold L2.start
    simp only [List.length_append, List.length_map, List.length_replicate]
    omega
  · obtain ⟨v, e, _⟩ := get_args e1
    cases e
  · obtain ⟨v, rfl, ev⟩ := get_args e
    obtain ⟨u, eu, au⟩ := Paired.get pa ev
    refine ⟨u, ?_, ?_⟩
    · unfold L2.start
      have hi : i < vs.length := (List.getElem?_eq_some_iff.mp eu).1
      rw [List.getElem?_append_left (by simpa using hi), List.getElem?_map, eu]
      rfl
    · show AtV K mg ρ _ v u
      rw [hv]
      exact au
theorem Out.grow {hx : Addr → Prop} {ρ ρ' : List Addr} {H H' : Hp} {cs' : Cs} {hxt : ∀ a, hx a → ∃ o, H a = some o} (o : Out K mg ⟨hx, H, ρ, hxt⟩ ρ' cs' H') : Grow ρ H ρ' H' := ⟨o.keep, o.pre⟩
theorem body_post {hx : Addr → Prop} {ρ : List Addr} {H : Hp} {sl : Sl} {σ : St} {hxt : ∀ a, hx a → ∃ o, H a = some o} {Γ : Cf} {r : RS} {Q : VK} {E : XK} (h : PostF Γ.K Γ.mg hx ρ H (bodyR r) Q E) :
    PostS Γ ⟨hx, H, ρ, hxt⟩ ρ sl σ H (fun cls d _ H' => E cls d H') r { nx := fun _ H' => Q .non H', rt := Q } := by
  cases r with
  | nx sl' cs' =>
    intro σ' H' ρ' rp _
    have o := rp.out
    exact h .non H' ρ' o.grow o.nd o.cells (at_non (K := Γ.K) (G := hide (fun a => hx a ∨ a ∈ ρ') H'))
  | rt s cs' =>
    intro u H' ρ' o q
    exact h u H' ρ' o.grow o.nd o.cells q
  | ex e sl' cs' =>
    intro c d σ' H' ρ' rp _ x
    have o := rp.out
    exact h c d H' ρ' o.grow o.nd o.cells (x.mono (hide_sub fun a o hn e => ⟨fun z => hn (z.imp id Or.inl), e⟩))
  | bk sl' cs' => exact h.elim
  | ct sl' cs' => exact h.elim
  | bad => exact h.elim
theorem fn_sound {x qual : Str} {params : Arguments} {body : List Stmt} {scope : Scope} {dvs : List V} {kws : List (Str × V)} {a : Addr} {fd : FuncData} {N ps : List Str} {k n m : Nat} {f : SS} (F : FunD K x qual params body scope dvs kws a fd) (S : FnScope N ps scope) (hn : ps.length = n) (hm : N.length = n + m)
    (h : DSs (cfOf K mg P w base N scope k) body f) : FnG P w K mg base (L2.CX P w) (k + 1) a fd ps (spOf K mg n (bodyF n m f)) := by
  refine FunD.okG F S (fun vs H Q E h => h.1.trans hn.symm) fun cdv A outer s H vs Q E hr hsp => ?_
  obtain ⟨t, p, q⟩ := h.ex
  obtain ⟨hl, args, hx, ρ, cs, hxt, pa, hc, nd, hp⟩ := hsp
  refine ⟨t (fun cls d _ H => E cls d H), p _ _ ⟨rfl, rfl, rfl, rfl, rfl, rfl, rfl, fun _ => ⟨rfl, hr⟩, ?_, fun _ => ⟨rfl, rfl⟩, fun _ _ => .inl rfl⟩ ⟨takes_of rfl rfl rfl rfl, passes_of rfl⟩, ?_⟩
  · have := hr.rm.un
    show (A.deeper _).units + 16 * k + 200 < cLine
    omega
  · refine q _ ⟨hx, H, ρ, hxt⟩ ρ _ cs _ H _ (rep_start (m := m) hxt pa hc nd (by rw [hm, hl])) (body_post ?_)
    unfold bodyF at hp
    rw [if_pos ((Paired.len pa).trans hl)] at hp
    exact hp
theorem fn_bad {a : Addr} {fd : FuncData} {ps : List Str} {k n : Nat} (hn : ps.length = n) : FnG P w K mg base (L2.CX P w) k a fd ps (spOf K mg n fun _ _ => .bad) := by
  refine ⟨fun vs H Q E h => h.1.trans hn.symm, fun A outer s H args us vs Q E hr e0 hb r hsp => ?_⟩
  obtain ⟨hl, args, hx, ρ, cs, hxt, pa, hc, nd, hp⟩ := hsp
  exact hp.elim
end
section
variable {Γ : Cf} {pos : Pos}
/-- what no proof comes to -/
theorem ds_bad {st : Stmt} : DS Γ st (fun _ _ => .bad) := ⟨fun _ => tNever, fun X W _ _ => ps_never, fun W F ρ sl cs σ H D r h => h.elim⟩
theorem dss_bad {sts : List Stmt} : DSs Γ sts (fun _ _ => .bad) := ⟨fun _ => tNever, fun X W _ _ => pss_never, fun W F ρ sl cs σ H D r h => h.elim⟩
/-- target = e, any target of the data -/
def sAsg (g : Val → Sl → Option Sl) (f : SE) : SS := fun sl cs => (f sl cs).go sl fun x cs1 => if x.solid = true then match g x sl with
  | some sl' => .nx sl' cs1
  | none => .bad
  else .bad
theorem ds_asg {tg e : Expr} {ix : List Nat} {g : Val → Sl → Option Sl} {f : SE} (h : DE Γ e f) (hg : DG Γ tg ix g) (hs : ∀ env, swapsWithSole [tg] e pos.line env = pure false := by intro _; rfl) (hw : ∀ env, swappedStores [tg] e env = pure none := by intro _; rfl)
    (h1 : ∀ env, (assignEach [tg] env).map (·.2) = [assign tg env] := by intro _; rfl) : DS Γ (.Assign [tg] e pos) (sAsg g f) := by
  obtain ⟨t, p1, q⟩ := h.ex
  obtain ⟨u, p2, q2⟩ := hg.ex
  refine ⟨fun W => tAsg (t W) u, fun X W ok gd => L2.ps_asg (p1 X W ok gd) (p2 X ok) (hs _) (hw _) (h1 _), fun W F ρ sl cs σ H D r h => ?_⟩
  refine q W F ρ sl cs σ H _ r (PostG.mono (PostS.go h r) fun v H1 ⟨x, cs1, ρ1, r1, g1, a1, h1⟩ => ?_)
  split at h1
  · rename_i hsol
    split at h1
    · rename_i sl' eg
      exact q2 F ρ1 sl cs1 σ H1 x v _ sl' r1 (a1.solid hsol) eg fun σ' r2 s2 _ => (h1.weak (g1.vis r)) σ' H1 ρ1 r2 s2
    · exact h1.elim
  · exact h1.elim
end
end DL
end
section
set_option Elab.async false
set_option linter.all false
set_option maxRecDepth 100000
set_option autoImplicit false
namespace DL
open PySem PySem.Spec PyProof.Rows L2

/-! ### f(k = v, ..), every argument by its name -/
structure DK (Γ : Cf) (kws : List Keyword) (f : SA) : Prop where
  ex : ∃ t : WX → TA, (∀ X W, Γ.Ok X → Good X W → PK X kws (t W)) ∧ ∀ W F ρ sl cs σ H Q, Rep Γ.K Γ.mg F ρ sl cs σ H → PostG Γ F ρ sl σ H W (relVs Γ F sl σ) (f sl cs) Q → t W σ H Q
structure FnK (K : PySem.W.Frag) (mg : Str → Option Value) (P : Program) (w : World) (base : Heap) (k : Nat) (x : Str) (n : Nat) (ks : List Str) (pm : List Nat) (f : FS) : Prop where
  ex : ∃ (a : Addr) (fd : FuncData) (ps : List Str), mg x = some (.ref a) ∧ PySem.W.keepIn K (.ref a) = true ∧ ps.length = n ∧ pm.length = n ∧ (∀ j ∈ pm, j < ks.length) ∧
    (∀ (s : Shared) (ws : List Value), K.In s.heap → ws.length = ks.length → BindsTo s fd ⟨[], ks.zip ws⟩ (ps.zip (pm.map fun j => ws.getD j .none))) ∧ FnG P w K mg base (L2.CX P w) k a fd ps (spOf K mg n f)
def oDefK (f : FS) (m : Nat) (pm : List Nat) (g : SA) : SO := fun sl cs => (g sl cs).bind fun xs cs1 => if xs.length = m then f (pm.map fun j => xs.getD j (.d .none)) cs1 else .bad
def tCallP (sp : Sp) (m : Nat) (pm : List Nat) (E : St → XK) (t : TA) : TE := fun σ H Q => t σ H fun zs H1 => zs.length = m ∧ sp (pm.map fun j => zs.getD j .non) H1 Q (E σ)
theorem getD_rel {α β : Type} {R : α → β → Prop} {a : α} {b : β} : ∀ {xs : List α} {us : List β} {j : Nat}, Paired R xs us → j < xs.length → R (xs.getD j a) (us.getD j b)
  | _, _, j, .nil, h => absurd h (Nat.not_lt_zero j)
  | _, _, 0, .cons r _, _ => r
  | _, _, j + 1, .cons _ t, h => getD_rel (j := j) t (Nat.lt_of_succ_lt_succ h)
theorem map_rel {α β : Type} {R : α → β → Prop} {a : α} {b : β} {xs : List α} {us : List β} (h : Paired R xs us) : ∀ (pm : List Nat), (∀ j ∈ pm, j < xs.length) → Paired R (pm.map fun j => xs.getD j a) (pm.map fun j => us.getD j b)
  | [], _ => .nil
  | j :: pm, hp => .cons (getD_rel h (hp j (by simp))) (map_rel h pm fun i hi => hp i (by simp [hi]))
section
variable {Γ : Cf} {e : Expr} {kws : List Keyword} {nm : Option Str} {kpos pos p : Pos} {f : SE} {g : SA}
theorem dk_nil : DK Γ [] aNil := ⟨fun _ => tNil, fun X W _ _ => pk_nil, fun W F ρ sl cs σ H Q r h => h [] H ρ r Grow.refl .nil⟩
theorem dk_cons (h1 : DE Γ e f) (h2 : DK Γ kws g) : DK Γ (⟨nm, e, kpos⟩ :: kws) (aCons f g) := by
  obtain ⟨t, p1, q1⟩ := h1.ex
  obtain ⟨u, p2, q2⟩ := h2.ex
  refine ⟨fun W => tCons (t W) (u W), fun X W ok gd => pk_cons (p1 X W ok gd) (p2 X W ok gd), fun W F ρ sl cs σ H Q r h => ?_⟩
  refine q1 W F ρ sl cs σ H _ r (PostG.mono (PostG.bind (rel := relV Γ F sl σ) h) fun v H1 ⟨x, cs1, ρ1, r1, g1, a1, h1⟩ => ?_)
  by_cases hsd : x.solid = true
  · rw [if_pos hsd] at h1
    refine q2 W F ρ1 sl cs1 σ H1 _ r1 (PostG.mono (PostG.bind (rel := relVs Γ F sl σ) h1) fun vs H2 ⟨xs, cs2, ρ2, r2, g2, a2, h2⟩ => ?_)
    exact h2 (v :: vs) H2 ρ2 r2 Grow.refl (.cons (AtV.mono (g2.vis r1) g2.pre (a1.solid hsd)) a2)
  · rw [if_neg hsd] at h1
    exact h1.elim
theorem do_defK {x : Str} {n m : Nat} {ks : List Str} {pm : List Nat} {fs : FS} (F : FnK Γ.K Γ.mg Γ.P Γ.w Γ.base Γ.k x n ks pm fs) (hcm : Γ.cm = true) (ha : DK Γ kws g) (hg : Gls Γ.sc x := by rfl) (hdb : (x == ("__debug__" : Str)) = false := by decide)
    (hall : ∀ env, (backToKw pos (keywordEach kws env)).all (·.1.isSome) = true := by intro _; rfl) (hks : ∀ env, (backToKw pos (keywordEach kws env)).filterMap (·.1) = ks := by intro _; rfl)
    (hpl : ∀ env, ((backTo pos (starEach [] env)).any (·.1) || (backToKw pos (keywordEach kws env)).any (·.1.isNone)) = false := by intro _; rfl) (hml : ks.length = m := by rfl) : DO Γ (.Call (.Name x p) [] kws pos) (oDefK fs m pm g) := by
  subst hml
  obtain ⟨a, fd, ps, gm, kp, hl, hpm, hlt, hb, ok⟩ := F.ex
  obtain ⟨t, p1, q1⟩ := ha.ex
  refine ⟨fun W => tCallP (spOf Γ.K Γ.mg n fs) ks.length pm (WE W) (t W), fun X W okX gd => ?_, fun W F ρ sl cs σ H Q rp h => ?_⟩
  · have ok' : FnG X.prog X.w X.K X.mg X.base (L2.CX X.prog X.w) Γ.k a fd ps (spOf Γ.K Γ.mg n fs) := by rw [okX.P, okX.w, okX.K, okX.mg, okX.base]; exact ok
    have hp1 := p1 X W okX gd
    refine ⟨fun pins s σ H Q I h => ?_⟩
    refine wpAny_Call_Name_kw (ld_glob I (gl_of okX hg) (by rw [okX.mg]; exact gm) ?_ hdb)
    refine PySem.W.callWith_KW0 (h₀ := X.base) I.ok.mod.kin (by rw [okX.K]; exact kp) (hall _) ?_ (hpl _)
    refine thn (hp1.run pos pins s σ H _ I h) fun ws s2 ⟨zs, H2, I2, rz, l1, q2⟩ => ⟨I2.kIn, ?_⟩
    rw [hks]
    have lw : ws.length = ks.length := rz.length.symm.trans l1
    have r2 : Vals (pm.map fun j => zs.getD j .non) (pm.map fun j => ws.getD j .none) := map_rel rz pm fun j hj => by rw [l1]; exact hlt j hj
    exact behind (ws := []) ok' (okX.cm hcm).2 (fun pins H s e s' => passAt gd.tk σ pins H s e s') I2 (hb s2 ws (by rw [← okX.K]; exact I2.kIn) lw) r2 q2
  · refine q1 W F ρ sl cs σ H _ rp (PostG.mono (PostG.bind (rel := relVs Γ F sl σ) h) fun us H1 ⟨xs, cs1, ρ1, r1, g1, a1, h1⟩ => ?_)
    by_cases hxl : xs.length = ks.length
    · rw [if_pos hxl] at h1
      have h1 := h1.imp (rl := relO Γ F sl σ H1) (relO_back fun p hp => g1.back r1 hp)
      have la : Paired (AtV Γ.K Γ.mg ρ1 (vis F ρ1 sl σ H1)) (pm.map fun j => xs.getD j (.d .none)) (pm.map fun j => us.getD j .non) := map_rel a1 pm fun j hj => by rw [hxl]; exact hlt j hj
      refine ⟨(Paired.len a1).symm.trans hxl, by rw [List.length_map]; exact hpm, pm.map fun j => xs.getD j (.d .none), fun b => F.hx b ∨ Own sl σ b, ρ1, cs1, fun b hb => ?_, ?_, ?_, r1.nd, ?_⟩
      · rcases hb with z | z
        · obtain ⟨o, e⟩ := F.hxt b z
          by_cases hm : b ∈ F.ρ0
          · obtain ⟨t, e2, _⟩ := r1.pre
            exact r1.cells.there (by rw [e2]; exact List.mem_append_left _ hm)
          · exact ⟨o, r1.keep b o e hm⟩
        · exact r1.own_there z
      · rw [← hide_or (hx := F.hx)]
        exact la
      · rw [← hide_or (hx := F.hx)]
        exact r1.cells
      · exact call_post r1 h1
    · rw [if_neg hxl] at h1
      exact h1.elim
end

/-! ### the head: constants of the module beside the library's facts -/
def dvOf : PyData → He.Dv
  | .int i => .int i
  | .str x => .str x
  | .bool b => .bl b
  | _ => .non
/-- ints, texts and bools alone -/
def scal : PyData → Bool
  | .int _ => true
  | .str _ => true
  | .bool _ => true
  | .none => true
  | _ => false
theorem scal_at {K : PySem.W.Frag} {G : Hp} {x : PyData} (h : scal x = true) : AtD K G x ((dvOf x).v K) := by
  cases x with
  | int i => exact at_int
  | str i => exact at_str
  | bool i => exact at_bl
  | none => exact at_non
  | _ => cases h
theorem scalL_at {K : PySem.W.Frag} {G : Hp} : ∀ {xs : List PyData}, xs.all scal = true → AtL K G xs ((xs.map dvOf).map (He.Dv.v K))
  | [], _ => AtL.nil
  | x :: xs, h => by
    simp only [List.all_cons, Bool.and_eq_true] at h
    exact AtL.cons (scal_at h.1) (scalL_at h.2)
/-- a constant: the module's name x is bound to a tuple of these, or to a text, an int -/
abbrev Tb : Type := List (Str × List PyData)
def tbOk (tb : Tb) (K : PySem.W.Frag) : Bool := tb.all fun q => q.2.all scal && He.tupB K q.1 (q.2.map dvOf)
def obsT (n : Nat) (fa : List He.Fa) (fn : List He.DefD) (tb : Tb) (g : Addr → Option Obj) : He.AlD × Bool := (He.obsDG n fa fn g, tbOk tb (He.frG g (He.asD g n)))
def hookT (n : Nat) (fa : List He.Fa) (fn : List He.DefD) (tb : Tb) : PySem.W.Hook where
  α := He.AlD × Bool
  obs := fun s => obsT n fa fn tb s.heap.get?
  val := fun _ => (He.valD fn, true)
  says := fun _ h => ∃ K : PySem.W.Frag, K.In h ∧ He.SaysD fa fn K ∧ tbOk tb K = true
  of := fun _ _ e => ⟨_, He.frG_in, congrArg (fun z : He.AlD × Bool => z.1) e, congrArg (fun z : He.AlD × Bool => z.2) e⟩
  keeps := fun _ _ _ ⟨K, hK, c⟩ k => ⟨K, PySem.W.Frag.In.keeps hK k, c⟩
theorem obsT_eq {n : Nat} {fa : List He.Fa} {fn : List He.DefD} {tb : Tb} {g : Addr → Option Obj} {s : Shared} (h : ∀ a, g a = s.heap.get? a) : obsT n fa fn tb g = (hookT n fa fn tb).obs s := by
  have e : g = s.heap.get? := funext h
  rw [e]
  rfl
section
variable {K : PySem.W.Frag} {mg : Str → Option Value} {h : Heap}
theorem glob_tup {tb : Tb} {x : Str} {ds : List PyData} (c : tbOk tb K = true) (i : Nat) (e : tb[i]? = some (x, ds)) (g : mg x = some (.ref (He.ga K x))) : GlobD K mg x (.tuple ds) := by
  have z := List.all_eq_true.mp c _ (List.mem_of_getElem? e)
  simp only [Bool.and_eq_true] at z
  refine ⟨_, .ref (He.ga K x), g, rfl, fun G => at_tup_iff.mpr ⟨_, _, rfl, He.tupB_ok z.2 G, scalL_at z.1⟩⟩
end
end DL
end
section
set_option Elab.async false
set_option linter.all false
set_option maxRecDepth 100000
set_option autoImplicit false
namespace DL
open PySem PySem.Spec PyProof.Rows L2

/-! ### dicts by ints and texts -/
def keyOf : PyData → Option Key
  | .int i => some (.inl i)
  | .str x => some (.inr x)
  | _ => none
theorem keyOf_keyD (k : Key) : keyOf (keyD k) = some k := by cases k <;> rfl
theorem keyOf_eq {x : PyData} {k : Key} (h : keyOf x = some k) : x = keyD k := by
  cases x with
  | int i => cases h; rfl
  | str i => cases h; rfl
  | _ => cases h
def isK (x : PyData) : Bool := (keyOf x).isSome
/-- the value at k, if any -/
def dFind : List (PyData × PyData) → Key → Option PyData
  | [], _ => none
  | (x, v) :: r, k => if keyOf x = some k then some v else dFind r k
def dPut (kvs : List (PyData × PyData)) (k : Key) (v : PyData) : List (PyData × PyData) :=
  if kvs.any (fun p => decide (keyOf p.1 = some k)) = true then kvs.map (fun p => if keyOf p.1 = some k then (p.1, v) else p) else kvs ++ [(keyD k, v)]
/-- all keys are ints and texts: then the dict is of that kind -/
def kAll (kvs : List (PyData × PyData)) : Bool := match kvs with
  | [] => true
  | (x, _) :: _ => isK x
section
variable {K : PySem.W.Frag} {G : Hp}
theorem atP_find : ∀ {kvs : List (PyData × PyData)} {kv : List (Key × V)} (k : Key), AtP K G kvs kv → (dFind kvs k = none ∧ valV kv k = none) ∨ ∃ x v, dFind kvs k = some x ∧ valV kv k = some v ∧ AtD K G x v
  | [], kv, k, h => by
    simp only [AtP] at h
    subst h
    exact .inl ⟨rfl, rfl⟩
  | (x, y) :: r, kv, k, h => by
    simp only [AtP] at h
    obtain ⟨key, v, t, rfl, rfl, h1, h2⟩ := h
    unfold dFind
    rw [keyOf_keyD]
    by_cases e : key = k
    · subst e
      rw [if_pos rfl]
      exact .inr ⟨y, v, rfl, valV_pos rfl, h1⟩
    · rw [if_neg (fun z => e (Option.some.inj z)), valV_neg e]
      exact atP_find k h2
theorem atP_any : ∀ {kvs : List (PyData × PyData)} {kv : List (Key × V)} (k : Key), AtP K G kvs kv → (kvs.any fun p => decide (keyOf p.1 = some k)) = kv.any fun p => decide (p.1 = k)
  | [], kv, k, h => by
    simp only [AtP] at h
    subst h
    rfl
  | (x, y) :: r, kv, k, h => by
    simp only [AtP] at h
    obtain ⟨key, v, t, rfl, rfl, h1, h2⟩ := h
    rw [List.any_cons, List.any_cons, atP_any k h2, keyOf_keyD]
    congr 1
    by_cases e : key = k
    · subst e; simp
    · simp [e]
theorem atP_map : ∀ {kvs : List (PyData × PyData)} {kv : List (Key × V)} (k : Key) {y : PyData} {u : V}, AtP K G kvs kv → AtD K G y u → AtP K G (kvs.map fun p => if keyOf p.1 = some k then (p.1, y) else p) (kv.map fun p => if p.1 = k then (p.1, u) else p)
  | [], kv, k, y, u, h, _ => by
    simp only [AtP] at h
    subst h
    simp only [List.map_nil, AtP]
  | (x, z) :: r, kv, k, y, u, h, hy => by
    simp only [AtP] at h
    obtain ⟨key, v, t, rfl, rfl, h1, h2⟩ := h
    have ih := atP_map k h2 hy
    rw [List.map_cons, List.map_cons]
    by_cases e : key = k
    · subst e
      rw [if_pos (keyOf_keyD key), if_pos rfl]
      simp only [AtP]
      exact ⟨key, u, _, rfl, rfl, hy, ih⟩
    · rw [if_neg (by rw [keyOf_keyD]; exact fun z => e (Option.some.inj z)), if_neg e]
      simp only [AtP]
      exact ⟨key, v, _, rfl, rfl, h1, ih⟩
theorem atP_snoc : ∀ {kvs : List (PyData × PyData)} {kv : List (Key × V)} (k : Key) {y : PyData} {u : V}, AtP K G kvs kv → AtD K G y u → AtP K G (kvs ++ [(keyD k, y)]) (kv ++ [(k, u)])
  | [], kv, k, y, u, h, hy => by
    simp only [AtP] at h
    subst h
    simp only [List.nil_append, AtP]
    exact ⟨k, u, [], rfl, rfl, hy, rfl⟩
  | (x, z) :: r, kv, k, y, u, h, hy => by
    simp only [AtP] at h
    obtain ⟨key, v, t, rfl, rfl, h1, h2⟩ := h
    simp only [List.cons_append, AtP]
    exact ⟨key, v, _, rfl, rfl, h1, atP_snoc k h2 hy⟩
theorem atP_put {kvs : List (PyData × PyData)} {kv : List (Key × V)} (k : Key) {y : PyData} {u : V} (h : AtP K G kvs kv) (hy : AtD K G y u) : AtP K G (dPut kvs k y) (putK kv k u) := by
  unfold dPut putK
  rw [atP_any k h]
  split
  · exact atP_map k h hy
  · exact atP_snoc k h hy
theorem atP_len : ∀ {kvs : List (PyData × PyData)} {kv : List (Key × V)}, AtP K G kvs kv → kvs.length = kv.length
  | [], kv, h => by simp only [AtP] at h; subst h; rfl
  | (x, z) :: r, kv, h => by
    simp only [AtP] at h
    obtain ⟨key, v, t, rfl, rfl, h1, h2⟩ := h
    rw [List.length_cons, List.length_cons, atP_len h2]
/-- the kind by the first key -/
theorem kind_K {kvs : List (PyData × PyData)} {kv : List (List Key × V)} (h : kAll kvs = true) (ne : kvs ≠ []) (q : AtQ K G kvs kv) : False := by
  cases kvs with
  | nil => exact ne rfl
  | cons p r =>
    obtain ⟨x, y⟩ := p
    simp only [AtQ] at q
    obtain ⟨keys, v, t, rfl, rfl, _⟩ := q
    exact Bool.noConfusion h
theorem keyAt {x : PyData} {k : Key} {v : V} (e : keyOf x = some k) (h : AtD K G x v) : v = kV k := by
  rw [keyOf_eq e] at h
  cases k with
  | inl i => exact at_int_iff.mp h
  | inr i => exact at_str_iff.mp h
end
section
variable {Γ : Cf}
/-- a dict, lent or not -/
theorem dat_dict {x : Val} {kvs : List (PyData × PyData)} (h : x.dat = some (.dict kvs)) (hk : kAll kvs = true) {K : PySem.W.Frag} {mg : Str → Option Value} {F : Fx} {ρ : List Addr} {sl : Sl} {σ : St} {H : Hp} {v : V} (a : AtW K mg ρ H (vis F ρ sl σ H) x v) :
    ∃ p kv, v = .ref p ∧ H p = some (.dK kv) ∧ AtP K (vis F ρ sl σ H) kvs kv := by
  cases x with
  | d x =>
    cases h
    obtain ⟨p, rfl, q⟩ := at_dict_iff.mp (AtT.d (mg := mg) (ρ := ρ) (H := H) a)
    rcases q with ⟨kv, s, l⟩ | ⟨kv, ne, s, l⟩
    · exact ⟨p, kv, rfl, vis_le _ _ s, l⟩
    · exact (kind_K hk ne l).elim
  | br x =>
    cases h
    obtain ⟨p, rfl, q⟩ := a
    rcases q with ⟨kv, s, l⟩ | ⟨kv, ne, s, l⟩
    · exact ⟨p, kv, rfl, s, l⟩
    · exact (kind_K hk ne l).elim
  | _ => cases h
theorem dat_key {x : Val} {a : PyData} {k : Key} (h : x.dat = some a) (e : keyOf a = some k) {K : PySem.W.Frag} {mg : Str → Option Value} {ρ : List Addr} {H G : Hp} {v : V} (q : AtW K mg ρ H G x v) : v = kV k := by
  rw [keyOf_eq e] at h
  cases k with
  | inl i => exact dat_int h q
  | inr i => exact dat_str h q
def dictK (x : PyData) : Option (List (PyData × PyData)) := match x with
  | .dict kvs => if kAll kvs = true then some kvs else none
  | _ => none
theorem dictK_eq {x : PyData} {kvs : List (PyData × PyData)} (h : dictK x = some kvs) : x = .dict kvs ∧ kAll kvs = true := by
  unfold dictK at h
  split at h
  · split at h
    · rename_i hk
      cases h
      exact ⟨rfl, hk⟩
    · cases h
  · cases h
/-- k in d -/
def inKD (x y : PyData) : Option PyData := match keyOf x, dictK y with
  | some k, some kvs => some (.bool (dFind kvs k).isSome)
  | _, _ => none
def notInKD (x y : PyData) : Option PyData := match keyOf x, dictK y with
  | some k, some kvs => some (.bool (!(dFind kvs k).isSome))
  | _, _ => none
def rInK (neg : Bool) : R2 := fun y x H Q => ∃ a o, x = .ref a ∧ DGet H a y o ∧ Q (.bl (if neg then !o.isSome else o.isSome)) H
theorem op_inK {X : Cx} (hu : X.A.units + 1 < cLine) : OpR X (compareOp .In) (rInK false) := by
  intro pins s σ H x y v u Q I rx ry h
  obtain ⟨a, o, rfl, g, q⟩ := h
  obtain rfl : u = Value.ref a := ry
  exact d_in hu I g rx fun s3 I3 => ⟨.bl o.isSome, H, I3, rfl, q⟩
theorem op_notInK {X : Cx} (hu : X.A.units + 1 < cLine) : OpR X (compareOp .NotIn) (rInK true) := by
  intro pins s σ H x y v u Q I rx ry h
  obtain ⟨a, o, rfl, g, q⟩ := h
  obtain rfl : u = Value.ref a := ry
  exact d_notIn hu I g rx fun s3 I3 => ⟨.bl (!o.isSome), H, I3, rfl, q⟩
theorem od_inK : OpD Γ (compareOp .In) inKD := by
  refine ⟨rInK false, fun X ok => op_inK (by have := ok.un; omega), fun W F ρ sl cs σ H Q x y a b u v rp e1 e2 h1 h2 hp => ?_⟩
  unfold inKD at hp
  split at hp
  · rename_i k kvs ek ed
    obtain ⟨rfl, hk⟩ := dictK_eq ed
    obtain ⟨p, kv, rfl, s, l⟩ := dat_dict e2 hk h2
    refine ⟨p, valV kv k, rfl, by rw [dat_key e1 ek h1]; exact DGet.k s, ?_⟩
    rw [show (valV kv k).isSome = (dFind kvs k).isSome by
      rcases atP_find k l with ⟨z1, z2⟩ | ⟨x, w, z1, z2, _⟩ <;> rw [z1, z2] <;> rfl]
    exact hp _ H ρ rp Grow.refl AtT.mkB
  · exact hp.elim
theorem od_notInK : OpD Γ (compareOp .NotIn) notInKD := by
  refine ⟨rInK true, fun X ok => op_notInK (by have := ok.un; omega), fun W F ρ sl cs σ H Q x y a b u v rp e1 e2 h1 h2 hp => ?_⟩
  unfold notInKD at hp
  split at hp
  · rename_i k kvs ek ed
    obtain ⟨rfl, hk⟩ := dictK_eq ed
    obtain ⟨p, kv, rfl, s, l⟩ := dat_dict e2 hk h2
    refine ⟨p, valV kv k, rfl, by rw [dat_key e1 ek h1]; exact DGet.k s, ?_⟩
    rw [show (valV kv k).isSome = (dFind kvs k).isSome by
      rcases atP_find k l with ⟨z1, z2⟩ | ⟨x, w, z1, z2, _⟩ <;> rw [z1, z2] <;> rfl]
    exact hp _ H ρ rp Grow.refl AtT.mkB
  · exact hp.elim
def inD (x y : PyData) : Option PyData := (inSD x y).or ((inTD x y).or (inKD x y))
def notInD (x y : PyData) : Option PyData := (notInSD x y).or ((notInTD x y).or (notInKD x y))
theorem od_in : OpD Γ (compareOp .In) inD := od_inS.or (od_inT.or od_inK)
theorem od_notIn : OpD Γ (compareOp .NotIn) notInD := od_notInS.or (od_notInT.or od_notInK)
/-- o[i], dicts too -/
def ixD (x y : Val) (cs : Cs) : R Val := match x.dat, y.dat with
  | some (.dict kvs), some k => (match keyOf k with
    | some k => if kAll kvs = true then R.of ((dFind kvs k).map Val.d) cs else .bad
    | none => .bad)
  | _, _ => idxV x y cs
def eIx (f g : SE) : SE := fun sl cs => (f sl cs).bind fun x cs1 => (g sl cs1).bind fun y cs2 => ixD x y cs2
def rIxD : R2 := fun x y H Q => ∃ a v, x = .ref a ∧ DGet H a y (some v) ∧ Q v H
theorem ix_dict {X : Cx} (hu : X.A.units + 1 < cLine) : IxR X rIxD := by
  intro value slice pins s σ H x y v u Q I rx ry h hs
  obtain ⟨a, w, rfl, g, q⟩ := h
  obtain rfl : v = Value.ref a := rx
  exact tail_any (dict_typeIs I g) PySem.F.slot_dict_getitem.lookup (d_getItem hu I g ry fun w' s3 I3 rw' => ⟨w, H, I3, rw', q⟩) hs
variable {pos p p2 apos cpos : Pos} {a b e e2 : Expr} {fa fb f f2 : SE}
theorem de_ix (ha : DE Γ a fa) (hb : DE Γ b fb) (hs : PlainIx b := by intro _ _; rfl) : DE Γ (.Subscript a b pos) (eIx fa fb) := by
  obtain ⟨ta, p1, q1⟩ := ha.ex
  obtain ⟨tb, p2, q2⟩ := hb.ex
  refine ⟨fun W => tOp (fun x y H Q => rIx Γ.K x y H Q ∨ rIxD x y H Q) (ta W) (tb W), fun X W ok gd => by rw [← ok.K]; exact pe_ix (IxR.or ix_seq (ix_dict (by have := ok.un; omega))) (p1 X W ok gd) (p2 X W ok gd) hs, fun W F ρ sl cs σ H Q rp h => ?_⟩
  refine q1 W F ρ sl cs σ H _ rp (PostG.mono (PostG.bind (rel := relV Γ F sl σ) h) fun u H1 ⟨x, cs1, ρ1, r1, g1, a1, h1⟩ => ?_)
  refine q2 W F ρ1 sl cs1 σ H1 _ r1 (PostG.mono (PostG.bind (rel := relV Γ F sl σ) h1) fun v H2 ⟨y, cs2, ρ2, r2, g2, a2, h2⟩ => ?_)
  have a1' := AtT.grow r1 g2 a1
  unfold ixD at h2
  split at h2
  · rename_i kvs k e1 e2
    split at h2
    · rename_i k' ek
      split at h2
      · rename_i hk
        obtain ⟨p, kv, rfl, s, l⟩ := dat_dict e1 hk a1'.w
        rcases atP_find k' l with ⟨z1, z2⟩ | ⟨w, z, z1, z2, az⟩
        · rw [z1] at h2; exact h2.elim
        · rw [z1] at h2
          refine .inr ⟨p, z, rfl, ?_, h2 z H2 ρ2 r2 Grow.refl (AtT.mk az)⟩
          rw [dat_key e2 ek (AtT.w a2), ← z2]
          exact DGet.k s
      · exact h2.elim
    · exact h2.elim
  · exact .inl (idx_ok r2 a1' a2 h2)
/-- d.get(k), d.get(k, x) -/
def getV (x y z : Val) (cs : Cs) : R Val := match x.dat, y.dat with
  | some (.dict kvs), some k => (match keyOf k with
    | some k => if kAll kvs = true then (match dFind kvs k with
      | some v => .ok (.d v) cs
      | none => if z.solid = true then .ok z cs else .bad) else .bad
    | none => .bad)
  | _, _ => .bad
/-- {} -/
def oNewK : SO := fun _ cs => .ok (.ow (.dict [])) cs
theorem do_newK : DO Γ (.Dict [] [] pos) oNewK := by
  refine ⟨fun _ => tDNewK, fun X W _ _ => pe_dnewK, fun W F ρ sl cs σ H Q r h t ht => ?_⟩
  obtain ⟨rp', hv⟩ := r.alloc ht (.dK [])
  exact h _ _ ρ rp' (Grow.upd ht) ⟨t, rfl, ht, by rw [hide_upd ht]; exact r, .inl ⟨[], upd_same, by simp only [AtP]⟩⟩
end
end DL
end
section
set_option Elab.async false
set_option linter.all false
set_option maxRecDepth 100000
set_option autoImplicit false
namespace DL
open PySem PySem.Spec PyProof.Rows L2
section
variable {Γ : Cf} {pos p p2 apos cpos : Pos} {a b e e2 : Expr} {fa fb f f2 : SE}
/-! ### enumerate: a list or a tuple -/
def enumW (xs : List Val) (cs : Cs) : R (List Val) := match xs with
  | [.d (.list l)] => .ok (enumFrom 0 l) cs
  | [.d (.tuple l)] => .ok (enumFrom 0 l) cs
  | _ => .bad
def pEnm (g : SA) : SA := fun sl cs => (g sl cs).bind enumW
theorem dp_enm {g : SA} {elts : List Expr} {kk : Nat} {tpos : Pos} (hm : Γ.mg "enumerate" = none) (ha : DB Γ [e] g) (hg : Gls Γ.sc "enumerate" := by rfl) (hs : ∀ env, starEach [e] env = [(false, eval e env)] := by intro _; rfl) :
    DP Γ (.Tuple elts kk tpos) (.Call (.Name "enumerate" p) [e] [] pos) (pEnm g) := by
  obtain ⟨t, p1, q⟩ := ha.ex
  refine ⟨fun W σ H R => iEnum Γ.K (t W) σ H R ∨ iEnT Γ.K (t W) σ H R, fun X W ok gd => by rw [← ok.K]; exact PI.or (pi_enum (gl_of ok hg) (by rw [ok.mg]; exact hm) (p1 X W ok gd) (hs _)) (pi_enT (gl_of ok hg) (by rw [ok.mg]; exact hm) (p1 X W ok gd) (hs _)), fun W F ρ sl cs σ H R rp h => ?_⟩
  unfold pEnm at h
  cases eg : g sl cs with
  | bad => rw [eg] at h; exact h.elim
  | ex x cs1 =>
    rw [eg] at h
    exact .inl (q W F ρ sl cs σ H _ rp (by rw [eg]; exact h))
  | ok xs cs1 =>
    rw [eg, DL.R.bind_ok] at h
    have go : ∀ {Q : List V → Hp → Prop}, (∀ us H1 ρ1, Rep Γ.K Γ.mg F ρ1 sl cs1 σ H1 → Grow ρ H ρ1 H1 → relTs Γ F sl σ ρ1 H1 cs1 xs us → Q us H1) → t W σ H Q := fun {Q} k => q W F ρ sl cs σ H Q rp (by rw [eg]; exact fun us H1 ρ1 r1 g1 a1 => k us H1 ρ1 r1 g1 a1)
    unfold enumW at h
    split at h
    · rename_i l
      refine .inl (go fun us H1 ρ1 r1 g1 a1 => ?_)
      obtain ⟨u, rfl, q1⟩ := one_of a1
      obtain ⟨a, vs, rfl, s, ll⟩ := at_list_iff.mp q1.d
      refine ⟨a, vs, rfl, SqL.of (vis_le _ _ s), h _ H1 ρ1 r1 g1 ?_⟩
      intro i F1 ρ2 sl1 cs2 σ1 H2 H3 D r2 eD hD sub
      have s2 : SqL Γ.K H3 a vs := SqL.of (hide_le' eD _ _ (vis_le _ _ (sub _ _ s)))
      refine ⟨fun hi => ⟨vs, s2, by rw [← ll.length, ← enum_len (n := 0)]; exact hi⟩, fun y hy => ?_⟩
      obtain ⟨d, ed, rfl⟩ := enum_get hy
      obtain ⟨v, ev, av⟩ := ll.get ed
      refine ⟨⟨vs, v, s2, ev⟩, fun u H4 hu => ?_⟩
      obtain ⟨T, x, rfl, hT, rfl, hu⟩ := hu
      have e2 := hu vs s2
      rw [ev] at e2
      cases e2
      exact rel_pair r2 eD hD hT (AtL.cons (by rw [Nat.zero_add]; exact at_int) (AtL.cons (AtD.mono sub d v av) AtL.nil))
    · rename_i l
      refine .inr (go fun us H1 ρ1 r1 g1 a1 => ?_)
      obtain ⟨u, rfl, q1⟩ := one_of a1
      obtain ⟨a, vs, rfl, s, ll⟩ := AtT.tup q1
      refine ⟨a, vs, rfl, sqT_sub vis_le s, h _ H1 ρ1 r1 g1 ?_⟩
      intro i F1 ρ2 sl1 cs2 σ1 H2 H3 D r2 eD hD sub
      have s2 : SqT Γ.K H3 a vs := sqT_sub (hide_le' eD) (sqT_sub vis_le (sqT_sub sub s))
      refine ⟨fun hi => ⟨vs, s2, rfl, by rw [← ll.length, ← enum_len (n := 0)]; exact hi⟩, fun y hy => ?_⟩
      obtain ⟨d, ed, rfl⟩ := enum_get hy
      obtain ⟨v, ev, av⟩ := ll.get ed
      refine ⟨⟨vs, v, s2, rfl, ev⟩, fun u H4 hu => ?_⟩
      obtain ⟨T, x, rfl, hT, rfl, hu⟩ := hu
      have e2 := hu vs s2
      rw [ev] at e2
      cases e2
      exact rel_pair r2 eD hD hT (AtL.cons (by rw [Nat.zero_add]; exact at_int) (AtL.cons (AtD.mono sub d v av) AtL.nil))
    · exact h.elim

/-! ### repr of what is no object -/
def reprB (xs : List Val) (cs : Cs) : R Val := match xs with
  | [.d (.int i)] => if i.natAbs.log2 < 1920 then .ok (.d (.str (toString i))) cs else .bad
  | [.d (.bool b)] => .ok (.d (.str (if b then "True" else "False"))) cs
  | [.d .none] => .ok (.d (.str "None")) cs
  | _ => .bad
theorem cr_reprA {X : Cx} : CallR X (.builtin "repr") (fun xs H Q => (∃ i, xs = [.int i] ∧ i.natAbs.log2 < 1920 ∧ Q (.str (toString i)) H) ∨ (∃ b : Bool, xs = [.bl b] ∧ Q (.str (if b then "True" else "False")) H) ∨ (xs = [.non] ∧ Q (.str "None") H)) := by
  refine CallR.or SkE.call_repr_int (CallR.or ?_ ?_)
  · intro pins s σ H xs us Q I r h
    obtain ⟨b, rfl, q⟩ := h
    cases r with
    | cons r t =>
      cases t
      cases (show _ = Value.bool b from r)
      exact PySem.P.repr_of_bool ⟨.str _, H, I.tok _, ⟨_, rfl⟩, q⟩
  · intro pins s σ H xs us Q I r h
    obtain ⟨rfl, q⟩ := h
    cases r with
    | cons r t =>
      cases t
      cases (show _ = Value.none from r)
      exact PySem.P.repr_of_none ⟨.str _, H, I.tok _, ⟨_, rfl⟩, q⟩
theorem cd_repr : CallD Γ (.builtin "repr") reprB := by
  refine ⟨_, fun X ok => cr_reprA, fun W F ρ sl cs σ H Q xs us rp ha hp => ?_⟩
  unfold reprB at hp
  split at hp
  · rename_i i
    obtain ⟨u, rfl, q⟩ := one_of ha
    split at hp
    · rename_i hl
      rw [AtT.int q]
      exact .inl ⟨i, rfl, hl, hp _ H ρ rp Grow.refl AtT.mkS⟩
    · exact hp.elim
  · rename_i i
    obtain ⟨u, rfl, q⟩ := one_of ha
    rw [AtT.bl q]
    exact .inr (.inl ⟨i, rfl, hp _ H ρ rp Grow.refl AtT.mkS⟩)
  · obtain ⟨u, rfl, q⟩ := one_of ha
    rw [AtT.non q]
    exact .inr (.inr ⟨rfl, hp _ H ρ rp Grow.refl AtT.mkS⟩)
  · exact hp.elim

/-! ### sorted of ints -/
def insI (x : Int) : List Int → List Int
  | [] => [x]
  | y :: r => if x ≤ y then x :: y :: r else y :: insI x r
def sortI : List Int → List Int
  | [] => []
  | x :: r => insI x (sortI r)
theorem insI_perm (x : Int) : ∀ l : List Int, (insI x l).Perm (x :: l)
  | [] => List.Perm.refl _
  | y :: r => by
    unfold insI
    split
    · exact List.Perm.refl _
    · exact ((insI_perm x r).cons y).trans (List.Perm.swap x y r)
theorem sortI_perm : ∀ l : List Int, (sortI l).Perm l
  | [] => List.Perm.refl _
  | x :: r => (insI_perm x _).trans ((sortI_perm r).cons x)
theorem insI_le {x : Int} : ∀ {l : List Int}, l.Pairwise (· ≤ ·) → (insI x l).Pairwise (· ≤ ·)
  | [], _ => by simp [insI]
  | y :: r, h => by
    obtain ⟨h1, h2⟩ := List.pairwise_cons.mp h
    unfold insI
    split
    · rename_i hxy
      refine List.pairwise_cons.mpr ⟨fun z hz => ?_, h⟩
      rcases List.mem_cons.mp hz with e | hz
      · subst e; exact hxy
      · exact Int.le_trans hxy (h1 z hz)
    · rename_i hxy
      refine List.pairwise_cons.mpr ⟨fun z hz => ?_, insI_le h2⟩
      rcases List.mem_cons.mp ((insI_perm x r).mem_iff.mp hz) with e | hz
      · subst e; omega
      · exact h1 z hz
theorem sortI_le : ∀ l : List Int, (sortI l).Pairwise (· ≤ ·)
  | [] => List.Pairwise.nil
  | x :: r => insI_le (sortI_le r)
theorem sort_unique : ∀ {a b : List Int}, a.Perm b → a.Pairwise (· ≤ ·) → b.Pairwise (· ≤ ·) → a = b
  | [], b, h, _, _ => (List.nil_perm.mp h).symm
  | x :: a, [], h, _, _ => absurd h.symm (by simp)
  | x :: a, y :: b, h, ha, hb => by
    obtain ⟨h1, h2⟩ := List.pairwise_cons.mp ha
    obtain ⟨k1, k2⟩ := List.pairwise_cons.mp hb
    have e : x = y := by
      have m1 : x ∈ y :: b := h.mem_iff.mp (by simp)
      have m2 : y ∈ x :: a := h.mem_iff.mpr (by simp)
      rcases List.mem_cons.mp m1 with z | z
      · exact z
      · rcases List.mem_cons.mp m2 with z2 | z2
        · exact z2.symm
        · exact Int.le_antisymm (h1 y z2) (k1 x z)
    subst e
    rw [sort_unique (List.perm_cons x |>.mp h) h2 k2]
def sortV (xs : List Val) (cs : Cs) : R Val := R.of ((intsL xs).map fun ns => .d (.list ((sortI ns).map PyData.int))) cs
def sortO (xs : List Val) (cs : Cs) : R Slot := R.of ((intsL xs).map fun ns => .ow (.list ((sortI ns).map PyData.int))) cs
theorem atL_ints {K : PySem.W.Frag} {G : Hp} : ∀ ns : List Int, AtL K G (ns.map PyData.int) (ns.map V.int)
  | [] => AtL.nil
  | n :: ns => AtL.cons at_int (atL_ints ns)
theorem cd_sorted : CallD Γ (.builtin "sorted") sortV := by
  refine ⟨rSortedI Γ.K, fun X ok => by rw [← ok.K]; exact cr_sortedI, fun W F ρ sl cs σ H Q xs us rp ha hp => ?_⟩
  unfold sortV at hp
  cases e : intsL xs with
  | none => rw [e] at hp; exact hp.elim
  | some ns =>
    rw [e] at hp
    obtain ⟨a, rfl, s⟩ := intsL_at e ha
    refine ⟨a, ns, rfl, s, fun ns' t h1 h2 ht => ?_⟩
    obtain rfl : ns' = sortI ns := sort_unique (h1.trans (sortI_perm ns).symm) h2 (sortI_le ns)
    obtain ⟨rp', hv⟩ := rp.alloc ht (.lst ((sortI ns).map V.int))
    exact hp _ _ ρ rp' (Grow.upd ht) (AtT.mk (at_list_iff.mpr ⟨t, _, rfl, hv, atL_ints _⟩))
theorem co_sorted : CallO Γ (.builtin "sorted") sortO := by
  refine ⟨rSortedI Γ.K, fun X ok => by rw [← ok.K]; exact cr_sortedI, fun W F ρ sl cs σ H Q xs us rp ha hp => ?_⟩
  unfold sortO at hp
  cases e : intsL xs with
  | none => rw [e] at hp; exact hp.elim
  | some ns =>
    rw [e] at hp
    obtain ⟨a, rfl, s⟩ := intsL_at e ha
    refine ⟨a, ns, rfl, s, fun ns' t h1 h2 ht => ?_⟩
    obtain rfl : ns' = sortI ns := sort_unique (h1.trans (sortI_perm ns).symm) h2 (sortI_le ns)
    obtain ⟨rp', hv⟩ := rp.alloc ht (.lst ((sortI ns).map V.int))
    exact hp _ _ ρ rp' (Grow.upd ht) ⟨t, rfl, ht, by rw [hide_upd ht]; exact rp, _, upd_same, atL_ints _⟩

/-! ### xs.index(y) -/
def placeOf : List PyData → PyData → Option Nat
  | [], _ => none
  | z :: r, y => if PyData.eqv z y = true then some 0 else (placeOf r y).map (· + 1)
theorem placeOf_ok : ∀ {l : List PyData} {y : PyData} {j : Nat}, placeOf l y = some j → ∃ z, l[j]? = some z ∧ PyData.eqv z y = true ∧ ∀ m z', m < j → l[m]? = some z' → PyData.eqv z' y = false
  | [], _, _, h => by cases h
  | z :: r, y, j, h => by
    unfold placeOf at h
    split at h
    · rename_i e
      cases h
      exact ⟨z, rfl, e, fun m z' hm => absurd hm (Nat.not_lt_zero m)⟩
    · rename_i e
      cases ep : placeOf r y with
      | none => rw [ep] at h; cases h
      | some i =>
        rw [ep] at h
        cases h
        obtain ⟨w, h1, h2, h3⟩ := placeOf_ok ep
        refine ⟨w, by simpa using h1, h2, fun m z' hm hz => ?_⟩
        cases m with
        | zero =>
          simp at hz
          subst hz
          cases q : PyData.eqv z y with
          | true => exact absurd q e
          | false => rfl
        | succ m => exact h3 m z' (Nat.lt_of_succ_lt_succ hm) (by simpa using hz)
def indexV (x y : Val) (cs : Cs) : R Val := match x.dat, y.dat with
  | some (.list ds), some d => if SeqAt.shaped (.list ds) = true ∧ SeqAt.shaped d = true then R.of ((placeOf ds d).map fun j => .d (.int (j : Nat))) cs else .bad
  | _, _ => .bad
def eIndex (f g : SE) : SE := fun sl cs => (f sl cs).bind fun x cs1 => (match x.dat with
  | some (.list _) => (g sl cs1).bind fun y cs2 => indexV x y cs2
  | _ => .bad)
theorem de_index (ha : DE Γ a fa) (hb : DE Γ b fb) (hbase : ∀ env, attributeBase a "index" env (eval a env) = eval a env := by intro _; rfl)
    (hfew : ∀ env, ((backTo cpos (starEach [b] env)).all (fun x => !x.1) && (backToKw cpos (keywordEach [] env)).all (fun x => x.1.isSome) && decide ([b].length + ([] : List Keyword).length + (if ([] : List Keyword).isEmpty then 0 else 1) < 30)) = true := by intro _; rfl)
    (hline : (apos.endLine == cpos.line) = true := by rfl) (hs : ∀ env, starEach [b] env = [(false, eval b env)] := by intro _; rfl) : DE Γ (.Call (.Attribute a "index" apos) [b] [] cpos) (eIndex fa fb) := by
  obtain ⟨ta, p1, q1⟩ := ha.ex
  obtain ⟨tb, p2, q2⟩ := hb.ex
  refine ⟨fun W => tBM Γ.K "list" (rIndexD Γ.K) (ta W) (tCons (tb W) tNil), fun X W ok gd => ?_, fun W F ρ sl cs σ H Q rp h => ?_⟩
  · rw [← ok.K]
    exact pe_bm F.plainAttrs_list F.slot_list_index F.type_list_index (mt_indexD (by have := ok.un; omega)) (p1 X W ok gd) (pa_cons (p2 X W ok gd) pa_nil (hs _)) (hbase _) (hfew _) hline (hs _) rfl
  · refine q1 W F ρ sl cs σ H _ rp (PostG.mono (PostG.bind (rel := relV Γ F sl σ) h) fun u H1 ⟨x, cs1, ρ1, r1, g1, a1, h1⟩ => ?_)
    split at h1
    · rename_i ds ed
      obtain ⟨pa, vs, rfl, s, l⟩ := dat_list ed (AtT.w a1)
      refine ⟨.inl ⟨rfl, vs, SqL.of s⟩, ?_⟩
      refine q2 W F ρ1 sl cs1 σ H1 _ r1 (PostG.mono (PostG.bind (rel := relV Γ F sl σ) h1) fun v H2 ⟨y, cs2, ρ2, r2, g2, a2, h2⟩ => ?_)
      have a1' := AtT.grow r1 g2 a1
      unfold indexV at h2
      rw [ed] at h2
      split at h2
      · rename_i ds' d e1 e2
        cases e1
        split at h2
        · rename_i hc
          cases ep : placeOf ds d with
          | none => rw [ep] at h2; exact h2.elim
          | some j =>
            rw [ep] at h2
            obtain ⟨z, z1, z2, z3⟩ := placeOf_ok ep
            exact ⟨pa, v, d, ds, j, z, rfl, rfl, dat_dp ed (SeqAt.canLay_of_shaped hc.1) a1'.w, dat_dp e2 (SeqAt.canLay_of_shaped hc.2) (AtT.w a2), hc.1, hc.2, z1, z2, z3, h2 _ H2 ρ2 r2 Grow.refl AtT.mkI⟩
        · exact h2.elim
      · exact h2.elim
    · exact h1.elim
end
end DL
end
section
set_option Elab.async false
set_option linter.all false
set_option maxRecDepth 100000
set_option autoImplicit false
namespace DL
open PySem PySem.Spec PyProof.Rows L2
/-! ### dict comprehensions with keys of ints and texts -/
def dcL (g : Val → Sl → Option Sl) (tt : ST) (tk tv : SE) (slB : Sl) : List Val → List (PyData × PyData) → Cs → R (List (PyData × PyData))
  | [], acc, cs => .ok acc cs
  | x :: xs, acc, cs => match g x slB with
    | none => .bad
    | some sl1 => (noEx (tt sl1 cs)).bind fun b cs1 => if b = true then (noEx (tk sl1 cs1)).bind fun k cs2 => (noEx (tv sl1 cs2)).bind fun v cs3 => match k, v with
        | .d kd, .d y => (match keyOf kd with
          | some key => dcL g tt tk tv slB xs (dPut acc key y) cs3
          | none => .bad)
        | _, _ => .bad
      else dcL g tt tk tv slB xs acc cs1
def oDc (it : SA) (g : Val → Sl → Option Sl) (tt : ST) (tk tv : SE) (vs : List Nat) : SO := fun sl cs => (it sl cs).bind fun xs cs1 => if xs.length ≤ 16777216 then (dcL g tt tk tv (blkSl sl vs) xs [] cs1).bind fun ys cs2 => .ok (.ow (.dict ys)) cs2 else .bad
theorem dPut_len (kvs : List (PyData × PyData)) (k : Key) (v : PyData) : (dPut kvs k v).length ≤ kvs.length + 1 := by
  unfold dPut
  split
  · rw [List.length_map]; omega
  · rw [List.length_append, List.length_singleton]; omega
section
variable {Γ : Cf}
theorem dc_sem {F : Fx} {ρ ρ1 : List Addr} {sl : Sl} {cs cs1 : Cs} {σ : St} {H H1 : Hp} {W : WX} {Q : VK} {D : Addr} {ix vs : List Nat} {g : Val → Sl → Option Sl} {tt : ST} {tk tv : SE} {scope : Scope} {tg' : TG} {tt' : WX → TT} {tk' tv' : WX → TE} {J : It} {xs : List Val}
    (qg : ∀ F ρ sl cs σ H x u Q sl', Rep Γ.K Γ.mg F ρ sl cs σ H → AtV Γ.K Γ.mg ρ (vis F ρ sl σ H) x u → g x sl = some sl' →
      (∀ σ', Rep Γ.K Γ.mg F ρ sl' cs σ' H → Sub (vis F ρ sl σ H) (vis F ρ sl' σ' H) → (∀ vs : List Nat, (∀ i ∈ ix, i ∈ vs) → wipe σ' vs = wipe σ vs) → Q σ' H) → tg' u σ H Q)
    (qt : ∀ W F ρ sl cs σ H Q, Rep Γ.K Γ.mg F ρ sl cs σ H → PostG (Γ.blk scope) F ρ sl σ H W relB (tt sl cs) Q → tt' W σ H Q)
    (qk : ∀ W F ρ sl cs σ H Q, Rep Γ.K Γ.mg F ρ sl cs σ H → PostG (Γ.blk scope) F ρ sl σ H W (relV (Γ.blk scope) F sl σ) (tk sl cs) Q → tk' W σ H Q)
    (qe : ∀ W F ρ sl cs σ H Q, Rep Γ.K Γ.mg F ρ sl cs σ H → PostG (Γ.blk scope) F ρ sl σ H W (relV (Γ.blk scope) F sl σ) (tv sl cs) Q → tv' W σ H Q)
    (hix : ∀ i ∈ ix, i ∈ vs) (r : Rep Γ.K Γ.mg F ρ sl cs σ H) (r1 : Rep Γ.K Γ.mg F ρ1 sl cs1 σ H1) (g1 : Grow ρ H ρ1 H1) (a1 : relI Γ F sl σ ρ1 H1 cs1 xs J) (hl : xs.length ≤ 16777216)
    (h1 : PostG Γ F ρ1 sl σ H1 W (relO Γ F sl σ H) ((dcL g tt tk tv (blkSl sl vs) xs [] cs1).bind fun ys cs2 => .ok (.ow (.dict ys)) cs2) Q) (hD : H1 D = none) :
    ∃ W : Nat → Nat → Hp → Prop, (∃ m, W 0 m (upd H1 D (.dK []))) ∧ ∀ i m H, W i m H → (J.stop i H ∧ Q (.ref D) H) ∨ (J.go i H ∧ ∃ Nx : Hp → Prop, (∀ H', Nx H' → ∃ m', m' < m ∧ W (i + 1) m' H') ∧ ∀ x H', J.yld i H x H' →
      tg' x (wipe σ vs) H' fun σ2 H2 => wipe σ2 vs = wipe σ vs ∧ tt' W0 σ2 H2 fun b H3 => if b = true then tk' W0 σ2 H3 fun y H4 => tv' W0 σ2 H4 fun z H5 => ∃ kvs k, y = kV k ∧ H5 D = some (.dK kvs) ∧ kvs.length < sizeLine ∧ Nx (upd H5 D (.dK (putK kvs k z))) else Nx H3) := by
  let St : Nat → Hp → Prop := fun i H' => ∃ cs' ρ' acc accV, Rep Γ.K Γ.mg F ρ' sl cs' σ (hide (· = D) H') ∧ Grow ρ1 H1 ρ' (hide (· = D) H') ∧ H' D = some (.dK accV) ∧ AtP Γ.K (vis F ρ' sl σ (hide (· = D) H')) acc accV ∧ acc.length ≤ i ∧ i ≤ xs.length ∧
    PostG Γ F ρ1 sl σ H1 W (relO Γ F sl σ H) ((dcL g tt tk tv (blkSl sl vs) (xs.drop i) acc cs').bind fun ys cs2 => .ok (.ow (.dict ys)) cs2) Q
  refine ⟨fun i m H' => m = xs.length - i ∧ St i H', ⟨_, rfl, cs1, ρ1, [], [], ?_, ?_, upd_same, by simp only [AtP], Nat.le_refl _, Nat.zero_le _, ?_⟩, ?_⟩
  · rw [hide_upd hD]; exact r1
  · rw [hide_upd hD]; exact Grow.refl
  · exact h1
  rintro i m H2 ⟨rfl, cs', ρ', acc, accV, r2, g2, eD, l, hacc, hi, h2⟩
  obtain ⟨st, it⟩ := a1 i F ρ' sl cs' σ (hide (· = D) H2) H2 (· = D) r2 rfl (fun a z => (show ∃ o, H2 a = some o from (show a = D from z) ▸ ⟨_, eD⟩)) (g2.vis r1)
  by_cases hlt : i < xs.length
  · obtain ⟨go, yl⟩ := it xs[i] (List.getElem?_eq_getElem hlt)
    refine .inr ⟨go, St (i + 1), fun H' hN => ⟨xs.length - (i + 1), by omega, rfl, hN⟩, fun u H3 hy => ?_⟩
    obtain ⟨H4, e4, hD4, r4, g4, a4⟩ := yl u H3 hy
    subst e4
    have eD3 : H3 D = some (.dK accV) := (hD4 D rfl).trans eD
    have l4 := AtP.mono (g4.vis r2) _ _ l
    have g14 := g2.trans r2.cells g4
    have th := sub_there r4 ⟨_, eD3⟩
    have rb := rep_blk r4 vs th
    rw [List.drop_eq_getElem_cons hlt] at h2
    unfold dcL at h2
    cases eg : g xs[i] (blkSl sl vs) with
    | none => rw [eg] at h2; exact h2.elim
    | some sl5 =>
      rw [eg] at h2
      dsimp only at h2
      rw [R.bind_assoc] at h2
      refine qg _ ρ' (blkSl sl vs) cs' (wipe σ vs) H3 xs[i] u _ sl5 rb (AtV.mono vis_sub' (fun _ _ z => z) a4) eg fun σ5 r5 sub5 w5 => ⟨by rw [w5 vs hix, wipe_wipe fun _ z => z], ?_⟩
      refine qt W0 _ ρ' sl5 cs' σ5 H3 _ r5 (post_noEx (Γ := Γ) (rel := relB) h2 fun b cs6 _ h3 b' H6 ρ6 r6 g6 eb => ?_)
      have eb : b = b' := eb
      subst eb
      obtain ⟨r6', g6', eD6⟩ := rep_back r4 r6 g6
      have l6 := AtP.mono (g6'.vis r4) _ _ l4
      have g16 := g14.trans r4.cells g6'
      cases b with
      | false =>
        rw [if_neg (by decide)] at h3 ⊢
        exact ⟨cs6, ρ6, acc, accV, r6', g16, eD6.trans eD3, l6, by omega, by omega, h3⟩
      | true =>
        rw [if_pos rfl] at h3 ⊢
        rw [R.bind_assoc] at h3
        refine qk W0 _ ρ6 sl5 cs6 σ5 H6 _ r6 (post_noEx (Γ := Γ) (rel := relV Γ _ sl5 σ5) h3 fun k cs7 _ h4 u7 H7 ρ7 r7 g7 a7 => ?_)
        have g47 := g6.trans r6.cells g7
        rw [R.bind_assoc] at h4
        refine qe W0 _ ρ7 sl5 cs7 σ5 H7 _ r7 (post_noEx (Γ := Γ) (rel := relV Γ _ sl5 σ5) h4 fun v cs8 _ h5 u8 H8 ρ8 r8 g8 a8 => ?_)
        obtain ⟨r8', g8', eD8⟩ := rep_back r4 r8 (g47.trans r7.cells g8)
        have l8 := AtP.mono (g8'.vis r4) _ _ l4
        have g18 := g14.trans r4.cells g8'
        have e8 : H8 D = some (.dK accV) := eD8.trans eD3
        split at h5
        · rename_i _ _ kd y _ _
          split at h5
          · rename_i key ek
            have ay : AtD Γ.K (vis F ρ8 sl σ (hide (· = D) H8)) y u8 := AtD.mono vis_sub _ _ a8.d
            have ll := atP_len l8
            refine ⟨accV, key, keyAt ek a7.d, e8, by rw [sizeLine_eq, ← ll]; omega, cs8, ρ8, dPut acc key y, putK accV key u8, ?_, ?_, upd_same, ?_, by have := dPut_len acc key y; omega, by omega, h5⟩
            · rw [hide_upd']; exact r8'
            · rw [hide_upd']; exact g18
            · rw [hide_upd']; exact atP_put key l8 ay
          · exact h5.elim
        · exact h5.elim
  · refine .inl ⟨st (by omega), ?_⟩
    rw [List.drop_eq_nil_of_le (by omega)] at h2
    unfold dcL at h2
    simp only [R.bind_ok] at h2
    refine h2 (.ref D) H2 ρ' r2.unhide ⟨fun a o e hn => hide_le _ _ (g2.keep a o e hn), g2.ext⟩ ⟨D, rfl, g1.back r1 hD, r2, .inl ⟨accV, eD, l⟩⟩
theorem do_dc {kx vx tg iter : Expr} {ifs : List Expr} {scope : Scope} {own : List (Str × Nat)} {pos : Pos} {it : SA} {ix : List Nat} {g : Val → Sl → Option Sl} {tt : ST} {tk tv : SE} (hcm : Γ.cm = true) (hN : Γ.N.Nodup) (hb : BlkOk Γ.N Γ.sc scope own)
    (hi : DP Γ tg iter it) (hg : DG (Γ.blk scope) tg ix g) (ht : DTs (Γ.blk scope) ifs tt) (hk : DE (Γ.blk scope) kx tk) (he : DE (Γ.blk scope) vx tv) (hix : ∀ i ∈ ix, i ∈ own.map (·.2) := by decide) (hs : ∀ env x, foldedSetIterable iter env x = pure x := by intro _ _; rfl) :
    DO Γ (.DictComp kx vx [⟨tg, iter, ifs, 0⟩] scope pos) (oDc it g tt tk tv (own.map (·.2))) := by
  obtain ⟨wi, pi, qi⟩ := hi.ex
  obtain ⟨tg', pg, qg⟩ := hg.ex
  obtain ⟨tt', pt, qt⟩ := ht.ex
  obtain ⟨tk', pk, qk⟩ := hk.ex
  obtain ⟨te', pe, qe⟩ := he.ex
  refine ⟨fun W => tDc (wi W) tg' (tt' W0) (tk' W0) (te' W0) (own.map (·.2)), fun X W ok gd => ?_, fun W F ρ sl cs σ H Q r h => ?_⟩
  · exact pe_dc (ok.cm hcm).1 (by rw [ok.N]; exact hN) (pi X W ok gd) (by rw [ok.N, ok.sc]; exact hb) (fun s H C cl fp => pg _ (blk_ok ok s H C cl fp)) (fun s H C cl fp => pt _ W0 (blk_ok ok s H C cl fp) (blk_good s H C cl fp)) (fun s H C cl fp => pk _ W0 (blk_ok ok s H C cl fp) (blk_good s H C cl fp)) (fun s H C cl fp => pe _ W0 (blk_ok ok s H C cl fp) (blk_good s H C cl fp)) (hs _)
  · refine qi W F ρ sl cs σ H _ r (PostG.mono (PostG.bind (rel := relI Γ F sl σ) h) fun J H1 ⟨xs, cs1, ρ1, r1, g1, a1, h1⟩ D hD => ?_)
    by_cases hl : xs.length ≤ 16777216
    · rw [if_pos hl] at h1
      exact dc_sem (Γ := Γ) (scope := scope) qg qt qk qe hix r r1 g1 a1 hl h1 hD
    · rw [if_neg hl] at h1
      exact h1.elim
end
end DL
end
section
set_option Elab.async false
set_option linter.all false
set_option maxRecDepth 100000
set_option autoImplicit false
namespace DL
open PySem PySem.Spec PyProof.Rows L2
/-! ### list comprehensions of two clauses -/
def lcL2 (g : Val → Sl → Option Sl) (tt : ST) (it1 : SA) (g1 : Val → Sl → Option Sl) (tt1 : ST) (te : SE) (slB : Sl) (vs1 : List Nat) : List Val → Cs → R (List PyData)
  | [], cs => .ok [] cs
  | x :: xs, cs => match g x slB with
    | none => .bad
    | some sl1 => (noEx (tt sl1 cs)).bind fun b cs1 => if b = true then (noEx (it1 sl1 cs1)).bind fun zs cs2 => (noEx (lcL g1 tt1 te (wipeS sl1 vs1) zs cs2)).bind fun ys cs3 => (lcL2 g tt it1 g1 tt1 te slB vs1 xs cs3).bind fun r cs4 => .ok (ys ++ r) cs4
      else lcL2 g tt it1 g1 tt1 te slB vs1 xs cs1
def oLc2 (it : SA) (g : Val → Sl → Option Sl) (tt : ST) (it1 : SA) (g1 : Val → Sl → Option Sl) (tt1 : ST) (te : SE) (vs vs1 : List Nat) : SO := fun sl cs => (it sl cs).bind fun xs cs1 => (noEx (lcL2 g tt it1 g1 tt1 te (blkSl sl vs) vs1 xs cs1)).bind fun ys cs2 => if ys.length ≤ 16777216 then .ok (.ow (.list ys)) cs2 else .bad
theorem eq_noEx {α β : Type} {r : R α} {k : α → Cs → R β} {a : β} {c : Cs} (h : (noEx r).bind k = .ok a c) : ∃ x c1, r = .ok x c1 ∧ k x c1 = .ok a c := by
  cases r with
  | ok x c1 => exact ⟨x, c1, rfl, h⟩
  | ex e c1 => cases h
  | bad => cases h
theorem eq_bind {α β : Type} {r : R α} {k : α → Cs → R β} {a : β} {c : Cs} (h : r.bind k = .ok a c) : ∃ x c1, r = .ok x c1 ∧ k x c1 = .ok a c := by
  cases r with
  | ok x c1 => exact ⟨x, c1, rfl, h⟩
  | ex e c1 => cases h
  | bad => cases h
section
variable {K : PySem.W.Frag} {mg : Str → Option Value} {F : Fx} {ρ ρ' : List Addr} {sl slB : Sl} {cs cs' : Cs} {σ σB : St} {H H' : Hp} {D : Addr}
/-- slots of a block, seen from the def's frame -/
def BSlots (K : PySem.W.Frag) (mg : Str → Option Value) (ρ : List Addr) (G : Hp) (slB : Sl) (σB : St) : Prop := slB.length = σB.length ∧ ∀ (i : Nat) (s : Slot), slB[i]? = some (some s) → ∃ v u, s = .fr v ∧ σB[i]? = some (some u) ∧ AtV K mg ρ G v u
theorem BSlots.mono {G G' : Hp} (hs : Sub G G') (hp : ∀ (n : Nat) (a : Addr), ρ[n]? = some a → ρ'[n]? = some a) (h : BSlots K mg ρ G slB σB) : BSlots K mg ρ' G' slB σB :=
  ⟨h.1, fun i s e => let ⟨v, u, e1, e2, q⟩ := h.2 i s e; ⟨v, u, e1, e2, AtV.mono hs hp q⟩⟩
theorem BSlots.wipe (h : BSlots K mg ρ H slB σB) : ∀ vs : List Nat, BSlots K mg ρ H (wipeS slB vs) (L2.wipe σB vs) := fun vs => by
  refine ⟨by rw [wipeS_length, wipe_length]; exact h.1, fun i s e => ?_⟩
  obtain ⟨e1, e2⟩ := wipeS_get e
  obtain ⟨v, u, e3, e4, q⟩ := h.2 i s e1
  exact ⟨v, u, e3, by rw [wipe_at e2]; exact e4, q⟩
theorem rep_blkS (r : Rep K mg F ρ sl cs σ (hide (· = D) H)) (hB : BSlots K mg ρ (vis F ρ sl σ (hide (· = D) H)) slB σB) (h : ∀ a, (a = D ∨ F.hx a ∨ Own sl σ a) → ∃ o, H a = some o) :
    Rep K mg (subF F ρ sl σ H D h) ρ slB cs σB H ∧ Sub (vis F ρ sl σ (hide (· = D) H)) (vis (subF F ρ sl σ H D h) ρ slB σB H) := by
  have no : ∀ a, ¬ Own slB σB a := fun a ⟨i, x, e1, _⟩ => by
    obtain ⟨v, u, e3, _⟩ := hB.2 i _ e1
    cases e3
  have hs : Sub (vis F ρ sl σ (hide (· = D) H)) (vis (subF F ρ sl σ H D h) ρ slB σB H) := by
    unfold vis
    rw [hide_hide]
    refine hide_sub fun a o hn e => ⟨fun z => hn ?_, e⟩
    rcases z with (z | z | z) | z | z
    · exact .inl z
    · exact .inr (.inl z)
    · exact .inr (.inr (.inr z))
    · exact .inr (.inr (.inl z))
    · exact (no a z).elim
  refine ⟨⟨hB.1, r.cells.unhide hs, r.nd, ⟨[], by simp [subF], fun _ z => by simp at z⟩, fun a z => (no a z).elim, fun i j x y a e1 => ?_, fun a o e _ => e, fun i s e => ?_⟩, hs⟩
  · obtain ⟨v, u, e3, _⟩ := hB.2 i _ e1
    cases e3
  · obtain ⟨v, u, rfl, e2, q⟩ := hB.2 i s e
    exact ⟨u, e2, AtV.mono hs (fun _ _ z => z) q⟩
/-- back: the block's slots, seen from the def -/
theorem bslots_back {h : ∀ a, (a = D ∨ F.hx a ∨ Own sl σ a) → ∃ o, H a = some o} (rb : Rep K mg (subF F ρ sl σ H D h) ρ' slB cs' σB H') (nf : ∀ (i : Nat) (s : Slot), slB[i]? = some (some s) → ∃ v, s = .fr v) : BSlots K mg ρ' (vis F ρ' sl σ (hide (· = D) H')) slB σB := by
  refine ⟨rb.len, fun i s e => ?_⟩
  obtain ⟨v, rfl⟩ := nf i s e
  obtain ⟨u, e2, q⟩ := rb.slot i _ e
  exact ⟨v, u, rfl, e2, AtV.mono (v := v) vis_sub (fun _ _ z => z) q⟩
end
/-- a target makes no owning slot -/
def NoOw (sl : Sl) : Prop := ∀ (i : Nat) (s : Slot), sl[i]? = some (some s) → ∃ v, s = Slot.fr v
def GNo (g : Val → Sl → Option Sl) : Prop := ∀ x sl sl', NoOw sl → g x sl = some sl' → NoOw sl'
theorem gno_nm (i : Nat) : GNo (gNm i) := fun x sl sl' h e j s es => by
  cases e
  rcases set_get es with ⟨_, _, z⟩ | ⟨_, z⟩
  · cases z; exact ⟨x, rfl⟩
  · exact h j s z
def GsNo (g : List PyData → Sl → Option Sl) : Prop := ∀ x sl sl', NoOw sl → g x sl = some sl' → NoOw sl'
theorem gsno_nil : GsNo gsNil := fun x sl sl' h e => by
  unfold gsNil at e
  split at e
  · cases e; exact h
  · cases e
theorem gsno_cons {g : Val → Sl → Option Sl} {gs : List PyData → Sl → Option Sl} (h1 : GNo g) (h2 : GsNo gs) : GsNo (gsCons g gs) := fun x sl sl' h e => by
  unfold gsCons at e
  split at e
  · rename_i y r
    cases e1 : g (.d y) sl with
    | none => rw [e1] at e; cases e
    | some sl1 =>
      rw [e1] at e
      exact h2 r sl1 sl' (h1 _ _ _ h e1) e
  · cases e
theorem gno_tp {gs : List PyData → Sl → Option Sl} (h1 : GsNo gs) : GNo (gTp gs) := fun x sl sl' h e => by
  unfold gTp at e
  split at e
  · exact h1 _ _ _ h e
  · exact h1 _ _ _ h e
  · cases e
theorem noOw_blk {sl : Sl} {vs : List Nat} : NoOw (blkSl sl vs) := fun i s e => let ⟨v, e1, _⟩ := blkSl_get e; ⟨v, e1⟩
theorem noOw_wipe {sl : Sl} {vs : List Nat} (h : NoOw sl) : NoOw (wipeS sl vs) := fun i s e => h i s (wipeS_get e).1
section
variable {Γ : Cf}
theorem lc2_sem {F : Fx} {ρ1 : List Addr} {sl : Sl} {cs1 csF : Cs} {σ : St} {H1 : Hp} {Q : VK} {D : Addr} {ix ix1 vs vs1 : List Nat} {g g1 : Val → Sl → Option Sl} {tt tt1 : ST} {it1 : SA} {te : SE} {scope : Scope} {tg' tg1' : TG} {tt' tt1' : WX → TT} {wi1 : WX → TI} {te' : WX → TE} {J : It} {xs : List Val} {fin : List PyData}
    (qg : ∀ F ρ sl cs σ H x u Q sl', Rep Γ.K Γ.mg F ρ sl cs σ H → AtV Γ.K Γ.mg ρ (vis F ρ sl σ H) x u → g x sl = some sl' →
      (∀ σ', Rep Γ.K Γ.mg F ρ sl' cs σ' H → Sub (vis F ρ sl σ H) (vis F ρ sl' σ' H) → (∀ vs : List Nat, (∀ i ∈ ix, i ∈ vs) → wipe σ' vs = wipe σ vs) → Q σ' H) → tg' u σ H Q)
    (qt : ∀ W F ρ sl cs σ H Q, Rep Γ.K Γ.mg F ρ sl cs σ H → PostG (Γ.blk scope) F ρ sl σ H W relB (tt sl cs) Q → tt' W σ H Q)
    (qi1 : ∀ W F ρ sl cs σ H R, Rep Γ.K Γ.mg F ρ sl cs σ H → PostG (Γ.blk scope) F ρ sl σ H W (relI (Γ.blk scope) F sl σ) (it1 sl cs) R → wi1 W σ H R)
    (qg1 : ∀ F ρ sl cs σ H x u Q sl', Rep Γ.K Γ.mg F ρ sl cs σ H → AtV Γ.K Γ.mg ρ (vis F ρ sl σ H) x u → g1 x sl = some sl' →
      (∀ σ', Rep Γ.K Γ.mg F ρ sl' cs σ' H → Sub (vis F ρ sl σ H) (vis F ρ sl' σ' H) → (∀ vs : List Nat, (∀ i ∈ ix1, i ∈ vs) → wipe σ' vs = wipe σ vs) → Q σ' H) → tg1' u σ H Q)
    (qt1 : ∀ W F ρ sl cs σ H Q, Rep Γ.K Γ.mg F ρ sl cs σ H → PostG (Γ.blk scope) F ρ sl σ H W relB (tt1 sl cs) Q → tt1' W σ H Q)
    (qe : ∀ W F ρ sl cs σ H Q, Rep Γ.K Γ.mg F ρ sl cs σ H → PostG (Γ.blk scope) F ρ sl σ H W (relV (Γ.blk scope) F sl σ) (te sl cs) Q → te' W σ H Q)
    (hix : ∀ i ∈ ix, i ∈ vs) (hix1 : ∀ i ∈ ix1, i ∈ vs1) (ng : GNo g) (r1 : Rep Γ.K Γ.mg F ρ1 sl cs1 σ H1) (a1 : relI Γ F sl σ ρ1 H1 cs1 xs J)
    (h1 : lcL2 g tt it1 g1 tt1 te (blkSl sl vs) vs1 xs cs1 = .ok fin csF) (hl : fin.length ≤ 16777216) (hD : H1 D = none)
    (post : ∀ H' ρ', Rep Γ.K Γ.mg F ρ' sl csF σ (hide (· = D) H') → Grow ρ1 H1 ρ' (hide (· = D) H') → OwnAt Γ.K H' (vis F ρ' sl σ (hide (· = D) H')) (.list fin) D → Q (.ref D) H') :
    ∃ W : Nat → Nat → Hp → Prop, (∃ m, W 0 m (upd H1 D (.lst []))) ∧ ∀ i m H, W i m H → (J.stop i H ∧ Q (.ref D) H) ∨ (J.go i H ∧ ∃ Nx : Hp → Prop, (∀ H', Nx H' → ∃ m', m' < m ∧ W (i + 1) m' H') ∧ ∀ x H', J.yld i H x H' →
      tg' x (wipe σ vs) H' fun σ2 H2 => wipe σ2 vs = wipe σ vs ∧ tt' W0 σ2 H2 fun b H3 => if b = true then wi1 W0 σ2 H3 fun J1 H4 => ∃ W1 : Nat → Nat → Hp → Prop, (∃ m, W1 0 m H4) ∧ ∀ j k H, W1 j k H →
      (J1.stop j H ∧ Nx H) ∨ (J1.go j H ∧ ∃ Nx1 : Hp → Prop, (∀ H', Nx1 H' → ∃ k', k' < k ∧ W1 (j + 1) k' H') ∧ ∀ x H', J1.yld j H x H' → tg1' x (wipe σ2 vs1) H' fun σ3 H5 => wipe σ3 vs1 = wipe σ2 vs1 ∧ tt1' W0 σ3 H5 fun b H6 =>
        if b = true then te' W0 σ3 H6 fun y H7 => ∃ acc, H7 D = some (.lst acc) ∧ acc.length < sizeLine ∧ Nx1 (upd H7 D (.lst (acc ++ [y]))) else Nx1 H6) else Nx H3) := by
  let St : Nat → Hp → Prop := fun i H' => ∃ cs' ρ' acc accV rest, Rep Γ.K Γ.mg F ρ' sl cs' σ (hide (· = D) H') ∧ Grow ρ1 H1 ρ' (hide (· = D) H') ∧ H' D = some (.lst accV) ∧ AtL Γ.K (vis F ρ' sl σ (hide (· = D) H')) acc accV ∧ acc ++ rest = fin ∧ i ≤ xs.length ∧
    lcL2 g tt it1 g1 tt1 te (blkSl sl vs) vs1 (xs.drop i) cs' = .ok rest csF
  refine ⟨fun i m H' => m = xs.length - i ∧ St i H', ⟨_, rfl, cs1, ρ1, [], [], fin, ?_, ?_, upd_same, AtL.nil, rfl, Nat.zero_le _, h1⟩, ?_⟩
  · rw [hide_upd hD]; exact r1
  · rw [hide_upd hD]; exact Grow.refl
  rintro i m H2 ⟨rfl, cs', ρ', acc, accV, rest, r2, g2, eD, l, hfin, hi, h2⟩
  obtain ⟨st, it⟩ := a1 i F ρ' sl cs' σ (hide (· = D) H2) H2 (· = D) r2 rfl (fun a z => (show ∃ o, H2 a = some o from (show a = D from z) ▸ ⟨_, eD⟩)) (g2.vis r1)
  by_cases hlt : i < xs.length
  · obtain ⟨go, yl⟩ := it xs[i] (List.getElem?_eq_getElem hlt)
    refine .inr ⟨go, St (i + 1), fun H' hN => ⟨xs.length - (i + 1), by omega, rfl, hN⟩, fun u H3 hy => ?_⟩
    obtain ⟨H4, e4, hD4, r4, g4, a4⟩ := yl u H3 hy
    subst e4
    have eD3 : H3 D = some (.lst accV) := (hD4 D rfl).trans eD
    have l4 := AtL.mono (g4.vis r2) _ _ l
    have g14 := g2.trans r2.cells g4
    have th := sub_there r4 ⟨_, eD3⟩
    have rb := rep_blk r4 vs th
    rw [List.drop_eq_getElem_cons hlt] at h2
    unfold lcL2 at h2
    cases eg : g xs[i] (blkSl sl vs) with
    | none => rw [eg] at h2; cases h2
    | some sl5 =>
      rw [eg] at h2
      obtain ⟨b, cs6, et, h3⟩ := eq_noEx h2
      have no5 : NoOw sl5 := ng _ _ _ noOw_blk eg
      refine qg _ ρ' (blkSl sl vs) cs' (wipe σ vs) H3 xs[i] u _ sl5 rb (AtV.mono vis_sub' (fun _ _ z => z) a4) eg fun σ5 r5 sub5 w5 => ⟨by rw [w5 vs hix, wipe_wipe fun _ z => z], ?_⟩
      refine qt W0 _ ρ' sl5 cs' σ5 H3 _ r5 ?_
      rw [et]
      intro b' H6 ρ6 r6 g6 eb
      have eb : b = b' := eb
      subst eb
      obtain ⟨r6', g6', eD6⟩ := rep_back r4 r6 g6
      have l6 := AtL.mono (g6'.vis r4) _ _ l4
      have g16 := g14.trans r4.cells g6'
      have e6 : H6 D = some (.lst accV) := eD6.trans eD3
      cases b with
      | false =>
        rw [if_neg (by decide)] at h3 ⊢
        exact ⟨cs6, ρ6, acc, accV, rest, r6', g16, e6, l6, hfin, by omega, h3⟩
      | true =>
        rw [if_pos rfl] at h3 ⊢
        obtain ⟨zs, cs7, ei, h4⟩ := eq_noEx h3
        obtain ⟨ys, cs8, ey, h5⟩ := eq_noEx h4
        obtain ⟨rr, cs9, er, h6⟩ := eq_bind h5
        simp only [DL.R.ok.injEq] at h6
        obtain ⟨h6, rfl⟩ := h6
        refine qi1 W0 _ ρ6 sl5 cs6 σ5 H6 _ r6 ?_
        rw [ei]
        intro J1 H7 ρ7 r7 g7 a7
        have g47 := g6.trans r6.cells g7
        obtain ⟨r7', g7', eD7⟩ := rep_back r4 r7 g47
        have e7 : H7 D = some (.lst accV) := eD7.trans eD3
        have l7 := AtL.mono (g7'.vis r4) _ _ l4
        have g17 := g14.trans r4.cells g7'
        have bs7 := bslots_back r7 no5
        let St1 : Nat → Hp → Prop := fun j H' => ∃ cs' ρ' acc accV rest1, Rep Γ.K Γ.mg F ρ' sl cs' σ (hide (· = D) H') ∧ Grow ρ1 H1 ρ' (hide (· = D) H') ∧ Grow ρ7 (hide (· = D) H7) ρ' (hide (· = D) H') ∧ H' D = some (.lst accV) ∧ AtL Γ.K (vis F ρ' sl σ (hide (· = D) H')) acc accV ∧ acc ++ (rest1 ++ rr) = fin ∧ j ≤ zs.length ∧
          lcL g1 tt1 te (wipeS sl5 vs1) (zs.drop j) cs' = .ok rest1 cs8
        refine ⟨fun j k H' => k = zs.length - j ∧ St1 j H', ⟨_, rfl, cs7, ρ7, acc, accV, ys, r7', g17, Grow.refl, e7, l7, by rw [h6]; exact hfin, Nat.zero_le _, ey⟩, ?_⟩
        rintro j k Hj ⟨rfl, csj, ρj, accj, accVj, restj, rj, gj, g7j, eDj, lj, hfj, hj, hyj⟩
        have thj := sub_there rj ⟨_, eDj⟩
        have bsj : BSlots Γ.K Γ.mg ρj (vis F ρj sl σ (hide (· = D) Hj)) (wipeS sl5 vs1) (wipe σ5 vs1) := (bs7.mono (g7j.vis r7') g7j.pre).wipe vs1
        obtain ⟨rbj, sbj⟩ := rep_blkS rj bsj thj
        have subj : Sub (vis (subF F ρ' sl σ H3 D th) ρ7 sl5 σ5 H7) (vis (subF F ρj sl σ Hj D thj) ρj (wipeS sl5 vs1) (wipe σ5 vs1) Hj) := fun a o z => sbj a o (g7j.vis r7' a o (vis_sub a o z))
        have hd0 : Hj = hide (fun _ => False) Hj := by funext a; unfold hide; rw [if_neg id]
        obtain ⟨st1, it1'⟩ := a7 j _ ρj (wipeS sl5 vs1) csj (wipe σ5 vs1) Hj Hj (fun _ => False) rbj hd0 (fun _ z => z.elim) subj
        by_cases hltj : j < zs.length
        · obtain ⟨go1, yl1⟩ := it1' zs[j] (List.getElem?_eq_getElem hltj)
          refine .inr ⟨go1, St1 (j + 1), fun H' hN => ⟨zs.length - (j + 1), by omega, rfl, hN⟩, fun u8 H8 hy8 => ?_⟩
          obtain ⟨H9, e9, _, r9, g9, a9⟩ := yl1 u8 H8 hy8
          have e9' : H9 = H8 := by rw [e9]; funext a; unfold hide; rw [if_neg id]
          subst e9'
          rw [List.drop_eq_getElem_cons hltj] at hyj
          unfold lcL at hyj
          cases eg1 : g1 zs[j] (wipeS sl5 vs1) with
          | none => rw [eg1] at hyj; cases hyj
          | some sl10 =>
            rw [eg1] at hyj
            obtain ⟨b1, cs11, et1, hyj⟩ := eq_noEx hyj
            refine qg1 _ ρj (wipeS sl5 vs1) csj (wipe σ5 vs1) H9 zs[j] u8 _ sl10 r9 a9 eg1 fun σ10 r10 sub10 w10 => ⟨by rw [w10 vs1 hix1, wipe_wipe fun _ z => z], ?_⟩
            refine qt1 W0 _ ρj sl10 csj σ10 H9 _ r10 ?_
            rw [et1]
            intro b1' H11 ρ11 r11 g11 eb1
            have eb1 : b1 = b1' := eb1
            subst eb1
            have gj11 := g9.trans r9.cells g11
            obtain ⟨r11', g11', eD11⟩ := rep_back rj r11 gj11
            have l11 := AtL.mono (g11'.vis rj) _ _ lj
            have e11 : H11 D = some (.lst accVj) := eD11.trans eDj
            cases b1 with
            | false =>
              rw [if_neg (by decide)] at hyj ⊢
              exact ⟨cs11, ρ11, accj, accVj, restj, r11', gj.trans rj.cells g11', g7j.trans rj.cells g11', e11, l11, hfj, by omega, hyj⟩
            | true =>
              rw [if_pos rfl] at hyj ⊢
              obtain ⟨v12, cs12, ev12, hyj⟩ := eq_noEx hyj
              refine qe W0 _ ρ11 sl10 cs11 σ10 H11 _ r11 ?_
              rw [ev12]
              intro u12 H12 ρ12 r12 g12 a12
              split at hyj
              · rename_i y12
                obtain ⟨rest12, cs13, er12, hyj⟩ := eq_bind hyj
                simp only [DL.R.ok.injEq] at hyj
                obtain ⟨hy12, rfl⟩ := hyj
                have gj12 := gj11.trans r11.cells g12
                obtain ⟨r12', g12', eD12⟩ := rep_back rj r12 gj12
                have l12 := AtL.mono (g12'.vis rj) _ _ lj
                have e12 : H12 D = some (.lst accVj) := eD12.trans eDj
                have ay : AtD Γ.K (vis F ρ12 sl σ (hide (· = D) H12)) y12 u12 := AtD.mono vis_sub _ _ a12.d
                have ll := l12.length
                have len1 : accj.length < 16777216 := by
                  have := congrArg List.length hfj
                  rw [← hy12] at this
                  simp only [List.length_append, List.length_cons] at this
                  omega
                refine ⟨accVj, e12, by rw [sizeLine_eq, ← ll]; exact len1, cs12, ρ12, accj ++ [y12], accVj ++ [u12], rest12, ?_, ?_, ?_, upd_same, ?_, ?_, by omega, er12⟩
                · rw [hide_upd']; exact r12'
                · rw [hide_upd']; exact gj.trans rj.cells g12'
                · rw [hide_upd']; exact g7j.trans rj.cells g12'
                · rw [hide_upd']; exact l12.append (AtL.cons ay AtL.nil)
                · rw [← hfj, ← hy12]; simp
              · cases hyj
        · refine .inl ⟨st1 (by omega), ?_⟩
          rw [List.drop_eq_nil_of_le (by omega)] at hyj
          unfold lcL at hyj
          simp only [DL.R.ok.injEq] at hyj
          obtain ⟨rfl, rfl⟩ := hyj
          exact ⟨csj, ρj, accj, accVj, rr, rj, gj, eDj, lj, by simpa using hfj, by omega, er⟩
  · refine .inl ⟨st (by omega), ?_⟩
    rw [List.drop_eq_nil_of_le (by omega)] at h2
    unfold lcL2 at h2
    simp only [DL.R.ok.injEq] at h2
    obtain ⟨rfl, rfl⟩ := h2
    rw [List.append_nil] at hfin
    subst hfin
    exact post H2 ρ' r2 g2 ⟨accV, eD, l⟩
theorem do_lc2 {elt tg iter tg1 iter1 : Expr} {ifs ifs1 : List Expr} {scope : Scope} {own : List (Str × Nat)} {vs1 : List Nat} {pos : Pos} {it it1 : SA} {ix ix1 : List Nat} {g g1 : Val → Sl → Option Sl} {tt tt1 : ST} {te : SE} (hcm : Γ.cm = true) (hN : Γ.N.Nodup) (hb : BlkOk Γ.N Γ.sc scope own)
    (hi : DP Γ tg iter it) (hg : DG (Γ.blk scope) tg ix g) (ht : DTs (Γ.blk scope) ifs tt) (hi1 : DP (Γ.blk scope) tg1 iter1 it1) (hg1 : DG (Γ.blk scope) tg1 ix1 g1) (ht1 : DTs (Γ.blk scope) ifs1 tt1) (he : DE (Γ.blk scope) elt te) (ng : GNo g)
    (hv : ∀ i ∈ vs1, i ∈ own.map (·.2) := by decide) (hix : ∀ i ∈ ix, i ∈ own.map (·.2) := by decide) (hix1 : ∀ i ∈ ix1, i ∈ vs1 := by decide) (hs : ∀ env x, foldedSetIterable iter env x = pure x := by intro _ _; rfl) (hs1 : ∀ env x, foldedSetIterable iter1 env x = pure x := by intro _ _; rfl) :
    DO Γ (.ListComp elt [⟨tg, iter, ifs, 0⟩, ⟨tg1, iter1, ifs1, 0⟩] scope pos) (oLc2 it g tt it1 g1 tt1 te (own.map (·.2)) vs1) := by
  obtain ⟨wi, pi, qi⟩ := hi.ex
  obtain ⟨tg', pg, qg⟩ := hg.ex
  obtain ⟨tt', pt, qt⟩ := ht.ex
  obtain ⟨wi1, pi1, qi1⟩ := hi1.ex
  obtain ⟨tg1', pg1, qg1⟩ := hg1.ex
  obtain ⟨tt1', pt1, qt1⟩ := ht1.ex
  obtain ⟨te', pe, qe⟩ := he.ex
  refine ⟨fun W => tLc2 (wi W) tg' (tt' W0) (wi1 W0) tg1' (tt1' W0) (te' W0) (own.map (·.2)) vs1, fun X W ok gd => ?_, fun W F ρ sl cs σ H Q r h => ?_⟩
  · exact pe_lc2 (ok.cm hcm).1 (by rw [ok.N]; exact hN) (pi X W ok gd) (by rw [ok.N, ok.sc]; exact hb) hv (fun s H C cl fp => pg _ (blk_ok ok s H C cl fp)) (fun s H C cl fp => pt _ W0 (blk_ok ok s H C cl fp) (blk_good s H C cl fp)) (fun s H C cl fp => pi1 _ W0 (blk_ok ok s H C cl fp) (blk_good s H C cl fp))
      (fun s H C cl fp => pg1 _ (blk_ok ok s H C cl fp)) (fun s H C cl fp => pt1 _ W0 (blk_ok ok s H C cl fp) (blk_good s H C cl fp)) (fun s H C cl fp => pe _ W0 (blk_ok ok s H C cl fp) (blk_good s H C cl fp)) (hs _) hs1
  · refine qi W F ρ sl cs σ H _ r (PostG.mono (PostG.bind (rel := relI Γ F sl σ) h) fun J H1 ⟨xs, cs1, ρ1, r1, gg, a1, h1⟩ D hD => ?_)
    cases el : lcL2 g tt it1 g1 tt1 te (blkSl sl (own.map (·.2))) vs1 xs cs1 with
    | bad => rw [el] at h1; exact h1.elim
    | ex e c => rw [el] at h1; exact h1.elim
    | ok fin csF =>
      rw [el] at h1
      by_cases hl : fin.length ≤ 16777216
      · rw [show (noEx (R.ok fin csF)).bind (fun ys cs2 => if ys.length ≤ 16777216 then R.ok (Slot.ow (.list ys)) cs2 else R.bad) = R.ok (Slot.ow (.list fin)) csF from if_pos hl] at h1
        exact lc2_sem (Γ := Γ) (scope := scope) qg qt qi1 qg1 qt1 qe hix hix1 ng r1 a1 el hl hD fun H' ρ' r2 g2 o => h1 (.ref D) H' ρ' r2.unhide ⟨fun a o e hn => hide_le _ _ (g2.keep a o e hn), g2.ext⟩ ⟨D, rfl, gg.back r1 hD, r2, o⟩
      · rw [show (noEx (R.ok fin csF)).bind (fun ys cs2 => if ys.length ≤ 16777216 then R.ok (Slot.ow (.list ys)) cs2 else R.bad) = R.bad from if_neg hl] at h1
        exact h1.elim
end
end DL
end
section
set_option Elab.async false
set_option linter.all false
set_option maxRecDepth 100000
set_option autoImplicit false
namespace DL
open PySem PySem.Spec PyProof.Rows L2
section
variable {Γ : Cf}
/-- y = [.. for .. for ..] on one line -/
theorem ds_setLc2 (i : Nat) {y : Str} {py : Pos} {elt tg iter tg1 iter1 : Expr} {ifs ifs1 : List Expr} {scope : Scope} {own : List (Str × Nat)} {vs1 : List Nat} {pos spos : Pos} {it it1 : SA} {ix ix1 : List Nat} {g g1 : Val → Sl → Option Sl} {tt tt1 : ST} {te : SE} (hcm : Γ.cm = true) (hN : Γ.N.Nodup) (hb : BlkOk Γ.N Γ.sc scope own)
    (hi : DP Γ tg iter it) (hg : DG (Γ.blk scope) tg ix g) (ht : DTs (Γ.blk scope) ifs tt) (hi1 : DP (Γ.blk scope) tg1 iter1 it1) (hg1 : DG (Γ.blk scope) tg1 ix1 g1) (ht1 : DTs (Γ.blk scope) ifs1 tt1) (he : DE (Γ.blk scope) elt te) (ng : GNo g)
    (hk : Γ.sc.kind = .function) (hyl : Γ.sc.names.lookup y = some .local) (hln : (py.line == pos.line) = true) (ha : (scope.names.any fun (n, k) => n == y && (k == .local || k == .cell)) = false) (hy : Γ.N[i]? = some y := by rfl)
    (hv : ∀ i ∈ vs1, i ∈ own.map (·.2) := by decide) (hix : ∀ i ∈ ix, i ∈ own.map (·.2) := by decide) (hix1 : ∀ i ∈ ix1, i ∈ vs1 := by decide) (hs : ∀ env x, foldedSetIterable iter env x = pure x := by intro _ _; rfl) (hs1 : ∀ env x, foldedSetIterable iter1 env x = pure x := by intro _ _; rfl) :
    DS Γ (.Assign [.Name y py] (.ListComp elt [⟨tg, iter, ifs, 0⟩, ⟨tg1, iter1, ifs1, 0⟩] scope pos) spos) (sSet i (oLc2 it g tt it1 g1 tt1 te (own.map (·.2)) vs1)) := by
  obtain ⟨wi, pi, qi⟩ := hi.ex
  obtain ⟨tg', pg, qg⟩ := hg.ex
  obtain ⟨tt', pt, qt⟩ := ht.ex
  obtain ⟨wi1, pi1, qi1⟩ := hi1.ex
  obtain ⟨tg1', pg1, qg1⟩ := hg1.ex
  obtain ⟨tt1', pt1, qt1⟩ := ht1.ex
  obtain ⟨te', pe, qe⟩ := he.ex
  refine ⟨fun W => tAsg (tLc2 (wi W) tg' (tt' W0) (wi1 W0) tg1' (tt1' W0) (te' W0) (own.map (·.2)) vs1) (gName i), fun X W ok gd => ?_, fun W F ρ sl cs σ H D r h => ?_⟩
  · exact ps_setLc2 (ok.cm hcm).1 (by rw [ok.N]; exact hN) (by rw [ok.N]; exact hy) (by rw [ok.sc]; exact hyl) (sw_true (by rw [ok.sc]; exact hk) (by rw [ok.sc]; exact hyl) hln ha) (pi X W ok gd) (by rw [ok.N, ok.sc]; exact hb) hv
      (fun s H C cl fp => pg _ (blk_ok ok s H C cl fp)) (fun s H C cl fp => pt _ W0 (blk_ok ok s H C cl fp) (blk_good s H C cl fp)) (fun s H C cl fp => pi1 _ W0 (blk_ok ok s H C cl fp) (blk_good s H C cl fp))
      (fun s H C cl fp => pg1 _ (blk_ok ok s H C cl fp)) (fun s H C cl fp => pt1 _ W0 (blk_ok ok s H C cl fp) (blk_good s H C cl fp)) (fun s H C cl fp => pe _ W0 (blk_ok ok s H C cl fp) (blk_good s H C cl fp)) (hs _) hs1
  · have h0 : PostG Γ F ρ sl σ H W (relO Γ F sl σ H) (oLc2 it g tt it1 g1 tt1 te (own.map (·.2)) vs1 sl cs) (fun u H1 => D.nx (σ.set i (some u)) H1) := by
      refine PostG.mono (PostS.go h r) fun u H1 ⟨x, cs1, ρ1, r1, g1, a1, h1⟩ => ?_
      exact set_post (Hs := H) r r1 g1 a1 h1
    refine qi W F ρ sl cs σ H _ r (PostG.mono (PostG.bind (rel := relI Γ F sl σ) h0) fun J H1 ⟨xs, cs1, ρ1, r1, gg, a1, h1⟩ Dd hD => ?_)
    cases el : lcL2 g tt it1 g1 tt1 te (blkSl sl (own.map (·.2))) vs1 xs cs1 with
    | bad => rw [el] at h1; exact h1.elim
    | ex e c => rw [el] at h1; exact h1.elim
    | ok fin csF =>
      rw [el] at h1
      by_cases hl : fin.length ≤ 16777216
      · rw [show (noEx (R.ok fin csF)).bind (fun ys cs2 => if ys.length ≤ 16777216 then R.ok (Slot.ow (.list ys)) cs2 else R.bad) = R.ok (Slot.ow (.list fin)) csF from if_pos hl] at h1
        exact lc2_sem (Γ := Γ) (scope := scope) (Q := fun u H1 => D.nx (σ.set i (some u)) H1) qg qt qi1 qg1 qt1 qe hix hix1 ng r1 a1 el hl hD fun H' ρ' r2 g2 o => h1 (.ref Dd) H' ρ' r2.unhide ⟨fun a o e hn => hide_le _ _ (g2.keep a o e hn), g2.ext⟩ ⟨Dd, rfl, gg.back r1 hD, r2, o⟩
      · rw [show (noEx (R.ok fin csF)).bind (fun ys cs2 => if ys.length ≤ 16777216 then R.ok (Slot.ow (.list ys)) cs2 else R.bad) = R.bad from if_neg hl] at h1
        exact h1.elim
def cMul64 (i j : Int) : Bool := (decide (-(2 ^ 64) < i) && decide (i < 2 ^ 64)) || (decide (-(2 ^ 64) < j) && decide (j < 2 ^ 64))
theorem iod_mul : OpD Γ (inplaceOp .Mult) (gI cMul64 fun i j => .int (i * j)) := opD_int (fun X => iop_mul) (fun i j h => by
  unfold cMul64 at h
  simp only [Bool.or_eq_true, Bool.and_eq_true, decide_eq_true_eq] at h
  exact h) fun _ _ _ _ => at_int
/-- x, y = a, b: local names, values that may be fresh -/
def par2 (i j : Nat) (f1 f2 : SO) : SS := fun sl cs => (f1 sl cs).go sl fun s1 cs1 => match s1 with
  | .fr v => (f2 sl cs1).go sl fun s2 cs2 => .nx ((sl.set i (some (.fr v))).set j (some s2)) cs2
  | .ow x => match f2 (blkSl sl []) cs1 with
    | .ok s2 cs2 => .nx ((sl.set i (some (.ow x))).set j (some s2)) cs2
    | _ => .bad
end
/-! ### constants -/
section
variable {K : PySem.W.Frag} {mg : Str → Option Value}
theorem glob_int {x : Str} {i : Int} (h : ∃ t, mg x = some (.int i t)) : GlobD K mg x (.int i) := by
  obtain ⟨t, e⟩ := h
  exact ⟨_, .int i, e, ⟨t, rfl⟩, fun G => at_int⟩
theorem glob_str {x z : Str} (h : ∃ t, mg x = some (.str z t)) : GlobD K mg x (.str z) := by
  obtain ⟨t, e⟩ := h
  exact ⟨_, .str z, e, ⟨t, rfl⟩, fun G => at_str⟩
theorem hide_none {H : Hp} : hide (fun a => False ∨ a ∈ ([] : List Addr)) H = H := by
  funext a
  unfold hide
  rw [if_neg (by simp)]
/-- the law's end: what its def computes of each script -/
theorem law_sp {f : FS} {n : Nat} {H : Hp} {a : Addr} {ns : List Int} (h : ∃ cs, f [.lk (ns.map PyData.int)] [] = .ok (.fr (.d (.bool true))) cs) (hS : SqL K H a (ns.map V.int)) : spOf K mg 1 f [.ref a] H (fun v _ => v = .bl true) fun _ _ _ => False := by
  obtain ⟨cs, e⟩ := h
  refine ⟨rfl, [.lk (ns.map PyData.int)], fun _ => False, [], [], fun _ z => z.elim, ?_, ⟨rfl, fun n c a e => by simp at e⟩, List.nodup_nil, ?_⟩
  · rw [hide_none]
    exact .cons ⟨a, ns.map V.int, rfl, hS, atL_ints ns⟩ .nil
  · rw [e]
    intro u H' ρ' g nd c q
    exact AtT.bl (AtT.of (H := H') (show AtV K mg ρ' (hide (fun a => (fun _ => False) a ∨ a ∈ ρ') H') (.d (.bool true)) u from q))
end
end DL
end
section
set_option Elab.async false
set_option linter.all false
set_option maxRecDepth 100000
set_option autoImplicit false
namespace DL
open PySem PySem.Spec PyProof.Rows L2
abbrev subD : PyData → PyData → Option PyData := gI cT fun i j => .int (i - j)
abbrev divD : PyData → PyData → Option PyData := gI cDiv fun i j => .int (i / j)
abbrev modD : PyData → PyData → Option PyData := gI cMod fun i j => .int (i % j)
abbrev powD : PyData → PyData → Option PyData := gI cPow fun i j => .int (i ^ j.toNat)
abbrev ltD : PyData → PyData → Option PyData := gI cT fun i j => .bool (decide (i < j))
abbrev leD : PyData → PyData → Option PyData := gI cT fun i j => .bool (decide (i ≤ j))
abbrev gtD : PyData → PyData → Option PyData := gI cT fun i j => .bool (decide (j < i))
abbrev geD : PyData → PyData → Option PyData := gI cT fun i j => .bool (decide (j ≤ i))
abbrev iaddD : PyData → PyData → Option PyData := fun x y => (gI cT (fun i j => .int (i + j)) x y).or (gAddS x y)
abbrev imulD : PyData → PyData → Option PyData := gI cMul64 fun i j => .int (i * j)
section
variable {Γ : Cf}
theorem do_fn {x : Str} {n : Nat} {ds : List Val} {f : FS} {g : SA} {e : Expr} {es : List Expr} {p pos : Pos} (F : FnD Γ.K Γ.mg Γ.P Γ.w Γ.base Γ.k x n ds f) (hn : ∀ xs cs, f xs cs = .bad ∨ xs.length = n) (hcm : Γ.cm = true) (ha : DA Γ (e :: es) g) (hg : Gls Γ.sc x := by rfl) (hdb : (x == ("__debug__" : Str)) = false := by decide)
    (he : ∀ env, starEach (e :: es) env = (false, eval e env) :: starEach es env := by intro _; rfl) (hpl : ∀ env, (backTo pos (starEach es env)).any (·.1) = false := by intro _; rfl) : DO Γ (.Call (.Name x p) (e :: es) [] pos) (oDef f ds g) :=
  do_def F hcm ha hg hdb (fun xs cs r er h => by
    rcases hn (xs ++ ds) cs with z | z
    · rw [z] at er
      subst er
      rcases h with ⟨s, c, h⟩ | ⟨s, c, h⟩ <;> cases h
    · rw [List.length_append] at z
      exact z) he hpl
theorem bodyF_ar {n m : Nat} {f : SS} : ∀ xs cs, bodyF n m f xs cs = .bad ∨ xs.length = n := fun xs cs => by
  unfold bodyF
  by_cases h : xs.length = n
  · exact .inr h
  · rw [if_neg h]; exact .inl rfl
/-- a, b = x, y with plain local names -/
theorem sw2 {env : Env} {x y : Str} {px py pt : Pos} {kt k2 : Nat} {a b : Expr} {pt2 : Pos} (hk : env.scope.kind = .function) (hx : env.scope.names.lookup x = some .local) (hy : env.scope.names.lookup y = some .local) (hl : (py.line == px.line) = true) (hne : (x == y) = false)
    (hs : ([a, b].any fun | .Starred .. => true | _ => false) = false) (h1 : [a, b].all (foldedForSure 8) = false) (h2 : [a, b].all (constantsAlone 8) = false) :
    swappedStores [.Tuple [.Name x px, .Name y py] kt pt] (.Tuple [a, b] k2 pt2) env = pure (some [x, y]) := by
  have k1 : env.kindOf x = some .local := hx
  have k2' : env.kindOf y = some .local := hy
  have hb : env.blockKind = .function := by unfold Env.blockKind; rw [hk]; rfl
  have hd : [x, y].eraseDups.length = 2 := by
    have : (y == x) = false := by
      rw [beq_eq_false_iff_ne] at hne ⊢
      exact Ne.symm hne
    simp [List.eraseDups_cons, this]
  unfold swappedStores
  simp only [hb, k1, k2', h1, h2, hs, List.filterMap_cons, List.filterMap_nil, Expr.pos, List.head?_cons, Option.map_some, Option.getD_some, hl, beq_self_eq_true, Bool.and_self, if_true, hd, List.length_cons, List.length_nil]
  refine (if_neg (by decide)).trans ((if_neg (fun z => Bool.noConfusion (hs.symm.trans z))).trans ?_)
  rfl
theorem sw3 {env : Env} {x y z : Str} {px py pz pt : Pos} {kt k2 : Nat} {a b c : Expr} {pt2 : Pos} (hk : env.scope.kind = .function) (hx : env.scope.names.lookup x = some .local) (hy : env.scope.names.lookup y = some .local) (hz : env.scope.names.lookup z = some .local) (hl : (py.line == px.line) = true) (hl2 : (pz.line == px.line) = true)
    (hne : (x == y) = false) (hne2 : (x == z) = false) (hne3 : (y == z) = false) (hs : ([a, b, c].any fun | .Starred .. => true | _ => false) = false) (h1 : [a, b, c].all (foldedForSure 8) = false) (h2 : [a, b, c].all (constantsAlone 8) = false) :
    swappedStores [.Tuple [.Name x px, .Name y py, .Name z pz] kt pt] (.Tuple [a, b, c] k2 pt2) env = pure (some [x, y, z]) := by
  have k1 : env.kindOf x = some .local := hx
  have k2' : env.kindOf y = some .local := hy
  have k3 : env.kindOf z = some .local := hz
  have hb : env.blockKind = .function := by unfold Env.blockKind; rw [hk]; rfl
  have fl : ∀ {u v : Str}, (u == v) = false → (v == u) = false := fun {u v} h => by
    rw [beq_eq_false_iff_ne] at h ⊢
    exact Ne.symm h
  have hd : [x, y, z].eraseDups.length = 3 := by simp [List.eraseDups_cons, fl hne, fl hne2, fl hne3]
  unfold swappedStores
  simp only [hb, k1, k2', k3, h1, h2, hs, List.filterMap_cons, List.filterMap_nil, Expr.pos, List.head?_cons, Option.map_some, Option.getD_some, hl, hl2, beq_self_eq_true, Bool.and_self, if_true, hd, List.length_cons, List.length_nil]
  refine (if_neg (by decide)).trans ((if_neg (fun z => Bool.noConfusion (hs.symm.trans z))).trans ?_)
  rfl
def sPar (i j : Nat) (g : SA) : SS := fun sl cs => (g sl cs).go sl fun xs cs1 => match xs with
  | [v, w] => .nx ((sl.set i (some (.fr v))).set j (some (.fr w))) cs1
  | _ => .bad
def sPar3 (i j l : Nat) (g : SA) : SS := fun sl cs => (g sl cs).go sl fun xs cs1 => match xs with
  | [u, v, w] => .nx (((sl.set i (some (.fr u))).set j (some (.fr v))).set l (some (.fr w))) cs1
  | _ => .bad
theorem ds_par (i j : Nat) {x y : Str} {a b : Expr} {g : SA} {px py pt pos : Pos} {kt k2 pt2} (hcm : Γ.cm = true) (hnd : Γ.N.Nodup) (hk : Γ.sc.kind = .function) (ha : DA Γ [a, b] g) (hi : Γ.N[i]? = some x := by rfl) (hj : Γ.N[j]? = some y := by rfl) (hij : i ≠ j := by decide)
    (hx : Γ.sc.names.lookup x = some .local := by rfl) (hy : Γ.sc.names.lookup y = some .local := by rfl) (hl : (py.line == px.line) = true := by rfl) (hne : (x == y) = false := by decide) (hst : ([a, b].any fun | .Starred .. => true | _ => false) = false := by rfl) (h1 : [a, b].all (foldedForSure 8) = false := by rfl) (h2 : [a, b].all (constantsAlone 8) = false := by rfl)
    (hs : ∀ env, swapsWithSole [.Tuple [.Name x px, .Name y py] kt pt] (.Tuple [a, b] k2 pt2) pos.line env = pure false := by intro _; rfl) : DS Γ (.Assign [.Tuple [.Name x px, .Name y py] kt pt] (.Tuple [a, b] k2 pt2) pos) (sPar i j g) := by
  obtain ⟨t, p1, q⟩ := ha.ex
  refine ⟨fun W => tPar i j (t W), fun X W ok gd => ?_, fun W F ρ sl cs σ H D r h => ?_⟩
  · have e := ok.sc
    exact ps_par (ok.cm hcm).1 (by rw [ok.N]; exact hnd) (by rw [ok.N]; exact hi) (by rw [ok.N]; exact hj) hij (by rw [e]; exact hx) (by rw [e]; exact hy) (p1 X W ok gd) (sw2 (by rw [e]; exact hk) (by rw [e]; exact hx) (by rw [e]; exact hy) hl hne hst h1 h2) (hs _)
  · refine q W F ρ sl cs σ H _ r (PostG.mono (PostS.go h r) fun us H1 ⟨xs, cs1, ρ1, r1, g1, a1, h1⟩ => ?_)
    split at h1
    · rename_i v w
      obtain ⟨u1, u2, rfl, b1, b2⟩ := two_of a1
      refine ⟨u1, u2, rfl, ?_⟩
      obtain ⟨r2, s2⟩ := r1.setFr (i := i) b1
      obtain ⟨r3, s3⟩ := r2.setFr (i := j) (AtV.mono s2 (fun _ _ z => z) b2)
      exact (h1.weak (g1.vis r)) _ H1 ρ1 r3 fun a o z => s3 a o (s2 a o z)
    · exact h1.elim
theorem three_of {R : Val → V → Prop} {x y z : Val} {us : List V} (h : Paired R [x, y, z] us) : ∃ u v w, us = [u, v, w] ∧ R x u ∧ R y v ∧ R z w := by
  cases h with
  | cons r t =>
    obtain ⟨v, w, rfl, b1, b2⟩ := two_of t
    exact ⟨_, v, w, rfl, r, b1, b2⟩
theorem ds_par3 (i j l : Nat) {x y z : Str} {a b c : Expr} {g : SA} {px py pz pt pos : Pos} {kt k2 pt2} (hcm : Γ.cm = true) (hnd : Γ.N.Nodup) (hk : Γ.sc.kind = .function) (ha : DA Γ [a, b, c] g) (hi : Γ.N[i]? = some x := by rfl) (hj : Γ.N[j]? = some y := by rfl) (hll : Γ.N[l]? = some z := by rfl) (hij : i ≠ j := by decide) (hil : i ≠ l := by decide) (hjl : j ≠ l := by decide)
    (hx : Γ.sc.names.lookup x = some .local := by rfl) (hy : Γ.sc.names.lookup y = some .local := by rfl) (hz : Γ.sc.names.lookup z = some .local := by rfl) (hl : (py.line == px.line) = true := by rfl) (hl2 : (pz.line == px.line) = true := by rfl) (hne : (x == y) = false := by decide) (hne2 : (x == z) = false := by decide) (hne3 : (y == z) = false := by decide)
    (hst : ([a, b, c].any fun | .Starred .. => true | _ => false) = false := by rfl) (h1 : [a, b, c].all (foldedForSure 8) = false := by rfl) (h2 : [a, b, c].all (constantsAlone 8) = false := by rfl)
    (hs : ∀ env, swapsWithSole [.Tuple [.Name x px, .Name y py, .Name z pz] kt pt] (.Tuple [a, b, c] k2 pt2) pos.line env = pure false := by intro _; rfl) : DS Γ (.Assign [.Tuple [.Name x px, .Name y py, .Name z pz] kt pt] (.Tuple [a, b, c] k2 pt2) pos) (sPar3 i j l g) := by
  obtain ⟨t, p1, q⟩ := ha.ex
  refine ⟨fun W => tPar3 i j l (t W), fun X W ok gd => ?_, fun W F ρ sl cs σ H D r h => ?_⟩
  · have e := ok.sc
    exact ps_par3 (ok.cm hcm).1 (by rw [ok.N]; exact hnd) (by rw [ok.N]; exact hi) (by rw [ok.N]; exact hj) (by rw [ok.N]; exact hll) hij hil hjl (by rw [e]; exact hx) (by rw [e]; exact hy) (by rw [e]; exact hz) (p1 X W ok gd) (sw3 (by rw [e]; exact hk) (by rw [e]; exact hx) (by rw [e]; exact hy) (by rw [e]; exact hz) hl hl2 hne hne2 hne3 hst h1 h2) (hs _)
  · refine q W F ρ sl cs σ H _ r (PostG.mono (PostS.go h r) fun us H1 ⟨xs, cs1, ρ1, r1, g1, a1, h1⟩ => ?_)
    split at h1
    · rename_i u v w
      obtain ⟨u1, u2, u3, rfl, b1, b2, b3⟩ := three_of a1
      refine ⟨u1, u2, u3, rfl, ?_⟩
      obtain ⟨r2, s2⟩ := r1.setFr (i := i) b1
      obtain ⟨r3, s3⟩ := r2.setFr (i := j) (AtV.mono s2 (fun _ _ z => z) b2)
      obtain ⟨r4, s4⟩ := r3.setFr (i := l) (AtV.mono s3 (fun _ _ z => z) (AtV.mono s2 (fun _ _ z => z) b3))
      exact (h1.weak (g1.vis r)) _ H1 ρ1 r4 fun a o z => s4 a o (s3 a o (s2 a o z))
    · exact h1.elim
/-- x = [..], x a name that an inner block sees -/
theorem sw_cell {elt : Expr} {gs : List Comprehension} {scope : Scope} {pos py : Pos} {y : Str} {l : Nat} {env : Env} (hy : env.scope.names.lookup y = some .cell) : swapsWith (.ListComp elt gs scope pos) (some (.Name y py)) l env = pure false := by
  have ky : env.kindOf y = some .cell := hy
  have e : ((some NameKind.cell : Option NameKind) == some NameKind.local) = false := by decide
  unfold swapsWith
  simp only [ky, e, Bool.and_false, Bool.false_and]
theorem ds_setC (i : Nat) {x : Str} {p pos lp : Pos} {elt : Expr} {gs : List Comprehension} {scope : Scope} {f : SO} (h : DO Γ (.ListComp elt gs scope lp) f) (hnd : Γ.N.Nodup) (hc : Γ.sc.names.lookup x = some .cell := by rfl) (hN : Γ.N[i]? = some x := by rfl) (hst : Γ.st x = true := by rfl) :
    DS Γ (.Assign [.Name x p] (.ListComp elt gs scope lp) pos) (sSet i f) := by
  obtain ⟨t, p1, q⟩ := h.ex
  refine ⟨fun W => tAsg (t W) (gName i), fun X W ok gd => L2.ps_set (by rw [ok.N]; exact hnd) (by rw [ok.N]; exact hN) (.inr (by rw [ok.sc]; exact hc)) (p1 X W ok gd) (sw_cell (by rw [ok.sc]; exact hc)) (by rw [ok.sc]; exact ok.fn x hst), fun W F ρ sl cs σ H D r h => ?_⟩
  refine q W F ρ sl cs σ H _ r (PostG.mono (PostS.go h r) fun u H1 ⟨x, cs1, ρ1, r1, g1, a1, h1⟩ => ?_)
  exact set_post (Hs := H) r r1 g1 a1 h1
end
end DL
end
section
set_option Elab.async false
set_option linter.all false
set_option maxRecDepth 100000
set_option autoImplicit false
namespace DL
open PySem PySem.Spec PyProof.Rows L2
/-- what lets nothing out -/
theorem fn_closed {P : Program} {w : World} {K : PySem.W.Frag} {mg : Str → Option Value} {base : Heap} {k : Nat} {f : Addr} {fd : FuncData} {ps : List Str} {sp : Sp} (F : FnG P w K mg base (L2.CX P w) k f fd ps sp) :
    FnG P w K mg base CX0 k f fd ps (fun vs H Q _ => sp vs H Q fun _ _ _ => False) := by
  refine ⟨fun vs H Q E h => F.ar vs H Q _ h, fun A outer s H args us vs Q E hr e0 hb r hsp => ?_⟩
  refine codeAny_mono (F.go A outer s H args us vs Q _ hr e0 hb r hsp) fun r s' hq => ?_
  cases r with
  | ok fl =>
    cases fl with
    | ret u => exact hq
    | _ => exact hq.elim
  | error e =>
    obtain ⟨_, _, _, _, _, _, _, _, _, _, _, _, z⟩ := hq
    exact z.elim
end DL
end
section
set_option Elab.async false
set_option linter.all false
set_option maxRecDepth 100000
set_option autoImplicit false
namespace DL
open PySem PySem.Spec PyProof.Rows L2
/-! ### what the mirror computes, step by step -/
section
variable {sl sl' : Sl} {cs cs' : Cs} {f g h : SE} {fo : SO} {fa ga : SA} {t u : ST} {p q : SS} {i : Nat} {v w : Val}
@[simp] theorem ev_var (e : sl[i]? = some (some (.fr v))) : eVar i sl cs = .ok v cs := by unfold eVar; rw [e]
@[simp] theorem ev_own {x : PyData} (e : sl[i]? = some (some (.ow x))) : eVar i sl cs = .ok (.br x) cs := by unfold eVar; rw [e]
@[simp] theorem ev_c {x : PyData} : eC x sl cs = .ok (.d x) cs := rfl
@[simp] theorem ev_aNil : aNil sl cs = .ok [] cs := rfl
@[simp] theorem ev_aCons : aCons f fa sl cs = (f sl cs).bind fun x cs1 => if x.solid = true then (fa sl cs1).bind fun xs cs2 => .ok (x :: xs) cs2 else .bad := rfl
@[simp] theorem ev_bCons : bCons f fa sl cs = (f sl cs).bind fun x cs1 => (fa sl cs1).bind fun xs cs2 => .ok (x :: xs) cs2 := rfl
@[simp] theorem ev_op {o : PyData → PyData → Option PyData} : eOp o f g sl cs = (f sl cs).bind fun x cs1 => (g sl cs1).bind fun y cs2 => op2 o x y cs2 := rfl
@[simp] theorem ev_op2 {o : PyData → PyData → Option PyData} {a b : PyData} : op2 o (.d a) (.d b) cs = R.of ((o a b).map Val.d) cs := rfl
@[simp] theorem ev_op2bd {o : PyData → PyData → Option PyData} {a b : PyData} : op2 o (.br a) (.d b) cs = R.of ((o a b).map Val.d) cs := rfl
@[simp] theorem ev_op2db {o : PyData → PyData → Option PyData} {a b : PyData} : op2 o (.d a) (.br b) cs = R.of ((o a b).map Val.d) cs := rfl
@[simp] theorem ev_op2bb {o : PyData → PyData → Option PyData} {a b : PyData} : op2 o (.br a) (.br b) cs = R.of ((o a b).map Val.d) cs := rfl
@[simp] theorem ev_tBool : tBool f sl cs = (f sl cs).bind asB := rfl
@[simp] theorem ev_asB {b : Bool} : asB (.d (.bool b)) cs = .ok b cs := rfl
@[simp] theorem ev_chain {o o' : PyData → PyData → Option PyData} : eChain o o' f g h sl cs = (f sl cs).bind fun x cs1 => (g sl cs1).bind fun y cs2 => (op2 o x y cs2).bind fun z cs3 => (asB z cs3).bind fun k cs4 =>
  if k = true then (h sl cs4).bind fun w cs5 => op2 o' y w cs5 else .ok (.d (.bool false)) cs4 := rfl
@[simp] theorem ev_tTru : tTru f sl cs = (f sl cs).bind fun x cs1 => R.of (truV x cs1) cs1 := rfl
@[simp] theorem ev_truB {b : Bool} : truV (.d (.bool b)) cs = some b := rfl
@[simp] theorem ev_tAnd : tAndD t u sl cs = (t sl cs).bind fun k cs1 => if k = true then u sl cs1 else .ok false cs1 := rfl
@[simp] theorem ev_tOr : tOrD t u sl cs = (t sl cs).bind fun k cs1 => if k = true then .ok true cs1 else u sl cs1 := rfl
@[simp] theorem ev_tNot : tNotD t sl cs = (t sl cs).bind fun k cs1 => .ok (!k) cs1 := rfl
@[simp] theorem ev_and : eAnd f g sl cs = (f sl cs).bind fun x cs1 => (R.of (truV x cs1) cs1).bind fun k cs2 => if k = true then g sl cs2 else .ok x cs2 := rfl
@[simp] theorem ev_or : eOr f g sl cs = (f sl cs).bind fun x cs1 => (R.of (truV x cs1) cs1).bind fun k cs2 => if k = true then .ok x cs2 else g sl cs2 := rfl
@[simp] theorem ev_not : eNot f sl cs = (f sl cs).bind fun x cs1 => (R.of (truV x cs1) cs1).bind fun k cs2 => .ok (.d (.bool (!k))) cs2 := rfl
@[simp] theorem ev_if : eIf t f g sl cs = (t sl cs).bind fun k cs1 => if k = true then f sl cs1 else g sl cs1 := rfl
@[simp] theorem ev_ix : eIx f g sl cs = (f sl cs).bind fun x cs1 => (g sl cs1).bind fun y cs2 => ixD x y cs2 := rfl
@[simp] theorem ev_sl {l m : SI} : eSl f l m sl cs = (f sl cs).bind fun x cs1 => (l sl cs1).bind fun lo cs2 => (m sl cs2).bind fun hi cs3 => sliceV x lo hi cs3 := rfl
@[simp] theorem ev_iNone : iNone sl cs = .ok none cs := rfl
@[simp] theorem ev_iSome : iSome f sl cs = (f sl cs).bind fun x cs1 => match x with
  | .d (.int i) => .ok (some i) cs1
  | _ => .bad := rfl
@[simp] theorem ev_tup : eTup fa sl cs = (fa sl cs).bind fun xs cs1 => mkD .tuple xs cs1 := rfl
@[simp] theorem ev_lst : eLst fa sl cs = (fa sl cs).bind fun xs cs1 => mkD .list xs cs1 := rfl
@[simp] theorem ev_oLst : oLst fa sl cs = (fa sl cs).bind fun xs cs1 => mkO xs cs1 := rfl
@[simp] theorem ev_oFr : oFr f sl cs = (f sl cs).bind fun x cs1 => if x.solid = true then .ok (.fr x) cs1 else .bad := rfl
@[simp] theorem ev_neg : eNeg f sl cs = (f sl cs).bind negV := rfl
@[simp] theorem ev_negV {i : Int} : negV (.d (.int i)) cs = .ok (.d (.int (-i))) cs := rfl
@[simp] theorem ev_call {gb : List Val → Cs → R Val} : eCall gb fa sl cs = (fa sl cs).bind gb := rfl
@[simp] theorem ev_ocall {gb : List Val → Cs → R Slot} : oCall gb fa sl cs = (fa sl cs).bind gb := rfl
@[simp] theorem ev_isi {ty : Ty} : eIsi ty f sl cs = (f sl cs).bind (isiV ty) := rfl
@[simp] theorem ev_isiV {ty : Ty} {x : PyData} : isiV ty (.d x) cs = .ok (.d (.bool (isiB ty x))) cs := rfl
@[simp] theorem ev_fz : eFz fo sl cs = (fo sl cs).bind fun s cs1 => .ok (fz s) cs1 := rfl
@[simp] theorem ev_fzF : fz (.fr v) = v := rfl
@[simp] theorem ev_fzO {x : PyData} : fz (.ow x) = .d x := rfl
@[simp] theorem ev_cel : eCel fo sl cs = (fo sl cs).bind celV := rfl
@[simp] theorem ev_celV {xs : List PyData} : celV (.ow (.list xs)) cs = .ok (.cel cs.length) (cs ++ [.lst (xs.map Val.d)]) := rfl
@[simp] theorem ev_def {F : FS} {ds : List Val} : oDef F ds fa sl cs = (fa sl cs).bind fun xs cs1 => F (xs ++ ds) cs1 := rfl
@[simp] theorem ev_defK {F : FS} {m : Nat} {pm : List Nat} : oDefK F m pm fa sl cs = (fa sl cs).bind fun xs cs1 => if xs.length = m then F (pm.map fun j => xs.getD j (.d .none)) cs1 else .bad := rfl
@[simp] theorem ev_lenset : eLenSet f sl cs = (f sl cs).bind lenSetV := rfl
@[simp] theorem ev_solid {x : PyData} : (Val.d x).solid = true := rfl
@[simp] theorem ev_solidC {n : Nat} : (Val.cel n).solid = true := rfl
@[simp] theorem ev_solidL {n : List PyData} : (Val.lk n).solid = true := rfl
@[simp] theorem ev_sNil : sNil sl cs = .nx sl cs := rfl
@[simp] theorem ev_seq : sSeq p q sl cs = (p sl cs).seq q := rfl
@[simp] theorem ev_ret : sRet fo sl cs = (fo sl cs).go sl fun s cs1 => .rt s cs1 := rfl
@[simp] theorem ev_retN : sRetN sl cs = .rt (.fr (.d .none)) cs := rfl
@[simp] theorem ev_retV {s : Slot} (e : sl[i]? = some (some s)) : sRetV i sl cs = .rt s cs := by unfold sRetV; rw [e]
@[simp] theorem ev_expr : sExpr f sl cs = (f sl cs).go sl fun _ cs1 => .nx sl cs1 := rfl
@[simp] theorem ev_set : sSet i fo sl cs = (fo sl cs).go sl fun s cs1 => .nx (sl.set i (some s)) cs1 := rfl
@[simp] theorem ev_sIf : sIf t p q sl cs = (t sl cs).go sl fun k cs1 => if k = true then p sl cs1 else q sl cs1 := rfl
@[simp] theorem ev_sFz {s : Slot} (e : sl[i]? = some (some s)) : sFz i sl cs = .nx (sl.set i (some (.fr (fz s)))) cs := by unfold sFz; rw [e]
@[simp] theorem ev_sFor {gt : Val → Sl → Option Sl} : sFor fa gt p sl cs = (fa sl cs).go sl fun xs cs1 => forL gt p xs sl cs1 := rfl
@[simp] theorem ev_sAsg {gt : Val → Sl → Option Sl} : sAsg gt f sl cs = (f sl cs).go sl fun x cs1 => if x.solid = true then match gt x sl with
  | some sl' => .nx sl' cs1
  | none => .bad
  else .bad := rfl
@[simp] theorem ev_gNm {x : Val} : gNm i x sl = some (sl.set i (some (.fr x))) := rfl
@[simp] theorem ev_gTpL {gs : List PyData → Sl → Option Sl} {xs : List PyData} : gTp gs (.d (.list xs)) sl = gs xs sl := rfl
@[simp] theorem ev_gTp {gs : List PyData → Sl → Option Sl} {xs : List PyData} : gTp gs (.d (.tuple xs)) sl = gs xs sl := rfl
@[simp] theorem ev_gsNil : gsNil [] sl = some sl := rfl
@[simp] theorem ev_gsCons {gt : Val → Sl → Option Sl} {gs : List PyData → Sl → Option Sl} {x : PyData} {xs : List PyData} : gsCons gt gs (x :: xs) sl = (gt (.d x) sl).bind (gs xs) := rfl
@[simp] theorem ev_pSeq : pSeq f sl cs = (f sl cs).bind seqV := rfl
@[simp] theorem ev_seqL {xs : List PyData} : seqV (.d (.list xs)) cs = .ok (xs.map Val.d) cs := rfl
@[simp] theorem ev_seqT {xs : List PyData} : seqV (.d (.tuple xs)) cs = .ok (xs.map Val.d) cs := rfl
@[simp] theorem ev_seqS {z : Str} : seqV (.d (.str z)) cs = .ok (z.cps.toList.map fun c => .d (.str ⟨#[c]⟩)) cs := rfl
@[simp] theorem ev_pR1 : pRange1 fa sl cs = (fa sl cs).bind rangeV1 := rfl
@[simp] theorem ev_pR2 : pRange2 fa sl cs = (fa sl cs).bind rangeV2 := rfl
@[simp] theorem ev_pEnm : pEnm fa sl cs = (fa sl cs).bind enumW := rfl
@[simp] theorem ev_pZip : pZip fa sl cs = (fa sl cs).bind zipV := rfl
@[simp] theorem ev_tTrue : tTrue sl cs = .ok true cs := rfl
@[simp] theorem ev_gI {c : Int → Int → Bool} {gg : Int → Int → PyData} {a b : Int} : gI c gg (.int a) (.int b) = if c a b = true then some (gg a b) else none := rfl
@[simp] theorem ev_addS {a b : Str} : gAddS (.str a) (.str b) = if a.length + b.length ≤ 16777216 then some (.str (a ++ b)) else none := rfl
@[simp] theorem ev_addI {a b : Int} : addD (.int a) (.int b) = some (.int (a + b)) := rfl
@[simp] theorem ev_mulI {a b : Int} : mulD (.int a) (.int b) = if cMul a b = true then some (.int (a * b)) else none := by
  show (if cMul a b = true then some (PyData.int (a * b)) else none).or none = _
  simp
@[simp] theorem ev_isN {x : PyData} : isD x .none = some (.bool (isNone x)) := rfl
@[simp] theorem ev_isNN {x : PyData} : isNotD x .none = some (.bool (!isNone x)) := rfl
@[simp] theorem ev_eqD {x y : PyData} : eqD x y = if eqOk x y = true then some (.bool (PyData.eqv x y)) else none := rfl
@[simp] theorem ev_neD {x y : PyData} : neD x y = if eqOk x y = true then some (.bool (!PyData.eqv x y)) else none := rfl
@[simp] theorem ev_len {x : List PyData} : lenB [.d (.list x)] cs = .ok (.d (.int x.length)) cs := rfl
@[simp] theorem ev_lenT {x : List PyData} : lenB [.d (.tuple x)] cs = .ok (.d (.int x.length)) cs := rfl
@[simp] theorem ev_lenK {x : List PyData} : lenB [.lk x] cs = .ok (.d (.int x.length)) cs := rfl
@[simp] theorem ev_lenBr {x : List PyData} : lenB [.br (.list x)] cs = .ok (.d (.int x.length)) cs := rfl
@[simp] theorem ev_lenS {x : Str} : lenB [.d (.str x)] cs = if x.length ≤ 16777216 then .ok (.d (.int x.length)) cs else .bad := rfl
@[simp] theorem ev_int {j : Int} : intB [.d (.int j)] cs = .ok (.d (.int j)) cs := rfl
@[simp] theorem ev_intB {b : Bool} : intB [.d (.bool b)] cs = .ok (.d (.int (if b then 1 else 0))) cs := rfl
@[simp] theorem ev_abs {j : Int} : absB [.d (.int j)] cs = .ok (.d (.int (if j < 0 then -j else j))) cs := rfl
@[simp] theorem ev_max {j k : Int} : maxB [.d (.int j), .d (.int k)] cs = .ok (.d (.int (max j k))) cs := rfl
@[simp] theorem ev_min {j k : Int} : minB [.d (.int j), .d (.int k)] cs = .ok (.d (.int (min j k))) cs := rfl
@[simp] theorem ev_tuL {x : List PyData} : tupleB [.d (.list x)] cs = .ok (.d (.tuple x)) cs := rfl
@[simp] theorem ev_tuT {x : List PyData} : tupleB [.d (.tuple x)] cs = .ok (.d (.tuple x)) cs := rfl
@[simp] theorem ev_tuB {x : List PyData} : tupleB [.br (.list x)] cs = .ok (.d (.tuple x)) cs := rfl
@[simp] theorem ev_ixT {xs : List PyData} {j : Int} : ixD (.d (.tuple xs)) (.d (.int j)) cs = R.of ((atI xs j).map Val.d) cs := rfl
@[simp] theorem ev_ixL {xs : List PyData} {j : Int} : ixD (.d (.list xs)) (.d (.int j)) cs = R.of ((atI xs j).map Val.d) cs := rfl
@[simp] theorem ev_ixB {xs : List PyData} {j : Int} : ixD (.br (.list xs)) (.d (.int j)) cs = R.of ((atI xs j).map Val.d) cs := rfl
@[simp] theorem ev_ixK {xs : List PyData} {j : Int} : ixD (.lk xs) (.d (.int j)) cs = R.of ((atI xs j).map Val.d) cs := rfl
@[simp] theorem ev_ixS {s : Str} {j : Int} : ixD (.d (.str s)) (.d (.int j)) cs = if s.length ≤ 16777216 then R.of ((atI s.cps.toList j).map fun c => .d (.str ⟨#[c]⟩)) cs else .bad := rfl
theorem ev_ixC {n : Nat} {xs : List Val} {j : Int} {x : Val} (e : cs[n]? = some (.lst xs)) (ea : atI xs j = some x) (hs : x.solid = true) : ixD (.cel n) (.d (.int j)) cs = .ok x cs := by
  show idxV (.cel n) (.d (.int j)) cs = _
  unfold idxV
  dsimp only
  rw [e]
  dsimp only
  rw [ea]
  exact if_pos hs
@[simp] theorem ev_mkT {x : List Val} : mkD .tuple x cs = (match datsOf x with
  | some ds => if ds.length ≤ 16777216 then .ok (.d (.tuple ds)) cs else .bad
  | none => .bad) := rfl
@[simp] theorem ev_mkL {x : List Val} : mkD .list x cs = (match datsOf x with
  | some ds => if ds.length ≤ 16777216 then .ok (.d (.list ds)) cs else .bad
  | none => .bad) := rfl
@[simp] theorem ev_mkO {x : List Val} : mkO x cs = (match datsOf x with
  | some ds => if ds.length ≤ 16777216 then .ok (.ow (.list ds)) cs else .bad
  | none => .bad) := rfl
@[simp] theorem ev_datsN : datsOf [] = some [] := rfl
@[simp] theorem ev_datsC {x : PyData} {r : List Val} : datsOf (.d x :: r) = (datsOf r).map (x :: ·) := rfl
@[simp] theorem ev_dats {xs : List PyData} : datsOf (xs.map Val.d) = some xs := by
  induction xs with
  | nil => rfl
  | cons x xs ih => simp [ih]
theorem atI_nat {α : Type} {xs : List α} {j : Nat} {x : α} (h : xs[j]? = some x) : atI xs (j : Int) = some x := by
  obtain ⟨h1, h2⟩ := List.getElem?_eq_some_iff.mp h
  unfold atI ixN
  rw [if_pos (by omega), if_pos (by omega)]
  exact h
@[simp] theorem ev_atI0 {α : Type} {x : α} {xs : List α} : atI (x :: xs) 0 = some x := atI_nat (j := 0) rfl
@[simp] theorem ev_atI1 {α : Type} {x y : α} {xs : List α} : atI (x :: y :: xs) 1 = some y := atI_nat (j := 1) rfl
@[simp] theorem ev_atI2 {α : Type} {x y z : α} {xs : List α} : atI (x :: y :: z :: xs) 2 = some z := atI_nat (j := 2) rfl
theorem bodyF_of {n m : Nat} {s : SS} {args : List Val} (h : args.length = n) : bodyF n m s args cs = bodyR (s (args.map (fun v => some (Slot.fr v)) ++ List.replicate m none) cs) := by
  unfold bodyF
  rw [if_pos h]
@[simp] theorem ev_bnx : bodyR (.nx sl cs) = .ok (.fr (.d .none)) cs := rfl
@[simp] theorem ev_brt {s : Slot} : bodyR (.rt s cs) = .ok s cs := rfl
@[simp] theorem ev_bex {e : Ex} : bodyR (.ex e sl cs) = .ex e cs := rfl
@[simp] theorem ev_bbd : bodyR .bad = .bad := rfl
end
end DL
end
section
set_option Elab.async false
set_option linter.all false
set_option maxRecDepth 100000
set_option autoImplicit false
namespace DL
open PySem PySem.Spec PyProof.Rows L2
/-! ### repr of lists and tuples of data, nested -/
def isSq : PyData → Bool
  | .list _ => true
  | .tuple _ => true
  | _ => false
def repOk (x : PyData) : Bool := isSq x && (x.canLay0 && (x.showable && (decide (x.depth ≤ 150) && decide (x.shown.length ≤ 16777216))))
theorem repOk_of {x : PyData} (h : repOk x = true) : isSq x = true ∧ x.canLay0 = true ∧ x.showable = true ∧ x.depth ≤ 150 ∧ x.shown.length ≤ 16777216 := by
  unfold repOk at h
  simp only [Bool.and_eq_true, decide_eq_true_eq] at h
  exact ⟨h.1, h.2.1, h.2.2.1, h.2.2.2.1, h.2.2.2.2⟩
theorem reads_ref {h : Heap} {u : Value} {d : PyData} {as : List Addr} (r : Reads h u d as) (q : isSq d = true) : ∃ a, u = .ref a := by
  cases r <;> first | exact ⟨_, rfl⟩ | cases q
theorem call_reprX {X : Cx} (hg : X.A.guards = some []) (hu : X.A.units + 152 < cLine) : CallR X (.builtin "repr") (fun xs H Q => ∃ x d, xs = [x] ∧ Dp X.K H x d ∧ repOk d = true ∧ Q (.str d.shown) H) := by
  intro pins s σ H xs us Q I r h
  obtain ⟨x, d, rfl, hd, ok, q⟩ := h
  obtain ⟨sq, c, sh, dp, ln⟩ := repOk_of ok
  obtain ⟨u, rfl, ru⟩ : ∃ u, us = [u] ∧ RelV x u := by
    cases r with
    | cons r t => cases t; exact ⟨_, rfl, r⟩
  obtain ⟨as, rd⟩ := Dp.reads I d x u hd ru
  obtain ⟨a, rfl⟩ := reads_ref rd sq
  exact repr_of_reads' rd sh (PyData.noDict_hsm (PyData.hasDict_of_canLay _ c)) hg (by omega) (fun _ _ e => e) (fun h' v tk k => ⟨.str d.shown, H, I.kept k, ⟨_, rfl⟩, q⟩) (by rw [sizeLine_eq]; exact ln)
def reprV (xs : List Val) (cs : Cs) : R Val := match xs with
  | [.d (.int i)] => if i.natAbs.log2 < 1920 then .ok (.d (.str (toString i))) cs else .bad
  | [.d (.bool b)] => .ok (.d (.str (if b then "True" else "False"))) cs
  | [.d .none] => .ok (.d (.str "None")) cs
  | [.d x] => if repOk x = true then .ok (.d (.str x.shown)) cs else .bad
  | [.br x] => if repOk x = true then .ok (.d (.str x.shown)) cs else .bad
  | _ => .bad
theorem cd_reprV {Γ : Cf} (hcm : Γ.cm = true) : CallD Γ (.builtin "repr") reprV := by
  have cr : ∀ X, Γ.Ok X → CallR X (.builtin "repr") (fun xs H Q => ∃ x d, xs = [x] ∧ Dp Γ.K H x d ∧ repOk d = true ∧ Q (.str d.shown) H) := fun X ok => by
    have c := call_reprX (X := X) (ok.cm hcm).2.gd (by have := ok.un; omega)
    rw [ok.K] at c
    exact c
  refine ⟨_, fun X ok => CallR.or cr_reprA (cr X ok), fun W F ρ sl cs σ H Q xs us rp ha hp => ?_⟩
  unfold reprV at hp
  split at hp
  · rename_i i
    obtain ⟨u, rfl, q⟩ := one_of ha
    split at hp
    · rename_i hl
      rw [AtT.int q]
      exact .inl (.inl ⟨i, rfl, hl, hp _ H ρ rp Grow.refl AtT.mkS⟩)
    · exact hp.elim
  · rename_i i
    obtain ⟨u, rfl, q⟩ := one_of ha
    rw [AtT.bl q]
    exact .inl (.inr (.inl ⟨i, rfl, hp _ H ρ rp Grow.refl AtT.mkS⟩))
  · obtain ⟨u, rfl, q⟩ := one_of ha
    rw [AtT.non q]
    exact .inl (.inr (.inr ⟨rfl, hp _ H ρ rp Grow.refl AtT.mkS⟩))
  · rename_i x _ _ _
    obtain ⟨u, rfl, q⟩ := one_of ha
    split at hp
    · rename_i ok
      exact .inr ⟨u, x, rfl, dat_dp rfl (repOk_of ok).2.1 q.w, ok, hp _ H ρ rp Grow.refl AtT.mkS⟩
    · exact hp.elim
  · rename_i x
    obtain ⟨u, rfl, q⟩ := one_of ha
    split at hp
    · rename_i ok
      exact .inr ⟨u, x, rfl, dat_dp rfl (repOk_of ok).2.1 q.w, ok, hp _ H ρ rp Grow.refl AtT.mkS⟩
    · exact hp.elim
  · exact hp.elim
end DL
end
section
set_option Elab.async false
set_option linter.all false
set_option maxRecDepth 100000
set_option autoImplicit false
namespace DL
open PySem PySem.Spec PyProof.Rows L2
/-! ### raise, try .. except C: .. -/
/-- an own exception class (over ValueError) without a field -/
structure ExcK (K : PySem.W.Frag) (mg : Str → Option Value) (x : Str) : Prop where
  ex : ∃ C, mg x = some (.ref C) ∧ PySem.W.excIn K C He.veBase "ValueError.__new__" = true ∧ PySem.W.keepIn K (.ref C) = true ∧ PySem.W.subIn K (.ref C) (.type "BaseException") = some true ∧ PySem.W.typeIn K (.ref C) = some (.type "type")
/-- which class is under which -/
abbrev Mt := Str → Str → Option Bool
structure MtOk (K : PySem.W.Frag) (mg : Str → Option Value) (mt : Mt) : Prop where
  ex : ∀ x y b, mt x y = some b → ∃ C D, mg x = some (.ref C) ∧ mg y = some (.ref D) ∧ PySem.W.exmOne K (.ref C) (.ref D) = some b
def sRaise (x : Str) : SS := fun sl cs => .ex ⟨x, []⟩ sl cs
section
variable {Γ : Cf} {pos p p2 pos' : Pos}
theorem ds_raise {x m : Str} {j : Nat} (c : ExcK Γ.K Γ.mg x) (hcm : Γ.cm = true) (hg : Gls Γ.sc x := by rfl) (hdb : (x == ("__debug__" : Str)) = false := by decide) : DS Γ (.Raise (some (.Call (.Name x p) [.Constant (.str m) j p2] [] pos)) none pos') (sRaise x) := by
  obtain ⟨C, gC, e1, kC, e2, e3⟩ := c.ex
  refine ⟨fun W => (fun _ σ H => W (.ref C) none σ H), fun X W ok gd => ?_, fun W F ρ sl cs σ H D r h => ?_⟩
  · exact ps_raise (ok.cm hcm).1 gd.tk (pmk_own (m := m) F.excBase_ValueError (by rw [ok.K]; exact e1) (by rw [ok.mg]; exact gC) (by rw [ok.K]; exact kC) (raises_own (by rw [ok.K]; exact e2) (by rw [ok.K]; exact e3)) (gl_of ok hg) hdb)
  · exact h (.ref C) none σ H ρ r (fun _ _ z => z) ⟨⟨C, gC, rfl⟩, rfl⟩
/-- the configuration of an except suite -/
abbrev Cf.su (Γ : Cf) : Cf := { Γ with cm := false }
theorem su_ok {X : Cx} (ok : Γ.Ok X) (a : Addr) (pn : List (Addr × Obj)) : Γ.su.Ok (X.suite a pn) :=
  ⟨ok.K, ok.mg, ok.P, ok.w, ok.base, ok.N, ok.sc, fun z => absurd (show false = true from z) Bool.false_ne_true, ok.un, ok.tp, ok.fn⟩
theorem su_good {X : Cx} (a : Addr) (pn : List (Addr × Obj)) : Good (X.suite a pn) W0 := ⟨takes0, PassesOwn.never⟩
def noExS (r : RS) : RS := match r with
  | .ex _ _ _ => .bad
  | r => r
def handle (mt : Mt) (e : Ex) (sl : Sl) (cs : Cs) : List (Str × SS) → RS
  | [] => .ex e sl cs
  | (y, f) :: r => match mt e.cls y with
    | some true => noExS (f sl cs)
    | some false => handle mt e sl cs r
    | none => .bad
def sTry (mt : Mt) (body : SS) (hs : List (Str × SS)) : SS := fun sl cs => match body sl cs with
  | .ex e sl' cs' => handle mt e sl' cs' hs
  | r => r
inductive DHs (Γ : Cf) : List ExceptHandler → List (Str × SS) → Prop
  | nil : DHs Γ [] []
  | cons {x : Str} {b₀ : Stmt} {suite : List Stmt} {np pos' : Pos} {hds : List ExceptHandler} {f : SS} {l : List (Str × SS)} (gC : ∃ C, Γ.mg x = some (.ref C)) (hg : Gls Γ.sc x) (hdb : (x == ("__debug__" : Str)) = false) (h : DSs Γ.su (b₀ :: suite) f) (r : DHs Γ hds l) :
      DHs Γ (.ExceptHandler (some (.Name x np)) none (b₀ :: suite) pos' :: hds) ((x, f) :: l)
theorem postS_w0 {Γ : Cf} {F : Fx} {ρ : List Addr} {sl : Sl} {σ : L2.St} {H : Hp} {W W' : WX} {D : Ends} {r : RS} (h : PostS Γ F ρ sl σ H W (noExS r) D) : PostS Γ F ρ sl σ H W' (noExS r) D := by
  cases r <;> exact h
theorem noExS_w {Γ : Cf} {F : Fx} {ρ : List Addr} {sl : Sl} {σ : L2.St} {H : Hp} {W : WX} {D : Ends} {r : RS} (h : PostS Γ F ρ sl σ H W (noExS r) D) : PostS Γ F ρ sl σ H W0 r D := by
  cases r with
  | ex e sl' cs' => exact h.elim
  | _ => exact h
/-- the clauses: their readings, and what the mirror says of them -/
theorem hds_ok {mt : Mt} (M : MtOk Γ.K Γ.mg mt) : ∀ {hds : List ExceptHandler} {l : List (Str × SS)}, DHs Γ hds l → ∃ lv : List (Value × (Addr → Value → Option Addr → TS)),
    (∀ X, Γ.Ok X → HdsOk X hds lv) ∧ ∀ W F ρ sl σ H D e c d sl' cs' σ' H' ρ', Rep Γ.K Γ.mg F ρ' sl' cs' σ' H' → Sub (vis F ρ sl σ H) (vis F ρ' sl' σ' H') → ExAt Γ.K Γ.mg (vis F ρ' sl' σ' H') H' e c d →
      PostS Γ F ρ sl σ H W (handle mt e sl' cs' l) D → wMany Γ.K W D lv c d σ' H'
  | _, _, .nil => ⟨[], fun X _ => .nil, fun W F ρ sl σ H D e c d sl' cs' σ' H' ρ' rp sub at_ h => h c d σ' H' ρ' rp sub at_⟩
  | _, _, .cons (f := f) gC hg hdb hs r => by
    obtain ⟨lv, h1, h2⟩ := hds_ok M r
    obtain ⟨C, gC⟩ := gC
    obtain ⟨t, p, q⟩ := hs.ex
    refine ⟨(.ref C, fun _ _ _ => t W0) :: lv, fun X ok => .cons ⟨gl_of ok hg, hdb, .inl (by rw [ok.mg]; exact gC)⟩ (fun a oe cls d pn _ _ => p _ W0 (su_ok ok a _) (su_good a _)) (h1 X ok), ?_⟩
    intro W F ρ sl σ H D e c d sl' cs' σ' H' ρ' rp sub at_ h
    unfold handle at h
    split at h
    · rename_i em
      obtain ⟨Cx, Dx, g1, g2, ex⟩ := M.ex _ _ _ em
      obtain ⟨⟨C', g3, rfl⟩, _⟩ := at_
      cases g1.symm.trans g3
      cases gC.symm.trans g2
      exact ⟨true, ex, fun _ a _ => q W0 F ρ' sl' cs' σ' H' D rp (noExS_w (PostS.weak h sub)), fun z => by cases z⟩
    · rename_i em
      obtain ⟨Cx, Dx, g1, g2, ex⟩ := M.ex _ _ _ em
      have at2 := at_
      obtain ⟨⟨C', g3, rfl⟩, _⟩ := at_
      cases g1.symm.trans g3
      cases gC.symm.trans g2
      exact ⟨false, ex, (fun z => by cases z), fun _ => h2 W F ρ sl σ H D e _ d sl' cs' σ' H' ρ' rp sub at2 h⟩
    · exact h.elim
theorem ds_try {mt : Mt} {body : List Stmt} {h₀ : ExceptHandler} {hds : List ExceptHandler} {l : List (Str × SS)} {f : SS} (M : MtOk Γ.K Γ.mg mt) (hcm : Γ.cm = true) (htp : Γ.tp = true) (hb : DSs Γ body f) (hh : DHs Γ (h₀ :: hds) l) : DS Γ (.Try body (h₀ :: hds) [] [] pos) (sTry mt f l) := by
  obtain ⟨lv, h1, h2⟩ := hds_ok M hh
  obtain ⟨t, p, q⟩ := hb.ex
  refine ⟨fun W => (fun D σ H => t (wMany Γ.K W D lv) D σ H), fun X W ok gd => ?_, fun W F ρ sl cs σ H D r h => ?_⟩
  · have T := ps_try_many (pos := pos) (tb := t) (ok.tp htp).1 (ok.tp htp).2 gd.tk (fun W' pn xe tk po => p (X.tr pn xe) W' ⟨ok.K, ok.mg, ok.P, ok.w, ok.base, ok.N, ok.sc, ok.cm, ok.un, ok.tp, ok.fn⟩ ⟨tk, po⟩) (h1 X ok)
    rw [ok.K] at T
    exact T
  · refine q _ F ρ sl cs σ H D r ?_
    unfold sTry at h
    cases e : f sl cs with
    | ex e' sl' cs' =>
      rw [e] at h
      intro c d σ' H' ρ' rp sub at_
      exact h2 W F ρ sl σ H D e' c d sl' cs' σ' H' ρ' rp sub at_ h
    | nx sl' cs' => rw [e] at h; exact h
    | rt s cs' => rw [e] at h; exact h
    | bk sl' cs' => rw [e] at h; exact h
    | ct sl' cs' => rw [e] at h; exact h
    | bad => rw [e] at h; exact h
end
/-! ### the classes' facts out of the head -/
section
variable {K : PySem.W.Frag} {h : Heap} {mg : Str → Option Value}
theorem exck_of {x : Str} (g : mg x = some (.ref (He.ga K x))) (c : (He.Fa.exc x).ok K = true) : ExcK K mg x := by
  obtain ⟨a, b, c, d⟩ := He.exc_ok c
  exact ⟨_, g, a, b, c, d⟩
/-- a table of which class is under which -/
def mtOf (l : List (Str × Str × Bool)) : Mt := fun x y => (l.find? fun p => p.1 == x && p.2.1 == y).map (·.2.2)
theorem mtOf_ok {l : List (Str × Str × Bool)} (h : ∀ p ∈ l, ∃ C D, mg p.1 = some (.ref C) ∧ mg p.2.1 = some (.ref D) ∧ PySem.W.exmOne K (.ref C) (.ref D) = some p.2.2) : MtOk K mg (mtOf l) := by
  refine ⟨fun x y b e => ?_⟩
  unfold mtOf at e
  cases q : l.find? (fun p => p.1 == x && p.2.1 == y) with
  | none => rw [q] at e; cases e
  | some p =>
    rw [q] at e
    cases e
    have h1 := List.find?_some q
    simp only [Bool.and_eq_true, beq_iff_eq] at h1
    obtain ⟨C, D, a, b, c⟩ := h p (List.mem_of_find?_eq_some q)
    exact ⟨C, D, h1.1 ▸ a, h1.2 ▸ b, c⟩
end
end DL
end
section
set_option Elab.async false
set_option linter.all false
set_option maxRecDepth 100000
set_option autoImplicit false
/-! ### t[::-1] of a tuple -/
namespace HT
open PySem PySem.Spec PyProof.Rows
section
variable {prog : Program} {w : World} {A : Around} {E : Value → Shared → Prop} {s : Shared}
theorem applied_rev {sl : Addr} {vl vu vs : Value} {n : Nat} {Q : Int × Int × Nat → Shared → Prop} (hs : s.heap.IsSliceOf sl vl vu vs) (pl : IsPart vl none) (pu : IsPart vu none) (ps : IsPart vs (some (-1)))
    (h : Q ((n : Int) - 1, -1, n) s) : wpAny (model prog w) A (Builtin.Slice.sliceApplied (.ref sl) (pure (n : Int))) Q E s := by
  obtain ⟨os, hos, hcs, hds⟩ := id hs
  have ad : Builtin.Slice.sliceAdjust none none (-1) (n : Int) = ((n : Int) - 1, -1) := rfl
  have pc : Builtin.Slice.slicePlaces ((n : Int) - 1) (-1) (-1) = n := by
    unfold Builtin.Slice.slicePlaces
    rw [if_neg (by decide)]
    split
    · rw [show (- -1 : Int) = 1 by decide, Int.ediv_one]; omega
    · omega
  unfold Builtin.Slice.sliceApplied Builtin.Slice.sliceFields
  refine wpAny_bind (wpAny_bind (wpAny_field hos hds (x := vl) rfl (wpAny_bind (wpAny_field hos hds (x := vu) rfl (wpAny_bind (wpAny_field hos hds (x := vs) rfl (wpAny_pure ?_)))))))
  refine wpAny_bind (slicePart_ ps ?_)
  show wpAny _ _ (if ((-1 : Int) == 0) = true then _ else _) _ _ s
  rw [if_neg (by decide)]
  refine wpAny_bind (slicePart_ pl (wpAny_bind (slicePart_ pu (wpAny_bind (wpAny_pure ?_)))))
  show wpAny _ _ (match Builtin.Slice.sliceAdjust none none (-1) (n : Int) with | (lo, hi) => pure (lo, (-1 : Int), Builtin.Slice.slicePlaces lo hi (-1))) _ _ s
  rw [ad]
  show wpAny _ _ (pure ((n : Int) - 1, (-1 : Int), Builtin.Slice.slicePlaces ((n : Int) - 1) (-1) (-1))) _ _ s
  rw [pc]
  exact wpAny_pure h
theorem pick_rev (xs : Array Value) : ((List.range xs.size).filterMap fun (k : Nat) => xs[(((xs.size : Int) - 1) + (k : Int) * (-1)).toNat]?).toArray = xs.toList.reverse.toArray := by
  have e := PySem.W.krv_pick xs
  unfold PySem.slicePick at e
  rw [PySem.W.krv_bounds] at e
  rw [← e]
  show _ = ((PySem.sliceRange ((xs.size : Int) - 1) (-1) (-1)).filterMap (xs[·]?)).toArray
  rw [PySem.W.krv_sliceRange, List.filterMap_map]
  congr 2
  funext k
  have : (((xs.size : Int) - 1) + (k : Int) * (-1)).toNat = xs.size - 1 - k := by omega
  rw [this]
  rfl
theorem getItem_tuple_rev {t sl : Addr} {items : Array Value} {vl vu vs : Value} {Q : Value → Shared → Prop} (ht : IsTup s.heap t items) (hs : s.heap.IsSliceOf sl vl vu vs) (pl : IsPart vl none) (pu : IsPart vu none) (ps : IsPart vs (some (-1)))
    (h : Q (.ref s.heap.objs.size) { s with heap := s.heap.push { cls := .type "tuple", data := .seq items.toList.reverse.toArray } }) (hsz : items.size ≤ sizeLine) : wpAny (model prog w) A (getItem (.ref t) (.ref sl)) Q E s := by
  have ok : sizeOk (.seq items.toList.reverse.toArray) := by
    show items.toList.reverse.toArray.size ≤ sizeLine
    rw [List.size_toArray, List.length_reverse, Array.length_toList]
    exact hsz
  obtain ⟨os, hos, hcs, hds⟩ := id hs
  have sT : s.TypeIs (.ref sl) "slice" := ⟨os, hos, hcs⟩
  unfold getItem
  try with_reducible refine wpAny_holding ?_
  first | refine wpAny_bind (wpAny_pure ?_) | skip
  refine wpAny_bind (wpAny_sequenceKey ht.typeIs (by decide) (wpAny_bind (wpAny_callSpecial?_slot (name := Str.ofString "__getitem__") ht.typeIs PyProof.Rows.slot_tuple_getitem (wpAny_call_entry PyProof.Rows.slot_tuple_getitem ht.typeIs entry_tuple_getitem ?_ (args_tuple_getitem _ _)))))
  show wpAny _ _ (Builtin.Tuple.tupleItemsOf (.ref t) >>= _) _ _ s
  refine wpAny_bind (tupleItemsOf_ ht (wpAny_bind (wpAny_typeOf sT ?_)))
  rw [if_pos (by decide)]
  refine wpAny_bind (applied_rev hs pl pu ps ?_)
  have no : ¬ ((((items.size : Int) - 1) == 0 && (-1 : Int) == 1 && items.size == items.size) = true) := by
    rw [show ((-1 : Int) == 1) = false by decide, Bool.and_false, Bool.false_and]
    exact Bool.false_ne_true
  show wpAny _ _ (if (((items.size : Int) - 1) == 0 && (-1 : Int) == 1 && items.size == items.size) = true then _ else _) _ _ s
  rw [if_neg no, pick_rev]
  first
    | exact wpAny_bind (m := Builtin.Tuple.tupleExact _) (wpAny_newObj_type (wpAny_pure ⟨_, rfl, wpAny_pure h⟩) ok)
    | exact wpAny_bind (m := Builtin.Tuple.tupleExact _) (wpAny_newObj_type (wpAny_bind (wpAny_pure (wpAny_pure ⟨_, rfl, wpAny_pure h⟩))) ok)
    | exact wpAny_bind (wpAny_bind (m := Builtin.Tuple.tupleExact _) (wpAny_newObj_type (wpAny_pure (wpAny_pure ⟨_, rfl, wpAny_pure h⟩)) ok))
    | exact wpAny_bind (wpAny_bind (m := Builtin.Tuple.tupleExact _) (wpAny_newObj_type (wpAny_pure ⟨_, rfl, wpAny_pure h⟩) ok))
end
end HT
namespace DL
open PySem PySem.Spec PyProof.Rows L2
def tRevT (K : PySem.W.Frag) (te : TE) : TE := fun σ H Q => te σ H fun x H1 => (∃ a xs, x = .ref a ∧ SqL K H1 a xs ∧ ∀ p, H1 p = none → Q (.ref p) (upd H1 p (.lst xs.reverse))) ∨ (∃ a xs, x = .ref a ∧ SqT K H1 a xs ∧ ∀ p, H1 p = none → Q (.ref p) (upd H1 p (.tup xs.reverse)))
theorem pe_rev {X : Cx} {e : Expr} {te : TE} {k : Nat} {p1 p2 p3 pos : Pos} (he : PE X e te) : PE X (.Subscript e (.Slice none none (some (.UnaryOp .USub (.Constant (.int 1) k p1) p2)) p3) pos) (tRevT X.K te) := by
  constructor
  intro pins s σ H Q I h
  refine Subscript_ (thn (he.run pins s σ H _ I h) ?_)
  rintro v s1 ⟨x, H1, I1, r1, q1⟩
  have part : PO X (some (.UnaryOp .USub (.Constant (.int 1) k p1) p2)) (tPart (tUn (rU fun i => .int (-i)) (tC (.int 1)))) := po_some (pe_un un_neg pe_int)
  refine wpAny_Slice (thn (po_none.run pins s1 σ H1 (fun o H2 => o = none ∧ H2 = H1) I1 ⟨rfl, rfl⟩) ?_)
  rintro vl s2 ⟨l, H2, I2, pl, rfl, rfl⟩
  refine thn (po_none.run pins s2 σ H2 (fun o H3 => o = none ∧ H3 = H2) I2 ⟨rfl, rfl⟩) ?_
  rintro vu s3 ⟨u, H3, I3, pu, rfl, rfl⟩
  refine thn (part.run pins s3 σ H3 (fun o H4 => o = some (-1) ∧ H4 = H3) I3 ⟨1, rfl, -1, rfl, rfl, rfl⟩) ?_
  rintro vs s4 ⟨o, H4, I4, ps, rfl, rfl⟩
  have I5 : Inv X pins σ H4 { s4 with heap := s4.heap.push { cls := .type "slice", data := .fields #[vl, vu, vs] } } := I4.kept (t' := s4.toks) fun b ob q => Heap.get?_push_of_some _ q
  rcases q1 with ⟨a, xs, rfl, hx, q⟩ | ⟨a, xs, rfl, hx, q⟩
  · cases r1
    obtain ⟨its, r, ht, hz⟩ := I5.list hx
    have hlen := r.length
    show wpAny (model X.prog X.w) X.A (subscriptTail e (.Slice none none (some (.UnaryOp .USub (.Constant (.int 1) k p1) p2)) p3) (.ref a) (.ref s4.heap.objs.size)) (EP X pins σ Q) X.xe { s4 with heap := s4.heap.push { cls := .type "slice", data := .fields #[vl, vu, vs] } }
    refine tail_any (ops := [.ref a, .ref s4.heap.objs.size]) ht.isList.typeIs (PySem.slot_list_getitem.lookup) ?_ (by with_unfolding_all rfl)
    refine wpAny_getItem_list_slice ht.isList (Heap.IsSliceOf.new _ vl vu vs) pl pu ps (by decide) ?_ (by rw [List.size_toArray]; omega)
    rw [PySem.W.krv_pick]
    exact ⟨.ref _, _, I5.laid (t' := s4.toks) (o := .lst xs.reverse) (fun b ob q => Heap.get?_push_of_some _ q) (Nat.le_refl _) ⟨by rw [List.length_reverse]; exact hz, _, 0, r.reverse, Heap.get?_push_size _ rfl⟩, rfl, q _ (I5.hok.fresh (Nat.le_refl _))⟩
  · cases r1
    obtain ⟨its, r, ht, hz⟩ := I5.tuple hx
    have hlen := r.length
    show wpAny (model X.prog X.w) X.A (subscriptTail e (.Slice none none (some (.UnaryOp .USub (.Constant (.int 1) k p1) p2)) p3) (.ref a) (.ref s4.heap.objs.size)) (EP X pins σ Q) X.xe { s4 with heap := s4.heap.push { cls := .type "slice", data := .fields #[vl, vu, vs] } }
    refine tail_any (ops := [.ref a, .ref s4.heap.objs.size]) ht.typeIs (PyProof.Rows.slot_tuple_getitem.lookup) ?_ (by with_unfolding_all rfl)
    refine HT.getItem_tuple_rev ht (Heap.IsSliceOf.new _ vl vu vs) pl pu ps ?_ (by rw [List.size_toArray]; omega)
    exact ⟨.ref _, _, I5.laid (t' := s4.toks) (o := .tup xs.reverse) (fun b ob q => Heap.get?_push_of_some _ q) (Nat.le_refl _) ⟨by rw [List.length_reverse]; exact hz, _, r.reverse, IsTup.new _ _⟩, rfl, q _ (I5.hok.fresh (Nat.le_refl _))⟩
theorem AtL.reverse {K : PySem.W.Frag} {G : Hp} : ∀ {xs : List PyData} {vs : List V}, AtL K G xs vs → AtL K G xs.reverse vs.reverse
  | [], vs, q => by simp only [AtL] at q; subst q; exact AtL.nil
  | x :: xs, vs, q => by
    simp only [AtL] at q
    obtain ⟨v, t, rfl, q1, q2⟩ := q
    rw [List.reverse_cons, List.reverse_cons]
    exact (AtL.reverse q2).append (AtL.cons q1 AtL.nil)
def revV (x : Val) (cs : Cs) : R Val := match x with
  | .d (.list xs) => .ok (.d (.list xs.reverse)) cs
  | .br (.list xs) => .ok (.d (.list xs.reverse)) cs
  | .d (.tuple xs) => .ok (.d (.tuple xs.reverse)) cs
  | _ => .bad
def eRev (f : SE) : SE := fun sl cs => (f sl cs).bind revV
section
variable {Γ : Cf}
theorem de_rev {e : Expr} {f : SE} {k : Nat} {p1 p2 p3 pos : Pos} (h : DE Γ e f) : DE Γ (.Subscript e (.Slice none none (some (.UnaryOp .USub (.Constant (.int 1) k p1) p2)) p3) pos) (eRev f) := by
  obtain ⟨t, p, q⟩ := h.ex
  refine ⟨fun W => tRevT Γ.K (t W), fun X W ok gd => by rw [← ok.K]; exact pe_rev (p X W ok gd), fun W F ρ sl cs σ H Q rp h => ?_⟩
  refine q W F ρ sl cs σ H _ rp (PostG.mono (PostG.bind (rel := relV Γ F sl σ) h) fun u H1 ⟨x, cs1, ρ1, r1, g1, a1, h1⟩ => ?_)
  unfold revV at h1
  split at h1
  · rename_i xs
    obtain ⟨a, vs, rfl, s, l⟩ := AtT.list a1 (.inl rfl)
    refine .inl ⟨a, vs, rfl, SqL.of s, fun t ht => ?_⟩
    obtain ⟨rp', hv⟩ := r1.alloc ht (.lst vs.reverse)
    exact h1 _ _ ρ1 rp' (Grow.upd ht) (AtT.mk (at_list_iff.mpr ⟨t, _, rfl, hv, AtL.mono ((Grow.upd ht).vis r1) _ _ l.reverse⟩))
  · rename_i xs
    obtain ⟨a, vs, rfl, s, l⟩ := AtT.list a1 (.inr rfl)
    refine .inl ⟨a, vs, rfl, SqL.of s, fun t ht => ?_⟩
    obtain ⟨rp', hv⟩ := r1.alloc ht (.lst vs.reverse)
    exact h1 _ _ ρ1 rp' (Grow.upd ht) (AtT.mk (at_list_iff.mpr ⟨t, _, rfl, hv, AtL.mono ((Grow.upd ht).vis r1) _ _ l.reverse⟩))
  · rename_i xs
    obtain ⟨a, vs, rfl, s, l⟩ := AtT.tup a1
    refine .inr ⟨a, vs, rfl, sqT_sub vis_le s, fun t ht => ?_⟩
    obtain ⟨rp', hv⟩ := r1.alloc ht (.tup vs.reverse)
    exact h1 _ _ ρ1 rp' (Grow.upd ht) (AtT.mk (at_tup_iff.mpr ⟨t, _, rfl, SqT.of hv, AtL.mono ((Grow.upd ht).vis r1) _ _ l.reverse⟩))
  · exact h1.elim
/-- (..) * n -/
def gRepT (x y : PyData) : Option PyData := match x, y with
  | .tuple i, .int n => if i ≠ [] ∧ 2 ≤ n ∧ n ≤ 1000 ∧ i.length ≤ 1000 then some (.tuple (List.replicate n.toNat i).flatten) else none
  | _, _ => none
theorem od_repT : OpD Γ (binaryOp .Mult) gRepT := by
  refine ⟨rRepT Γ.K, fun X ok => by rw [← ok.K]; exact op_repT, fun W F ρ sl cs σ H Q x y a b u v rp e1 e2 h1 h2 hp => ?_⟩
  unfold gRepT at hp
  split at hp
  · rename_i i n
    split at hp
    · rename_i hcc
      obtain ⟨p, us, rfl, q1, l1⟩ := dat_tup e1 h1
      refine ⟨p, n, us, rfl, dat_int e2 h2, sqT_sub vis_le q1, fun z => hcc.1 (List.length_eq_zero_iff.mp (by rw [l1.length, z]; rfl)), hcc.2.1, hcc.2.2.1, by rw [← l1.length]; exact hcc.2.2.2, fun t ht => ?_⟩
      obtain ⟨rp', hv⟩ := rp.alloc ht (.tup (List.replicate n.toNat us).flatten)
      exact hp _ _ ρ rp' (Grow.upd ht) (AtT.mk (at_tup_iff.mpr ⟨t, _, rfl, SqT.of hv, AtL.mono ((Grow.upd ht).vis rp) _ _ (l1.rep n.toNat)⟩))
    · exact hp.elim
  · exact hp.elim
def mulT (x y : PyData) : Option PyData := (mulD x y).or (gRepT x y)
theorem od_mulT : OpD Γ (binaryOp .Mult) mulT := od_mul.or od_repT
@[simp] theorem ev_mulT {a b : Int} : mulT (.int a) (.int b) = if cMul a b = true then some (.int (a * b)) else none := by
  show (mulD (.int a) (.int b)).or none = _
  rw [ev_mulI]
  simp
end
end DL
end
section
set_option Elab.async false
set_option linter.all false
set_option maxRecDepth 100000
set_option maxHeartbeats 0
set_option autoImplicit false
namespace LW
open PySem PySem.Spec PyProof.Rows L2 DL
abbrev Rw : PySem.W.OpenLaw := PySem.Challenge.rw_alikechances_k07_programs_put_together
def top (i : Nat) : Stmt := PySem.Challenge.pw_alikechances_k07_programs_put_together.main.body.getD i (.Pass ⟨0, 0, 0, 0⟩)
inductive Fn where
  | is_integer
  | is_name
  | are_names
  | is_variable
  | is_variables
  | places_of
  | is_tagged
  | is_expression_within
  | is_condition_within
  | is_expression
  | is_condition
  | is_pair
  | is_pairs
  | is_choice
  | expression_names
  | condition_names
  | pairs_names
  | is_statement_within
  | is_act
  | are_statements
  | inner_of
  | statements_in
  | statement_size
  | own_names
  | statement_names
  | is_right
  | need_program
  | need_condition
  | need_condition_of
  | need_alike
  | parts_of
  | whole
  | then
  | either
  | around
  | _law_bag
  | _law_take
  | _law_pick
  | _law_variables
  | _law_expression
  | _law_condition
  | _law_statement
  | _law_statements
  | _law_program
  | _law_many
  | _law_parts
  | _law_told
  | _law_other
  | _law_right
  | law
def g_WORDS : PyData := (.tuple [(.str "vars"), (.str "skip"), (.str "draw"), (.str "from"), (.str "weight"), (.str "choose"), (.str "see"), (.str "if"), (.str "then"), (.str "else"), (.str "while"), (.str "do"), (.str "true"), (.str "is"), (.str "below"), (.str "not"), (.str "and"), (.str "or"), (.str "least"), (.str "most")])
def g_SMALL : PyData := (.str "abcdefghijklmnopqrstuvwxyz")
def g_NAME_SIGNS : PyData := (.str "abcdefghijklmnopqrstuvwxyz0123456789")
def g_MOST_NAME : PyData := (.int 10)
def g_MOST_VARIABLES : PyData := (.int 4)
def g_LEAST_SIZE : PyData := (.int 2)
def g_MOST_SIZE : PyData := (.int 6)
def g_MOST_STATES : PyData := (.int 24)
def g_OPERATIONS : PyData := (.tuple [(.str "add"), (.str "less by"), (.str "times"), (.str "least"), (.str "most")])
def g_COMPARISONS : PyData := (.tuple [(.str "is"), (.str "below")])
def g_MOST_NUMBER : PyData := (.int 99)
def g_MOST_PAIRS : PyData := (.int 6)
def g_MOST_STATEMENTS : PyData := (.int 60)
def g_MOST_WITHIN : PyData := (.int 12)
def g_MOST_DEEP : PyData := (.int 10)
def mt : Mt := mtOf [("BadCondition", "BadCondition", true), ("BadCondition", "BadProgram", false), ("BadCondition", "NotAlike", false), ("BadProgram", "BadCondition", false), ("BadProgram", "BadProgram", true), ("BadProgram", "NotAlike", false), ("NotAlike", "BadCondition", false), ("NotAlike", "BadProgram", false), ("NotAlike", "NotAlike", true)]
abbrev sc_is_integer : Scope := defScope (top 14)
def N_is_integer : List PySem.Str := ["thing", "low", "high"]
def s_is_integer (G : Fn → FS) : SS := sSeq (sIf (tOrD (tNotD (tTru (eIsi .int (eVar 0)))) (tTru (eIsi .bool (eVar 0)))) (sRet (oFr (eC (.bool false)))) (sNil)) (sRet (oFr (eAnd (eOr (eOp isD (eVar 1) (eC .none)) (eOp geD (eVar 0) (eVar 1))) (eOr (eOp isD (eVar 2) (eC .none)) (eOp leD (eVar 0) (eVar 2))))))
abbrev b_is_integer (G : Fn → FS) : FS := bodyF 3 0 (s_is_integer G)
abbrev sc_is_name : Scope := defScope (top 15)
def N_is_name : List PySem.Str := ["thing", "sign"]
def s_is_name (G : Fn → FS) : SS := sSeq (sIf (tOrD (tNotD (tTru (eIsi .str (eVar 0)))) (tOrD (tNotD (tBool (eChain leD leD (eC (.int 1)) (eCall lenB (bCons (eVar 0) (aNil))) (eC g_MOST_NAME)))) (tOrD (tBool (eOp notInD (eIx (eVar 0) (eC (.int 0))) (eC g_SMALL))) (tBool (eOp inD (eVar 0) (eC g_WORDS)))))) (sRet (oFr (eC (.bool false)))) (sNil)) (sRet (oFr (eCall allB (bCons (eFz (oLc (pSeq (eVar 0)) (gNm 1) (tTrue) (eOp inD (eVar 1) (eC g_NAME_SIGNS)) [1])) (aNil)))))
abbrev b_is_name (G : Fn → FS) : FS := bodyF 1 1 (s_is_name G)
abbrev sc_are_names : Scope := defScope (top 16)
def N_are_names : List PySem.Str := ["thing", "name"]
def s_are_names (G : Fn → FS) : SS := sSeq (sIf (tOrD (tNotD (tTru (eIsi .tuple (eVar 0)))) (tNotD (tTru (eCall allB (bCons (eFz (oLc (pSeq (eVar 0)) (gNm 1) (tTrue) (eFz (oDef (G .is_name) [] (aCons (eVar 1) (aNil)))) [1])) (aNil)))))) (sRet (oFr (eC (.bool false)))) (sNil)) (sRet (oFr (eOp eqD (eLenSet (eVar 0)) (eCall lenB (bCons (eVar 0) (aNil))))))
abbrev b_are_names (G : Fn → FS) : FS := bodyF 1 1 (s_are_names G)
abbrev sc_is_variable : Scope := defScope (top 17)
def N_is_variable : List PySem.Str := ["thing"]
def s_is_variable (G : Fn → FS) : SS := sSeq (sIf (tOrD (tNotD (tTru (eIsi .tuple (eVar 0)))) (tBool (eOp neD (eCall lenB (bCons (eVar 0) (aNil))) (eC (.int 2))))) (sRet (oFr (eC (.bool false)))) (sNil)) (sRet (oFr (eAnd (eFz (oDef (G .is_name) [] (aCons (eIx (eVar 0) (eC (.int 0))) (aNil)))) (eFz (oDef (G .is_integer) [] (aCons (eIx (eVar 0) (eC (.int 1))) (aCons (eC g_LEAST_SIZE) (aCons (eC g_MOST_SIZE) (aNil)))))))))
abbrev b_is_variable (G : Fn → FS) : FS := bodyF 1 0 (s_is_variable G)
abbrev sc_is_variables : Scope := defScope (top 18)
def N_is_variables : List PySem.Str := ["thing", "many", "name", "size", "variable"]
def s_is_variables (G : Fn → FS) : SS := sSeq (sIf (tOrD (tNotD (tTru (eIsi .tuple (eVar 0)))) (tNotD (tBool (eChain leD leD (eC (.int 1)) (eCall lenB (bCons (eVar 0) (aNil))) (eC g_MOST_VARIABLES))))) (sRet (oFr (eC (.bool false)))) (sNil)) (sSeq (sIf (tNotD (tTru (eCall allB (bCons (eFz (oLc (pSeq (eVar 0)) (gNm 4) (tTrue) (eFz (oDef (G .is_variable) [] (aCons (eVar 4) (aNil)))) [4])) (aNil))))) (sRet (oFr (eC (.bool false)))) (sNil)) (sSeq (sSet 1 (oFr (eC (.int 1)))) (sSeq (sFor (pSeq (eVar 0)) (gTp (gsCons (gNm 2) (gsCons (gNm 3) (gsNil)))) (sAug 1 imulD (eVar 3))) (sRet (oFr (eAnd (eOp leD (eVar 1) (eC g_MOST_STATES)) (eFz (oDef (G .are_names) [] (aCons (eCall tupleB (bCons (eFz (oLc (pSeq (eVar 0)) (gTp (gsCons (gNm 2) (gsCons (gNm 3) (gsNil)))) (tTrue) (eVar 2) [2, 3])) (aNil))) (aNil))))))))))
abbrev b_is_variables (G : Fn → FS) : FS := bodyF 1 4 (s_is_variables G)
abbrev sc_places_of : Scope := defScope (top 19)
def N_places_of : List PySem.Str := ["variables", "place", "variable"]
def s_places_of (G : Fn → FS) : SS := sRet (oDc (pEnm (bCons (eVar 0) (aNil))) (gTp (gsCons (gNm 1) (gsCons (gNm 2) (gsNil)))) (tTrue) (eIx (eVar 2) (eC (.int 0))) (eVar 1) [1, 2])
abbrev b_places_of (G : Fn → FS) : FS := bodyF 1 2 (s_places_of G)
abbrev sc_is_tagged : Scope := defScope (top 28)
def N_is_tagged : List PySem.Str := ["thing", "many"]
def s_is_tagged (G : Fn → FS) : SS := sRet (oFr (eAnd (eIsi .tuple (eVar 0)) (eAnd (eOp eqD (eCall lenB (bCons (eVar 0) (aNil))) (eVar 1)) (eIsi .str (eIx (eVar 0) (eC (.int 0)))))))
abbrev b_is_tagged (G : Fn → FS) : FS := bodyF 2 0 (s_is_tagged G)
abbrev sc_is_expression_within : Scope := defScope (top 29)
def N_is_expression_within : List PySem.Str := ["thing", "left"]
def s_is_expression_within (G : Fn → FS) : SS := sSeq (sIf (tBool (eOp ltD (eVar 1) (eC (.int 1)))) (sRet (oFr (eC (.bool false)))) (sNil)) (sSeq (sIf (tTru (eFz (oDef (G .is_tagged) [] (aCons (eVar 0) (aCons (eC (.int 2)) (aNil)))))) (sSeq (sIf (tBool (eOp eqD (eIx (eVar 0) (eC (.int 0))) (eC (.str "num")))) (sRet (oDef (G .is_integer) [] (aCons (eIx (eVar 0) (eC (.int 1))) (aCons (eC (.int 0)) (aCons (eC g_MOST_NUMBER) (aNil)))))) (sNil)) (sRet (oFr (eAnd (eOp eqD (eIx (eVar 0) (eC (.int 0))) (eC (.str "var"))) (eFz (oDef (G .is_name) [] (aCons (eIx (eVar 0) (eC (.int 1))) (aNil)))))))) (sNil)) (sSeq (sIf (tOrD (tNotD (tTru (eFz (oDef (G .is_tagged) [] (aCons (eVar 0) (aCons (eC (.int 3)) (aNil))))))) (tBool (eOp notInD (eIx (eVar 0) (eC (.int 0))) (eC g_OPERATIONS)))) (sRet (oFr (eC (.bool false)))) (sNil)) (sRet (oFr (eAnd (eFz (oDef (G .is_expression_within) [] (aCons (eIx (eVar 0) (eC (.int 1))) (aCons (eOp subD (eVar 1) (eC (.int 1))) (aNil))))) (eFz (oDef (G .is_expression_within) [] (aCons (eIx (eVar 0) (eC (.int 2))) (aCons (eOp subD (eVar 1) (eC (.int 1))) (aNil))))))))))
abbrev b_is_expression_within (G : Fn → FS) : FS := bodyF 2 0 (s_is_expression_within G)
abbrev sc_is_condition_within : Scope := defScope (top 30)
def N_is_condition_within : List PySem.Str := ["thing", "left"]
def s_is_condition_within (G : Fn → FS) : SS := sSeq (sIf (tBool (eOp ltD (eVar 1) (eC (.int 1)))) (sRet (oFr (eC (.bool false)))) (sNil)) (sSeq (sIf (tTru (eFz (oDef (G .is_tagged) [] (aCons (eVar 0) (aCons (eC (.int 1)) (aNil)))))) (sRet (oFr (eOp eqD (eIx (eVar 0) (eC (.int 0))) (eC (.str "true"))))) (sNil)) (sSeq (sIf (tTru (eFz (oDef (G .is_tagged) [] (aCons (eVar 0) (aCons (eC (.int 2)) (aNil)))))) (sRet (oFr (eAnd (eOp eqD (eIx (eVar 0) (eC (.int 0))) (eC (.str "not"))) (eFz (oDef (G .is_condition_within) [] (aCons (eIx (eVar 0) (eC (.int 1))) (aCons (eOp subD (eVar 1) (eC (.int 1))) (aNil)))))))) (sNil)) (sSeq (sIf (tNotD (tTru (eFz (oDef (G .is_tagged) [] (aCons (eVar 0) (aCons (eC (.int 3)) (aNil))))))) (sRet (oFr (eC (.bool false)))) (sNil)) (sSeq (sIf (tBool (eOp inD (eIx (eVar 0) (eC (.int 0))) (eC g_COMPARISONS))) (sRet (oFr (eAnd (eFz (oDef (G .is_expression_within) [] (aCons (eIx (eVar 0) (eC (.int 1))) (aCons (eOp subD (eVar 1) (eC (.int 1))) (aNil))))) (eFz (oDef (G .is_expression_within) [] (aCons (eIx (eVar 0) (eC (.int 2))) (aCons (eOp subD (eVar 1) (eC (.int 1))) (aNil)))))))) (sNil)) (sSeq (sIf (tBool (eOp notInD (eIx (eVar 0) (eC (.int 0))) (eTup (aCons (eC (.str "and")) (aCons (eC (.str "or")) (aNil)))))) (sRet (oFr (eC (.bool false)))) (sNil)) (sRet (oFr (eAnd (eFz (oDef (G .is_condition_within) [] (aCons (eIx (eVar 0) (eC (.int 1))) (aCons (eOp subD (eVar 1) (eC (.int 1))) (aNil))))) (eFz (oDef (G .is_condition_within) [] (aCons (eIx (eVar 0) (eC (.int 2))) (aCons (eOp subD (eVar 1) (eC (.int 1))) (aNil)))))))))))))
abbrev b_is_condition_within (G : Fn → FS) : FS := bodyF 2 0 (s_is_condition_within G)
abbrev sc_is_expression : Scope := defScope (top 31)
def N_is_expression : List PySem.Str := ["thing"]
def s_is_expression (G : Fn → FS) : SS := sRet (oDef (G .is_expression_within) [] (aCons (eVar 0) (aCons (eC g_MOST_DEEP) (aNil))))
abbrev b_is_expression (G : Fn → FS) : FS := bodyF 1 0 (s_is_expression G)
abbrev sc_is_condition : Scope := defScope (top 32)
def N_is_condition : List PySem.Str := ["thing"]
def s_is_condition (G : Fn → FS) : SS := sRet (oDef (G .is_condition_within) [] (aCons (eVar 0) (aCons (eC g_MOST_DEEP) (aNil))))
abbrev b_is_condition (G : Fn → FS) : FS := bodyF 1 0 (s_is_condition G)
abbrev sc_is_pair : Scope := defScope (top 33)
def N_is_pair : List PySem.Str := ["thing"]
def s_is_pair (G : Fn → FS) : SS := sSeq (sIf (tOrD (tNotD (tTru (eIsi .tuple (eVar 0)))) (tBool (eOp neD (eCall lenB (bCons (eVar 0) (aNil))) (eC (.int 2))))) (sRet (oFr (eC (.bool false)))) (sNil)) (sRet (oFr (eAnd (eFz (oDef (G .is_expression) [] (aCons (eIx (eVar 0) (eC (.int 0))) (aNil)))) (eFz (oDef (G .is_integer) [] (aCons (eIx (eVar 0) (eC (.int 1))) (aCons (eC (.int 1)) (aCons (eC g_MOST_NUMBER) (aNil)))))))))
abbrev b_is_pair (G : Fn → FS) : FS := bodyF 1 0 (s_is_pair G)
abbrev sc_is_pairs : Scope := defScope (top 34)
def N_is_pairs : List PySem.Str := ["thing", "pair"]
def s_is_pairs (G : Fn → FS) : SS := sRet (oFr (eAnd (eIsi .tuple (eVar 0)) (eAnd (eChain leD leD (eC (.int 1)) (eCall lenB (bCons (eVar 0) (aNil))) (eC g_MOST_PAIRS)) (eCall allB (bCons (eFz (oLc (pSeq (eVar 0)) (gNm 1) (tTrue) (eFz (oDef (G .is_pair) [] (aCons (eVar 1) (aNil)))) [1])) (aNil))))))
abbrev b_is_pairs (G : Fn → FS) : FS := bodyF 1 1 (s_is_pairs G)
abbrev sc_is_choice : Scope := defScope (top 35)
def N_is_choice : List PySem.Str := ["thing", "value"]
def s_is_choice (G : Fn → FS) : SS := sRet (oFr (eAnd (eIsi .tuple (eVar 0)) (eAnd (eChain leD leD (eC (.int 1)) (eCall lenB (bCons (eVar 0) (aNil))) (eC g_MOST_PAIRS)) (eCall allB (bCons (eFz (oLc (pSeq (eVar 0)) (gNm 1) (tTrue) (eFz (oDef (G .is_expression) [] (aCons (eVar 1) (aNil)))) [1])) (aNil))))))
abbrev b_is_choice (G : Fn → FS) : FS := bodyF 1 1 (s_is_choice G)
abbrev sc_expression_names : Scope := defScope (top 36)
def N_expression_names : List PySem.Str := ["expression"]
def s_expression_names (G : Fn → FS) : SS := sSeq (sIf (tBool (eOp eqD (eIx (eVar 0) (eC (.int 0))) (eC (.str "num")))) (sRet (oLst (aNil))) (sNil)) (sSeq (sIf (tBool (eOp eqD (eIx (eVar 0) (eC (.int 0))) (eC (.str "var")))) (sRet (oLst (aCons (eIx (eVar 0) (eC (.int 1))) (aNil)))) (sNil)) (sRet (oFr (eOp addD (eFz (oDef (G .expression_names) [] (aCons (eIx (eVar 0) (eC (.int 1))) (aNil)))) (eFz (oDef (G .expression_names) [] (aCons (eIx (eVar 0) (eC (.int 2))) (aNil))))))))
abbrev b_expression_names (G : Fn → FS) : FS := bodyF 1 0 (s_expression_names G)
abbrev sc_condition_names : Scope := defScope (top 37)
def N_condition_names : List PySem.Str := ["condition"]
def s_condition_names (G : Fn → FS) : SS := sSeq (sIf (tBool (eOp eqD (eIx (eVar 0) (eC (.int 0))) (eC (.str "true")))) (sRet (oLst (aNil))) (sNil)) (sSeq (sIf (tBool (eOp eqD (eIx (eVar 0) (eC (.int 0))) (eC (.str "not")))) (sRet (oDef (G .condition_names) [] (aCons (eIx (eVar 0) (eC (.int 1))) (aNil)))) (sNil)) (sSeq (sIf (tBool (eOp inD (eIx (eVar 0) (eC (.int 0))) (eC g_COMPARISONS))) (sRet (oFr (eOp addD (eFz (oDef (G .expression_names) [] (aCons (eIx (eVar 0) (eC (.int 1))) (aNil)))) (eFz (oDef (G .expression_names) [] (aCons (eIx (eVar 0) (eC (.int 2))) (aNil))))))) (sNil)) (sRet (oFr (eOp addD (eFz (oDef (G .condition_names) [] (aCons (eIx (eVar 0) (eC (.int 1))) (aNil)))) (eFz (oDef (G .condition_names) [] (aCons (eIx (eVar 0) (eC (.int 2))) (aNil)))))))))
abbrev b_condition_names (G : Fn → FS) : FS := bodyF 1 0 (s_condition_names G)
abbrev sc_pairs_names : Scope := defScope (top 38)
def N_pairs_names : List PySem.Str := ["pairs", "pair", "name"]
def s_pairs_names (G : Fn → FS) : SS := sRet (oLc2 (pSeq (eVar 0)) (gNm 1) (tTrue) (pSeq (eFz (oDef (G .expression_names) [] (aCons (eIx (eVar 1) (eC (.int 0))) (aNil))))) (gNm 2) (tTrue) (eVar 2) [1, 2] [2])
abbrev b_pairs_names (G : Fn → FS) : FS := bodyF 1 2 (s_pairs_names G)
abbrev sc_is_statement_within : Scope := defScope (top 39)
def N_is_statement_within : List PySem.Str := ["thing", "left", "word", "right"]
def s_is_statement_within (G : Fn → FS) : SS := sSeq (sIf (tOrD (tNotD (tTru (eIsi .tuple (eVar 0)))) (tOrD (tBool (eOp eqD (eCall lenB (bCons (eVar 0) (aNil))) (eC (.int 0)))) (tNotD (tTru (eIsi .str (eIx (eVar 0) (eC (.int 0)))))))) (sRet (oFr (eC (.bool false)))) (sNil)) (sSeq (sIf (tBool (eOp eqD (eIx (eVar 0) (eC (.int 0))) (eC (.str "seq")))) (sRet (oFr (eAnd (eOp eqD (eCall lenB (bCons (eVar 0) (aNil))) (eC (.int 2))) (eFz (oDef (G .are_statements) [] (aCons (eIx (eVar 0) (eC (.int 1))) (aCons (eVar 1) (aNil)))))))) (sNil)) (sSeq (sIf (tBool (eOp ltD (eVar 1) (eC (.int 1)))) (sRet (oFr (eC (.bool false)))) (sNil)) (sSeq (sSet 2 (oFr (eIx (eVar 0) (eC (.int 0))))) (sSeq (sIf (tBool (eOp eqD (eVar 2) (eC (.str "skip")))) (sRet (oFr (eOp eqD (eCall lenB (bCons (eVar 0) (aNil))) (eC (.int 1))))) (sNil)) (sSeq (sIf (tBool (eOp eqD (eVar 2) (eC (.str "see")))) (sRet (oFr (eAnd (eOp eqD (eCall lenB (bCons (eVar 0) (aNil))) (eC (.int 2))) (eFz (oDef (G .is_condition) [] (aCons (eIx (eVar 0) (eC (.int 1))) (aNil))))))) (sNil)) (sSeq (sIf (tBool (eOp eqD (eVar 2) (eC (.str "if")))) (sSeq (sSet 3 (oFr (eAnd (eOp eqD (eCall lenB (bCons (eVar 0) (aNil))) (eC (.int 4))) (eFz (oDef (G .is_condition) [] (aCons (eIx (eVar 0) (eC (.int 1))) (aNil))))))) (sRet (oFr (eAnd (eVar 3) (eAnd (eFz (oDef (G .is_statement_within) [] (aCons (eIx (eVar 0) (eC (.int 2))) (aCons (eOp subD (eVar 1) (eC (.int 1))) (aNil))))) (eFz (oDef (G .is_statement_within) [] (aCons (eIx (eVar 0) (eC (.int 3))) (aCons (eOp subD (eVar 1) (eC (.int 1))) (aNil)))))))))) (sNil)) (sSeq (sIf (tBool (eOp neD (eCall lenB (bCons (eVar 0) (aNil))) (eC (.int 3)))) (sRet (oFr (eC (.bool false)))) (sNil)) (sSeq (sIf (tBool (eOp eqD (eVar 2) (eC (.str "while")))) (sRet (oFr (eAnd (eFz (oDef (G .is_condition) [] (aCons (eIx (eVar 0) (eC (.int 1))) (aNil)))) (eFz (oDef (G .is_statement_within) [] (aCons (eIx (eVar 0) (eC (.int 2))) (aCons (eOp subD (eVar 1) (eC (.int 1))) (aNil)))))))) (sNil)) (sRet (oFr (eAnd (eFz (oDef (G .is_name) [] (aCons (eIx (eVar 0) (eC (.int 1))) (aNil)))) (eFz (oDef (G .is_act) [] (aCons (eVar 2) (aCons (eIx (eVar 0) (eC (.int 2))) (aNil))))))))))))))))
abbrev b_is_statement_within (G : Fn → FS) : FS := bodyF 2 2 (s_is_statement_within G)
abbrev sc_is_act : Scope := defScope (top 40)
def N_is_act : List PySem.Str := ["word", "thing"]
def s_is_act (G : Fn → FS) : SS := sSeq (sIf (tBool (eOp eqD (eVar 0) (eC (.str "set")))) (sRet (oDef (G .is_expression) [] (aCons (eVar 1) (aNil)))) (sNil)) (sSeq (sIf (tBool (eOp eqD (eVar 0) (eC (.str "draw")))) (sRet (oDef (G .is_pairs) [] (aCons (eVar 1) (aNil)))) (sNil)) (sRet (oFr (eAnd (eOp eqD (eVar 0) (eC (.str "choose"))) (eFz (oDef (G .is_choice) [] (aCons (eVar 1) (aNil))))))))
abbrev b_is_act (G : Fn → FS) : FS := bodyF 2 0 (s_is_act G)
abbrev sc_are_statements : Scope := defScope (top 41)
def N_are_statements : List PySem.Str := ["thing", "left", "statement"]
def s_are_statements (G : Fn → FS) : SS := sSeq (sIf (tOrD (tNotD (tTru (eIsi .tuple (eVar 0)))) (tBool (eOp ltD (eCall lenB (bCons (eVar 0) (aNil))) (eC (.int 2))))) (sRet (oFr (eC (.bool false)))) (sNil)) (sSeq (sFor (pSeq (eVar 0)) (gNm 2) (sIf (tOrD (tNotD (tTru (eFz (oDef (G .is_statement_within) [] (aCons (eVar 2) (aCons (eVar 1) (aNil))))))) (tBool (eOp eqD (eIx (eVar 2) (eC (.int 0))) (eC (.str "seq"))))) (sRet (oFr (eC (.bool false)))) (sNil))) (sRet (oFr (eC (.bool true)))))
abbrev b_are_statements (G : Fn → FS) : FS := bodyF 2 1 (s_are_statements G)
abbrev sc_inner_of : Scope := defScope (top 42)
def N_inner_of : List PySem.Str := ["statement"]
def s_inner_of (G : Fn → FS) : SS := sSeq (sIf (tBool (eOp eqD (eIx (eVar 0) (eC (.int 0))) (eC (.str "seq")))) (sRet (oCall listO (bCons (eIx (eVar 0) (eC (.int 1))) (aNil)))) (sNil)) (sRet (oFr (eIf (tBool (eOp inD (eIx (eVar 0) (eC (.int 0))) (eTup (aCons (eC (.str "if")) (aCons (eC (.str "while")) (aNil)))))) (eCall listB (bCons (eSl (eVar 0) (iSome (eC (.int 2))) (iNone)) (aNil))) (eLst (aNil)))))
abbrev b_inner_of (G : Fn → FS) : FS := bodyF 1 0 (s_inner_of G)
abbrev sc_statements_in : Scope := defScope (top 43)
def N_statements_in : List PySem.Str := ["statement", "rows", "inner"]
def s_statements_in (G : Fn → FS) : SS := sSeq (sSet 1 (oLst (aCons (eVar 0) (aNil)))) (sSeq (sFor (pSeq (eFz (oDef (G .inner_of) [] (aCons (eVar 0) (aNil))))) (gNm 2) (sSet 1 (oFr (eOp addD (eVar 1) (eFz (oDef (G .statements_in) [] (aCons (eVar 2) (aNil)))))))) (sRetV 1))
abbrev b_statements_in (G : Fn → FS) : FS := bodyF 1 2 (s_statements_in G)
abbrev sc_statement_size : Scope := defScope (top 44)
def N_statement_size : List PySem.Str := ["statement", "inner"]
def s_statement_size (G : Fn → FS) : SS := sRet (oFr (eCall lenB (bCons (eFz (oLc (pSeq (eFz (oDef (G .statements_in) [] (aCons (eVar 0) (aNil))))) (gNm 1) (tBool (eOp neD (eIx (eVar 1) (eC (.int 0))) (eC (.str "seq")))) (eVar 1) [1])) (aNil))))
abbrev b_statement_size (G : Fn → FS) : FS := bodyF 1 1 (s_statement_size G)
abbrev sc_own_names : Scope := defScope (top 45)
def N_own_names : List PySem.Str := ["statement", "word", "value", "name"]
def s_own_names (G : Fn → FS) : SS := sSeq (sSet 1 (oFr (eIx (eVar 0) (eC (.int 0))))) (sSeq (sIf (tBool (eOp eqD (eVar 1) (eC (.str "set")))) (sRet (oFr (eOp addD (eLst (aCons (eIx (eVar 0) (eC (.int 1))) (aNil))) (eFz (oDef (G .expression_names) [] (aCons (eIx (eVar 0) (eC (.int 2))) (aNil))))))) (sNil)) (sSeq (sIf (tBool (eOp eqD (eVar 1) (eC (.str "draw")))) (sRet (oFr (eOp addD (eLst (aCons (eIx (eVar 0) (eC (.int 1))) (aNil))) (eFz (oDef (G .pairs_names) [] (aCons (eIx (eVar 0) (eC (.int 2))) (aNil))))))) (sNil)) (sSeq (sIf (tBool (eOp eqD (eVar 1) (eC (.str "choose")))) (sRet (oFr (eOp addD (eLst (aCons (eIx (eVar 0) (eC (.int 1))) (aNil))) (eFz (oLc2 (pSeq (eIx (eVar 0) (eC (.int 2)))) (gNm 2) (tTrue) (pSeq (eFz (oDef (G .expression_names) [] (aCons (eVar 2) (aNil))))) (gNm 3) (tTrue) (eVar 3) [2, 3] [3]))))) (sNil)) (sSeq (sIf (tBool (eOp inD (eVar 1) (eTup (aCons (eC (.str "see")) (aCons (eC (.str "if")) (aCons (eC (.str "while")) (aNil))))))) (sRet (oDef (G .condition_names) [] (aCons (eIx (eVar 0) (eC (.int 1))) (aNil)))) (sNil)) (sRet (oLst (aNil)))))))
abbrev b_own_names (G : Fn → FS) : FS := bodyF 1 3 (s_own_names G)
abbrev sc_statement_names : Scope := defScope (top 46)
def N_statement_names : List PySem.Str := ["statement", "inner", "name"]
def s_statement_names (G : Fn → FS) : SS := sRet (oLc2 (pSeq (eFz (oDef (G .statements_in) [] (aCons (eVar 0) (aNil))))) (gNm 1) (tTrue) (pSeq (eFz (oDef (G .own_names) [] (aCons (eVar 1) (aNil))))) (gNm 2) (tTrue) (eVar 2) [1, 2] [2])
abbrev b_statement_names (G : Fn → FS) : FS := bodyF 1 2 (s_statement_names G)
abbrev sc_is_right : Scope := defScope (top 47)
def N_is_right : List PySem.Str := ["thing", "places", "name"]
def s_is_right (G : Fn → FS) : SS := sSeq (sIf (tOrD (tNotD (tTru (eIsi .tuple (eVar 0)))) (tOrD (tBool (eOp neD (eCall lenB (bCons (eVar 0) (aNil))) (eC (.int 2)))) (tNotD (tTru (eFz (oDef (G .is_variables) [] (aCons (eIx (eVar 0) (eC (.int 0))) (aNil)))))))) (sRet (oFr (eC (.bool false)))) (sNil)) (sSeq (sIf (tOrD (tNotD (tTru (eFz (oDef (G .is_statement_within) [] (aCons (eIx (eVar 0) (eC (.int 1))) (aCons (eC g_MOST_WITHIN) (aNil))))))) (tBool (eOp gtD (eFz (oDef (G .statement_size) [] (aCons (eIx (eVar 0) (eC (.int 1))) (aNil)))) (eC g_MOST_STATEMENTS)))) (sRet (oFr (eC (.bool false)))) (sNil)) (sSeq (sSet 1 (oFr (eFz (oDef (G .places_of) [] (aCons (eIx (eVar 0) (eC (.int 0))) (aNil)))))) (sRet (oFr (eCall allB (bCons (eFz (oLc (pSeq (eFz (oDef (G .statement_names) [] (aCons (eIx (eVar 0) (eC (.int 1))) (aNil))))) (gNm 2) (tTrue) (eOp inD (eVar 2) (eVar 1)) [2])) (aNil)))))))
abbrev b_is_right (G : Fn → FS) : FS := bodyF 1 2 (s_is_right G)
abbrev sc_need_program : Scope := defScope (top 48)
def N_need_program : List PySem.Str := ["thing"]
def s_need_program (G : Fn → FS) : SS := sIf (tNotD (tTru (eFz (oDef (G .is_right) [] (aCons (eVar 0) (aNil)))))) (sRaise "BadProgram") (sNil)
abbrev b_need_program (G : Fn → FS) : FS := bodyF 1 0 (s_need_program G)
abbrev sc_need_condition : Scope := defScope (top 49)
def N_need_condition : List PySem.Str := ["thing"]
def s_need_condition (G : Fn → FS) : SS := sIf (tNotD (tTru (eFz (oDef (G .is_condition) [] (aCons (eVar 0) (aNil)))))) (sRaise "BadCondition") (sNil)
abbrev b_need_condition (G : Fn → FS) : FS := bodyF 1 0 (s_need_condition G)
abbrev sc_need_condition_of : Scope := defScope (top 50)
def N_need_condition_of : List PySem.Str := ["variables", "condition", "places", "name"]
def s_need_condition_of (G : Fn → FS) : SS := sSeq (sSet 2 (oFr (eFz (oDef (G .places_of) [] (aCons (eVar 0) (aNil)))))) (sIf (tNotD (tTru (eCall allB (bCons (eFz (oLc (pSeq (eFz (oDef (G .condition_names) [] (aCons (eVar 1) (aNil))))) (gNm 3) (tTrue) (eOp inD (eVar 3) (eVar 2)) [3])) (aNil))))) (sRaise "BadCondition") (sNil))
abbrev b_need_condition_of (G : Fn → FS) : FS := bodyF 2 2 (s_need_condition_of G)
abbrev sc_need_alike : Scope := defScope (top 52)
def N_need_alike : List PySem.Str := ["program", "other"]
def s_need_alike (G : Fn → FS) : SS := sIf (tBool (eOp neD (eIx (eVar 0) (eC (.int 0))) (eIx (eVar 1) (eC (.int 0))))) (sRaise "NotAlike") (sNil)
abbrev b_need_alike (G : Fn → FS) : FS := bodyF 2 0 (s_need_alike G)
abbrev sc_parts_of : Scope := defScope (top 53)
def N_parts_of : List PySem.Str := ["statement"]
def s_parts_of (G : Fn → FS) : SS := sRet (oFr (eIf (tBool (eOp eqD (eIx (eVar 0) (eC (.int 0))) (eC (.str "seq")))) (eIx (eVar 0) (eC (.int 1))) (eTup (aCons (eVar 0) (aNil)))))
abbrev b_parts_of (G : Fn → FS) : FS := bodyF 1 0 (s_parts_of G)
abbrev sc_whole : Scope := defScope (top 54)
def N_whole : List PySem.Str := ["variables", "statement"]
def s_whole (G : Fn → FS) : SS := sSeq (sExpr (eFz (oDef (G .need_program) [] (aCons (eTup (aCons (eVar 0) (aCons (eVar 1) (aNil)))) (aNil))))) (sRet (oFr (eTup (aCons (eVar 0) (aCons (eVar 1) (aNil))))))
abbrev b_whole (G : Fn → FS) : FS := bodyF 2 0 (s_whole G)
abbrev sc_then : Scope := defScope (top 55)
def N_then : List PySem.Str := ["program", "other"]
def s_then (G : Fn → FS) : SS := sSeq (sExpr (eFz (oDef (G .need_program) [] (aCons (eVar 0) (aNil))))) (sSeq (sExpr (eFz (oDef (G .need_program) [] (aCons (eVar 1) (aNil))))) (sSeq (sExpr (eFz (oDef (G .need_alike) [] (aCons (eVar 0) (aCons (eVar 1) (aNil)))))) (sRet (oDef (G .whole) [] (aCons (eIx (eVar 0) (eC (.int 0))) (aCons (eTup (aCons (eC (.str "seq")) (aCons (eOp addD (eFz (oDef (G .parts_of) [] (aCons (eIx (eVar 0) (eC (.int 1))) (aNil)))) (eFz (oDef (G .parts_of) [] (aCons (eIx (eVar 1) (eC (.int 1))) (aNil))))) (aNil)))) (aNil)))))))
abbrev b_then (G : Fn → FS) : FS := bodyF 2 0 (s_then G)
abbrev sc_either : Scope := defScope (top 56)
def N_either : List PySem.Str := ["condition", "program", "other"]
def s_either (G : Fn → FS) : SS := sSeq (sExpr (eFz (oDef (G .need_condition) [] (aCons (eVar 0) (aNil))))) (sSeq (sExpr (eFz (oDef (G .need_program) [] (aCons (eVar 1) (aNil))))) (sSeq (sExpr (eFz (oDef (G .need_program) [] (aCons (eVar 2) (aNil))))) (sSeq (sExpr (eFz (oDef (G .need_condition_of) [] (aCons (eIx (eVar 1) (eC (.int 0))) (aCons (eVar 0) (aNil)))))) (sSeq (sExpr (eFz (oDef (G .need_alike) [] (aCons (eVar 1) (aCons (eVar 2) (aNil)))))) (sRet (oDef (G .whole) [] (aCons (eIx (eVar 1) (eC (.int 0))) (aCons (eTup (aCons (eC (.str "if")) (aCons (eVar 0) (aCons (eIx (eVar 1) (eC (.int 1))) (aCons (eIx (eVar 2) (eC (.int 1))) (aNil)))))) (aNil)))))))))
abbrev b_either (G : Fn → FS) : FS := bodyF 3 0 (s_either G)
abbrev sc_around : Scope := defScope (top 57)
def N_around : List PySem.Str := ["condition", "program"]
def s_around (G : Fn → FS) : SS := sSeq (sExpr (eFz (oDef (G .need_condition) [] (aCons (eVar 0) (aNil))))) (sSeq (sExpr (eFz (oDef (G .need_program) [] (aCons (eVar 1) (aNil))))) (sSeq (sExpr (eFz (oDef (G .need_condition_of) [] (aCons (eIx (eVar 1) (eC (.int 0))) (aCons (eVar 0) (aNil)))))) (sRet (oDef (G .whole) [] (aCons (eIx (eVar 1) (eC (.int 0))) (aCons (eTup (aCons (eC (.str "while")) (aCons (eVar 0) (aCons (eIx (eVar 1) (eC (.int 1))) (aNil))))) (aNil)))))))
abbrev b_around (G : Fn → FS) : FS := bodyF 2 0 (s_around G)
abbrev sc__law_bag : Scope := defScope (top 59)
def N__law_bag : List PySem.Str := ["_law_script", "_law_k", "_law_cell"]
def s__law_bag (G : Fn → FS) : SS := sSeq (sSet 2 (oFr (eOp modD (eCall intB (bCons (eCall sumB (bCons (eSl (eVar 0) (iNone) (iSome (eC (.int 1)))) (aNil))) (aNil))) (eC (.int 1000003))))) (sSeq (sIf (tBool (eOp ltD (eVar 1) (eCall lenB (bCons (eVar 0) (aNil))))) (sSet 2 (oFr (eIx (eVar 0) (eVar 1)))) (sNil)) (sRet (oLst (aCons (eCall maxB (bCons (eC (.int 0)) (bCons (eOp subD (eVar 2) (eOp powD (eC (.int 10)) (eC (.int 18)))) (aNil)))) (aCons (eOp modD (eCall intB (bCons (eVar 2) (aNil))) (eOp addD (eOp powD (eC (.int 10)) (eC (.int 40))) (eC (.int 121)))) (aCons (eOp mulD (eC (.int 61)) (eVar 1)) (aNil)))))))
abbrev b__law_bag (G : Fn → FS) : FS := bodyF 2 1 (s__law_bag G)
abbrev sc__law_take : Scope := defScope (top 60)
def N__law_take : List PySem.Str := ["_law_bag_here", "_law_many_here", "_law_found", "_law_mark"]
def s__law_take (G : Fn → FS) : SS := sSeq (sIf (tBool (eOp gtD (eIx (eVar 0) (eC (.int 0))) (eC (.int 0)))) (sSeq (sSet 2 (oFr (eOp modD (eCall intB (bCons (eIx (eVar 0) (eC (.int 0))) (aNil))) (eVar 1)))) (sSeq (sPut 0 (eOp divD (eIx (eVar 0) (eC (.int 0))) (eVar 1)) (eC (.int 0))) (sRetV 2))) (sNil)) (sSeq (sPut 0 (eOp addD (eIx (eVar 0) (eC (.int 2))) (eC (.int 1))) (eC (.int 2))) (sSeq (sSet 3 (oFr (eOp addD (eOp mulD (eOp addD (eIx (eVar 0) (eC (.int 1))) (eC (.int 1))) (eOp addD (eOp mulD (eC (.int 30011)) (eIx (eVar 0) (eC (.int 2)))) (eC (.int 7)))) (eOp mulD (eOp mulD (eC (.int 104729)) (eIx (eVar 0) (eC (.int 2)))) (eIx (eVar 0) (eC (.int 2))))))) (sSeq (sSet 3 (oFr (eOp modD (eCall intB (bCons (eOp mulD (eVar 3) (eVar 3)) (aNil))) (eOp addD (eOp powD (eC (.int 10)) (eC (.int 41))) (eC (.int 37)))))) (sSeq (sSet 3 (oFr (eOp modD (eCall intB (bCons (eOp mulD (eVar 3) (eOp addD (eVar 3) (eC (.int 97)))) (aNil))) (eOp addD (eOp powD (eC (.int 10)) (eC (.int 40))) (eC (.int 4323)))))) (sRet (oFr (eOp modD (eCall intB (bCons (eOp divD (eVar 3) (eC (.int 100003))) (aNil))) (eVar 1))))))))
abbrev b__law_take (G : Fn → FS) : FS := bodyF 2 2 (s__law_take G)
abbrev sc__law_pick : Scope := defScope (top 61)
def N__law_pick : List PySem.Str := ["_law_bag_here", "_law_things"]
def s__law_pick (G : Fn → FS) : SS := sRet (oFr (eIx (eVar 1) (eFz (oDef (G ._law_take) [] (aCons (eVar 0) (aCons (eCall lenB (bCons (eVar 1) (aNil))) (aNil)))))))
abbrev b__law_pick (G : Fn → FS) : FS := bodyF 2 0 (s__law_pick G)
abbrev sc__law_variables : Scope := defScope (top 62)
def N__law_variables : List PySem.Str := ["_law_bag_here", "_law_sizes", "_law_pool", "_law_first", "_law_k"]
def s__law_variables (G : Fn → FS) : SS := sSeq (sSet 1 (oFr (eFz (oDef (G ._law_pick) [] (aCons (eVar 0) (aCons (eLst (aCons (eTup (aCons (eC (.int 2)) (aNil))) (aCons (eTup (aCons (eC (.int 3)) (aNil))) (aCons (eTup (aCons (eC (.int 6)) (aNil))) (aCons (eTup (aCons (eC (.int 2)) (aCons (eC (.int 2)) (aNil)))) (aCons (eTup (aCons (eC (.int 2)) (aCons (eC (.int 3)) (aNil)))) (aCons (eTup (aCons (eC (.int 3)) (aCons (eC (.int 2)) (aNil)))) (aCons (eTup (aCons (eC (.int 4)) (aCons (eC (.int 6)) (aNil)))) (aCons (eTup (aCons (eC (.int 2)) (aCons (eC (.int 2)) (aCons (eC (.int 2)) (aNil))))) (aCons (eTup (aCons (eC (.int 2)) (aCons (eC (.int 2)) (aCons (eC (.int 6)) (aNil))))) (aCons (eTup (aCons (eC (.int 2)) (aCons (eC (.int 2)) (aCons (eC (.int 2)) (aCons (eC (.int 3)) (aNil)))))) (aCons (eTup (aCons (eC (.int 4)) (aNil))) (aCons (eTup (aCons (eC (.int 5)) (aNil))) (aCons (eTup (aCons (eC (.int 3)) (aCons (eC (.int 2)) (aCons (eC (.int 2)) (aCons (eC (.int 2)) (aNil)))))) (aCons (eTup (aCons (eC (.int 2)) (aCons (eC (.int 4)) (aCons (eC (.int 3)) (aNil))))) (aNil)))))))))))))))) (aNil))))))) (sSeq (sSet 2 (oFr (eLst (aCons (eC (.str "x")) (aCons (eC (.str "y")) (aCons (eC (.str "z")) (aCons (eC (.str "n")) (aCons (eC (.str "a1")) (aCons (eC (.str "score4")) (aCons (eC (.str "x9")) (aCons (eC (.str "abcdefghi5")) (aCons (eC (.str "b6")) (aCons (eC (.str "if8")) (aCons (eC (.str "o0")) (aNil))))))))))))))) (sSeq (sSet 3 (oFr (eFz (oDef (G ._law_take) [] (aCons (eVar 0) (aCons (eC (.int 11)) (aNil))))))) (sRet (oFr (eCall tupleB (bCons (eFz (oLc (pRange1 (bCons (eCall lenB (bCons (eVar 1) (aNil))) (aNil))) (gNm 4) (tTrue) (eTup (aCons (eIx (eVar 2) (eOp modD (eCall intB (bCons (eOp addD (eVar 3) (eOp mulD (eC (.int 3)) (eVar 4))) (aNil))) (eC (.int 11)))) (aCons (eIx (eVar 1) (eVar 4)) (aNil)))) [4])) (aNil)))))))
abbrev b__law_variables (G : Fn → FS) : FS := bodyF 1 4 (s__law_variables G)
abbrev sc__law_expression : Scope := defScope (top 63)
def N__law_expression : List PySem.Str := ["_law_bag_here", "_law_names", "_law_deep", "_law_room", "_law_way", "_law_one", "_law_other_here"]
def s__law_expression (G : Fn → FS) : SS := sSeq (sPut 3 (eOp subD (eIx (eVar 3) (eC (.int 0))) (eC (.int 1))) (eC (.int 0))) (sSeq (sSet 4 (oFr (eIf (tAndD (tBool (eOp gtD (eVar 2) (eC (.int 1)))) (tBool (eOp gtD (eIx (eVar 3) (eC (.int 0))) (eC (.int 0))))) (eFz (oDef (G ._law_take) [] (aCons (eVar 0) (aCons (eC (.int 9)) (aNil))))) (eFz (oDef (G ._law_take) [] (aCons (eVar 0) (aCons (eC (.int 4)) (aNil)))))))) (sSeq (sIf (tBool (eOp ltD (eVar 4) (eC (.int 2)))) (sRet (oFr (eTup (aCons (eC (.str "num")) (aCons (eFz (oDef (G ._law_take) [] (aCons (eVar 0) (aCons (eFz (oDef (G ._law_pick) [] (aCons (eVar 0) (aCons (eLst (aCons (eC (.int 3)) (aCons (eC (.int 10)) (aCons (eC (.int 100)) (aNil))))) (aNil))))) (aNil))))) (aNil)))))) (sNil)) (sSeq (sIf (tBool (eOp ltD (eVar 4) (eC (.int 4)))) (sRet (oFr (eTup (aCons (eC (.str "var")) (aCons (eFz (oDef (G ._law_pick) [] (aCons (eVar 0) (aCons (eVar 1) (aNil))))) (aNil)))))) (sNil)) (sSeq (sSet 5 (oFr (eFz (oDef (G ._law_expression) [] (aCons (eVar 0) (aCons (eVar 1) (aCons (eOp subD (eVar 2) (eC (.int 1))) (aCons (eVar 3) (aNil))))))))) (sSeq (sSet 6 (oFr (eFz (oDef (G ._law_expression) [] (aCons (eVar 0) (aCons (eVar 1) (aCons (eOp subD (eVar 2) (eC (.int 1))) (aCons (eVar 3) (aNil))))))))) (sRet (oFr (eTup (aCons (eIx (eLst (aCons (eC (.str "add")) (aCons (eC (.str "less by")) (aCons (eC (.str "times")) (aCons (eC (.str "least")) (aCons (eC (.str "most")) (aNil))))))) (eOp subD (eVar 4) (eC (.int 4)))) (aCons (eVar 5) (aCons (eVar 6) (aNil))))))))))))
abbrev b__law_expression (G : Fn → FS) : FS := bodyF 4 3 (s__law_expression G)
abbrev sc__law_condition : Scope := defScope (top 64)
def N__law_condition : List PySem.Str := ["_law_bag_here", "_law_names", "_law_deep", "_law_room", "_law_way", "_law_one", "_law_other_here"]
def s__law_condition (G : Fn → FS) : SS := sSeq (sPut 3 (eOp subD (eIx (eVar 3) (eC (.int 0))) (eC (.int 1))) (eC (.int 0))) (sSeq (sSet 4 (oFr (eIf (tAndD (tBool (eOp gtD (eVar 2) (eC (.int 2)))) (tBool (eOp gtD (eIx (eVar 3) (eC (.int 0))) (eC (.int 0))))) (eFz (oDef (G ._law_take) [] (aCons (eVar 0) (aCons (eC (.int 10)) (aNil))))) (eFz (oDef (G ._law_take) [] (aCons (eVar 0) (aCons (eC (.int 6)) (aNil)))))))) (sSeq (sIf (tBool (eOp eqD (eVar 4) (eC (.int 0)))) (sRet (oFr (eTup (aCons (eC (.str "true")) (aNil))))) (sNil)) (sSeq (sIf (tBool (eOp ltD (eVar 4) (eC (.int 6)))) (sSeq (sSet 5 (oFr (eFz (oDef (G ._law_expression) [] (aCons (eVar 0) (aCons (eVar 1) (aCons (eCall minB (bCons (eC (.int 3)) (bCons (eOp subD (eVar 2) (eC (.int 1))) (aNil)))) (aCons (eVar 3) (aNil))))))))) (sSeq (sSet 6 (oFr (eFz (oDef (G ._law_expression) [] (aCons (eVar 0) (aCons (eVar 1) (aCons (eCall minB (bCons (eC (.int 3)) (bCons (eOp subD (eVar 2) (eC (.int 1))) (aNil)))) (aCons (eVar 3) (aNil))))))))) (sRet (oFr (eTup (aCons (eIf (tBool (eOp ltD (eVar 4) (eC (.int 4)))) (eC (.str "is")) (eC (.str "below"))) (aCons (eVar 5) (aCons (eVar 6) (aNil))))))))) (sNil)) (sSeq (sIf (tBool (eOp eqD (eVar 4) (eC (.int 6)))) (sRet (oFr (eTup (aCons (eC (.str "not")) (aCons (eFz (oDef (G ._law_condition) [] (aCons (eVar 0) (aCons (eVar 1) (aCons (eOp subD (eVar 2) (eC (.int 1))) (aCons (eVar 3) (aNil))))))) (aNil)))))) (sNil)) (sSeq (sSet 5 (oFr (eFz (oDef (G ._law_condition) [] (aCons (eVar 0) (aCons (eVar 1) (aCons (eOp subD (eVar 2) (eC (.int 1))) (aCons (eVar 3) (aNil))))))))) (sRet (oFr (eTup (aCons (eIx (eLst (aCons (eC (.str "and")) (aCons (eC (.str "or")) (aCons (eC (.str "or")) (aNil))))) (eOp subD (eVar 4) (eC (.int 7)))) (aCons (eVar 5) (aCons (eFz (oDef (G ._law_condition) [] (aCons (eVar 0) (aCons (eVar 1) (aCons (eOp subD (eVar 2) (eC (.int 1))) (aCons (eVar 3) (aNil))))))) (aNil))))))))))))
abbrev b__law_condition (G : Fn → FS) : FS := bodyF 4 3 (s__law_condition G)
abbrev sc__law_statement : Scope := defScope (top 65)
def N__law_statement : List PySem.Str := ["_law_bag_here", "_law_names", "_law_room", "_law_left", "_law_deep", "_law_way", "_law_name", "_law_many_here", "_law_weights", "_law_condition_here", "_law_inner", "_law_turn", "_law_weight"]
def s__law_statement (G : Fn → FS) : SS := sSeq (sPut 3 (eOp subD (eIx (eVar 3) (eC (.int 0))) (eC (.int 1))) (eC (.int 0))) (sSeq (sSet 5 (oFr (eIf (tAndD (tBool (eOp gtD (eVar 4) (eC (.int 1)))) (tBool (eOp gtD (eIx (eVar 3) (eC (.int 0))) (eC (.int 2))))) (eFz (oDef (G ._law_take) [] (aCons (eVar 0) (aCons (eC (.int 11)) (aNil))))) (eFz (oDef (G ._law_take) [] (aCons (eVar 0) (aCons (eC (.int 7)) (aNil)))))))) (sSeq (sSet 6 (oFr (eFz (oDef (G ._law_pick) [] (aCons (eVar 0) (aCons (eVar 1) (aNil))))))) (sSeq (sIf (tBool (eOp eqD (eVar 5) (eC (.int 0)))) (sRet (oFr (eTup (aCons (eC (.str "skip")) (aNil))))) (sNil)) (sSeq (sIf (tBool (eOp ltD (eVar 5) (eC (.int 3)))) (sRet (oFr (eTup (aCons (eC (.str "set")) (aCons (eVar 6) (aCons (eFz (oDef (G ._law_expression) [] (aCons (eVar 0) (aCons (eVar 1) (aCons (eC (.int 3)) (aCons (eVar 2) (aNil))))))) (aNil))))))) (sNil)) (sSeq (sIf (tBool (eOp ltD (eVar 5) (eC (.int 5)))) (sSeq (sSet 7 (oFr (eOp addD (eC (.int 1)) (eFz (oDef (G ._law_take) [] (aCons (eVar 0) (aCons (eFz (oDef (G ._law_pick) [] (aCons (eVar 0) (aCons (eLst (aCons (eC (.int 2)) (aCons (eC (.int 3)) (aCons (eC (.int 6)) (aNil))))) (aNil))))) (aNil)))))))) (sSeq (sSet 8 (oLc (pRange1 (bCons (eVar 7) (aNil))) (gNm 11) (tTrue) (eOp addD (eC (.int 1)) (eFz (oDef (G ._law_take) [] (aCons (eVar 0) (aCons (eFz (oDef (G ._law_pick) [] (aCons (eVar 0) (aCons (eLst (aCons (eC (.int 3)) (aCons (eC (.int 9)) (aCons (eC (.int 99)) (aNil))))) (aNil))))) (aNil)))))) [11])) (sSeq (sFz 8) (sRet (oFr (eTup (aCons (eC (.str "draw")) (aCons (eVar 6) (aCons (eCall tupleB (bCons (eFz (oLc (pSeq (eVar 8)) (gNm 12) (tTrue) (eTup (aCons (eFz (oDef (G ._law_expression) [] (aCons (eVar 0) (aCons (eVar 1) (aCons (eC (.int 2)) (aCons (eVar 2) (aNil))))))) (aCons (eVar 12) (aNil)))) [12])) (aNil))) (aNil)))))))))) (sNil)) (sSeq (sIf (tBool (eOp eqD (eVar 5) (eC (.int 5)))) (sSeq (sSet 7 (oFr (eOp addD (eC (.int 1)) (eFz (oDef (G ._law_take) [] (aCons (eVar 0) (aCons (eC (.int 6)) (aNil)))))))) (sRet (oFr (eTup (aCons (eC (.str "choose")) (aCons (eVar 6) (aCons (eCall tupleB (bCons (eFz (oLc (pRange1 (bCons (eVar 7) (aNil))) (gNm 11) (tTrue) (eFz (oDef (G ._law_expression) [] (aCons (eVar 0) (aCons (eVar 1) (aCons (eC (.int 2)) (aCons (eVar 2) (aNil))))))) [11])) (aNil))) (aNil)))))))) (sNil)) (sSeq (sIf (tBool (eOp eqD (eVar 5) (eC (.int 6)))) (sRet (oFr (eTup (aCons (eC (.str "see")) (aCons (eFz (oDef (G ._law_condition) [] (aCons (eVar 0) (aCons (eVar 1) (aCons (eC (.int 4)) (aCons (eVar 2) (aNil))))))) (aNil)))))) (sNil)) (sSeq (sSet 9 (oFr (eFz (oDef (G ._law_condition) [] (aCons (eVar 0) (aCons (eVar 1) (aCons (eC (.int 4)) (aCons (eVar 2) (aNil))))))))) (sSeq (sSet 10 (oFr (eFz (oDef (G ._law_statements) [] (aCons (eVar 0) (aCons (eVar 1) (aCons (eVar 2) (aCons (eVar 3) (aCons (eOp subD (eVar 4) (eC (.int 1))) (aNil)))))))))) (sSeq (sIf (tBool (eOp eqD (eVar 5) (eC (.int 7)))) (sRet (oFr (eTup (aCons (eC (.str "while")) (aCons (eVar 9) (aCons (eVar 10) (aNil))))))) (sNil)) (sRet (oFr (eTup (aCons (eC (.str "if")) (aCons (eVar 9) (aCons (eVar 10) (aCons (eFz (oDef (G ._law_statements) [] (aCons (eVar 0) (aCons (eVar 1) (aCons (eVar 2) (aCons (eVar 3) (aCons (eOp subD (eVar 4) (eC (.int 1))) (aNil)))))))) (aNil))))))))))))))))))
abbrev b__law_statement (G : Fn → FS) : FS := bodyF 5 8 (s__law_statement G)
abbrev sc__law_statements : Scope := defScope (top 66)
def N__law_statements : List PySem.Str := ["_law_bag_here", "_law_names", "_law_room", "_law_left", "_law_deep", "_law_found", "_law_turn"]
def s__law_statements (G : Fn → FS) : SS := sSeq (sSet 5 (oLst (aCons (eFz (oDef (G ._law_statement) [] (aCons (eVar 0) (aCons (eVar 1) (aCons (eVar 2) (aCons (eVar 3) (aCons (eVar 4) (aNil)))))))) (aNil)))) (sSeq (sFor (pRange1 (bCons (eFz (oDef (G ._law_take) [] (aCons (eVar 0) (aCons (eC (.int 4)) (aNil))))) (aNil))) (gNm 6) (sIf (tBool (eOp gtD (eIx (eVar 3) (eC (.int 0))) (eC (.int 0)))) (sMeth 5 appAt (eFz (oDef (G ._law_statement) [] (aCons (eVar 0) (aCons (eVar 1) (aCons (eVar 2) (aCons (eVar 3) (aCons (eVar 4) (aNil))))))))) (sNil))) (sRet (oFr (eIf (tBool (eOp eqD (eCall lenB (bCons (eVar 5) (aNil))) (eC (.int 1)))) (eIx (eVar 5) (eC (.int 0))) (eTup (aCons (eC (.str "seq")) (aCons (eCall tupleB (bCons (eVar 5) (aNil))) (aNil))))))))
abbrev b__law_statements (G : Fn → FS) : FS := bodyF 5 2 (s__law_statements G)
abbrev sc__law_program : Scope := defScope (top 67)
def N__law_program : List PySem.Str := ["_law_bag_here", "_law_variables_here", "_law_names", "_law_left", "_law_name", "_law_size"]
def s__law_program (G : Fn → FS) : SS := sSeq (sSet 1 (oFr (eFz (oDef (G ._law_variables) [] (aCons (eVar 0) (aNil)))))) (sSeq (sSet 2 (oLc (pSeq (eVar 1)) (gTp (gsCons (gNm 4) (gsCons (gNm 5) (gsNil)))) (tTrue) (eVar 4) [4, 5])) (sSeq (sFz 2) (sSeq (sSet 3 (oFr (eCel (oLst (aCons (eFz (oDef (G ._law_pick) [] (aCons (eVar 0) (aCons (eLst (aCons (eC (.int 1)) (aCons (eC (.int 4)) (aCons (eC (.int 12)) (aCons (eC (.int 30)) (aNil)))))) (aNil))))) (aNil)))))) (sRet (oFr (eTup (aCons (eVar 1) (aCons (eFz (oDef (G ._law_statements) [] (aCons (eVar 0) (aCons (eVar 2) (aCons (eCel (oLst (aCons (eC (.int 90)) (aNil)))) (aCons (eVar 3) (aCons (eFz (oDef (G ._law_pick) [] (aCons (eVar 0) (aCons (eLst (aCons (eC (.int 3)) (aCons (eC (.int 5)) (aCons (eC (.int 11)) (aNil))))) (aNil))))) (aNil)))))))) (aNil)))))))))
abbrev b__law_program (G : Fn → FS) : FS := bodyF 1 5 (s__law_program G)
abbrev sc__law_many : Scope := defScope (top 68)
def N__law_many : List PySem.Str := ["_law_statement_here", "_law_rows", "_law_inner", "_law_row"]
def s__law_many (G : Fn → FS) : SS := sSeq (sIf (tBool (eOp eqD (eIx (eVar 0) (eC (.int 0))) (eC (.str "seq")))) (sSeq (sSet 1 (oLc (pSeq (eIx (eVar 0) (eC (.int 1)))) (gNm 2) (tTrue) (eFz (oDef (G ._law_many) [] (aCons (eVar 2) (aNil)))) [2])) (sSeq (sFz 1) (sRet (oFr (eTup (aCons (eCall sumB (bCons (eFz (oLc (pSeq (eVar 1)) (gNm 3) (tTrue) (eIx (eVar 3) (eC (.int 0))) [3])) (aNil))) (aCons (eCall maxB (bCons (eFz (oLc (pSeq (eVar 1)) (gNm 3) (tTrue) (eIx (eVar 3) (eC (.int 1))) [3])) (aNil))) (aNil)))))))) (sNil)) (sSeq (sSet 1 (oFr (eIf (tBool (eOp inD (eIx (eVar 0) (eC (.int 0))) (eTup (aCons (eC (.str "if")) (aCons (eC (.str "while")) (aNil)))))) (eFz (oLc (pSeq (eSl (eVar 0) (iSome (eC (.int 2))) (iNone))) (gNm 2) (tTrue) (eFz (oDef (G ._law_many) [] (aCons (eVar 2) (aNil)))) [2])) (eLst (aCons (eTup (aCons (eC (.int 0)) (aCons (eC (.int 0)) (aNil)))) (aNil)))))) (sRet (oFr (eTup (aCons (eOp addD (eC (.int 1)) (eCall sumB (bCons (eFz (oLc (pSeq (eVar 1)) (gNm 3) (tTrue) (eIx (eVar 3) (eC (.int 0))) [3])) (aNil)))) (aCons (eOp addD (eC (.int 1)) (eCall maxB (bCons (eFz (oLc (pSeq (eVar 1)) (gNm 3) (tTrue) (eIx (eVar 3) (eC (.int 1))) [3])) (aNil)))) (aNil)))))))
abbrev b__law_many (G : Fn → FS) : FS := bodyF 1 3 (s__law_many G)
abbrev sc__law_parts : Scope := defScope (top 69)
def N__law_parts : List PySem.Str := ["_law_statement_here"]
def s__law_parts (G : Fn → FS) : SS := sRet (oFr (eIf (tBool (eOp eqD (eIx (eVar 0) (eC (.int 0))) (eC (.str "seq")))) (eIx (eVar 0) (eC (.int 1))) (eTup (aCons (eVar 0) (aNil)))))
abbrev b__law_parts (G : Fn → FS) : FS := bodyF 1 0 (s__law_parts G)
abbrev sc__law_told : Scope := defScope (top 70)
def N__law_told : List PySem.Str := ["_law_way", "_law_test", "_law_one", "_law_two", "_law_found"]
def s__law_told (G : Fn → FS) : SS := sSeq (sSet 4 (oFr (eC .none))) (sSeq (sTry mt (sIf (tBool (eOp eqD (eVar 0) (eC (.int 0)))) (sSet 4 (oDefK (G .then) 2 [1, 0] (aCons (eVar 3) (aCons (eVar 2) (aNil))))) (sIf (tBool (eOp eqD (eVar 0) (eC (.int 1)))) (sSet 4 (oDefK (G .either) 3 [2, 0, 1] (aCons (eVar 2) (aCons (eVar 3) (aCons (eVar 1) (aNil)))))) (sSet 4 (oDefK (G .around) 2 [1, 0] (aCons (eVar 2) (aCons (eVar 1) (aNil))))))) [("BadProgram", sSet 4 (oFr (eC (.str "program")))), ("BadCondition", sSet 4 (oFr (eC (.str "condition")))), ("NotAlike", sSet 4 (oFr (eC (.str "alike"))))]) (sRetV 4))
abbrev b__law_told (G : Fn → FS) : FS := bodyF 4 1 (s__law_told G)
abbrev sc__law_other : Scope := defScope (top 71)
def N__law_other : List PySem.Str := ["_law_bag_here", "_law_plan", "_law_name", "_law_size"]
def s__law_other (G : Fn → FS) : SS := sSeq (sAsg (gTp (gsCons (gNm 2) (gsCons (gNm 3) (gsNil)))) (eIx (eIx (eVar 1) (eC (.int 0))) (eC (.int 0)))) (sRet (oDef (G ._law_pick) [] (aCons (eVar 0) (aCons (eLst (aCons (eIf (tAndD (tBool (eOp eqD (eCall lenB (bCons (eIx (eVar 1) (eC (.int 0))) (aNil))) (eC (.int 1)))) (tBool (eOp ltD (eVar 3) (eC (.int 6))))) (eTup (aCons (eOp addD (eIx (eVar 1) (eC (.int 0))) (eTup (aCons (eTup (aCons (eC (.str "qq")) (aCons (eC (.int 2)) (aNil)))) (aNil)))) (aCons (eIx (eVar 1) (eC (.int 1))) (aNil)))) (eTup (aCons (eSl (eIx (eVar 1) (eC (.int 0))) (iNone) (iSome (eC (.int 1)))) (aCons (eTup (aCons (eC (.str "skip")) (aNil))) (aNil))))) (aCons (eIf (tBool (eOp gtD (eVar 3) (eC (.int 2)))) (eTup (aCons (eOp addD (eTup (aCons (eTup (aCons (eVar 2) (aCons (eC (.int 2)) (aNil)))) (aNil))) (eSl (eIx (eVar 1) (eC (.int 0))) (iSome (eC (.int 1))) (iNone))) (aCons (eIx (eVar 1) (eC (.int 1))) (aNil)))) (eTup (aCons (eRev (eIx (eVar 1) (eC (.int 0)))) (aCons (eTup (aCons (eC (.str "skip")) (aNil))) (aNil))))) (aCons (eTup (aCons (eRev (eIx (eVar 1) (eC (.int 0)))) (aCons (eIx (eVar 1) (eC (.int 1))) (aNil)))) (aCons (eTup (aCons (eTup (aCons (eTup (aCons (eC (.str "qq")) (aCons (eC (.int 2)) (aNil)))) (aNil))) (aCons (eTup (aCons (eC (.str "skip")) (aNil))) (aNil)))) (aNil)))))) (aNil)))))
abbrev b__law_other (G : Fn → FS) : FS := bodyF 2 2 (s__law_other G)
abbrev sc__law_right : Scope := defScope (top 72)
def N__law_right : List PySem.Str := ["_law_bag_here", "_law_plan", "_law_names", "_law_found", "_law_turn", "_law_left", "_law_one", "_law_two", "_law_test", "_law_dues", "_law_way", "_law_many_here", "_law_deep", "_law_due", "_law_three", "_law_bad", "_law_name", "_law_size"]
def s__law_right (G : Fn → FS) : SS := sSeq (sSet 1 (oFr (eFz (oDef (G ._law_variables) [] (aCons (eVar 0) (aNil)))))) (sSeq (sSet 2 (oLc (pSeq (eVar 1)) (gTp (gsCons (gNm 16) (gsCons (gNm 17) (gsNil)))) (tTrue) (eVar 16) [16, 17])) (sSeq (sFz 2) (sSeq (sSet 3 (oLst (aNil))) (sSeq (sFor (pRange1 (bCons (eC (.int 2)) (aNil))) (gNm 4) (sSeq (sSet 5 (oFr (eCel (oLst (aCons (eFz (oDef (G ._law_pick) [] (aCons (eVar 0) (aCons (eLst (aCons (eC (.int 1)) (aCons (eC (.int 4)) (aCons (eC (.int 12)) (aCons (eC (.int 30)) (aNil)))))) (aNil))))) (aNil)))))) (sMeth 3 appAt (eTup (aCons (eVar 1) (aCons (eFz (oDef (G ._law_statements) [] (aCons (eVar 0) (aCons (eVar 2) (aCons (eCel (oLst (aCons (eC (.int 50)) (aNil)))) (aCons (eVar 5) (aCons (eFz (oDef (G ._law_pick) [] (aCons (eVar 0) (aCons (eLst (aCons (eC (.int 2)) (aCons (eC (.int 5)) (aCons (eC (.int 12)) (aNil))))) (aNil))))) (aNil)))))))) (aNil))))))) (sSeq (sFz 3) (sSeq (sAsg (gTp (gsCons (gNm 6) (gsCons (gNm 7) (gsNil)))) (eVar 3)) (sSeq (sSet 8 (oFr (eFz (oDef (G ._law_condition) [] (aCons (eVar 0) (aCons (eVar 2) (aCons (eC (.int 5)) (aCons (eCel (oLst (aCons (eC (.int 9)) (aNil)))) (aNil))))))))) (sSeq (sSet 9 (oFr (eLst (aCons (eTup (aCons (eC (.str "seq")) (aCons (eOp addD (eFz (oDef (G ._law_parts) [] (aCons (eIx (eVar 6) (eC (.int 1))) (aNil)))) (eFz (oDef (G ._law_parts) [] (aCons (eIx (eVar 7) (eC (.int 1))) (aNil))))) (aNil)))) (aCons (eTup (aCons (eC (.str "if")) (aCons (eVar 8) (aCons (eIx (eVar 6) (eC (.int 1))) (aCons (eIx (eVar 7) (eC (.int 1))) (aNil)))))) (aCons (eTup (aCons (eC (.str "while")) (aCons (eVar 8) (aCons (eIx (eVar 6) (eC (.int 1))) (aNil))))) (aNil))))))) (sSeq (sFor (pRange1 (bCons (eC (.int 3)) (aNil))) (gNm 10) (sSeq (sAsg (gTp (gsCons (gNm 11) (gsCons (gNm 12) (gsNil)))) (eFz (oDef (G ._law_many) [] (aCons (eIx (eVar 9) (eVar 10)) (aNil))))) (sSeq (sSet 13 (oFr (eIf (tAndD (tBool (eOp leD (eVar 11) (eC (.int 60)))) (tBool (eOp leD (eVar 12) (eC (.int 12))))) (eTup (aCons (eVar 1) (aCons (eIx (eVar 9) (eVar 10)) (aNil)))) (eC (.str "program"))))) (sIf (tOrD (tBool (eOp neD (eFz (oDef (G ._law_told) [] (aCons (eVar 10) (aCons (eVar 8) (aCons (eVar 6) (aCons (eVar 7) (aNil))))))) (eVar 13))) (tBool (eOp neD (eIx (eFz (oDef (G .then) [] (aCons (eTup (aCons (eVar 1) (aCons (eTup (aCons (eC (.str "skip")) (aNil))) (aNil)))) (aCons (eTup (aCons (eVar 1) (aCons (eTup (aCons (eC (.str "skip")) (aNil))) (aNil)))) (aNil))))) (eC (.int 1))) (eTup (aCons (eC (.str "seq")) (aCons (eOp mulT (eTup (aCons (eTup (aCons (eC (.str "skip")) (aNil))) (aNil))) (eC (.int 2))) (aNil))))))) (sRet (oFr (eC (.bool false)))) (sNil))))) (sSeq (sPar 14 15 (aCons (eFz (oDef (G ._law_other) [] (aCons (eVar 0) (aCons (eVar 6) (aNil))))) (aCons (eFz (oDef (G ._law_pick) [] (aCons (eVar 0) (aCons (eLst (aCons (eTup (aCons (eC (.str "is")) (aCons (eTup (aCons (eC (.str "var")) (aCons (eC (.str "zz")) (aNil)))) (aCons (eTup (aCons (eC (.str "num")) (aCons (eC (.int 0)) (aNil)))) (aNil))))) (aCons (eTup (aCons (eC (.str "not")) (aCons (eTup (aCons (eC (.str "below")) (aCons (eTup (aCons (eC (.str "num")) (aCons (eC (.int 1)) (aNil)))) (aCons (eTup (aCons (eC (.str "var")) (aCons (eC (.str "Z")) (aNil)))) (aNil))))) (aNil)))) (aNil)))) (aNil))))) (aNil)))) (sSeq (sIf (tAndD (tBool (eOp neD (eIx (eVar 14) (eC (.int 0))) (eVar 1))) (tBool (eOp neD (eLst (aCons (eFz (oDef (G ._law_told) [] (aCons (eC (.int 0)) (aCons (eVar 8) (aCons (eVar 6) (aCons (eVar 14) (aNil))))))) (aCons (eFz (oDef (G ._law_told) [] (aCons (eC (.int 1)) (aCons (eVar 8) (aCons (eVar 6) (aCons (eVar 14) (aNil))))))) (aNil)))) (eOp mulD (eLst (aCons (eC (.str "alike")) (aNil))) (eC (.int 2)))))) (sRet (oFr (eC (.bool false)))) (sNil)) (sRet (oFr (eOp eqD (eLst (aCons (eFz (oDef (G ._law_told) [] (aCons (eC (.int 1)) (aCons (eVar 15) (aCons (eVar 6) (aCons (eVar 14) (aNil))))))) (aCons (eFz (oDef (G ._law_told) [] (aCons (eC (.int 2)) (aCons (eVar 15) (aCons (eVar 6) (aCons (eVar 7) (aNil))))))) (aNil)))) (eOp mulD (eLst (aCons (eC (.str "condition")) (aNil))) (eC (.int 2)))))))))))))))))
abbrev b__law_right (G : Fn → FS) : FS := bodyF 1 17 (s__law_right G)
abbrev sc_law : Scope := defScope (top 73)
def N_law : List PySem.Str := ["_law_script", "_law_k"]
def s_law (G : Fn → FS) : SS := sSeq (sFor (pRange1 (bCons (eCall maxB (bCons (eC (.int 1)) (bCons (eCall minB (bCons (eC (.int 3)) (bCons (eCall lenB (bCons (eVar 0) (aNil))) (aNil)))) (aNil)))) (aNil))) (gNm 1) (sIf (tNotD (tTru (eFz (oDef (G ._law_right) [] (aCons (eCel (oDef (G ._law_bag) [] (aCons (eVar 0) (aCons (eVar 1) (aNil))))) (aNil)))))) (sRet (oFr (eC (.bool false)))) (sNil))) (sRet (oFr (eC (.bool true))))
abbrev b_law (G : Fn → FS) : FS := bodyF 1 1 (s_law G)
def body (G : Fn → FS) : Fn → FS
  | .is_integer => b_is_integer G
  | .is_name => b_is_name G
  | .are_names => b_are_names G
  | .is_variable => b_is_variable G
  | .is_variables => b_is_variables G
  | .places_of => b_places_of G
  | .is_tagged => b_is_tagged G
  | .is_expression_within => b_is_expression_within G
  | .is_condition_within => b_is_condition_within G
  | .is_expression => b_is_expression G
  | .is_condition => b_is_condition G
  | .is_pair => b_is_pair G
  | .is_pairs => b_is_pairs G
  | .is_choice => b_is_choice G
  | .expression_names => b_expression_names G
  | .condition_names => b_condition_names G
  | .pairs_names => b_pairs_names G
  | .is_statement_within => b_is_statement_within G
  | .is_act => b_is_act G
  | .are_statements => b_are_statements G
  | .inner_of => b_inner_of G
  | .statements_in => b_statements_in G
  | .statement_size => b_statement_size G
  | .own_names => b_own_names G
  | .statement_names => b_statement_names G
  | .is_right => b_is_right G
  | .need_program => b_need_program G
  | .need_condition => b_need_condition G
  | .need_condition_of => b_need_condition_of G
  | .need_alike => b_need_alike G
  | .parts_of => b_parts_of G
  | .whole => b_whole G
  | .then => b_then G
  | .either => b_either G
  | .around => b_around G
  | ._law_bag => b__law_bag G
  | ._law_take => b__law_take G
  | ._law_pick => b__law_pick G
  | ._law_variables => b__law_variables G
  | ._law_expression => b__law_expression G
  | ._law_condition => b__law_condition G
  | ._law_statement => b__law_statement G
  | ._law_statements => b__law_statements G
  | ._law_program => b__law_program G
  | ._law_many => b__law_many G
  | ._law_parts => b__law_parts G
  | ._law_told => b__law_told G
  | ._law_other => b__law_other G
  | ._law_right => b__law_right G
  | .law => b_law G
def sem : Nat → Fn → FS
  | 0 => fun _ _ _ => .bad
  | n + 1 => body (sem n)
theorem e_is_integer {n : Nat} {x0 x1 x2 : Val} {cs : Cs} : sem (n + 1) .is_integer [x0, x1, x2] cs = bodyR (s_is_integer (sem n) [some (.fr x0), some (.fr x1), some (.fr x2)] cs) := rfl
theorem e_is_name {n : Nat} {x0 : Val} {cs : Cs} : sem (n + 1) .is_name [x0] cs = bodyR (s_is_name (sem n) [some (.fr x0), none] cs) := rfl
theorem e_are_names {n : Nat} {x0 : Val} {cs : Cs} : sem (n + 1) .are_names [x0] cs = bodyR (s_are_names (sem n) [some (.fr x0), none] cs) := rfl
theorem e_is_variable {n : Nat} {x0 : Val} {cs : Cs} : sem (n + 1) .is_variable [x0] cs = bodyR (s_is_variable (sem n) [some (.fr x0)] cs) := rfl
theorem e_is_variables {n : Nat} {x0 : Val} {cs : Cs} : sem (n + 1) .is_variables [x0] cs = bodyR (s_is_variables (sem n) [some (.fr x0), none, none, none, none] cs) := rfl
theorem e_places_of {n : Nat} {x0 : Val} {cs : Cs} : sem (n + 1) .places_of [x0] cs = bodyR (s_places_of (sem n) [some (.fr x0), none, none] cs) := rfl
theorem e_is_tagged {n : Nat} {x0 x1 : Val} {cs : Cs} : sem (n + 1) .is_tagged [x0, x1] cs = bodyR (s_is_tagged (sem n) [some (.fr x0), some (.fr x1)] cs) := rfl
theorem e_is_expression_within {n : Nat} {x0 x1 : Val} {cs : Cs} : sem (n + 1) .is_expression_within [x0, x1] cs = bodyR (s_is_expression_within (sem n) [some (.fr x0), some (.fr x1)] cs) := rfl
theorem e_is_condition_within {n : Nat} {x0 x1 : Val} {cs : Cs} : sem (n + 1) .is_condition_within [x0, x1] cs = bodyR (s_is_condition_within (sem n) [some (.fr x0), some (.fr x1)] cs) := rfl
theorem e_is_expression {n : Nat} {x0 : Val} {cs : Cs} : sem (n + 1) .is_expression [x0] cs = bodyR (s_is_expression (sem n) [some (.fr x0)] cs) := rfl
theorem e_is_condition {n : Nat} {x0 : Val} {cs : Cs} : sem (n + 1) .is_condition [x0] cs = bodyR (s_is_condition (sem n) [some (.fr x0)] cs) := rfl
theorem e_is_pair {n : Nat} {x0 : Val} {cs : Cs} : sem (n + 1) .is_pair [x0] cs = bodyR (s_is_pair (sem n) [some (.fr x0)] cs) := rfl
theorem e_is_pairs {n : Nat} {x0 : Val} {cs : Cs} : sem (n + 1) .is_pairs [x0] cs = bodyR (s_is_pairs (sem n) [some (.fr x0), none] cs) := rfl
theorem e_is_choice {n : Nat} {x0 : Val} {cs : Cs} : sem (n + 1) .is_choice [x0] cs = bodyR (s_is_choice (sem n) [some (.fr x0), none] cs) := rfl
theorem e_expression_names {n : Nat} {x0 : Val} {cs : Cs} : sem (n + 1) .expression_names [x0] cs = bodyR (s_expression_names (sem n) [some (.fr x0)] cs) := rfl
theorem e_condition_names {n : Nat} {x0 : Val} {cs : Cs} : sem (n + 1) .condition_names [x0] cs = bodyR (s_condition_names (sem n) [some (.fr x0)] cs) := rfl
theorem e_pairs_names {n : Nat} {x0 : Val} {cs : Cs} : sem (n + 1) .pairs_names [x0] cs = bodyR (s_pairs_names (sem n) [some (.fr x0), none, none] cs) := rfl
theorem e_is_statement_within {n : Nat} {x0 x1 : Val} {cs : Cs} : sem (n + 1) .is_statement_within [x0, x1] cs = bodyR (s_is_statement_within (sem n) [some (.fr x0), some (.fr x1), none, none] cs) := rfl
theorem e_is_act {n : Nat} {x0 x1 : Val} {cs : Cs} : sem (n + 1) .is_act [x0, x1] cs = bodyR (s_is_act (sem n) [some (.fr x0), some (.fr x1)] cs) := rfl
theorem e_are_statements {n : Nat} {x0 x1 : Val} {cs : Cs} : sem (n + 1) .are_statements [x0, x1] cs = bodyR (s_are_statements (sem n) [some (.fr x0), some (.fr x1), none] cs) := rfl
theorem e_inner_of {n : Nat} {x0 : Val} {cs : Cs} : sem (n + 1) .inner_of [x0] cs = bodyR (s_inner_of (sem n) [some (.fr x0)] cs) := rfl
theorem e_statements_in {n : Nat} {x0 : Val} {cs : Cs} : sem (n + 1) .statements_in [x0] cs = bodyR (s_statements_in (sem n) [some (.fr x0), none, none] cs) := rfl
theorem e_statement_size {n : Nat} {x0 : Val} {cs : Cs} : sem (n + 1) .statement_size [x0] cs = bodyR (s_statement_size (sem n) [some (.fr x0), none] cs) := rfl
theorem e_own_names {n : Nat} {x0 : Val} {cs : Cs} : sem (n + 1) .own_names [x0] cs = bodyR (s_own_names (sem n) [some (.fr x0), none, none, none] cs) := rfl
theorem e_statement_names {n : Nat} {x0 : Val} {cs : Cs} : sem (n + 1) .statement_names [x0] cs = bodyR (s_statement_names (sem n) [some (.fr x0), none, none] cs) := rfl
theorem e_is_right {n : Nat} {x0 : Val} {cs : Cs} : sem (n + 1) .is_right [x0] cs = bodyR (s_is_right (sem n) [some (.fr x0), none, none] cs) := rfl
theorem e_need_program {n : Nat} {x0 : Val} {cs : Cs} : sem (n + 1) .need_program [x0] cs = bodyR (s_need_program (sem n) [some (.fr x0)] cs) := rfl
theorem e_need_condition {n : Nat} {x0 : Val} {cs : Cs} : sem (n + 1) .need_condition [x0] cs = bodyR (s_need_condition (sem n) [some (.fr x0)] cs) := rfl
theorem e_need_condition_of {n : Nat} {x0 x1 : Val} {cs : Cs} : sem (n + 1) .need_condition_of [x0, x1] cs = bodyR (s_need_condition_of (sem n) [some (.fr x0), some (.fr x1), none, none] cs) := rfl
theorem e_need_alike {n : Nat} {x0 x1 : Val} {cs : Cs} : sem (n + 1) .need_alike [x0, x1] cs = bodyR (s_need_alike (sem n) [some (.fr x0), some (.fr x1)] cs) := rfl
theorem e_parts_of {n : Nat} {x0 : Val} {cs : Cs} : sem (n + 1) .parts_of [x0] cs = bodyR (s_parts_of (sem n) [some (.fr x0)] cs) := rfl
theorem e_whole {n : Nat} {x0 x1 : Val} {cs : Cs} : sem (n + 1) .whole [x0, x1] cs = bodyR (s_whole (sem n) [some (.fr x0), some (.fr x1)] cs) := rfl
theorem e_then {n : Nat} {x0 x1 : Val} {cs : Cs} : sem (n + 1) .then [x0, x1] cs = bodyR (s_then (sem n) [some (.fr x0), some (.fr x1)] cs) := rfl
theorem e_either {n : Nat} {x0 x1 x2 : Val} {cs : Cs} : sem (n + 1) .either [x0, x1, x2] cs = bodyR (s_either (sem n) [some (.fr x0), some (.fr x1), some (.fr x2)] cs) := rfl
theorem e_around {n : Nat} {x0 x1 : Val} {cs : Cs} : sem (n + 1) .around [x0, x1] cs = bodyR (s_around (sem n) [some (.fr x0), some (.fr x1)] cs) := rfl
theorem e__law_bag {n : Nat} {x0 x1 : Val} {cs : Cs} : sem (n + 1) ._law_bag [x0, x1] cs = bodyR (s__law_bag (sem n) [some (.fr x0), some (.fr x1), none] cs) := rfl
theorem e__law_take {n : Nat} {x0 x1 : Val} {cs : Cs} : sem (n + 1) ._law_take [x0, x1] cs = bodyR (s__law_take (sem n) [some (.fr x0), some (.fr x1), none, none] cs) := rfl
theorem e__law_pick {n : Nat} {x0 x1 : Val} {cs : Cs} : sem (n + 1) ._law_pick [x0, x1] cs = bodyR (s__law_pick (sem n) [some (.fr x0), some (.fr x1)] cs) := rfl
theorem e__law_variables {n : Nat} {x0 : Val} {cs : Cs} : sem (n + 1) ._law_variables [x0] cs = bodyR (s__law_variables (sem n) [some (.fr x0), none, none, none, none] cs) := rfl
theorem e__law_expression {n : Nat} {x0 x1 x2 x3 : Val} {cs : Cs} : sem (n + 1) ._law_expression [x0, x1, x2, x3] cs = bodyR (s__law_expression (sem n) [some (.fr x0), some (.fr x1), some (.fr x2), some (.fr x3), none, none, none] cs) := rfl
theorem e__law_condition {n : Nat} {x0 x1 x2 x3 : Val} {cs : Cs} : sem (n + 1) ._law_condition [x0, x1, x2, x3] cs = bodyR (s__law_condition (sem n) [some (.fr x0), some (.fr x1), some (.fr x2), some (.fr x3), none, none, none] cs) := rfl
theorem e__law_statement {n : Nat} {x0 x1 x2 x3 x4 : Val} {cs : Cs} : sem (n + 1) ._law_statement [x0, x1, x2, x3, x4] cs = bodyR (s__law_statement (sem n) [some (.fr x0), some (.fr x1), some (.fr x2), some (.fr x3), some (.fr x4), none, none, none, none, none, none, none, none] cs) := rfl
theorem e__law_statements {n : Nat} {x0 x1 x2 x3 x4 : Val} {cs : Cs} : sem (n + 1) ._law_statements [x0, x1, x2, x3, x4] cs = bodyR (s__law_statements (sem n) [some (.fr x0), some (.fr x1), some (.fr x2), some (.fr x3), some (.fr x4), none, none] cs) := rfl
theorem e__law_program {n : Nat} {x0 : Val} {cs : Cs} : sem (n + 1) ._law_program [x0] cs = bodyR (s__law_program (sem n) [some (.fr x0), none, none, none, none, none] cs) := rfl
theorem e__law_many {n : Nat} {x0 : Val} {cs : Cs} : sem (n + 1) ._law_many [x0] cs = bodyR (s__law_many (sem n) [some (.fr x0), none, none, none] cs) := rfl
theorem e__law_parts {n : Nat} {x0 : Val} {cs : Cs} : sem (n + 1) ._law_parts [x0] cs = bodyR (s__law_parts (sem n) [some (.fr x0)] cs) := rfl
theorem e__law_told {n : Nat} {x0 x1 x2 x3 : Val} {cs : Cs} : sem (n + 1) ._law_told [x0, x1, x2, x3] cs = bodyR (s__law_told (sem n) [some (.fr x0), some (.fr x1), some (.fr x2), some (.fr x3), none] cs) := rfl
theorem e__law_other {n : Nat} {x0 x1 : Val} {cs : Cs} : sem (n + 1) ._law_other [x0, x1] cs = bodyR (s__law_other (sem n) [some (.fr x0), some (.fr x1), none, none] cs) := rfl
theorem e__law_right {n : Nat} {x0 : Val} {cs : Cs} : sem (n + 1) ._law_right [x0] cs = bodyR (s__law_right (sem n) [some (.fr x0), none, none, none, none, none, none, none, none, none, none, none, none, none, none, none, none, none] cs) := rfl
theorem e_law {n : Nat} {x0 : Val} {cs : Cs} : sem (n + 1) .law [x0] cs = bodyR (s_law (sem n) [some (.fr x0), none] cs) := rfl
theorem nd_is_integer : N_is_integer.Nodup := by decide +kernel
theorem nd_is_name : N_is_name.Nodup := by decide +kernel
theorem nd_are_names : N_are_names.Nodup := by decide +kernel
theorem nd_is_variable : N_is_variable.Nodup := by decide +kernel
theorem nd_is_variables : N_is_variables.Nodup := by decide +kernel
theorem nd_places_of : N_places_of.Nodup := by decide +kernel
theorem nd_is_tagged : N_is_tagged.Nodup := by decide +kernel
theorem nd_is_expression_within : N_is_expression_within.Nodup := by decide +kernel
theorem nd_is_condition_within : N_is_condition_within.Nodup := by decide +kernel
theorem nd_is_expression : N_is_expression.Nodup := by decide +kernel
theorem nd_is_condition : N_is_condition.Nodup := by decide +kernel
theorem nd_is_pair : N_is_pair.Nodup := by decide +kernel
theorem nd_is_pairs : N_is_pairs.Nodup := by decide +kernel
theorem nd_is_choice : N_is_choice.Nodup := by decide +kernel
theorem nd_expression_names : N_expression_names.Nodup := by decide +kernel
theorem nd_condition_names : N_condition_names.Nodup := by decide +kernel
theorem nd_pairs_names : N_pairs_names.Nodup := by decide +kernel
theorem nd_is_statement_within : N_is_statement_within.Nodup := by decide +kernel
theorem nd_is_act : N_is_act.Nodup := by decide +kernel
theorem nd_are_statements : N_are_statements.Nodup := by decide +kernel
theorem nd_inner_of : N_inner_of.Nodup := by decide +kernel
theorem nd_statements_in : N_statements_in.Nodup := by decide +kernel
theorem nd_statement_size : N_statement_size.Nodup := by decide +kernel
theorem nd_own_names : N_own_names.Nodup := by decide +kernel
theorem nd_statement_names : N_statement_names.Nodup := by decide +kernel
theorem nd_is_right : N_is_right.Nodup := by decide +kernel
theorem nd_need_program : N_need_program.Nodup := by decide +kernel
theorem nd_need_condition : N_need_condition.Nodup := by decide +kernel
theorem nd_need_condition_of : N_need_condition_of.Nodup := by decide +kernel
theorem nd_need_alike : N_need_alike.Nodup := by decide +kernel
theorem nd_parts_of : N_parts_of.Nodup := by decide +kernel
theorem nd_whole : N_whole.Nodup := by decide +kernel
theorem nd_then : N_then.Nodup := by decide +kernel
theorem nd_either : N_either.Nodup := by decide +kernel
theorem nd_around : N_around.Nodup := by decide +kernel
theorem nd__law_bag : N__law_bag.Nodup := by decide +kernel
theorem nd__law_take : N__law_take.Nodup := by decide +kernel
theorem nd__law_pick : N__law_pick.Nodup := by decide +kernel
theorem nd__law_variables : N__law_variables.Nodup := by decide +kernel
theorem nd__law_expression : N__law_expression.Nodup := by decide +kernel
theorem nd__law_condition : N__law_condition.Nodup := by decide +kernel
theorem nd__law_statement : N__law_statement.Nodup := by decide +kernel
theorem nd__law_statements : N__law_statements.Nodup := by decide +kernel
theorem nd__law_program : N__law_program.Nodup := by decide +kernel
theorem nd__law_many : N__law_many.Nodup := by decide +kernel
theorem nd__law_parts : N__law_parts.Nodup := by decide +kernel
theorem nd__law_told : N__law_told.Nodup := by decide +kernel
theorem nd__law_other : N__law_other.Nodup := by decide +kernel
theorem nd__law_right : N__law_right.Nodup := by decide +kernel
theorem nd_law : N_law.Nodup := by decide +kernel
structure Xs (K : PySem.W.Frag) (mg : PySem.Str → Option Value) : Prop where
  b_all : mg "all" = none
  b_bool : mg "bool" = none
  b_enumerate : mg "enumerate" = none
  b_int : mg "int" = none
  b_isinstance : mg "isinstance" = none
  b_len : mg "len" = none
  b_list : mg "list" = none
  b_max : mg "max" = none
  b_min : mg "min" = none
  b_range : mg "range" = none
  b_set : mg "set" = none
  b_str : mg "str" = none
  b_sum : mg "sum" = none
  b_tuple : mg "tuple" = none
  g_COMPARISONS : GlobD K mg "COMPARISONS" g_COMPARISONS
  g_LEAST_SIZE : GlobD K mg "LEAST_SIZE" g_LEAST_SIZE
  g_MOST_DEEP : GlobD K mg "MOST_DEEP" g_MOST_DEEP
  g_MOST_NAME : GlobD K mg "MOST_NAME" g_MOST_NAME
  g_MOST_NUMBER : GlobD K mg "MOST_NUMBER" g_MOST_NUMBER
  g_MOST_PAIRS : GlobD K mg "MOST_PAIRS" g_MOST_PAIRS
  g_MOST_SIZE : GlobD K mg "MOST_SIZE" g_MOST_SIZE
  g_MOST_STATEMENTS : GlobD K mg "MOST_STATEMENTS" g_MOST_STATEMENTS
  g_MOST_STATES : GlobD K mg "MOST_STATES" g_MOST_STATES
  g_MOST_VARIABLES : GlobD K mg "MOST_VARIABLES" g_MOST_VARIABLES
  g_MOST_WITHIN : GlobD K mg "MOST_WITHIN" g_MOST_WITHIN
  g_NAME_SIGNS : GlobD K mg "NAME_SIGNS" g_NAME_SIGNS
  g_OPERATIONS : GlobD K mg "OPERATIONS" g_OPERATIONS
  g_SMALL : GlobD K mg "SMALL" g_SMALL
  g_WORDS : GlobD K mg "WORDS" g_WORDS
  x_BadCondition : ExcK K mg "BadCondition"
  x_BadProgram : ExcK K mg "BadProgram"
  x_NotAlike : ExcK K mg "NotAlike"
  h_BadCondition : ∃ C, mg "BadCondition" = some (.ref C)
  h_BadProgram : ∃ C, mg "BadProgram" = some (.ref C)
  h_NotAlike : ∃ C, mg "NotAlike" = some (.ref C)
  mt : MtOk K mg mt
def arN : Fn → Nat
  | .is_integer => 3
  | .is_name => 1
  | .are_names => 1
  | .is_variable => 1
  | .is_variables => 1
  | .places_of => 1
  | .is_tagged => 2
  | .is_expression_within => 2
  | .is_condition_within => 2
  | .is_expression => 1
  | .is_condition => 1
  | .is_pair => 1
  | .is_pairs => 1
  | .is_choice => 1
  | .expression_names => 1
  | .condition_names => 1
  | .pairs_names => 1
  | .is_statement_within => 2
  | .is_act => 2
  | .are_statements => 2
  | .inner_of => 1
  | .statements_in => 1
  | .statement_size => 1
  | .own_names => 1
  | .statement_names => 1
  | .is_right => 1
  | .need_program => 1
  | .need_condition => 1
  | .need_condition_of => 2
  | .need_alike => 2
  | .parts_of => 1
  | .whole => 2
  | .then => 2
  | .either => 3
  | .around => 2
  | ._law_bag => 2
  | ._law_take => 2
  | ._law_pick => 2
  | ._law_variables => 1
  | ._law_expression => 4
  | ._law_condition => 4
  | ._law_statement => 5
  | ._law_statements => 5
  | ._law_program => 1
  | ._law_many => 1
  | ._law_parts => 1
  | ._law_told => 4
  | ._law_other => 2
  | ._law_right => 1
  | .law => 1
structure Calls (K : PySem.W.Frag) (mg : PySem.Str → Option Value) (P : Program) (w : World) (base : Heap) (k : Nat) (G : Fn → FS) : Prop where
  ar : ∀ f xs cs, G f xs cs = .bad ∨ xs.length = arN f
  c__law_bag_0 : FnD K mg P w base k "_law_bag" 2 [] (G ._law_bag)
  c__law_condition_0 : FnD K mg P w base k "_law_condition" 4 [] (G ._law_condition)
  c__law_expression_0 : FnD K mg P w base k "_law_expression" 4 [] (G ._law_expression)
  c__law_many_0 : FnD K mg P w base k "_law_many" 1 [] (G ._law_many)
  c__law_other_0 : FnD K mg P w base k "_law_other" 2 [] (G ._law_other)
  c__law_parts_0 : FnD K mg P w base k "_law_parts" 1 [] (G ._law_parts)
  c__law_pick_0 : FnD K mg P w base k "_law_pick" 2 [] (G ._law_pick)
  c__law_right_0 : FnD K mg P w base k "_law_right" 1 [] (G ._law_right)
  c__law_statement_0 : FnD K mg P w base k "_law_statement" 5 [] (G ._law_statement)
  c__law_statements_0 : FnD K mg P w base k "_law_statements" 5 [] (G ._law_statements)
  c__law_take_0 : FnD K mg P w base k "_law_take" 2 [] (G ._law_take)
  c__law_told_0 : FnD K mg P w base k "_law_told" 4 [] (G ._law_told)
  c__law_variables_0 : FnD K mg P w base k "_law_variables" 1 [] (G ._law_variables)
  c_are_names_0 : FnD K mg P w base k "are_names" 1 [] (G .are_names)
  c_are_statements_0 : FnD K mg P w base k "are_statements" 2 [] (G .are_statements)
  c_condition_names_0 : FnD K mg P w base k "condition_names" 1 [] (G .condition_names)
  c_expression_names_0 : FnD K mg P w base k "expression_names" 1 [] (G .expression_names)
  c_inner_of_0 : FnD K mg P w base k "inner_of" 1 [] (G .inner_of)
  c_is_act_0 : FnD K mg P w base k "is_act" 2 [] (G .is_act)
  c_is_choice_0 : FnD K mg P w base k "is_choice" 1 [] (G .is_choice)
  c_is_condition_0 : FnD K mg P w base k "is_condition" 1 [] (G .is_condition)
  c_is_condition_within_0 : FnD K mg P w base k "is_condition_within" 2 [] (G .is_condition_within)
  c_is_expression_0 : FnD K mg P w base k "is_expression" 1 [] (G .is_expression)
  c_is_expression_within_0 : FnD K mg P w base k "is_expression_within" 2 [] (G .is_expression_within)
  c_is_integer_0 : FnD K mg P w base k "is_integer" 3 [] (G .is_integer)
  c_is_name_0 : FnD K mg P w base k "is_name" 1 [] (G .is_name)
  c_is_pair_0 : FnD K mg P w base k "is_pair" 1 [] (G .is_pair)
  c_is_pairs_0 : FnD K mg P w base k "is_pairs" 1 [] (G .is_pairs)
  c_is_right_0 : FnD K mg P w base k "is_right" 1 [] (G .is_right)
  c_is_statement_within_0 : FnD K mg P w base k "is_statement_within" 2 [] (G .is_statement_within)
  c_is_tagged_0 : FnD K mg P w base k "is_tagged" 2 [] (G .is_tagged)
  c_is_variable_0 : FnD K mg P w base k "is_variable" 1 [] (G .is_variable)
  c_is_variables_0 : FnD K mg P w base k "is_variables" 1 [] (G .is_variables)
  c_need_alike_0 : FnD K mg P w base k "need_alike" 2 [] (G .need_alike)
  c_need_condition_0 : FnD K mg P w base k "need_condition" 1 [] (G .need_condition)
  c_need_condition_of_0 : FnD K mg P w base k "need_condition_of" 2 [] (G .need_condition_of)
  c_need_program_0 : FnD K mg P w base k "need_program" 1 [] (G .need_program)
  c_own_names_0 : FnD K mg P w base k "own_names" 1 [] (G .own_names)
  c_pairs_names_0 : FnD K mg P w base k "pairs_names" 1 [] (G .pairs_names)
  c_parts_of_0 : FnD K mg P w base k "parts_of" 1 [] (G .parts_of)
  c_places_of_0 : FnD K mg P w base k "places_of" 1 [] (G .places_of)
  c_statement_names_0 : FnD K mg P w base k "statement_names" 1 [] (G .statement_names)
  c_statement_size_0 : FnD K mg P w base k "statement_size" 1 [] (G .statement_size)
  c_statements_in_0 : FnD K mg P w base k "statements_in" 1 [] (G .statements_in)
  c_then_0 : FnD K mg P w base k "then" 2 [] (G .then)
  c_whole_0 : FnD K mg P w base k "whole" 2 [] (G .whole)
  k_around_1_0 : FnK K mg P w base k "around" 2 ["program", "condition"] [1, 0] (G .around)
  k_either_2_0_1 : FnK K mg P w base k "either" 3 ["program", "other", "condition"] [2, 0, 1] (G .either)
  k_then_1_0 : FnK K mg P w base k "then" 2 ["other", "program"] [1, 0] (G .then)
section
variable {K : PySem.W.Frag} {mg : PySem.Str → Option Value} {P : Program} {w : World} {base : Heap} {k : Nat} {G : Fn → FS}
theorem d_is_integer (X : Xs K mg) (C : Calls K mg P w base k G) : DSs (cfOf K mg P w base N_is_integer sc_is_integer k) (defBody (top 14)) (s_is_integer G) := by
  unfold s_is_integer
  exact (dss_cons (ds_if (DW.dt (dw_or (dt_not (dt_truth (de_isi .int X.b_isinstance X.b_int (de_var 0)))) (dw_or1 (dt_truth (de_isi .bool X.b_isinstance X.b_bool (de_var 0)))))) (dss_one (ds_ret (do_of de_bl))) dss_nil) (dss_one (ds_ret (do_of (de_and (de_or (de_cmp od_is (de_var 1) de_non) (de_one (de_cmp od_geI (de_var 0) (de_var 1)))) (de_one (de_or (de_cmp od_is (de_var 2) de_non) (de_one (de_cmp od_leI (de_var 0) (de_var 2))))))))))
theorem d_is_name (X : Xs K mg) (C : Calls K mg P w base k G) : DSs (cfOf K mg P w base N_is_name sc_is_name k) (defBody (top 15)) (s_is_name G) := by
  unfold s_is_name
  exact (dss_cons (ds_if (DW.dt (dw_or (dt_not (dt_truth (de_isi .str X.b_isinstance X.b_str (de_var 0)))) (dw_or (dt_not (dt_chain od_leI od_leI de_int (de_callB cd_len X.b_len (db_cons (de_var 0) db_nil)) (de_glob X.g_MOST_NAME))) (dw_or (dt_cmp od_notIn (de_ix (de_var 0) de_int) (de_glob X.g_SMALL)) (dw_or1 (dt_cmp od_in (de_var 0) (de_glob X.g_WORDS))))))) (dss_one (ds_ret (do_of de_bl))) dss_nil) (dss_one (ds_ret (do_of (de_callB (cd_all rfl) X.b_all (db_cons (de_fz (do_lc (own := [("sign", 1)]) rfl nd_is_name (by show BlkOk N_is_name sc_is_name _ _; exact ⟨rfl, by decide +kernel, by decide +kernel, by decide +kernel, by decide +kernel⟩) (dp_seq (de_var 0)) (dg_name 1 nd_is_name) dts_nil (de_cmp od_in (de_var 1) (de_glob X.g_NAME_SIGNS)))) db_nil))))))
theorem d_are_names (X : Xs K mg) (C : Calls K mg P w base k G) : DSs (cfOf K mg P w base N_are_names sc_are_names k) (defBody (top 16)) (s_are_names G) := by
  unfold s_are_names
  exact (dss_cons (ds_if (DW.dt (dw_or (dt_not (dt_truth (de_isi .tuple X.b_isinstance X.b_tuple (de_var 0)))) (dw_or1 (dt_not (dt_truth (de_callB (cd_all rfl) X.b_all (db_cons (de_fz (do_lc (own := [("name", 1)]) rfl nd_are_names (by show BlkOk N_are_names sc_are_names _ _; exact ⟨rfl, by decide +kernel, by decide +kernel, by decide +kernel, by decide +kernel⟩) (dp_seq (de_var 0)) (dg_name 1 nd_are_names) dts_nil (de_fz (do_fn C.c_is_name_0 (C.ar .is_name) rfl (da_cons (de_var 1) da_nil))))) db_nil))))))) (dss_one (ds_ret (do_of de_bl))) dss_nil) (dss_one (ds_ret (do_of (de_cmp od_eq (de_lenset rfl X.b_len X.b_set (de_var 0)) (de_callB cd_len X.b_len (db_cons (de_var 0) db_nil)))))))
theorem d_is_variable (X : Xs K mg) (C : Calls K mg P w base k G) : DSs (cfOf K mg P w base N_is_variable sc_is_variable k) (defBody (top 17)) (s_is_variable G) := by
  unfold s_is_variable
  exact (dss_cons (ds_if (DW.dt (dw_or (dt_not (dt_truth (de_isi .tuple X.b_isinstance X.b_tuple (de_var 0)))) (dw_or1 (dt_cmp od_ne (de_callB cd_len X.b_len (db_cons (de_var 0) db_nil)) de_int)))) (dss_one (ds_ret (do_of de_bl))) dss_nil) (dss_one (ds_ret (do_of (de_and (de_fz (do_fn C.c_is_name_0 (C.ar .is_name) rfl (da_cons (de_ix (de_var 0) de_int) da_nil))) (de_one (de_fz (do_fn C.c_is_integer_0 (C.ar .is_integer) rfl (da_cons (de_ix (de_var 0) de_int) (da_cons (de_glob X.g_LEAST_SIZE) (da_cons (de_glob X.g_MOST_SIZE) da_nil)))))))))))
theorem d_is_variables (X : Xs K mg) (C : Calls K mg P w base k G) : DSs (cfOf K mg P w base N_is_variables sc_is_variables k) (defBody (top 18)) (s_is_variables G) := by
  unfold s_is_variables
  exact (dss_cons (ds_if (DW.dt (dw_or (dt_not (dt_truth (de_isi .tuple X.b_isinstance X.b_tuple (de_var 0)))) (dw_or1 (dt_not (dt_chain od_leI od_leI de_int (de_callB cd_len X.b_len (db_cons (de_var 0) db_nil)) (de_glob X.g_MOST_VARIABLES)))))) (dss_one (ds_ret (do_of de_bl))) dss_nil) (dss_cons (ds_if (dt_not (dt_truth (de_callB (cd_all rfl) X.b_all (db_cons (de_fz (do_lc (own := [("variable", 4)]) rfl nd_is_variables (by show BlkOk N_is_variables sc_is_variables _ _; exact ⟨rfl, by decide +kernel, by decide +kernel, by decide +kernel, by decide +kernel⟩) (dp_seq (de_var 0)) (dg_name 4 nd_is_variables) dts_nil (de_fz (do_fn C.c_is_variable_0 (C.ar .is_variable) rfl (da_cons (de_var 4) da_nil))))) db_nil)))) (dss_one (ds_ret (do_of de_bl))) dss_nil) (dss_cons (ds_set 1 (do_of de_int) nd_is_variables) (dss_cons (ds_for rfl (dp_seq (de_var 0)) (dg_tup rfl (dgs_cons (dg_name 2 nd_is_variables) (dgs_cons (dg_name 3 nd_is_variables) dgs_nil)) (gs_lenS (gs_lenS gs_len0))) (dss_one (ds_aug 1 iod_mul (de_var 3) nd_is_variables))) (dss_one (ds_ret (do_of (de_and (de_cmp od_leI (de_var 1) (de_glob X.g_MOST_STATES)) (de_one (de_fz (do_fn C.c_are_names_0 (C.ar .are_names) rfl (da_cons (de_callT cd_tuple X.b_tuple (db_cons (de_fz (do_lc (own := [("name", 2), ("size", 3)]) rfl nd_is_variables (by show BlkOk N_is_variables sc_is_variables _ _; exact ⟨rfl, by decide +kernel, by decide +kernel, by decide +kernel, by decide +kernel⟩) (dp_seq (de_var 0)) (dg_tup rfl (dgs_cons (dg_name 2 nd_is_variables) (dgs_cons (dg_name 3 nd_is_variables) dgs_nil)) (gs_lenS (gs_lenS gs_len0))) dts_nil (de_var 2))) db_nil)) da_nil))))))))))))
theorem d_places_of (X : Xs K mg) (C : Calls K mg P w base k G) : DSs (cfOf K mg P w base N_places_of sc_places_of k) (defBody (top 19)) (s_places_of G) := by
  unfold s_places_of
  exact (dss_one (ds_ret (do_dc (own := [("place", 1), ("variable", 2)]) rfl nd_places_of (by show BlkOk N_places_of sc_places_of _ _; exact ⟨rfl, by decide +kernel, by decide +kernel, by decide +kernel, by decide +kernel⟩) (dp_enm X.b_enumerate (db_cons (de_var 0) db_nil)) (dg_tup rfl (dgs_cons (dg_name 1 nd_places_of) (dgs_cons (dg_name 2 nd_places_of) dgs_nil)) (gs_lenS (gs_lenS gs_len0))) dts_nil (de_ix (de_var 2) de_int) (de_var 1))))
theorem d_is_tagged (X : Xs K mg) (C : Calls K mg P w base k G) : DSs (cfOf K mg P w base N_is_tagged sc_is_tagged k) (defBody (top 28)) (s_is_tagged G) := by
  unfold s_is_tagged
  exact (dss_one (ds_ret (do_of (de_and (de_isi .tuple X.b_isinstance X.b_tuple (de_var 0)) (de_and (de_cmp od_eq (de_callB cd_len X.b_len (db_cons (de_var 0) db_nil)) (de_var 1)) (de_one (de_isi .str X.b_isinstance X.b_str (de_ix (de_var 0) de_int))))))))
theorem d_is_expression_within (X : Xs K mg) (C : Calls K mg P w base k G) : DSs (cfOf K mg P w base N_is_expression_within sc_is_expression_within k) (defBody (top 29)) (s_is_expression_within G) := by
  unfold s_is_expression_within
  exact (dss_cons (ds_if (dt_cmp od_ltI (de_var 1) de_int) (dss_one (ds_ret (do_of de_bl))) dss_nil) (dss_cons (ds_if (dt_truth (de_fz (do_fn C.c_is_tagged_0 (C.ar .is_tagged) rfl (da_cons (de_var 0) (da_cons de_int da_nil))))) (dss_cons (ds_if (dt_cmp od_eq (de_ix (de_var 0) de_int) de_str) (dss_one (ds_ret (do_fn C.c_is_integer_0 (C.ar .is_integer) rfl (da_cons (de_ix (de_var 0) de_int) (da_cons de_int (da_cons (de_glob X.g_MOST_NUMBER) da_nil)))))) dss_nil) (dss_one (ds_ret (do_of (de_and (de_cmp od_eq (de_ix (de_var 0) de_int) de_str) (de_one (de_fz (do_fn C.c_is_name_0 (C.ar .is_name) rfl (da_cons (de_ix (de_var 0) de_int) da_nil))))))))) dss_nil) (dss_cons (ds_if (DW.dt (dw_or (dt_not (dt_truth (de_fz (do_fn C.c_is_tagged_0 (C.ar .is_tagged) rfl (da_cons (de_var 0) (da_cons de_int da_nil)))))) (dw_or1 (dt_cmp od_notIn (de_ix (de_var 0) de_int) (de_glob X.g_OPERATIONS))))) (dss_one (ds_ret (do_of de_bl))) dss_nil) (dss_one (ds_ret (do_of (de_and (de_fz (do_fn C.c_is_expression_within_0 (C.ar .is_expression_within) rfl (da_cons (de_ix (de_var 0) de_int) (da_cons (de_op od_subI (de_var 1) de_int) da_nil)))) (de_one (de_fz (do_fn C.c_is_expression_within_0 (C.ar .is_expression_within) rfl (da_cons (de_ix (de_var 0) de_int) (da_cons (de_op od_subI (de_var 1) de_int) da_nil))))))))))))
theorem d_is_condition_within (X : Xs K mg) (C : Calls K mg P w base k G) : DSs (cfOf K mg P w base N_is_condition_within sc_is_condition_within k) (defBody (top 30)) (s_is_condition_within G) := by
  unfold s_is_condition_within
  exact (dss_cons (ds_if (dt_cmp od_ltI (de_var 1) de_int) (dss_one (ds_ret (do_of de_bl))) dss_nil) (dss_cons (ds_if (dt_truth (de_fz (do_fn C.c_is_tagged_0 (C.ar .is_tagged) rfl (da_cons (de_var 0) (da_cons de_int da_nil))))) (dss_one (ds_ret (do_of (de_cmp od_eq (de_ix (de_var 0) de_int) de_str)))) dss_nil) (dss_cons (ds_if (dt_truth (de_fz (do_fn C.c_is_tagged_0 (C.ar .is_tagged) rfl (da_cons (de_var 0) (da_cons de_int da_nil))))) (dss_one (ds_ret (do_of (de_and (de_cmp od_eq (de_ix (de_var 0) de_int) de_str) (de_one (de_fz (do_fn C.c_is_condition_within_0 (C.ar .is_condition_within) rfl (da_cons (de_ix (de_var 0) de_int) (da_cons (de_op od_subI (de_var 1) de_int) da_nil))))))))) dss_nil) (dss_cons (ds_if (dt_not (dt_truth (de_fz (do_fn C.c_is_tagged_0 (C.ar .is_tagged) rfl (da_cons (de_var 0) (da_cons de_int da_nil)))))) (dss_one (ds_ret (do_of de_bl))) dss_nil) (dss_cons (ds_if (dt_cmp od_in (de_ix (de_var 0) de_int) (de_glob X.g_COMPARISONS)) (dss_one (ds_ret (do_of (de_and (de_fz (do_fn C.c_is_expression_within_0 (C.ar .is_expression_within) rfl (da_cons (de_ix (de_var 0) de_int) (da_cons (de_op od_subI (de_var 1) de_int) da_nil)))) (de_one (de_fz (do_fn C.c_is_expression_within_0 (C.ar .is_expression_within) rfl (da_cons (de_ix (de_var 0) de_int) (da_cons (de_op od_subI (de_var 1) de_int) da_nil))))))))) dss_nil) (dss_cons (ds_if (dt_cmp od_notIn (de_ix (de_var 0) de_int) (de_tup (da_cons de_str (da_cons de_str da_nil)))) (dss_one (ds_ret (do_of de_bl))) dss_nil) (dss_one (ds_ret (do_of (de_and (de_fz (do_fn C.c_is_condition_within_0 (C.ar .is_condition_within) rfl (da_cons (de_ix (de_var 0) de_int) (da_cons (de_op od_subI (de_var 1) de_int) da_nil)))) (de_one (de_fz (do_fn C.c_is_condition_within_0 (C.ar .is_condition_within) rfl (da_cons (de_ix (de_var 0) de_int) (da_cons (de_op od_subI (de_var 1) de_int) da_nil)))))))))))))))
theorem d_is_expression (X : Xs K mg) (C : Calls K mg P w base k G) : DSs (cfOf K mg P w base N_is_expression sc_is_expression k) (defBody (top 31)) (s_is_expression G) := by
  unfold s_is_expression
  exact (dss_one (ds_ret (do_fn C.c_is_expression_within_0 (C.ar .is_expression_within) rfl (da_cons (de_var 0) (da_cons (de_glob X.g_MOST_DEEP) da_nil)))))
theorem d_is_condition (X : Xs K mg) (C : Calls K mg P w base k G) : DSs (cfOf K mg P w base N_is_condition sc_is_condition k) (defBody (top 32)) (s_is_condition G) := by
  unfold s_is_condition
  exact (dss_one (ds_ret (do_fn C.c_is_condition_within_0 (C.ar .is_condition_within) rfl (da_cons (de_var 0) (da_cons (de_glob X.g_MOST_DEEP) da_nil)))))
theorem d_is_pair (X : Xs K mg) (C : Calls K mg P w base k G) : DSs (cfOf K mg P w base N_is_pair sc_is_pair k) (defBody (top 33)) (s_is_pair G) := by
  unfold s_is_pair
  exact (dss_cons (ds_if (DW.dt (dw_or (dt_not (dt_truth (de_isi .tuple X.b_isinstance X.b_tuple (de_var 0)))) (dw_or1 (dt_cmp od_ne (de_callB cd_len X.b_len (db_cons (de_var 0) db_nil)) de_int)))) (dss_one (ds_ret (do_of de_bl))) dss_nil) (dss_one (ds_ret (do_of (de_and (de_fz (do_fn C.c_is_expression_0 (C.ar .is_expression) rfl (da_cons (de_ix (de_var 0) de_int) da_nil))) (de_one (de_fz (do_fn C.c_is_integer_0 (C.ar .is_integer) rfl (da_cons (de_ix (de_var 0) de_int) (da_cons de_int (da_cons (de_glob X.g_MOST_NUMBER) da_nil)))))))))))
theorem d_is_pairs (X : Xs K mg) (C : Calls K mg P w base k G) : DSs (cfOf K mg P w base N_is_pairs sc_is_pairs k) (defBody (top 34)) (s_is_pairs G) := by
  unfold s_is_pairs
  exact (dss_one (ds_ret (do_of (de_and (de_isi .tuple X.b_isinstance X.b_tuple (de_var 0)) (de_and (de_chain od_leI od_leI de_int (de_callB cd_len X.b_len (db_cons (de_var 0) db_nil)) (de_glob X.g_MOST_PAIRS)) (de_one (de_callB (cd_all rfl) X.b_all (db_cons (de_fz (do_lc (own := [("pair", 1)]) rfl nd_is_pairs (by show BlkOk N_is_pairs sc_is_pairs _ _; exact ⟨rfl, by decide +kernel, by decide +kernel, by decide +kernel, by decide +kernel⟩) (dp_seq (de_var 0)) (dg_name 1 nd_is_pairs) dts_nil (de_fz (do_fn C.c_is_pair_0 (C.ar .is_pair) rfl (da_cons (de_var 1) da_nil))))) db_nil))))))))
theorem d_is_choice (X : Xs K mg) (C : Calls K mg P w base k G) : DSs (cfOf K mg P w base N_is_choice sc_is_choice k) (defBody (top 35)) (s_is_choice G) := by
  unfold s_is_choice
  exact (dss_one (ds_ret (do_of (de_and (de_isi .tuple X.b_isinstance X.b_tuple (de_var 0)) (de_and (de_chain od_leI od_leI de_int (de_callB cd_len X.b_len (db_cons (de_var 0) db_nil)) (de_glob X.g_MOST_PAIRS)) (de_one (de_callB (cd_all rfl) X.b_all (db_cons (de_fz (do_lc (own := [("value", 1)]) rfl nd_is_choice (by show BlkOk N_is_choice sc_is_choice _ _; exact ⟨rfl, by decide +kernel, by decide +kernel, by decide +kernel, by decide +kernel⟩) (dp_seq (de_var 0)) (dg_name 1 nd_is_choice) dts_nil (de_fz (do_fn C.c_is_expression_0 (C.ar .is_expression) rfl (da_cons (de_var 1) da_nil))))) db_nil))))))))
theorem d_expression_names (X : Xs K mg) (C : Calls K mg P w base k G) : DSs (cfOf K mg P w base N_expression_names sc_expression_names k) (defBody (top 36)) (s_expression_names G) := by
  unfold s_expression_names
  exact (dss_cons (ds_if (dt_cmp od_eq (de_ix (de_var 0) de_int) de_str) (dss_one (ds_ret (do_lst da_nil))) dss_nil) (dss_cons (ds_if (dt_cmp od_eq (de_ix (de_var 0) de_int) de_str) (dss_one (ds_ret (do_lst (da_cons (de_ix (de_var 0) de_int) da_nil)))) dss_nil) (dss_one (ds_ret (do_of (de_op od_add (de_fz (do_fn C.c_expression_names_0 (C.ar .expression_names) rfl (da_cons (de_ix (de_var 0) de_int) da_nil))) (de_fz (do_fn C.c_expression_names_0 (C.ar .expression_names) rfl (da_cons (de_ix (de_var 0) de_int) da_nil)))))))))
theorem d_condition_names (X : Xs K mg) (C : Calls K mg P w base k G) : DSs (cfOf K mg P w base N_condition_names sc_condition_names k) (defBody (top 37)) (s_condition_names G) := by
  unfold s_condition_names
  exact (dss_cons (ds_if (dt_cmp od_eq (de_ix (de_var 0) de_int) de_str) (dss_one (ds_ret (do_lst da_nil))) dss_nil) (dss_cons (ds_if (dt_cmp od_eq (de_ix (de_var 0) de_int) de_str) (dss_one (ds_ret (do_fn C.c_condition_names_0 (C.ar .condition_names) rfl (da_cons (de_ix (de_var 0) de_int) da_nil)))) dss_nil) (dss_cons (ds_if (dt_cmp od_in (de_ix (de_var 0) de_int) (de_glob X.g_COMPARISONS)) (dss_one (ds_ret (do_of (de_op od_add (de_fz (do_fn C.c_expression_names_0 (C.ar .expression_names) rfl (da_cons (de_ix (de_var 0) de_int) da_nil))) (de_fz (do_fn C.c_expression_names_0 (C.ar .expression_names) rfl (da_cons (de_ix (de_var 0) de_int) da_nil))))))) dss_nil) (dss_one (ds_ret (do_of (de_op od_add (de_fz (do_fn C.c_condition_names_0 (C.ar .condition_names) rfl (da_cons (de_ix (de_var 0) de_int) da_nil))) (de_fz (do_fn C.c_condition_names_0 (C.ar .condition_names) rfl (da_cons (de_ix (de_var 0) de_int) da_nil))))))))))
theorem d_pairs_names (X : Xs K mg) (C : Calls K mg P w base k G) : DSs (cfOf K mg P w base N_pairs_names sc_pairs_names k) (defBody (top 38)) (s_pairs_names G) := by
  unfold s_pairs_names
  exact (dss_one (ds_ret (do_lc2 (own := [("pair", 1), ("name", 2)]) (vs1 := [2]) rfl nd_pairs_names (by show BlkOk N_pairs_names sc_pairs_names _ _; exact ⟨rfl, by decide +kernel, by decide +kernel, by decide +kernel, by decide +kernel⟩) (dp_seq (de_var 0)) (dg_name 1 nd_pairs_names) dts_nil (dp_seq (de_fz (do_fn C.c_expression_names_0 (C.ar .expression_names) rfl (da_cons (de_ix (de_var 1) de_int) da_nil)))) (dg_name 2 nd_pairs_names) dts_nil (de_var 2) (gno_nm 1))))
theorem d_is_statement_within (X : Xs K mg) (C : Calls K mg P w base k G) : DSs (cfOf K mg P w base N_is_statement_within sc_is_statement_within k) (defBody (top 39)) (s_is_statement_within G) := by
  unfold s_is_statement_within
  exact (dss_cons (ds_if (DW.dt (dw_or (dt_not (dt_truth (de_isi .tuple X.b_isinstance X.b_tuple (de_var 0)))) (dw_or (dt_cmp od_eq (de_callB cd_len X.b_len (db_cons (de_var 0) db_nil)) de_int) (dw_or1 (dt_not (dt_truth (de_isi .str X.b_isinstance X.b_str (de_ix (de_var 0) de_int)))))))) (dss_one (ds_ret (do_of de_bl))) dss_nil) (dss_cons (ds_if (dt_cmp od_eq (de_ix (de_var 0) de_int) de_str) (dss_one (ds_ret (do_of (de_and (de_cmp od_eq (de_callB cd_len X.b_len (db_cons (de_var 0) db_nil)) de_int) (de_one (de_fz (do_fn C.c_are_statements_0 (C.ar .are_statements) rfl (da_cons (de_ix (de_var 0) de_int) (da_cons (de_var 1) da_nil))))))))) dss_nil) (dss_cons (ds_if (dt_cmp od_ltI (de_var 1) de_int) (dss_one (ds_ret (do_of de_bl))) dss_nil) (dss_cons (ds_set 2 (do_of (de_ix (de_var 0) de_int)) nd_is_statement_within) (dss_cons (ds_if (dt_cmp od_eq (de_var 2) de_str) (dss_one (ds_ret (do_of (de_cmp od_eq (de_callB cd_len X.b_len (db_cons (de_var 0) db_nil)) de_int)))) dss_nil) (dss_cons (ds_if (dt_cmp od_eq (de_var 2) de_str) (dss_one (ds_ret (do_of (de_and (de_cmp od_eq (de_callB cd_len X.b_len (db_cons (de_var 0) db_nil)) de_int) (de_one (de_fz (do_fn C.c_is_condition_0 (C.ar .is_condition) rfl (da_cons (de_ix (de_var 0) de_int) da_nil)))))))) dss_nil) (dss_cons (ds_if (dt_cmp od_eq (de_var 2) de_str) (dss_cons (ds_set 3 (do_of (de_and (de_cmp od_eq (de_callB cd_len X.b_len (db_cons (de_var 0) db_nil)) de_int) (de_one (de_fz (do_fn C.c_is_condition_0 (C.ar .is_condition) rfl (da_cons (de_ix (de_var 0) de_int) da_nil)))))) nd_is_statement_within) (dss_one (ds_ret (do_of (de_and (de_var 3) (de_and (de_fz (do_fn C.c_is_statement_within_0 (C.ar .is_statement_within) rfl (da_cons (de_ix (de_var 0) de_int) (da_cons (de_op od_subI (de_var 1) de_int) da_nil)))) (de_one (de_fz (do_fn C.c_is_statement_within_0 (C.ar .is_statement_within) rfl (da_cons (de_ix (de_var 0) de_int) (da_cons (de_op od_subI (de_var 1) de_int) da_nil))))))))))) dss_nil) (dss_cons (ds_if (dt_cmp od_ne (de_callB cd_len X.b_len (db_cons (de_var 0) db_nil)) de_int) (dss_one (ds_ret (do_of de_bl))) dss_nil) (dss_cons (ds_if (dt_cmp od_eq (de_var 2) de_str) (dss_one (ds_ret (do_of (de_and (de_fz (do_fn C.c_is_condition_0 (C.ar .is_condition) rfl (da_cons (de_ix (de_var 0) de_int) da_nil))) (de_one (de_fz (do_fn C.c_is_statement_within_0 (C.ar .is_statement_within) rfl (da_cons (de_ix (de_var 0) de_int) (da_cons (de_op od_subI (de_var 1) de_int) da_nil))))))))) dss_nil) (dss_one (ds_ret (do_of (de_and (de_fz (do_fn C.c_is_name_0 (C.ar .is_name) rfl (da_cons (de_ix (de_var 0) de_int) da_nil))) (de_one (de_fz (do_fn C.c_is_act_0 (C.ar .is_act) rfl (da_cons (de_var 2) (da_cons (de_ix (de_var 0) de_int) da_nil))))))))))))))))))
theorem d_is_act (X : Xs K mg) (C : Calls K mg P w base k G) : DSs (cfOf K mg P w base N_is_act sc_is_act k) (defBody (top 40)) (s_is_act G) := by
  unfold s_is_act
  exact (dss_cons (ds_if (dt_cmp od_eq (de_var 0) de_str) (dss_one (ds_ret (do_fn C.c_is_expression_0 (C.ar .is_expression) rfl (da_cons (de_var 1) da_nil)))) dss_nil) (dss_cons (ds_if (dt_cmp od_eq (de_var 0) de_str) (dss_one (ds_ret (do_fn C.c_is_pairs_0 (C.ar .is_pairs) rfl (da_cons (de_var 1) da_nil)))) dss_nil) (dss_one (ds_ret (do_of (de_and (de_cmp od_eq (de_var 0) de_str) (de_one (de_fz (do_fn C.c_is_choice_0 (C.ar .is_choice) rfl (da_cons (de_var 1) da_nil))))))))))
theorem d_are_statements (X : Xs K mg) (C : Calls K mg P w base k G) : DSs (cfOf K mg P w base N_are_statements sc_are_statements k) (defBody (top 41)) (s_are_statements G) := by
  unfold s_are_statements
  exact (dss_cons (ds_if (DW.dt (dw_or (dt_not (dt_truth (de_isi .tuple X.b_isinstance X.b_tuple (de_var 0)))) (dw_or1 (dt_cmp od_ltI (de_callB cd_len X.b_len (db_cons (de_var 0) db_nil)) de_int)))) (dss_one (ds_ret (do_of de_bl))) dss_nil) (dss_cons (ds_for rfl (dp_seq (de_var 0)) (dg_name 2 nd_are_statements) (dss_one (ds_if (DW.dt (dw_or (dt_not (dt_truth (de_fz (do_fn C.c_is_statement_within_0 (C.ar .is_statement_within) rfl (da_cons (de_var 2) (da_cons (de_var 1) da_nil)))))) (dw_or1 (dt_cmp od_eq (de_ix (de_var 2) de_int) de_str)))) (dss_one (ds_ret (do_of de_bl))) dss_nil))) (dss_one (ds_ret (do_of de_bl)))))
theorem d_inner_of (X : Xs K mg) (C : Calls K mg P w base k G) : DSs (cfOf K mg P w base N_inner_of sc_inner_of k) (defBody (top 42)) (s_inner_of G) := by
  unfold s_inner_of
  exact (dss_cons (ds_if (dt_cmp od_eq (de_ix (de_var 0) de_int) de_str) (dss_one (ds_ret (do_callT co_list X.b_list (db_cons (de_ix (de_var 0) de_int) db_nil)))) dss_nil) (dss_one (ds_ret (do_of (de_if (dt_cmp od_in (de_ix (de_var 0) de_int) (de_tup (da_cons de_str (da_cons de_str da_nil)))) (de_callT cd_list X.b_list (db_cons (de_slice (de_var 0) (di_some de_int) di_none) db_nil)) (de_lst da_nil))))))
theorem d_statements_in (X : Xs K mg) (C : Calls K mg P w base k G) : DSs (cfOf K mg P w base N_statements_in sc_statements_in k) (defBody (top 43)) (s_statements_in G) := by
  unfold s_statements_in
  exact (dss_cons (ds_set 1 (do_lst (da_cons (de_var 0) da_nil)) nd_statements_in) (dss_cons (ds_for rfl (dp_seq (de_fz (do_fn C.c_inner_of_0 (C.ar .inner_of) rfl (da_cons (de_var 0) da_nil)))) (dg_name 2 nd_statements_in) (dss_one (ds_set 1 (do_of (de_op od_add (de_var 1) (de_fz (do_fn C.c_statements_in_0 (C.ar .statements_in) rfl (da_cons (de_var 2) da_nil))))) nd_statements_in))) (dss_one (ds_retV 1))))
theorem d_statement_size (X : Xs K mg) (C : Calls K mg P w base k G) : DSs (cfOf K mg P w base N_statement_size sc_statement_size k) (defBody (top 44)) (s_statement_size G) := by
  unfold s_statement_size
  exact (dss_one (ds_ret (do_of (de_callB cd_len X.b_len (db_cons (de_fz (do_lc (own := [("inner", 1)]) rfl nd_statement_size (by show BlkOk N_statement_size sc_statement_size _ _; exact ⟨rfl, by decide +kernel, by decide +kernel, by decide +kernel, by decide +kernel⟩) (dp_seq (de_fz (do_fn C.c_statements_in_0 (C.ar .statements_in) rfl (da_cons (de_var 0) da_nil)))) (dg_name 1 nd_statement_size) (dts_one (dt_cmp od_ne (de_ix (de_var 1) de_int) de_str)) (de_var 1))) db_nil)))))
theorem d_own_names (X : Xs K mg) (C : Calls K mg P w base k G) : DSs (cfOf K mg P w base N_own_names sc_own_names k) (defBody (top 45)) (s_own_names G) := by
  unfold s_own_names
  exact (dss_cons (ds_set 1 (do_of (de_ix (de_var 0) de_int)) nd_own_names) (dss_cons (ds_if (dt_cmp od_eq (de_var 1) de_str) (dss_one (ds_ret (do_of (de_op od_add (de_lst (da_cons (de_ix (de_var 0) de_int) da_nil)) (de_fz (do_fn C.c_expression_names_0 (C.ar .expression_names) rfl (da_cons (de_ix (de_var 0) de_int) da_nil))))))) dss_nil) (dss_cons (ds_if (dt_cmp od_eq (de_var 1) de_str) (dss_one (ds_ret (do_of (de_op od_add (de_lst (da_cons (de_ix (de_var 0) de_int) da_nil)) (de_fz (do_fn C.c_pairs_names_0 (C.ar .pairs_names) rfl (da_cons (de_ix (de_var 0) de_int) da_nil))))))) dss_nil) (dss_cons (ds_if (dt_cmp od_eq (de_var 1) de_str) (dss_one (ds_ret (do_of (de_op od_add (de_lst (da_cons (de_ix (de_var 0) de_int) da_nil)) (de_fz (do_lc2 (own := [("value", 2), ("name", 3)]) (vs1 := [3]) rfl nd_own_names (by show BlkOk N_own_names sc_own_names _ _; exact ⟨rfl, by decide +kernel, by decide +kernel, by decide +kernel, by decide +kernel⟩) (dp_seq (de_ix (de_var 0) de_int)) (dg_name 2 nd_own_names) dts_nil (dp_seq (de_fz (do_fn C.c_expression_names_0 (C.ar .expression_names) rfl (da_cons (de_var 2) da_nil)))) (dg_name 3 nd_own_names) dts_nil (de_var 3) (gno_nm 2))))))) dss_nil) (dss_cons (ds_if (dt_cmp od_in (de_var 1) (de_tup (da_cons de_str (da_cons de_str (da_cons de_str da_nil))))) (dss_one (ds_ret (do_fn C.c_condition_names_0 (C.ar .condition_names) rfl (da_cons (de_ix (de_var 0) de_int) da_nil)))) dss_nil) (dss_one (ds_ret (do_lst da_nil))))))))
theorem d_statement_names (X : Xs K mg) (C : Calls K mg P w base k G) : DSs (cfOf K mg P w base N_statement_names sc_statement_names k) (defBody (top 46)) (s_statement_names G) := by
  unfold s_statement_names
  exact (dss_one (ds_ret (do_lc2 (own := [("inner", 1), ("name", 2)]) (vs1 := [2]) rfl nd_statement_names (by show BlkOk N_statement_names sc_statement_names _ _; exact ⟨rfl, by decide +kernel, by decide +kernel, by decide +kernel, by decide +kernel⟩) (dp_seq (de_fz (do_fn C.c_statements_in_0 (C.ar .statements_in) rfl (da_cons (de_var 0) da_nil)))) (dg_name 1 nd_statement_names) dts_nil (dp_seq (de_fz (do_fn C.c_own_names_0 (C.ar .own_names) rfl (da_cons (de_var 1) da_nil)))) (dg_name 2 nd_statement_names) dts_nil (de_var 2) (gno_nm 1))))
theorem d_is_right (X : Xs K mg) (C : Calls K mg P w base k G) : DSs (cfOf K mg P w base N_is_right sc_is_right k) (defBody (top 47)) (s_is_right G) := by
  unfold s_is_right
  exact (dss_cons (ds_if (DW.dt (dw_or (dt_not (dt_truth (de_isi .tuple X.b_isinstance X.b_tuple (de_var 0)))) (dw_or (dt_cmp od_ne (de_callB cd_len X.b_len (db_cons (de_var 0) db_nil)) de_int) (dw_or1 (dt_not (dt_truth (de_fz (do_fn C.c_is_variables_0 (C.ar .is_variables) rfl (da_cons (de_ix (de_var 0) de_int) da_nil))))))))) (dss_one (ds_ret (do_of de_bl))) dss_nil) (dss_cons (ds_if (DW.dt (dw_or (dt_not (dt_truth (de_fz (do_fn C.c_is_statement_within_0 (C.ar .is_statement_within) rfl (da_cons (de_ix (de_var 0) de_int) (da_cons (de_glob X.g_MOST_WITHIN) da_nil)))))) (dw_or1 (dt_cmp od_gtI (de_fz (do_fn C.c_statement_size_0 (C.ar .statement_size) rfl (da_cons (de_ix (de_var 0) de_int) da_nil))) (de_glob X.g_MOST_STATEMENTS))))) (dss_one (ds_ret (do_of de_bl))) dss_nil) (dss_cons (ds_set 1 (do_of (de_fz (do_fn C.c_places_of_0 (C.ar .places_of) rfl (da_cons (de_ix (de_var 0) de_int) da_nil)))) nd_is_right) (dss_one (ds_ret (do_of (de_callB (cd_all rfl) X.b_all (db_cons (de_fz (do_lc (own := [("name", 2)]) rfl nd_is_right (by show BlkOk N_is_right sc_is_right _ _; exact ⟨rfl, by decide +kernel, by decide +kernel, by decide +kernel, by decide +kernel⟩) (dp_seq (de_fz (do_fn C.c_statement_names_0 (C.ar .statement_names) rfl (da_cons (de_ix (de_var 0) de_int) da_nil)))) (dg_name 2 nd_is_right) dts_nil (de_cmp od_in (de_var 2) (de_var 1)))) db_nil))))))))
theorem d_need_program (X : Xs K mg) (C : Calls K mg P w base k G) : DSs (cfOf K mg P w base N_need_program sc_need_program k) (defBody (top 48)) (s_need_program G) := by
  unfold s_need_program
  exact (dss_one (ds_if (dt_not (dt_truth (de_fz (do_fn C.c_is_right_0 (C.ar .is_right) rfl (da_cons (de_var 0) da_nil))))) (dss_one (ds_raise X.x_BadProgram rfl)) dss_nil))
theorem d_need_condition (X : Xs K mg) (C : Calls K mg P w base k G) : DSs (cfOf K mg P w base N_need_condition sc_need_condition k) (defBody (top 49)) (s_need_condition G) := by
  unfold s_need_condition
  exact (dss_one (ds_if (dt_not (dt_truth (de_fz (do_fn C.c_is_condition_0 (C.ar .is_condition) rfl (da_cons (de_var 0) da_nil))))) (dss_one (ds_raise X.x_BadCondition rfl)) dss_nil))
theorem d_need_condition_of (X : Xs K mg) (C : Calls K mg P w base k G) : DSs (cfOf K mg P w base N_need_condition_of sc_need_condition_of k) (defBody (top 50)) (s_need_condition_of G) := by
  unfold s_need_condition_of
  exact (dss_cons (ds_set 2 (do_of (de_fz (do_fn C.c_places_of_0 (C.ar .places_of) rfl (da_cons (de_var 0) da_nil)))) nd_need_condition_of) (dss_one (ds_if (dt_not (dt_truth (de_callB (cd_all rfl) X.b_all (db_cons (de_fz (do_lc (own := [("name", 3)]) rfl nd_need_condition_of (by show BlkOk N_need_condition_of sc_need_condition_of _ _; exact ⟨rfl, by decide +kernel, by decide +kernel, by decide +kernel, by decide +kernel⟩) (dp_seq (de_fz (do_fn C.c_condition_names_0 (C.ar .condition_names) rfl (da_cons (de_var 1) da_nil)))) (dg_name 3 nd_need_condition_of) dts_nil (de_cmp od_in (de_var 3) (de_var 2)))) db_nil)))) (dss_one (ds_raise X.x_BadCondition rfl)) dss_nil)))
theorem d_need_alike (X : Xs K mg) (C : Calls K mg P w base k G) : DSs (cfOf K mg P w base N_need_alike sc_need_alike k) (defBody (top 52)) (s_need_alike G) := by
  unfold s_need_alike
  exact (dss_one (ds_if (dt_cmp od_ne (de_ix (de_var 0) de_int) (de_ix (de_var 1) de_int)) (dss_one (ds_raise X.x_NotAlike rfl)) dss_nil))
theorem d_parts_of (X : Xs K mg) (C : Calls K mg P w base k G) : DSs (cfOf K mg P w base N_parts_of sc_parts_of k) (defBody (top 53)) (s_parts_of G) := by
  unfold s_parts_of
  exact (dss_one (ds_ret (do_of (de_if (dt_cmp od_eq (de_ix (de_var 0) de_int) de_str) (de_ix (de_var 0) de_int) (de_tup (da_cons (de_var 0) da_nil))))))
theorem d_whole (X : Xs K mg) (C : Calls K mg P w base k G) : DSs (cfOf K mg P w base N_whole sc_whole k) (defBody (top 54)) (s_whole G) := by
  unfold s_whole
  exact (dss_cons (ds_expr (de_fz (do_fn C.c_need_program_0 (C.ar .need_program) rfl (da_cons (de_tup (da_cons (de_var 0) (da_cons (de_var 1) da_nil))) da_nil)))) (dss_one (ds_ret (do_of (de_tup (da_cons (de_var 0) (da_cons (de_var 1) da_nil)))))))
theorem d_then (X : Xs K mg) (C : Calls K mg P w base k G) : DSs (cfOf K mg P w base N_then sc_then k) (defBody (top 55)) (s_then G) := by
  unfold s_then
  exact (dss_cons (ds_expr (de_fz (do_fn C.c_need_program_0 (C.ar .need_program) rfl (da_cons (de_var 0) da_nil)))) (dss_cons (ds_expr (de_fz (do_fn C.c_need_program_0 (C.ar .need_program) rfl (da_cons (de_var 1) da_nil)))) (dss_cons (ds_expr (de_fz (do_fn C.c_need_alike_0 (C.ar .need_alike) rfl (da_cons (de_var 0) (da_cons (de_var 1) da_nil))))) (dss_one (ds_ret (do_fn C.c_whole_0 (C.ar .whole) rfl (da_cons (de_ix (de_var 0) de_int) (da_cons (de_tup (da_cons de_str (da_cons (de_op od_add (de_fz (do_fn C.c_parts_of_0 (C.ar .parts_of) rfl (da_cons (de_ix (de_var 0) de_int) da_nil))) (de_fz (do_fn C.c_parts_of_0 (C.ar .parts_of) rfl (da_cons (de_ix (de_var 1) de_int) da_nil)))) da_nil))) da_nil))))))))
theorem d_either (X : Xs K mg) (C : Calls K mg P w base k G) : DSs (cfOf K mg P w base N_either sc_either k) (defBody (top 56)) (s_either G) := by
  unfold s_either
  exact (dss_cons (ds_expr (de_fz (do_fn C.c_need_condition_0 (C.ar .need_condition) rfl (da_cons (de_var 0) da_nil)))) (dss_cons (ds_expr (de_fz (do_fn C.c_need_program_0 (C.ar .need_program) rfl (da_cons (de_var 1) da_nil)))) (dss_cons (ds_expr (de_fz (do_fn C.c_need_program_0 (C.ar .need_program) rfl (da_cons (de_var 2) da_nil)))) (dss_cons (ds_expr (de_fz (do_fn C.c_need_condition_of_0 (C.ar .need_condition_of) rfl (da_cons (de_ix (de_var 1) de_int) (da_cons (de_var 0) da_nil))))) (dss_cons (ds_expr (de_fz (do_fn C.c_need_alike_0 (C.ar .need_alike) rfl (da_cons (de_var 1) (da_cons (de_var 2) da_nil))))) (dss_one (ds_ret (do_fn C.c_whole_0 (C.ar .whole) rfl (da_cons (de_ix (de_var 1) de_int) (da_cons (de_tup (da_cons de_str (da_cons (de_var 0) (da_cons (de_ix (de_var 1) de_int) (da_cons (de_ix (de_var 2) de_int) da_nil))))) da_nil))))))))))
theorem d_around (X : Xs K mg) (C : Calls K mg P w base k G) : DSs (cfOf K mg P w base N_around sc_around k) (defBody (top 57)) (s_around G) := by
  unfold s_around
  exact (dss_cons (ds_expr (de_fz (do_fn C.c_need_condition_0 (C.ar .need_condition) rfl (da_cons (de_var 0) da_nil)))) (dss_cons (ds_expr (de_fz (do_fn C.c_need_program_0 (C.ar .need_program) rfl (da_cons (de_var 1) da_nil)))) (dss_cons (ds_expr (de_fz (do_fn C.c_need_condition_of_0 (C.ar .need_condition_of) rfl (da_cons (de_ix (de_var 1) de_int) (da_cons (de_var 0) da_nil))))) (dss_one (ds_ret (do_fn C.c_whole_0 (C.ar .whole) rfl (da_cons (de_ix (de_var 1) de_int) (da_cons (de_tup (da_cons de_str (da_cons (de_var 0) (da_cons (de_ix (de_var 1) de_int) da_nil)))) da_nil))))))))
theorem d__law_bag (X : Xs K mg) (C : Calls K mg P w base k G) : DSs (cfOf K mg P w base N__law_bag sc__law_bag k) (defBody (top 59)) (s__law_bag G) := by
  unfold s__law_bag
  exact (dss_cons (ds_set 2 (do_of (de_op od_modI (de_callT cd_int X.b_int (db_cons (de_callB (cd_sum rfl) X.b_sum (db_cons (de_slice (de_var 0) di_none (di_some de_int)) db_nil)) db_nil)) de_int)) nd__law_bag) (dss_cons (ds_if (dt_cmp od_ltI (de_var 1) (de_callB cd_len X.b_len (db_cons (de_var 0) db_nil))) (dss_one (ds_set 2 (do_of (de_ix (de_var 0) (de_var 1))) nd__law_bag)) dss_nil) (dss_one (ds_ret (do_lst (da_cons (de_callB (cd_max rfl) X.b_max (db_cons de_int (db_cons (de_op od_subI (de_var 2) (de_op od_powI de_int de_int)) db_nil))) (da_cons (de_op od_modI (de_callT cd_int X.b_int (db_cons (de_var 2) db_nil)) (de_op od_add (de_op od_powI de_int de_int) de_int)) (da_cons (de_op od_mul de_int (de_var 1)) da_nil))))))))
theorem d__law_take (X : Xs K mg) (C : Calls K mg P w base k G) : DSs (cfOf K mg P w base N__law_take sc__law_take k) (defBody (top 60)) (s__law_take G) := by
  unfold s__law_take
  exact (dss_cons (ds_if (dt_cmp od_gtI (de_ix (de_var 0) de_int) de_int) (dss_cons (ds_set 2 (do_of (de_op od_modI (de_callT cd_int X.b_int (db_cons (de_ix (de_var 0) de_int) db_nil)) (de_var 1))) nd__law_take) (dss_cons (ds_put 0 (de_op od_divI (de_ix (de_var 0) de_int) (de_var 1)) de_int) (dss_one (ds_retV 2)))) dss_nil) (dss_cons (ds_put 0 (de_op od_add (de_ix (de_var 0) de_int) de_int) de_int) (dss_cons (ds_set 3 (do_of (de_op od_add (de_op od_mul (de_op od_add (de_ix (de_var 0) de_int) de_int) (de_op od_add (de_op od_mul de_int (de_ix (de_var 0) de_int)) de_int)) (de_op od_mul (de_op od_mul de_int (de_ix (de_var 0) de_int)) (de_ix (de_var 0) de_int)))) nd__law_take) (dss_cons (ds_set 3 (do_of (de_op od_modI (de_callT cd_int X.b_int (db_cons (de_op od_mul (de_var 3) (de_var 3)) db_nil)) (de_op od_add (de_op od_powI de_int de_int) de_int))) nd__law_take) (dss_cons (ds_set 3 (do_of (de_op od_modI (de_callT cd_int X.b_int (db_cons (de_op od_mul (de_var 3) (de_op od_add (de_var 3) de_int)) db_nil)) (de_op od_add (de_op od_powI de_int de_int) de_int))) nd__law_take) (dss_one (ds_ret (do_of (de_op od_modI (de_callT cd_int X.b_int (db_cons (de_op od_divI (de_var 3) de_int) db_nil)) (de_var 1))))))))))
theorem d__law_pick (X : Xs K mg) (C : Calls K mg P w base k G) : DSs (cfOf K mg P w base N__law_pick sc__law_pick k) (defBody (top 61)) (s__law_pick G) := by
  unfold s__law_pick
  exact (dss_one (ds_ret (do_of (de_ix (de_var 1) (de_fz (do_fn C.c__law_take_0 (C.ar ._law_take) rfl (da_cons (de_var 0) (da_cons (de_callB cd_len X.b_len (db_cons (de_var 1) db_nil)) da_nil))))))))
theorem d__law_variables (X : Xs K mg) (C : Calls K mg P w base k G) : DSs (cfOf K mg P w base N__law_variables sc__law_variables k) (defBody (top 62)) (s__law_variables G) := by
  unfold s__law_variables
  exact (dss_cons (ds_set 1 (do_of (de_fz (do_fn C.c__law_pick_0 (C.ar ._law_pick) rfl (da_cons (de_var 0) (da_cons (de_lst (da_cons (de_tup (da_cons de_int da_nil)) (da_cons (de_tup (da_cons de_int da_nil)) (da_cons (de_tup (da_cons de_int da_nil)) (da_cons (de_tup (da_cons de_int (da_cons de_int da_nil))) (da_cons (de_tup (da_cons de_int (da_cons de_int da_nil))) (da_cons (de_tup (da_cons de_int (da_cons de_int da_nil))) (da_cons (de_tup (da_cons de_int (da_cons de_int da_nil))) (da_cons (de_tup (da_cons de_int (da_cons de_int (da_cons de_int da_nil)))) (da_cons (de_tup (da_cons de_int (da_cons de_int (da_cons de_int da_nil)))) (da_cons (de_tup (da_cons de_int (da_cons de_int (da_cons de_int (da_cons de_int da_nil))))) (da_cons (de_tup (da_cons de_int da_nil)) (da_cons (de_tup (da_cons de_int da_nil)) (da_cons (de_tup (da_cons de_int (da_cons de_int (da_cons de_int (da_cons de_int da_nil))))) (da_cons (de_tup (da_cons de_int (da_cons de_int (da_cons de_int da_nil)))) da_nil))))))))))))))) da_nil))))) nd__law_variables) (dss_cons (ds_set 2 (do_of (de_lst (da_cons de_str (da_cons de_str (da_cons de_str (da_cons de_str (da_cons de_str (da_cons de_str (da_cons de_str (da_cons de_str (da_cons de_str (da_cons de_str (da_cons de_str da_nil))))))))))))) nd__law_variables) (dss_cons (ds_set 3 (do_of (de_fz (do_fn C.c__law_take_0 (C.ar ._law_take) rfl (da_cons (de_var 0) (da_cons de_int da_nil))))) nd__law_variables) (dss_one (ds_ret (do_of (de_callT cd_tuple X.b_tuple (db_cons (de_fz (do_lc (own := [("_law_k", 4)]) rfl nd__law_variables (by show BlkOk N__law_variables sc__law_variables _ _; exact ⟨rfl, by decide +kernel, by decide +kernel, by decide +kernel, by decide +kernel⟩) (dp_range1 X.b_range (db_cons (de_callB cd_len X.b_len (db_cons (de_var 1) db_nil)) db_nil)) (dg_name 4 nd__law_variables) dts_nil (de_tup (da_cons (de_ix (de_var 2) (de_op od_modI (de_callT cd_int X.b_int (db_cons (de_op od_add (de_var 3) (de_op od_mul de_int (de_var 4))) db_nil)) de_int)) (da_cons (de_ix (de_var 1) (de_var 4)) da_nil))))) db_nil))))))))
theorem d__law_expression (X : Xs K mg) (C : Calls K mg P w base k G) : DSs (cfOf K mg P w base N__law_expression sc__law_expression k) (defBody (top 63)) (s__law_expression G) := by
  unfold s__law_expression
  exact (dss_cons (ds_put 3 (de_op od_subI (de_ix (de_var 3) de_int) de_int) de_int) (dss_cons (ds_set 4 (do_of (de_if (DW.dt (dw_and (dt_cmp od_gtI (de_var 2) de_int) (dw_and1 (dt_cmp od_gtI (de_ix (de_var 3) de_int) de_int)))) (de_fz (do_fn C.c__law_take_0 (C.ar ._law_take) rfl (da_cons (de_var 0) (da_cons de_int da_nil)))) (de_fz (do_fn C.c__law_take_0 (C.ar ._law_take) rfl (da_cons (de_var 0) (da_cons de_int da_nil)))))) nd__law_expression) (dss_cons (ds_if (dt_cmp od_ltI (de_var 4) de_int) (dss_one (ds_ret (do_of (de_tup (da_cons de_str (da_cons (de_fz (do_fn C.c__law_take_0 (C.ar ._law_take) rfl (da_cons (de_var 0) (da_cons (de_fz (do_fn C.c__law_pick_0 (C.ar ._law_pick) rfl (da_cons (de_var 0) (da_cons (de_lst (da_cons de_int (da_cons de_int (da_cons de_int da_nil)))) da_nil)))) da_nil)))) da_nil)))))) dss_nil) (dss_cons (ds_if (dt_cmp od_ltI (de_var 4) de_int) (dss_one (ds_ret (do_of (de_tup (da_cons de_str (da_cons (de_fz (do_fn C.c__law_pick_0 (C.ar ._law_pick) rfl (da_cons (de_var 0) (da_cons (de_var 1) da_nil)))) da_nil)))))) dss_nil) (dss_cons (ds_set 5 (do_of (de_fz (do_fn C.c__law_expression_0 (C.ar ._law_expression) rfl (da_cons (de_var 0) (da_cons (de_var 1) (da_cons (de_op od_subI (de_var 2) de_int) (da_cons (de_var 3) da_nil))))))) nd__law_expression) (dss_cons (ds_set 6 (do_of (de_fz (do_fn C.c__law_expression_0 (C.ar ._law_expression) rfl (da_cons (de_var 0) (da_cons (de_var 1) (da_cons (de_op od_subI (de_var 2) de_int) (da_cons (de_var 3) da_nil))))))) nd__law_expression) (dss_one (ds_ret (do_of (de_tup (da_cons (de_ix (de_lst (da_cons de_str (da_cons de_str (da_cons de_str (da_cons de_str (da_cons de_str da_nil)))))) (de_op od_subI (de_var 4) de_int)) (da_cons (de_var 5) (da_cons (de_var 6) da_nil)))))))))))))
theorem d__law_condition (X : Xs K mg) (C : Calls K mg P w base k G) : DSs (cfOf K mg P w base N__law_condition sc__law_condition k) (defBody (top 64)) (s__law_condition G) := by
  unfold s__law_condition
  exact (dss_cons (ds_put 3 (de_op od_subI (de_ix (de_var 3) de_int) de_int) de_int) (dss_cons (ds_set 4 (do_of (de_if (DW.dt (dw_and (dt_cmp od_gtI (de_var 2) de_int) (dw_and1 (dt_cmp od_gtI (de_ix (de_var 3) de_int) de_int)))) (de_fz (do_fn C.c__law_take_0 (C.ar ._law_take) rfl (da_cons (de_var 0) (da_cons de_int da_nil)))) (de_fz (do_fn C.c__law_take_0 (C.ar ._law_take) rfl (da_cons (de_var 0) (da_cons de_int da_nil)))))) nd__law_condition) (dss_cons (ds_if (dt_cmp od_eq (de_var 4) de_int) (dss_one (ds_ret (do_of (de_tup (da_cons de_str da_nil))))) dss_nil) (dss_cons (ds_if (dt_cmp od_ltI (de_var 4) de_int) (dss_cons (ds_set 5 (do_of (de_fz (do_fn C.c__law_expression_0 (C.ar ._law_expression) rfl (da_cons (de_var 0) (da_cons (de_var 1) (da_cons (de_callB (cd_min rfl) X.b_min (db_cons de_int (db_cons (de_op od_subI (de_var 2) de_int) db_nil))) (da_cons (de_var 3) da_nil))))))) nd__law_condition) (dss_cons (ds_set 6 (do_of (de_fz (do_fn C.c__law_expression_0 (C.ar ._law_expression) rfl (da_cons (de_var 0) (da_cons (de_var 1) (da_cons (de_callB (cd_min rfl) X.b_min (db_cons de_int (db_cons (de_op od_subI (de_var 2) de_int) db_nil))) (da_cons (de_var 3) da_nil))))))) nd__law_condition) (dss_one (ds_ret (do_of (de_tup (da_cons (de_if (dt_cmp od_ltI (de_var 4) de_int) de_str de_str) (da_cons (de_var 5) (da_cons (de_var 6) da_nil))))))))) dss_nil) (dss_cons (ds_if (dt_cmp od_eq (de_var 4) de_int) (dss_one (ds_ret (do_of (de_tup (da_cons de_str (da_cons (de_fz (do_fn C.c__law_condition_0 (C.ar ._law_condition) rfl (da_cons (de_var 0) (da_cons (de_var 1) (da_cons (de_op od_subI (de_var 2) de_int) (da_cons (de_var 3) da_nil)))))) da_nil)))))) dss_nil) (dss_cons (ds_set 5 (do_of (de_fz (do_fn C.c__law_condition_0 (C.ar ._law_condition) rfl (da_cons (de_var 0) (da_cons (de_var 1) (da_cons (de_op od_subI (de_var 2) de_int) (da_cons (de_var 3) da_nil))))))) nd__law_condition) (dss_one (ds_ret (do_of (de_tup (da_cons (de_ix (de_lst (da_cons de_str (da_cons de_str (da_cons de_str da_nil)))) (de_op od_subI (de_var 4) de_int)) (da_cons (de_var 5) (da_cons (de_fz (do_fn C.c__law_condition_0 (C.ar ._law_condition) rfl (da_cons (de_var 0) (da_cons (de_var 1) (da_cons (de_op od_subI (de_var 2) de_int) (da_cons (de_var 3) da_nil)))))) da_nil)))))))))))))
theorem d__law_statement (X : Xs K mg) (C : Calls K mg P w base k G) : DSs (cfOf K mg P w base N__law_statement sc__law_statement k) (defBody (top 65)) (s__law_statement G) := by
  unfold s__law_statement
  exact (dss_cons (ds_put 3 (de_op od_subI (de_ix (de_var 3) de_int) de_int) de_int) (dss_cons (ds_set 5 (do_of (de_if (DW.dt (dw_and (dt_cmp od_gtI (de_var 4) de_int) (dw_and1 (dt_cmp od_gtI (de_ix (de_var 3) de_int) de_int)))) (de_fz (do_fn C.c__law_take_0 (C.ar ._law_take) rfl (da_cons (de_var 0) (da_cons de_int da_nil)))) (de_fz (do_fn C.c__law_take_0 (C.ar ._law_take) rfl (da_cons (de_var 0) (da_cons de_int da_nil)))))) nd__law_statement) (dss_cons (ds_set 6 (do_of (de_fz (do_fn C.c__law_pick_0 (C.ar ._law_pick) rfl (da_cons (de_var 0) (da_cons (de_var 1) da_nil))))) nd__law_statement) (dss_cons (ds_if (dt_cmp od_eq (de_var 5) de_int) (dss_one (ds_ret (do_of (de_tup (da_cons de_str da_nil))))) dss_nil) (dss_cons (ds_if (dt_cmp od_ltI (de_var 5) de_int) (dss_one (ds_ret (do_of (de_tup (da_cons de_str (da_cons (de_var 6) (da_cons (de_fz (do_fn C.c__law_expression_0 (C.ar ._law_expression) rfl (da_cons (de_var 0) (da_cons (de_var 1) (da_cons de_int (da_cons (de_var 2) da_nil)))))) da_nil))))))) dss_nil) (dss_cons (ds_if (dt_cmp od_ltI (de_var 5) de_int) (dss_cons (ds_set 7 (do_of (de_op od_add de_int (de_fz (do_fn C.c__law_take_0 (C.ar ._law_take) rfl (da_cons (de_var 0) (da_cons (de_fz (do_fn C.c__law_pick_0 (C.ar ._law_pick) rfl (da_cons (de_var 0) (da_cons (de_lst (da_cons de_int (da_cons de_int (da_cons de_int da_nil)))) da_nil)))) da_nil)))))) nd__law_statement) (dss_cons (ds_setLc 8 (own := [("_law_turn", 11)]) rfl nd__law_statement (by show BlkOk N__law_statement sc__law_statement _ _; exact ⟨rfl, by decide +kernel, by decide +kernel, by decide +kernel, by decide +kernel⟩) (dp_range1 X.b_range (db_cons (de_var 7) db_nil)) (dg_name 11 nd__law_statement) dts_nil (de_op od_add de_int (de_fz (do_fn C.c__law_take_0 (C.ar ._law_take) rfl (da_cons (de_var 0) (da_cons (de_fz (do_fn C.c__law_pick_0 (C.ar ._law_pick) rfl (da_cons (de_var 0) (da_cons (de_lst (da_cons de_int (da_cons de_int (da_cons de_int da_nil)))) da_nil)))) da_nil))))) rfl rfl rfl rfl) (dss_fz 8 (dss_one (ds_ret (do_of (de_tup (da_cons de_str (da_cons (de_var 6) (da_cons (de_callT cd_tuple X.b_tuple (db_cons (de_fz (do_lc (own := [("_law_weight", 12)]) rfl nd__law_statement (by show BlkOk N__law_statement sc__law_statement _ _; exact ⟨rfl, by decide +kernel, by decide +kernel, by decide +kernel, by decide +kernel⟩) (dp_seq (de_var 8)) (dg_name 12 nd__law_statement) dts_nil (de_tup (da_cons (de_fz (do_fn C.c__law_expression_0 (C.ar ._law_expression) rfl (da_cons (de_var 0) (da_cons (de_var 1) (da_cons de_int (da_cons (de_var 2) da_nil)))))) (da_cons (de_var 12) da_nil))))) db_nil)) da_nil)))))))))) dss_nil) (dss_cons (ds_if (dt_cmp od_eq (de_var 5) de_int) (dss_cons (ds_set 7 (do_of (de_op od_add de_int (de_fz (do_fn C.c__law_take_0 (C.ar ._law_take) rfl (da_cons (de_var 0) (da_cons de_int da_nil)))))) nd__law_statement) (dss_one (ds_ret (do_of (de_tup (da_cons de_str (da_cons (de_var 6) (da_cons (de_callT cd_tuple X.b_tuple (db_cons (de_fz (do_lc (own := [("_law_turn", 11)]) rfl nd__law_statement (by show BlkOk N__law_statement sc__law_statement _ _; exact ⟨rfl, by decide +kernel, by decide +kernel, by decide +kernel, by decide +kernel⟩) (dp_range1 X.b_range (db_cons (de_var 7) db_nil)) (dg_name 11 nd__law_statement) dts_nil (de_fz (do_fn C.c__law_expression_0 (C.ar ._law_expression) rfl (da_cons (de_var 0) (da_cons (de_var 1) (da_cons de_int (da_cons (de_var 2) da_nil)))))))) db_nil)) da_nil)))))))) dss_nil) (dss_cons (ds_if (dt_cmp od_eq (de_var 5) de_int) (dss_one (ds_ret (do_of (de_tup (da_cons de_str (da_cons (de_fz (do_fn C.c__law_condition_0 (C.ar ._law_condition) rfl (da_cons (de_var 0) (da_cons (de_var 1) (da_cons de_int (da_cons (de_var 2) da_nil)))))) da_nil)))))) dss_nil) (dss_cons (ds_set 9 (do_of (de_fz (do_fn C.c__law_condition_0 (C.ar ._law_condition) rfl (da_cons (de_var 0) (da_cons (de_var 1) (da_cons de_int (da_cons (de_var 2) da_nil))))))) nd__law_statement) (dss_cons (ds_set 10 (do_of (de_fz (do_fn C.c__law_statements_0 (C.ar ._law_statements) rfl (da_cons (de_var 0) (da_cons (de_var 1) (da_cons (de_var 2) (da_cons (de_var 3) (da_cons (de_op od_subI (de_var 4) de_int) da_nil)))))))) nd__law_statement) (dss_cons (ds_if (dt_cmp od_eq (de_var 5) de_int) (dss_one (ds_ret (do_of (de_tup (da_cons de_str (da_cons (de_var 9) (da_cons (de_var 10) da_nil))))))) dss_nil) (dss_one (ds_ret (do_of (de_tup (da_cons de_str (da_cons (de_var 9) (da_cons (de_var 10) (da_cons (de_fz (do_fn C.c__law_statements_0 (C.ar ._law_statements) rfl (da_cons (de_var 0) (da_cons (de_var 1) (da_cons (de_var 2) (da_cons (de_var 3) (da_cons (de_op od_subI (de_var 4) de_int) da_nil))))))) da_nil)))))))))))))))))))
theorem d__law_statements (X : Xs K mg) (C : Calls K mg P w base k G) : DSs (cfOf K mg P w base N__law_statements sc__law_statements k) (defBody (top 66)) (s__law_statements G) := by
  unfold s__law_statements
  exact (dss_cons (ds_set 5 (do_lst (da_cons (de_fz (do_fn C.c__law_statement_0 (C.ar ._law_statement) rfl (da_cons (de_var 0) (da_cons (de_var 1) (da_cons (de_var 2) (da_cons (de_var 3) (da_cons (de_var 4) da_nil))))))) da_nil)) nd__law_statements) (dss_cons (ds_for rfl (dp_range1 X.b_range (db_cons (de_fz (do_fn C.c__law_take_0 (C.ar ._law_take) rfl (da_cons (de_var 0) (da_cons de_int da_nil)))) db_nil)) (dg_name 6 nd__law_statements) (dss_one (ds_if (dt_cmp od_gtI (de_ix (de_var 3) de_int) de_int) (dss_one (ds_append 5 (de_fz (do_fn C.c__law_statement_0 (C.ar ._law_statement) rfl (da_cons (de_var 0) (da_cons (de_var 1) (da_cons (de_var 2) (da_cons (de_var 3) (da_cons (de_var 4) da_nil))))))))) dss_nil))) (dss_one (ds_ret (do_of (de_if (dt_cmp od_eq (de_callB cd_len X.b_len (db_cons (de_var 5) db_nil)) de_int) (de_ix (de_var 5) de_int) (de_tup (da_cons de_str (da_cons (de_callT cd_tuple X.b_tuple (db_cons (de_var 5) db_nil)) da_nil)))))))))
theorem d__law_program (X : Xs K mg) (C : Calls K mg P w base k G) : DSs (cfOf K mg P w base N__law_program sc__law_program k) (defBody (top 67)) (s__law_program G) := by
  unfold s__law_program
  exact (dss_cons (ds_set 1 (do_of (de_fz (do_fn C.c__law_variables_0 (C.ar ._law_variables) rfl (da_cons (de_var 0) da_nil)))) nd__law_program) (dss_cons (ds_setLc 2 (own := [("_law_name", 4), ("_law_size", 5)]) rfl nd__law_program (by show BlkOk N__law_program sc__law_program _ _; exact ⟨rfl, by decide +kernel, by decide +kernel, by decide +kernel, by decide +kernel⟩) (dp_seq (de_var 1)) (dg_tup rfl (dgs_cons (dg_name 4 nd__law_program) (dgs_cons (dg_name 5 nd__law_program) dgs_nil)) (gs_lenS (gs_lenS gs_len0))) dts_nil (de_var 4) rfl rfl rfl rfl) (dss_fz 2 (dss_cons (ds_set 3 (do_of (de_cel (do_lst (da_cons (de_fz (do_fn C.c__law_pick_0 (C.ar ._law_pick) rfl (da_cons (de_var 0) (da_cons (de_lst (da_cons de_int (da_cons de_int (da_cons de_int (da_cons de_int da_nil))))) da_nil)))) da_nil)))) nd__law_program) (dss_one (ds_ret (do_of (de_tup (da_cons (de_var 1) (da_cons (de_fz (do_fn C.c__law_statements_0 (C.ar ._law_statements) rfl (da_cons (de_var 0) (da_cons (de_var 2) (da_cons (de_cel (do_lst (da_cons de_int da_nil))) (da_cons (de_var 3) (da_cons (de_fz (do_fn C.c__law_pick_0 (C.ar ._law_pick) rfl (da_cons (de_var 0) (da_cons (de_lst (da_cons de_int (da_cons de_int (da_cons de_int da_nil)))) da_nil)))) da_nil))))))) da_nil))))))))))
theorem d__law_many (X : Xs K mg) (C : Calls K mg P w base k G) : DSs (cfOf K mg P w base N__law_many sc__law_many k) (defBody (top 68)) (s__law_many G) := by
  unfold s__law_many
  exact (dss_cons (ds_if (dt_cmp od_eq (de_ix (de_var 0) de_int) de_str) (dss_cons (ds_setLc 1 (own := [("_law_inner", 2)]) rfl nd__law_many (by show BlkOk N__law_many sc__law_many _ _; exact ⟨rfl, by decide +kernel, by decide +kernel, by decide +kernel, by decide +kernel⟩) (dp_seq (de_ix (de_var 0) de_int)) (dg_name 2 nd__law_many) dts_nil (de_fz (do_fn C.c__law_many_0 (C.ar ._law_many) rfl (da_cons (de_var 2) da_nil))) rfl rfl rfl rfl) (dss_fz 1 (dss_one (ds_ret (do_of (de_tup (da_cons (de_callB (cd_sum rfl) X.b_sum (db_cons (de_fz (do_lc (own := [("_law_row", 3)]) rfl nd__law_many (by show BlkOk N__law_many sc__law_many _ _; exact ⟨rfl, by decide +kernel, by decide +kernel, by decide +kernel, by decide +kernel⟩) (dp_seq (de_var 1)) (dg_name 3 nd__law_many) dts_nil (de_ix (de_var 3) de_int))) db_nil)) (da_cons (de_callB (cd_max rfl) X.b_max (db_cons (de_fz (do_lc (own := [("_law_row", 3)]) rfl nd__law_many (by show BlkOk N__law_many sc__law_many _ _; exact ⟨rfl, by decide +kernel, by decide +kernel, by decide +kernel, by decide +kernel⟩) (dp_seq (de_var 1)) (dg_name 3 nd__law_many) dts_nil (de_ix (de_var 3) de_int))) db_nil)) da_nil)))))))) dss_nil) (dss_cons (ds_set 1 (do_of (de_if (dt_cmp od_in (de_ix (de_var 0) de_int) (de_tup (da_cons de_str (da_cons de_str da_nil)))) (de_fz (do_lc (own := [("_law_inner", 2)]) rfl nd__law_many (by show BlkOk N__law_many sc__law_many _ _; exact ⟨rfl, by decide +kernel, by decide +kernel, by decide +kernel, by decide +kernel⟩) (dp_seq (de_slice (de_var 0) (di_some de_int) di_none)) (dg_name 2 nd__law_many) dts_nil (de_fz (do_fn C.c__law_many_0 (C.ar ._law_many) rfl (da_cons (de_var 2) da_nil))))) (de_lst (da_cons (de_tup (da_cons de_int (da_cons de_int da_nil))) da_nil)))) nd__law_many) (dss_one (ds_ret (do_of (de_tup (da_cons (de_op od_add de_int (de_callB (cd_sum rfl) X.b_sum (db_cons (de_fz (do_lc (own := [("_law_row", 3)]) rfl nd__law_many (by show BlkOk N__law_many sc__law_many _ _; exact ⟨rfl, by decide +kernel, by decide +kernel, by decide +kernel, by decide +kernel⟩) (dp_seq (de_var 1)) (dg_name 3 nd__law_many) dts_nil (de_ix (de_var 3) de_int))) db_nil))) (da_cons (de_op od_add de_int (de_callB (cd_max rfl) X.b_max (db_cons (de_fz (do_lc (own := [("_law_row", 3)]) rfl nd__law_many (by show BlkOk N__law_many sc__law_many _ _; exact ⟨rfl, by decide +kernel, by decide +kernel, by decide +kernel, by decide +kernel⟩) (dp_seq (de_var 1)) (dg_name 3 nd__law_many) dts_nil (de_ix (de_var 3) de_int))) db_nil))) da_nil))))))))
theorem d__law_parts (X : Xs K mg) (C : Calls K mg P w base k G) : DSs (cfOf K mg P w base N__law_parts sc__law_parts k) (defBody (top 69)) (s__law_parts G) := by
  unfold s__law_parts
  exact (dss_one (ds_ret (do_of (de_if (dt_cmp od_eq (de_ix (de_var 0) de_int) de_str) (de_ix (de_var 0) de_int) (de_tup (da_cons (de_var 0) da_nil))))))
theorem d__law_told (X : Xs K mg) (C : Calls K mg P w base k G) : DSs (cfOf K mg P w base N__law_told sc__law_told k) (defBody (top 70)) (s__law_told G) := by
  unfold s__law_told
  exact (dss_cons (ds_set 4 (do_of de_non) nd__law_told) (dss_cons (ds_try X.mt rfl rfl (dss_one (ds_if (dt_cmp od_eq (de_var 0) de_int) (dss_one (ds_set 4 (do_defK C.k_then_1_0 rfl (dk_cons (de_var 3) (dk_cons (de_var 2) dk_nil))) nd__law_told)) (dss_one (ds_if (dt_cmp od_eq (de_var 0) de_int) (dss_one (ds_set 4 (do_defK C.k_either_2_0_1 rfl (dk_cons (de_var 2) (dk_cons (de_var 3) (dk_cons (de_var 1) dk_nil)))) nd__law_told)) (dss_one (ds_set 4 (do_defK C.k_around_1_0 rfl (dk_cons (de_var 2) (dk_cons (de_var 1) dk_nil))) nd__law_told)))))) (DHs.cons X.h_BadProgram rfl (by decide) (dss_one (ds_set 4 (do_of de_str) nd__law_told)) (DHs.cons X.h_BadCondition rfl (by decide) (dss_one (ds_set 4 (do_of de_str) nd__law_told)) (DHs.cons X.h_NotAlike rfl (by decide) (dss_one (ds_set 4 (do_of de_str) nd__law_told)) DHs.nil)))) (dss_one (ds_retV 4))))
theorem d__law_other (X : Xs K mg) (C : Calls K mg P w base k G) : DSs (cfOf K mg P w base N__law_other sc__law_other k) (defBody (top 71)) (s__law_other G) := by
  unfold s__law_other
  exact (dss_cons (ds_asg (de_ix (de_ix (de_var 1) de_int) de_int) (dg_tup rfl (dgs_cons (dg_name 2 nd__law_other) (dgs_cons (dg_name 3 nd__law_other) dgs_nil)) (gs_lenS (gs_lenS gs_len0)))) (dss_one (ds_ret (do_fn C.c__law_pick_0 (C.ar ._law_pick) rfl (da_cons (de_var 0) (da_cons (de_lst (da_cons (de_if (DW.dt (dw_and (dt_cmp od_eq (de_callB cd_len X.b_len (db_cons (de_ix (de_var 1) de_int) db_nil)) de_int) (dw_and1 (dt_cmp od_ltI (de_var 3) de_int)))) (de_tup (da_cons (de_op od_add (de_ix (de_var 1) de_int) (de_tup (da_cons (de_tup (da_cons de_str (da_cons de_int da_nil))) da_nil))) (da_cons (de_ix (de_var 1) de_int) da_nil))) (de_tup (da_cons (de_slice (de_ix (de_var 1) de_int) di_none (di_some de_int)) (da_cons (de_tup (da_cons de_str da_nil)) da_nil)))) (da_cons (de_if (dt_cmp od_gtI (de_var 3) de_int) (de_tup (da_cons (de_op od_add (de_tup (da_cons (de_tup (da_cons (de_var 2) (da_cons de_int da_nil))) da_nil)) (de_slice (de_ix (de_var 1) de_int) (di_some de_int) di_none)) (da_cons (de_ix (de_var 1) de_int) da_nil))) (de_tup (da_cons (de_rev (de_ix (de_var 1) de_int)) (da_cons (de_tup (da_cons de_str da_nil)) da_nil)))) (da_cons (de_tup (da_cons (de_rev (de_ix (de_var 1) de_int)) (da_cons (de_ix (de_var 1) de_int) da_nil))) (da_cons (de_tup (da_cons (de_tup (da_cons (de_tup (da_cons de_str (da_cons de_int da_nil))) da_nil)) (da_cons (de_tup (da_cons de_str da_nil)) da_nil))) da_nil))))) da_nil))))))
theorem d__law_right (X : Xs K mg) (C : Calls K mg P w base k G) : DSs (cfOf K mg P w base N__law_right sc__law_right k) (defBody (top 72)) (s__law_right G) := by
  unfold s__law_right
  exact (dss_cons (ds_set 1 (do_of (de_fz (do_fn C.c__law_variables_0 (C.ar ._law_variables) rfl (da_cons (de_var 0) da_nil)))) nd__law_right) (dss_cons (ds_setLc 2 (own := [("_law_name", 16), ("_law_size", 17)]) rfl nd__law_right (by show BlkOk N__law_right sc__law_right _ _; exact ⟨rfl, by decide +kernel, by decide +kernel, by decide +kernel, by decide +kernel⟩) (dp_seq (de_var 1)) (dg_tup rfl (dgs_cons (dg_name 16 nd__law_right) (dgs_cons (dg_name 17 nd__law_right) dgs_nil)) (gs_lenS (gs_lenS gs_len0))) dts_nil (de_var 16) rfl rfl rfl rfl) (dss_fz 2 (dss_cons (ds_set 3 (do_lst da_nil) nd__law_right) (dss_cons (ds_for rfl (dp_range1 X.b_range (db_cons de_int db_nil)) (dg_name 4 nd__law_right) (dss_cons (ds_set 5 (do_of (de_cel (do_lst (da_cons (de_fz (do_fn C.c__law_pick_0 (C.ar ._law_pick) rfl (da_cons (de_var 0) (da_cons (de_lst (da_cons de_int (da_cons de_int (da_cons de_int (da_cons de_int da_nil))))) da_nil)))) da_nil)))) nd__law_right) (dss_one (ds_append 3 (de_tup (da_cons (de_var 1) (da_cons (de_fz (do_fn C.c__law_statements_0 (C.ar ._law_statements) rfl (da_cons (de_var 0) (da_cons (de_var 2) (da_cons (de_cel (do_lst (da_cons de_int da_nil))) (da_cons (de_var 5) (da_cons (de_fz (do_fn C.c__law_pick_0 (C.ar ._law_pick) rfl (da_cons (de_var 0) (da_cons (de_lst (da_cons de_int (da_cons de_int (da_cons de_int da_nil)))) da_nil)))) da_nil))))))) da_nil))))))) (dss_fz 3 (dss_cons (ds_asg (de_var 3) (dg_tup rfl (dgs_cons (dg_name 6 nd__law_right) (dgs_cons (dg_name 7 nd__law_right) dgs_nil)) (gs_lenS (gs_lenS gs_len0)))) (dss_cons (ds_set 8 (do_of (de_fz (do_fn C.c__law_condition_0 (C.ar ._law_condition) rfl (da_cons (de_var 0) (da_cons (de_var 2) (da_cons de_int (da_cons (de_cel (do_lst (da_cons de_int da_nil))) da_nil))))))) nd__law_right) (dss_cons (ds_set 9 (do_of (de_lst (da_cons (de_tup (da_cons de_str (da_cons (de_op od_add (de_fz (do_fn C.c__law_parts_0 (C.ar ._law_parts) rfl (da_cons (de_ix (de_var 6) de_int) da_nil))) (de_fz (do_fn C.c__law_parts_0 (C.ar ._law_parts) rfl (da_cons (de_ix (de_var 7) de_int) da_nil)))) da_nil))) (da_cons (de_tup (da_cons de_str (da_cons (de_var 8) (da_cons (de_ix (de_var 6) de_int) (da_cons (de_ix (de_var 7) de_int) da_nil))))) (da_cons (de_tup (da_cons de_str (da_cons (de_var 8) (da_cons (de_ix (de_var 6) de_int) da_nil)))) da_nil))))) nd__law_right) (dss_cons (ds_for rfl (dp_range1 X.b_range (db_cons de_int db_nil)) (dg_name 10 nd__law_right) (dss_cons (ds_asg (de_fz (do_fn C.c__law_many_0 (C.ar ._law_many) rfl (da_cons (de_ix (de_var 9) (de_var 10)) da_nil))) (dg_tup rfl (dgs_cons (dg_name 11 nd__law_right) (dgs_cons (dg_name 12 nd__law_right) dgs_nil)) (gs_lenS (gs_lenS gs_len0)))) (dss_cons (ds_set 13 (do_of (de_if (DW.dt (dw_and (dt_cmp od_leI (de_var 11) de_int) (dw_and1 (dt_cmp od_leI (de_var 12) de_int)))) (de_tup (da_cons (de_var 1) (da_cons (de_ix (de_var 9) (de_var 10)) da_nil))) de_str)) nd__law_right) (dss_one (ds_if (DW.dt (dw_or (dt_cmp od_ne (de_fz (do_fn C.c__law_told_0 (C.ar ._law_told) rfl (da_cons (de_var 10) (da_cons (de_var 8) (da_cons (de_var 6) (da_cons (de_var 7) da_nil)))))) (de_var 13)) (dw_or1 (dt_cmp od_ne (de_ix (de_fz (do_fn C.c_then_0 (C.ar .then) rfl (da_cons (de_tup (da_cons (de_var 1) (da_cons (de_tup (da_cons de_str da_nil)) da_nil))) (da_cons (de_tup (da_cons (de_var 1) (da_cons (de_tup (da_cons de_str da_nil)) da_nil))) da_nil)))) de_int) (de_tup (da_cons de_str (da_cons (de_op od_mulT (de_tup (da_cons (de_tup (da_cons de_str da_nil)) da_nil)) de_int) da_nil))))))) (dss_one (ds_ret (do_of de_bl))) dss_nil))))) (dss_cons (ds_par 14 15 rfl nd__law_right rfl (da_cons (de_fz (do_fn C.c__law_other_0 (C.ar ._law_other) rfl (da_cons (de_var 0) (da_cons (de_var 6) da_nil)))) (da_cons (de_fz (do_fn C.c__law_pick_0 (C.ar ._law_pick) rfl (da_cons (de_var 0) (da_cons (de_lst (da_cons (de_tup (da_cons de_str (da_cons (de_tup (da_cons de_str (da_cons de_str da_nil))) (da_cons (de_tup (da_cons de_str (da_cons de_int da_nil))) da_nil)))) (da_cons (de_tup (da_cons de_str (da_cons (de_tup (da_cons de_str (da_cons (de_tup (da_cons de_str (da_cons de_int da_nil))) (da_cons (de_tup (da_cons de_str (da_cons de_str da_nil))) da_nil)))) da_nil))) da_nil))) da_nil)))) da_nil))) (dss_cons (ds_if (DW.dt (dw_and (dt_cmp od_ne (de_ix (de_var 14) de_int) (de_var 1)) (dw_and1 (dt_cmp od_ne (de_lst (da_cons (de_fz (do_fn C.c__law_told_0 (C.ar ._law_told) rfl (da_cons de_int (da_cons (de_var 8) (da_cons (de_var 6) (da_cons (de_var 14) da_nil)))))) (da_cons (de_fz (do_fn C.c__law_told_0 (C.ar ._law_told) rfl (da_cons de_int (da_cons (de_var 8) (da_cons (de_var 6) (da_cons (de_var 14) da_nil)))))) da_nil))) (de_op od_mul (de_lst (da_cons de_str da_nil)) de_int))))) (dss_one (ds_ret (do_of de_bl))) dss_nil) (dss_one (ds_ret (do_of (de_cmp od_eq (de_lst (da_cons (de_fz (do_fn C.c__law_told_0 (C.ar ._law_told) rfl (da_cons de_int (da_cons (de_var 15) (da_cons (de_var 6) (da_cons (de_var 14) da_nil)))))) (da_cons (de_fz (do_fn C.c__law_told_0 (C.ar ._law_told) rfl (da_cons de_int (da_cons (de_var 15) (da_cons (de_var 6) (da_cons (de_var 7) da_nil)))))) da_nil))) (de_op od_mul (de_lst (da_cons de_str da_nil)) de_int)))))))))))))))))
theorem d_law (X : Xs K mg) (C : Calls K mg P w base k G) : DSs (cfOf K mg P w base N_law sc_law k) (defBody (top 73)) (s_law G) := by
  unfold s_law
  exact (dss_cons (ds_for rfl (dp_range1 X.b_range (db_cons (de_callB (cd_max rfl) X.b_max (db_cons de_int (db_cons (de_callB (cd_min rfl) X.b_min (db_cons de_int (db_cons (de_callB cd_len X.b_len (db_cons (de_var 0) db_nil)) db_nil))) db_nil))) db_nil)) (dg_name 1 nd_law) (dss_one (ds_if (dt_not (dt_truth (de_fz (do_fn C.c__law_right_0 (C.ar ._law_right) rfl (da_cons (de_cel (do_fn C.c__law_bag_0 (C.ar ._law_bag) rfl (da_cons (de_var 0) (da_cons (de_var 1) da_nil)))) da_nil))))) (dss_one (ds_ret (do_of de_bl))) dss_nil))) (dss_one (ds_ret (do_of de_bl))))
end
theorem fs_is_integer : FnScope N_is_integer ["thing", "low", "high"] sc_is_integer := ⟨rfl, rfl, rfl, nd_is_integer, rfl, by decide +kernel, by decide +kernel⟩
theorem fs_is_name : FnScope N_is_name ["thing"] sc_is_name := ⟨rfl, rfl, rfl, nd_is_name, rfl, by decide +kernel, by decide +kernel⟩
theorem fs_are_names : FnScope N_are_names ["thing"] sc_are_names := ⟨rfl, rfl, rfl, nd_are_names, rfl, by decide +kernel, by decide +kernel⟩
theorem fs_is_variable : FnScope N_is_variable ["thing"] sc_is_variable := ⟨rfl, rfl, rfl, nd_is_variable, rfl, by decide +kernel, by decide +kernel⟩
theorem fs_is_variables : FnScope N_is_variables ["thing"] sc_is_variables := ⟨rfl, rfl, rfl, nd_is_variables, rfl, by decide +kernel, by decide +kernel⟩
theorem fs_places_of : FnScope N_places_of ["variables"] sc_places_of := ⟨rfl, rfl, rfl, nd_places_of, rfl, by decide +kernel, by decide +kernel⟩
theorem fs_is_tagged : FnScope N_is_tagged ["thing", "many"] sc_is_tagged := ⟨rfl, rfl, rfl, nd_is_tagged, rfl, by decide +kernel, by decide +kernel⟩
theorem fs_is_expression_within : FnScope N_is_expression_within ["thing", "left"] sc_is_expression_within := ⟨rfl, rfl, rfl, nd_is_expression_within, rfl, by decide +kernel, by decide +kernel⟩
theorem fs_is_condition_within : FnScope N_is_condition_within ["thing", "left"] sc_is_condition_within := ⟨rfl, rfl, rfl, nd_is_condition_within, rfl, by decide +kernel, by decide +kernel⟩
theorem fs_is_expression : FnScope N_is_expression ["thing"] sc_is_expression := ⟨rfl, rfl, rfl, nd_is_expression, rfl, by decide +kernel, by decide +kernel⟩
theorem fs_is_condition : FnScope N_is_condition ["thing"] sc_is_condition := ⟨rfl, rfl, rfl, nd_is_condition, rfl, by decide +kernel, by decide +kernel⟩
theorem fs_is_pair : FnScope N_is_pair ["thing"] sc_is_pair := ⟨rfl, rfl, rfl, nd_is_pair, rfl, by decide +kernel, by decide +kernel⟩
theorem fs_is_pairs : FnScope N_is_pairs ["thing"] sc_is_pairs := ⟨rfl, rfl, rfl, nd_is_pairs, rfl, by decide +kernel, by decide +kernel⟩
theorem fs_is_choice : FnScope N_is_choice ["thing"] sc_is_choice := ⟨rfl, rfl, rfl, nd_is_choice, rfl, by decide +kernel, by decide +kernel⟩
theorem fs_expression_names : FnScope N_expression_names ["expression"] sc_expression_names := ⟨rfl, rfl, rfl, nd_expression_names, rfl, by decide +kernel, by decide +kernel⟩
theorem fs_condition_names : FnScope N_condition_names ["condition"] sc_condition_names := ⟨rfl, rfl, rfl, nd_condition_names, rfl, by decide +kernel, by decide +kernel⟩
theorem fs_pairs_names : FnScope N_pairs_names ["pairs"] sc_pairs_names := ⟨rfl, rfl, rfl, nd_pairs_names, rfl, by decide +kernel, by decide +kernel⟩
theorem fs_is_statement_within : FnScope N_is_statement_within ["thing", "left"] sc_is_statement_within := ⟨rfl, rfl, rfl, nd_is_statement_within, rfl, by decide +kernel, by decide +kernel⟩
theorem fs_is_act : FnScope N_is_act ["word", "thing"] sc_is_act := ⟨rfl, rfl, rfl, nd_is_act, rfl, by decide +kernel, by decide +kernel⟩
theorem fs_are_statements : FnScope N_are_statements ["thing", "left"] sc_are_statements := ⟨rfl, rfl, rfl, nd_are_statements, rfl, by decide +kernel, by decide +kernel⟩
theorem fs_inner_of : FnScope N_inner_of ["statement"] sc_inner_of := ⟨rfl, rfl, rfl, nd_inner_of, rfl, by decide +kernel, by decide +kernel⟩
theorem fs_statements_in : FnScope N_statements_in ["statement"] sc_statements_in := ⟨rfl, rfl, rfl, nd_statements_in, rfl, by decide +kernel, by decide +kernel⟩
theorem fs_statement_size : FnScope N_statement_size ["statement"] sc_statement_size := ⟨rfl, rfl, rfl, nd_statement_size, rfl, by decide +kernel, by decide +kernel⟩
theorem fs_own_names : FnScope N_own_names ["statement"] sc_own_names := ⟨rfl, rfl, rfl, nd_own_names, rfl, by decide +kernel, by decide +kernel⟩
theorem fs_statement_names : FnScope N_statement_names ["statement"] sc_statement_names := ⟨rfl, rfl, rfl, nd_statement_names, rfl, by decide +kernel, by decide +kernel⟩
theorem fs_is_right : FnScope N_is_right ["thing"] sc_is_right := ⟨rfl, rfl, rfl, nd_is_right, rfl, by decide +kernel, by decide +kernel⟩
theorem fs_need_program : FnScope N_need_program ["thing"] sc_need_program := ⟨rfl, rfl, rfl, nd_need_program, rfl, by decide +kernel, by decide +kernel⟩
theorem fs_need_condition : FnScope N_need_condition ["thing"] sc_need_condition := ⟨rfl, rfl, rfl, nd_need_condition, rfl, by decide +kernel, by decide +kernel⟩
theorem fs_need_condition_of : FnScope N_need_condition_of ["variables", "condition"] sc_need_condition_of := ⟨rfl, rfl, rfl, nd_need_condition_of, rfl, by decide +kernel, by decide +kernel⟩
theorem fs_need_alike : FnScope N_need_alike ["program", "other"] sc_need_alike := ⟨rfl, rfl, rfl, nd_need_alike, rfl, by decide +kernel, by decide +kernel⟩
theorem fs_parts_of : FnScope N_parts_of ["statement"] sc_parts_of := ⟨rfl, rfl, rfl, nd_parts_of, rfl, by decide +kernel, by decide +kernel⟩
theorem fs_whole : FnScope N_whole ["variables", "statement"] sc_whole := ⟨rfl, rfl, rfl, nd_whole, rfl, by decide +kernel, by decide +kernel⟩
theorem fs_then : FnScope N_then ["program", "other"] sc_then := ⟨rfl, rfl, rfl, nd_then, rfl, by decide +kernel, by decide +kernel⟩
theorem fs_either : FnScope N_either ["condition", "program", "other"] sc_either := ⟨rfl, rfl, rfl, nd_either, rfl, by decide +kernel, by decide +kernel⟩
theorem fs_around : FnScope N_around ["condition", "program"] sc_around := ⟨rfl, rfl, rfl, nd_around, rfl, by decide +kernel, by decide +kernel⟩
theorem fs__law_bag : FnScope N__law_bag ["_law_script", "_law_k"] sc__law_bag := ⟨rfl, rfl, rfl, nd__law_bag, rfl, by decide +kernel, by decide +kernel⟩
theorem fs__law_take : FnScope N__law_take ["_law_bag_here", "_law_many_here"] sc__law_take := ⟨rfl, rfl, rfl, nd__law_take, rfl, by decide +kernel, by decide +kernel⟩
theorem fs__law_pick : FnScope N__law_pick ["_law_bag_here", "_law_things"] sc__law_pick := ⟨rfl, rfl, rfl, nd__law_pick, rfl, by decide +kernel, by decide +kernel⟩
theorem fs__law_variables : FnScope N__law_variables ["_law_bag_here"] sc__law_variables := ⟨rfl, rfl, rfl, nd__law_variables, rfl, by decide +kernel, by decide +kernel⟩
theorem fs__law_expression : FnScope N__law_expression ["_law_bag_here", "_law_names", "_law_deep", "_law_room"] sc__law_expression := ⟨rfl, rfl, rfl, nd__law_expression, rfl, by decide +kernel, by decide +kernel⟩
theorem fs__law_condition : FnScope N__law_condition ["_law_bag_here", "_law_names", "_law_deep", "_law_room"] sc__law_condition := ⟨rfl, rfl, rfl, nd__law_condition, rfl, by decide +kernel, by decide +kernel⟩
theorem fs__law_statement : FnScope N__law_statement ["_law_bag_here", "_law_names", "_law_room", "_law_left", "_law_deep"] sc__law_statement := ⟨rfl, rfl, rfl, nd__law_statement, rfl, by decide +kernel, by decide +kernel⟩
theorem fs__law_statements : FnScope N__law_statements ["_law_bag_here", "_law_names", "_law_room", "_law_left", "_law_deep"] sc__law_statements := ⟨rfl, rfl, rfl, nd__law_statements, rfl, by decide +kernel, by decide +kernel⟩
theorem fs__law_program : FnScope N__law_program ["_law_bag_here"] sc__law_program := ⟨rfl, rfl, rfl, nd__law_program, rfl, by decide +kernel, by decide +kernel⟩
theorem fs__law_many : FnScope N__law_many ["_law_statement_here"] sc__law_many := ⟨rfl, rfl, rfl, nd__law_many, rfl, by decide +kernel, by decide +kernel⟩
theorem fs__law_parts : FnScope N__law_parts ["_law_statement_here"] sc__law_parts := ⟨rfl, rfl, rfl, nd__law_parts, rfl, by decide +kernel, by decide +kernel⟩
theorem fs__law_told : FnScope N__law_told ["_law_way", "_law_test", "_law_one", "_law_two"] sc__law_told := ⟨rfl, rfl, rfl, nd__law_told, rfl, by decide +kernel, by decide +kernel⟩
theorem fs__law_other : FnScope N__law_other ["_law_bag_here", "_law_plan"] sc__law_other := ⟨rfl, rfl, rfl, nd__law_other, rfl, by decide +kernel, by decide +kernel⟩
theorem fs__law_right : FnScope N__law_right ["_law_bag_here"] sc__law_right := ⟨rfl, rfl, rfl, nd__law_right, rfl, by decide +kernel, by decide +kernel⟩
theorem fs_law : FnScope N_law ["_law_script"] sc_law := ⟨rfl, rfl, rfl, nd_law, rfl, by decide +kernel, by decide +kernel⟩
structure Ds (K : PySem.W.Frag) (mg : PySem.Str → Option Value) : Prop where
  f_is_integer : ∃ a fd, mg "is_integer" = some (.ref a) ∧ FunD K "is_integer" "is_integer" (defArgs (top 14)) (defBody (top 14)) sc_is_integer [V.non, V.non] [] a fd
  f_is_name : ∃ a fd, mg "is_name" = some (.ref a) ∧ FunD K "is_name" "is_name" (defArgs (top 15)) (defBody (top 15)) sc_is_name [] [] a fd
  f_are_names : ∃ a fd, mg "are_names" = some (.ref a) ∧ FunD K "are_names" "are_names" (defArgs (top 16)) (defBody (top 16)) sc_are_names [] [] a fd
  f_is_variable : ∃ a fd, mg "is_variable" = some (.ref a) ∧ FunD K "is_variable" "is_variable" (defArgs (top 17)) (defBody (top 17)) sc_is_variable [] [] a fd
  f_is_variables : ∃ a fd, mg "is_variables" = some (.ref a) ∧ FunD K "is_variables" "is_variables" (defArgs (top 18)) (defBody (top 18)) sc_is_variables [] [] a fd
  f_places_of : ∃ a fd, mg "places_of" = some (.ref a) ∧ FunD K "places_of" "places_of" (defArgs (top 19)) (defBody (top 19)) sc_places_of [] [] a fd
  f_is_tagged : ∃ a fd, mg "is_tagged" = some (.ref a) ∧ FunD K "is_tagged" "is_tagged" (defArgs (top 28)) (defBody (top 28)) sc_is_tagged [] [] a fd
  f_is_expression_within : ∃ a fd, mg "is_expression_within" = some (.ref a) ∧ FunD K "is_expression_within" "is_expression_within" (defArgs (top 29)) (defBody (top 29)) sc_is_expression_within [] [] a fd
  f_is_condition_within : ∃ a fd, mg "is_condition_within" = some (.ref a) ∧ FunD K "is_condition_within" "is_condition_within" (defArgs (top 30)) (defBody (top 30)) sc_is_condition_within [] [] a fd
  f_is_expression : ∃ a fd, mg "is_expression" = some (.ref a) ∧ FunD K "is_expression" "is_expression" (defArgs (top 31)) (defBody (top 31)) sc_is_expression [] [] a fd
  f_is_condition : ∃ a fd, mg "is_condition" = some (.ref a) ∧ FunD K "is_condition" "is_condition" (defArgs (top 32)) (defBody (top 32)) sc_is_condition [] [] a fd
  f_is_pair : ∃ a fd, mg "is_pair" = some (.ref a) ∧ FunD K "is_pair" "is_pair" (defArgs (top 33)) (defBody (top 33)) sc_is_pair [] [] a fd
  f_is_pairs : ∃ a fd, mg "is_pairs" = some (.ref a) ∧ FunD K "is_pairs" "is_pairs" (defArgs (top 34)) (defBody (top 34)) sc_is_pairs [] [] a fd
  f_is_choice : ∃ a fd, mg "is_choice" = some (.ref a) ∧ FunD K "is_choice" "is_choice" (defArgs (top 35)) (defBody (top 35)) sc_is_choice [] [] a fd
  f_expression_names : ∃ a fd, mg "expression_names" = some (.ref a) ∧ FunD K "expression_names" "expression_names" (defArgs (top 36)) (defBody (top 36)) sc_expression_names [] [] a fd
  f_condition_names : ∃ a fd, mg "condition_names" = some (.ref a) ∧ FunD K "condition_names" "condition_names" (defArgs (top 37)) (defBody (top 37)) sc_condition_names [] [] a fd
  f_pairs_names : ∃ a fd, mg "pairs_names" = some (.ref a) ∧ FunD K "pairs_names" "pairs_names" (defArgs (top 38)) (defBody (top 38)) sc_pairs_names [] [] a fd
  f_is_statement_within : ∃ a fd, mg "is_statement_within" = some (.ref a) ∧ FunD K "is_statement_within" "is_statement_within" (defArgs (top 39)) (defBody (top 39)) sc_is_statement_within [] [] a fd
  f_is_act : ∃ a fd, mg "is_act" = some (.ref a) ∧ FunD K "is_act" "is_act" (defArgs (top 40)) (defBody (top 40)) sc_is_act [] [] a fd
  f_are_statements : ∃ a fd, mg "are_statements" = some (.ref a) ∧ FunD K "are_statements" "are_statements" (defArgs (top 41)) (defBody (top 41)) sc_are_statements [] [] a fd
  f_inner_of : ∃ a fd, mg "inner_of" = some (.ref a) ∧ FunD K "inner_of" "inner_of" (defArgs (top 42)) (defBody (top 42)) sc_inner_of [] [] a fd
  f_statements_in : ∃ a fd, mg "statements_in" = some (.ref a) ∧ FunD K "statements_in" "statements_in" (defArgs (top 43)) (defBody (top 43)) sc_statements_in [] [] a fd
  f_statement_size : ∃ a fd, mg "statement_size" = some (.ref a) ∧ FunD K "statement_size" "statement_size" (defArgs (top 44)) (defBody (top 44)) sc_statement_size [] [] a fd
  f_own_names : ∃ a fd, mg "own_names" = some (.ref a) ∧ FunD K "own_names" "own_names" (defArgs (top 45)) (defBody (top 45)) sc_own_names [] [] a fd
  f_statement_names : ∃ a fd, mg "statement_names" = some (.ref a) ∧ FunD K "statement_names" "statement_names" (defArgs (top 46)) (defBody (top 46)) sc_statement_names [] [] a fd
  f_is_right : ∃ a fd, mg "is_right" = some (.ref a) ∧ FunD K "is_right" "is_right" (defArgs (top 47)) (defBody (top 47)) sc_is_right [] [] a fd
  f_need_program : ∃ a fd, mg "need_program" = some (.ref a) ∧ FunD K "need_program" "need_program" (defArgs (top 48)) (defBody (top 48)) sc_need_program [] [] a fd
  f_need_condition : ∃ a fd, mg "need_condition" = some (.ref a) ∧ FunD K "need_condition" "need_condition" (defArgs (top 49)) (defBody (top 49)) sc_need_condition [] [] a fd
  f_need_condition_of : ∃ a fd, mg "need_condition_of" = some (.ref a) ∧ FunD K "need_condition_of" "need_condition_of" (defArgs (top 50)) (defBody (top 50)) sc_need_condition_of [] [] a fd
  f_need_alike : ∃ a fd, mg "need_alike" = some (.ref a) ∧ FunD K "need_alike" "need_alike" (defArgs (top 52)) (defBody (top 52)) sc_need_alike [] [] a fd
  f_parts_of : ∃ a fd, mg "parts_of" = some (.ref a) ∧ FunD K "parts_of" "parts_of" (defArgs (top 53)) (defBody (top 53)) sc_parts_of [] [] a fd
  f_whole : ∃ a fd, mg "whole" = some (.ref a) ∧ FunD K "whole" "whole" (defArgs (top 54)) (defBody (top 54)) sc_whole [] [] a fd
  f_then : ∃ a fd, mg "then" = some (.ref a) ∧ FunD K "then" "then" (defArgs (top 55)) (defBody (top 55)) sc_then [] [] a fd
  f_either : ∃ a fd, mg "either" = some (.ref a) ∧ FunD K "either" "either" (defArgs (top 56)) (defBody (top 56)) sc_either [] [] a fd
  f_around : ∃ a fd, mg "around" = some (.ref a) ∧ FunD K "around" "around" (defArgs (top 57)) (defBody (top 57)) sc_around [] [] a fd
  f__law_bag : ∃ a fd, mg "_law_bag" = some (.ref a) ∧ FunD K "_law_bag" "_law_bag" (defArgs (top 59)) (defBody (top 59)) sc__law_bag [] [] a fd
  f__law_take : ∃ a fd, mg "_law_take" = some (.ref a) ∧ FunD K "_law_take" "_law_take" (defArgs (top 60)) (defBody (top 60)) sc__law_take [] [] a fd
  f__law_pick : ∃ a fd, mg "_law_pick" = some (.ref a) ∧ FunD K "_law_pick" "_law_pick" (defArgs (top 61)) (defBody (top 61)) sc__law_pick [] [] a fd
  f__law_variables : ∃ a fd, mg "_law_variables" = some (.ref a) ∧ FunD K "_law_variables" "_law_variables" (defArgs (top 62)) (defBody (top 62)) sc__law_variables [] [] a fd
  f__law_expression : ∃ a fd, mg "_law_expression" = some (.ref a) ∧ FunD K "_law_expression" "_law_expression" (defArgs (top 63)) (defBody (top 63)) sc__law_expression [] [] a fd
  f__law_condition : ∃ a fd, mg "_law_condition" = some (.ref a) ∧ FunD K "_law_condition" "_law_condition" (defArgs (top 64)) (defBody (top 64)) sc__law_condition [] [] a fd
  f__law_statement : ∃ a fd, mg "_law_statement" = some (.ref a) ∧ FunD K "_law_statement" "_law_statement" (defArgs (top 65)) (defBody (top 65)) sc__law_statement [] [] a fd
  f__law_statements : ∃ a fd, mg "_law_statements" = some (.ref a) ∧ FunD K "_law_statements" "_law_statements" (defArgs (top 66)) (defBody (top 66)) sc__law_statements [] [] a fd
  f__law_program : ∃ a fd, mg "_law_program" = some (.ref a) ∧ FunD K "_law_program" "_law_program" (defArgs (top 67)) (defBody (top 67)) sc__law_program [] [] a fd
  f__law_many : ∃ a fd, mg "_law_many" = some (.ref a) ∧ FunD K "_law_many" "_law_many" (defArgs (top 68)) (defBody (top 68)) sc__law_many [] [] a fd
  f__law_parts : ∃ a fd, mg "_law_parts" = some (.ref a) ∧ FunD K "_law_parts" "_law_parts" (defArgs (top 69)) (defBody (top 69)) sc__law_parts [] [] a fd
  f__law_told : ∃ a fd, mg "_law_told" = some (.ref a) ∧ FunD K "_law_told" "_law_told" (defArgs (top 70)) (defBody (top 70)) sc__law_told [] [] a fd
  f__law_other : ∃ a fd, mg "_law_other" = some (.ref a) ∧ FunD K "_law_other" "_law_other" (defArgs (top 71)) (defBody (top 71)) sc__law_other [] [] a fd
  f__law_right : ∃ a fd, mg "_law_right" = some (.ref a) ∧ FunD K "_law_right" "_law_right" (defArgs (top 72)) (defBody (top 72)) sc__law_right [] [] a fd
  f_law : ∃ a fd, mg "law" = some (.ref a) ∧ FunD K "law" "law" (defArgs (top 73)) (defBody (top 73)) sc_law [] [] a fd
section
variable {K : PySem.W.Frag} {mg : PySem.Str → Option Value} {P : Program} {w : World} {base : Heap}
def FnAll (K : PySem.W.Frag) (mg : PySem.Str → Option Value) (P : Program) (w : World) (base : Heap) (n : Nat) (G : Fn → FS) : Fn → Prop
  | .is_integer => ∀ a fd, FunD K "is_integer" "is_integer" (defArgs (top 14)) (defBody (top 14)) sc_is_integer [V.non, V.non] [] a fd → FnG P w K mg base (L2.CX P w) n a fd ["thing", "low", "high"] (spOf K mg 3 (G .is_integer))
  | .is_name => ∀ a fd, FunD K "is_name" "is_name" (defArgs (top 15)) (defBody (top 15)) sc_is_name [] [] a fd → FnG P w K mg base (L2.CX P w) n a fd ["thing"] (spOf K mg 1 (G .is_name))
  | .are_names => ∀ a fd, FunD K "are_names" "are_names" (defArgs (top 16)) (defBody (top 16)) sc_are_names [] [] a fd → FnG P w K mg base (L2.CX P w) n a fd ["thing"] (spOf K mg 1 (G .are_names))
  | .is_variable => ∀ a fd, FunD K "is_variable" "is_variable" (defArgs (top 17)) (defBody (top 17)) sc_is_variable [] [] a fd → FnG P w K mg base (L2.CX P w) n a fd ["thing"] (spOf K mg 1 (G .is_variable))
  | .is_variables => ∀ a fd, FunD K "is_variables" "is_variables" (defArgs (top 18)) (defBody (top 18)) sc_is_variables [] [] a fd → FnG P w K mg base (L2.CX P w) n a fd ["thing"] (spOf K mg 1 (G .is_variables))
  | .places_of => ∀ a fd, FunD K "places_of" "places_of" (defArgs (top 19)) (defBody (top 19)) sc_places_of [] [] a fd → FnG P w K mg base (L2.CX P w) n a fd ["variables"] (spOf K mg 1 (G .places_of))
  | .is_tagged => ∀ a fd, FunD K "is_tagged" "is_tagged" (defArgs (top 28)) (defBody (top 28)) sc_is_tagged [] [] a fd → FnG P w K mg base (L2.CX P w) n a fd ["thing", "many"] (spOf K mg 2 (G .is_tagged))
  | .is_expression_within => ∀ a fd, FunD K "is_expression_within" "is_expression_within" (defArgs (top 29)) (defBody (top 29)) sc_is_expression_within [] [] a fd → FnG P w K mg base (L2.CX P w) n a fd ["thing", "left"] (spOf K mg 2 (G .is_expression_within))
  | .is_condition_within => ∀ a fd, FunD K "is_condition_within" "is_condition_within" (defArgs (top 30)) (defBody (top 30)) sc_is_condition_within [] [] a fd → FnG P w K mg base (L2.CX P w) n a fd ["thing", "left"] (spOf K mg 2 (G .is_condition_within))
  | .is_expression => ∀ a fd, FunD K "is_expression" "is_expression" (defArgs (top 31)) (defBody (top 31)) sc_is_expression [] [] a fd → FnG P w K mg base (L2.CX P w) n a fd ["thing"] (spOf K mg 1 (G .is_expression))
  | .is_condition => ∀ a fd, FunD K "is_condition" "is_condition" (defArgs (top 32)) (defBody (top 32)) sc_is_condition [] [] a fd → FnG P w K mg base (L2.CX P w) n a fd ["thing"] (spOf K mg 1 (G .is_condition))
  | .is_pair => ∀ a fd, FunD K "is_pair" "is_pair" (defArgs (top 33)) (defBody (top 33)) sc_is_pair [] [] a fd → FnG P w K mg base (L2.CX P w) n a fd ["thing"] (spOf K mg 1 (G .is_pair))
  | .is_pairs => ∀ a fd, FunD K "is_pairs" "is_pairs" (defArgs (top 34)) (defBody (top 34)) sc_is_pairs [] [] a fd → FnG P w K mg base (L2.CX P w) n a fd ["thing"] (spOf K mg 1 (G .is_pairs))
  | .is_choice => ∀ a fd, FunD K "is_choice" "is_choice" (defArgs (top 35)) (defBody (top 35)) sc_is_choice [] [] a fd → FnG P w K mg base (L2.CX P w) n a fd ["thing"] (spOf K mg 1 (G .is_choice))
  | .expression_names => ∀ a fd, FunD K "expression_names" "expression_names" (defArgs (top 36)) (defBody (top 36)) sc_expression_names [] [] a fd → FnG P w K mg base (L2.CX P w) n a fd ["expression"] (spOf K mg 1 (G .expression_names))
  | .condition_names => ∀ a fd, FunD K "condition_names" "condition_names" (defArgs (top 37)) (defBody (top 37)) sc_condition_names [] [] a fd → FnG P w K mg base (L2.CX P w) n a fd ["condition"] (spOf K mg 1 (G .condition_names))
  | .pairs_names => ∀ a fd, FunD K "pairs_names" "pairs_names" (defArgs (top 38)) (defBody (top 38)) sc_pairs_names [] [] a fd → FnG P w K mg base (L2.CX P w) n a fd ["pairs"] (spOf K mg 1 (G .pairs_names))
  | .is_statement_within => ∀ a fd, FunD K "is_statement_within" "is_statement_within" (defArgs (top 39)) (defBody (top 39)) sc_is_statement_within [] [] a fd → FnG P w K mg base (L2.CX P w) n a fd ["thing", "left"] (spOf K mg 2 (G .is_statement_within))
  | .is_act => ∀ a fd, FunD K "is_act" "is_act" (defArgs (top 40)) (defBody (top 40)) sc_is_act [] [] a fd → FnG P w K mg base (L2.CX P w) n a fd ["word", "thing"] (spOf K mg 2 (G .is_act))
  | .are_statements => ∀ a fd, FunD K "are_statements" "are_statements" (defArgs (top 41)) (defBody (top 41)) sc_are_statements [] [] a fd → FnG P w K mg base (L2.CX P w) n a fd ["thing", "left"] (spOf K mg 2 (G .are_statements))
  | .inner_of => ∀ a fd, FunD K "inner_of" "inner_of" (defArgs (top 42)) (defBody (top 42)) sc_inner_of [] [] a fd → FnG P w K mg base (L2.CX P w) n a fd ["statement"] (spOf K mg 1 (G .inner_of))
  | .statements_in => ∀ a fd, FunD K "statements_in" "statements_in" (defArgs (top 43)) (defBody (top 43)) sc_statements_in [] [] a fd → FnG P w K mg base (L2.CX P w) n a fd ["statement"] (spOf K mg 1 (G .statements_in))
  | .statement_size => ∀ a fd, FunD K "statement_size" "statement_size" (defArgs (top 44)) (defBody (top 44)) sc_statement_size [] [] a fd → FnG P w K mg base (L2.CX P w) n a fd ["statement"] (spOf K mg 1 (G .statement_size))
  | .own_names => ∀ a fd, FunD K "own_names" "own_names" (defArgs (top 45)) (defBody (top 45)) sc_own_names [] [] a fd → FnG P w K mg base (L2.CX P w) n a fd ["statement"] (spOf K mg 1 (G .own_names))
  | .statement_names => ∀ a fd, FunD K "statement_names" "statement_names" (defArgs (top 46)) (defBody (top 46)) sc_statement_names [] [] a fd → FnG P w K mg base (L2.CX P w) n a fd ["statement"] (spOf K mg 1 (G .statement_names))
  | .is_right => ∀ a fd, FunD K "is_right" "is_right" (defArgs (top 47)) (defBody (top 47)) sc_is_right [] [] a fd → FnG P w K mg base (L2.CX P w) n a fd ["thing"] (spOf K mg 1 (G .is_right))
  | .need_program => ∀ a fd, FunD K "need_program" "need_program" (defArgs (top 48)) (defBody (top 48)) sc_need_program [] [] a fd → FnG P w K mg base (L2.CX P w) n a fd ["thing"] (spOf K mg 1 (G .need_program))
  | .need_condition => ∀ a fd, FunD K "need_condition" "need_condition" (defArgs (top 49)) (defBody (top 49)) sc_need_condition [] [] a fd → FnG P w K mg base (L2.CX P w) n a fd ["thing"] (spOf K mg 1 (G .need_condition))
  | .need_condition_of => ∀ a fd, FunD K "need_condition_of" "need_condition_of" (defArgs (top 50)) (defBody (top 50)) sc_need_condition_of [] [] a fd → FnG P w K mg base (L2.CX P w) n a fd ["variables", "condition"] (spOf K mg 2 (G .need_condition_of))
  | .need_alike => ∀ a fd, FunD K "need_alike" "need_alike" (defArgs (top 52)) (defBody (top 52)) sc_need_alike [] [] a fd → FnG P w K mg base (L2.CX P w) n a fd ["program", "other"] (spOf K mg 2 (G .need_alike))
  | .parts_of => ∀ a fd, FunD K "parts_of" "parts_of" (defArgs (top 53)) (defBody (top 53)) sc_parts_of [] [] a fd → FnG P w K mg base (L2.CX P w) n a fd ["statement"] (spOf K mg 1 (G .parts_of))
  | .whole => ∀ a fd, FunD K "whole" "whole" (defArgs (top 54)) (defBody (top 54)) sc_whole [] [] a fd → FnG P w K mg base (L2.CX P w) n a fd ["variables", "statement"] (spOf K mg 2 (G .whole))
  | .then => ∀ a fd, FunD K "then" "then" (defArgs (top 55)) (defBody (top 55)) sc_then [] [] a fd → FnG P w K mg base (L2.CX P w) n a fd ["program", "other"] (spOf K mg 2 (G .then))
  | .either => ∀ a fd, FunD K "either" "either" (defArgs (top 56)) (defBody (top 56)) sc_either [] [] a fd → FnG P w K mg base (L2.CX P w) n a fd ["condition", "program", "other"] (spOf K mg 3 (G .either))
  | .around => ∀ a fd, FunD K "around" "around" (defArgs (top 57)) (defBody (top 57)) sc_around [] [] a fd → FnG P w K mg base (L2.CX P w) n a fd ["condition", "program"] (spOf K mg 2 (G .around))
  | ._law_bag => ∀ a fd, FunD K "_law_bag" "_law_bag" (defArgs (top 59)) (defBody (top 59)) sc__law_bag [] [] a fd → FnG P w K mg base (L2.CX P w) n a fd ["_law_script", "_law_k"] (spOf K mg 2 (G ._law_bag))
  | ._law_take => ∀ a fd, FunD K "_law_take" "_law_take" (defArgs (top 60)) (defBody (top 60)) sc__law_take [] [] a fd → FnG P w K mg base (L2.CX P w) n a fd ["_law_bag_here", "_law_many_here"] (spOf K mg 2 (G ._law_take))
  | ._law_pick => ∀ a fd, FunD K "_law_pick" "_law_pick" (defArgs (top 61)) (defBody (top 61)) sc__law_pick [] [] a fd → FnG P w K mg base (L2.CX P w) n a fd ["_law_bag_here", "_law_things"] (spOf K mg 2 (G ._law_pick))
  | ._law_variables => ∀ a fd, FunD K "_law_variables" "_law_variables" (defArgs (top 62)) (defBody (top 62)) sc__law_variables [] [] a fd → FnG P w K mg base (L2.CX P w) n a fd ["_law_bag_here"] (spOf K mg 1 (G ._law_variables))
  | ._law_expression => ∀ a fd, FunD K "_law_expression" "_law_expression" (defArgs (top 63)) (defBody (top 63)) sc__law_expression [] [] a fd → FnG P w K mg base (L2.CX P w) n a fd ["_law_bag_here", "_law_names", "_law_deep", "_law_room"] (spOf K mg 4 (G ._law_expression))
  | ._law_condition => ∀ a fd, FunD K "_law_condition" "_law_condition" (defArgs (top 64)) (defBody (top 64)) sc__law_condition [] [] a fd → FnG P w K mg base (L2.CX P w) n a fd ["_law_bag_here", "_law_names", "_law_deep", "_law_room"] (spOf K mg 4 (G ._law_condition))
  | ._law_statement => ∀ a fd, FunD K "_law_statement" "_law_statement" (defArgs (top 65)) (defBody (top 65)) sc__law_statement [] [] a fd → FnG P w K mg base (L2.CX P w) n a fd ["_law_bag_here", "_law_names", "_law_room", "_law_left", "_law_deep"] (spOf K mg 5 (G ._law_statement))
  | ._law_statements => ∀ a fd, FunD K "_law_statements" "_law_statements" (defArgs (top 66)) (defBody (top 66)) sc__law_statements [] [] a fd → FnG P w K mg base (L2.CX P w) n a fd ["_law_bag_here", "_law_names", "_law_room", "_law_left", "_law_deep"] (spOf K mg 5 (G ._law_statements))
  | ._law_program => ∀ a fd, FunD K "_law_program" "_law_program" (defArgs (top 67)) (defBody (top 67)) sc__law_program [] [] a fd → FnG P w K mg base (L2.CX P w) n a fd ["_law_bag_here"] (spOf K mg 1 (G ._law_program))
  | ._law_many => ∀ a fd, FunD K "_law_many" "_law_many" (defArgs (top 68)) (defBody (top 68)) sc__law_many [] [] a fd → FnG P w K mg base (L2.CX P w) n a fd ["_law_statement_here"] (spOf K mg 1 (G ._law_many))
  | ._law_parts => ∀ a fd, FunD K "_law_parts" "_law_parts" (defArgs (top 69)) (defBody (top 69)) sc__law_parts [] [] a fd → FnG P w K mg base (L2.CX P w) n a fd ["_law_statement_here"] (spOf K mg 1 (G ._law_parts))
  | ._law_told => ∀ a fd, FunD K "_law_told" "_law_told" (defArgs (top 70)) (defBody (top 70)) sc__law_told [] [] a fd → FnG P w K mg base (L2.CX P w) n a fd ["_law_way", "_law_test", "_law_one", "_law_two"] (spOf K mg 4 (G ._law_told))
  | ._law_other => ∀ a fd, FunD K "_law_other" "_law_other" (defArgs (top 71)) (defBody (top 71)) sc__law_other [] [] a fd → FnG P w K mg base (L2.CX P w) n a fd ["_law_bag_here", "_law_plan"] (spOf K mg 2 (G ._law_other))
  | ._law_right => ∀ a fd, FunD K "_law_right" "_law_right" (defArgs (top 72)) (defBody (top 72)) sc__law_right [] [] a fd → FnG P w K mg base (L2.CX P w) n a fd ["_law_bag_here"] (spOf K mg 1 (G ._law_right))
  | .law => ∀ a fd, FunD K "law" "law" (defArgs (top 73)) (defBody (top 73)) sc_law [] [] a fd → FnG P w K mg base (L2.CX P w) n a fd ["_law_script"] (spOf K mg 1 (G .law))
theorem calls_of {n : Nat} {G : Fn → FS} (D : Ds K mg) (ar : ∀ f xs cs, G f xs cs = .bad ∨ xs.length = arN f) (I : ∀ f, FnAll K mg P w base n G f) : Calls K mg P w base n G := by
  refine ⟨ar, ?_, ?_, ?_, ?_, ?_, ?_, ?_, ?_, ?_, ?_, ?_, ?_, ?_, ?_, ?_, ?_, ?_, ?_, ?_, ?_, ?_, ?_, ?_, ?_, ?_, ?_, ?_, ?_, ?_, ?_, ?_, ?_, ?_, ?_, ?_, ?_, ?_, ?_, ?_, ?_, ?_, ?_, ?_, ?_, ?_, ?_, ?_, ?_, ?_⟩
  · obtain ⟨a, fd, gm, F⟩ := D.f__law_bag
    exact ⟨a, fd, _, [], [], gm, F.kp, rfl, F.bindsN (fun _ _ _ _ _ _ us hl => match us, hl with | [_, _], _ => rfl), .nil, fun _ _ => .nil, I ._law_bag a fd F⟩
  · obtain ⟨a, fd, gm, F⟩ := D.f__law_condition
    exact ⟨a, fd, _, [], [], gm, F.kp, rfl, F.bindsN (fun _ _ _ _ _ _ us hl => match us, hl with | [_, _, _, _], _ => rfl), .nil, fun _ _ => .nil, I ._law_condition a fd F⟩
  · obtain ⟨a, fd, gm, F⟩ := D.f__law_expression
    exact ⟨a, fd, _, [], [], gm, F.kp, rfl, F.bindsN (fun _ _ _ _ _ _ us hl => match us, hl with | [_, _, _, _], _ => rfl), .nil, fun _ _ => .nil, I ._law_expression a fd F⟩
  · obtain ⟨a, fd, gm, F⟩ := D.f__law_many
    exact ⟨a, fd, _, [], [], gm, F.kp, rfl, F.bindsN (fun _ _ _ _ _ _ us hl => match us, hl with | [_], _ => rfl), .nil, fun _ _ => .nil, I ._law_many a fd F⟩
  · obtain ⟨a, fd, gm, F⟩ := D.f__law_other
    exact ⟨a, fd, _, [], [], gm, F.kp, rfl, F.bindsN (fun _ _ _ _ _ _ us hl => match us, hl with | [_, _], _ => rfl), .nil, fun _ _ => .nil, I ._law_other a fd F⟩
  · obtain ⟨a, fd, gm, F⟩ := D.f__law_parts
    exact ⟨a, fd, _, [], [], gm, F.kp, rfl, F.bindsN (fun _ _ _ _ _ _ us hl => match us, hl with | [_], _ => rfl), .nil, fun _ _ => .nil, I ._law_parts a fd F⟩
  · obtain ⟨a, fd, gm, F⟩ := D.f__law_pick
    exact ⟨a, fd, _, [], [], gm, F.kp, rfl, F.bindsN (fun _ _ _ _ _ _ us hl => match us, hl with | [_, _], _ => rfl), .nil, fun _ _ => .nil, I ._law_pick a fd F⟩
  · obtain ⟨a, fd, gm, F⟩ := D.f__law_right
    exact ⟨a, fd, _, [], [], gm, F.kp, rfl, F.bindsN (fun _ _ _ _ _ _ us hl => match us, hl with | [_], _ => rfl), .nil, fun _ _ => .nil, I ._law_right a fd F⟩
  · obtain ⟨a, fd, gm, F⟩ := D.f__law_statement
    exact ⟨a, fd, _, [], [], gm, F.kp, rfl, F.bindsN (fun _ _ _ _ _ _ us hl => match us, hl with | [_, _, _, _, _], _ => rfl), .nil, fun _ _ => .nil, I ._law_statement a fd F⟩
  · obtain ⟨a, fd, gm, F⟩ := D.f__law_statements
    exact ⟨a, fd, _, [], [], gm, F.kp, rfl, F.bindsN (fun _ _ _ _ _ _ us hl => match us, hl with | [_, _, _, _, _], _ => rfl), .nil, fun _ _ => .nil, I ._law_statements a fd F⟩
  · obtain ⟨a, fd, gm, F⟩ := D.f__law_take
    exact ⟨a, fd, _, [], [], gm, F.kp, rfl, F.bindsN (fun _ _ _ _ _ _ us hl => match us, hl with | [_, _], _ => rfl), .nil, fun _ _ => .nil, I ._law_take a fd F⟩
  · obtain ⟨a, fd, gm, F⟩ := D.f__law_told
    exact ⟨a, fd, _, [], [], gm, F.kp, rfl, F.bindsN (fun _ _ _ _ _ _ us hl => match us, hl with | [_, _, _, _], _ => rfl), .nil, fun _ _ => .nil, I ._law_told a fd F⟩
  · obtain ⟨a, fd, gm, F⟩ := D.f__law_variables
    exact ⟨a, fd, _, [], [], gm, F.kp, rfl, F.bindsN (fun _ _ _ _ _ _ us hl => match us, hl with | [_], _ => rfl), .nil, fun _ _ => .nil, I ._law_variables a fd F⟩
  · obtain ⟨a, fd, gm, F⟩ := D.f_are_names
    exact ⟨a, fd, _, [], [], gm, F.kp, rfl, F.bindsN (fun _ _ _ _ _ _ us hl => match us, hl with | [_], _ => rfl), .nil, fun _ _ => .nil, I .are_names a fd F⟩
  · obtain ⟨a, fd, gm, F⟩ := D.f_are_statements
    exact ⟨a, fd, _, [], [], gm, F.kp, rfl, F.bindsN (fun _ _ _ _ _ _ us hl => match us, hl with | [_, _], _ => rfl), .nil, fun _ _ => .nil, I .are_statements a fd F⟩
  · obtain ⟨a, fd, gm, F⟩ := D.f_condition_names
    exact ⟨a, fd, _, [], [], gm, F.kp, rfl, F.bindsN (fun _ _ _ _ _ _ us hl => match us, hl with | [_], _ => rfl), .nil, fun _ _ => .nil, I .condition_names a fd F⟩
  · obtain ⟨a, fd, gm, F⟩ := D.f_expression_names
    exact ⟨a, fd, _, [], [], gm, F.kp, rfl, F.bindsN (fun _ _ _ _ _ _ us hl => match us, hl with | [_], _ => rfl), .nil, fun _ _ => .nil, I .expression_names a fd F⟩
  · obtain ⟨a, fd, gm, F⟩ := D.f_inner_of
    exact ⟨a, fd, _, [], [], gm, F.kp, rfl, F.bindsN (fun _ _ _ _ _ _ us hl => match us, hl with | [_], _ => rfl), .nil, fun _ _ => .nil, I .inner_of a fd F⟩
  · obtain ⟨a, fd, gm, F⟩ := D.f_is_act
    exact ⟨a, fd, _, [], [], gm, F.kp, rfl, F.bindsN (fun _ _ _ _ _ _ us hl => match us, hl with | [_, _], _ => rfl), .nil, fun _ _ => .nil, I .is_act a fd F⟩
  · obtain ⟨a, fd, gm, F⟩ := D.f_is_choice
    exact ⟨a, fd, _, [], [], gm, F.kp, rfl, F.bindsN (fun _ _ _ _ _ _ us hl => match us, hl with | [_], _ => rfl), .nil, fun _ _ => .nil, I .is_choice a fd F⟩
  · obtain ⟨a, fd, gm, F⟩ := D.f_is_condition
    exact ⟨a, fd, _, [], [], gm, F.kp, rfl, F.bindsN (fun _ _ _ _ _ _ us hl => match us, hl with | [_], _ => rfl), .nil, fun _ _ => .nil, I .is_condition a fd F⟩
  · obtain ⟨a, fd, gm, F⟩ := D.f_is_condition_within
    exact ⟨a, fd, _, [], [], gm, F.kp, rfl, F.bindsN (fun _ _ _ _ _ _ us hl => match us, hl with | [_, _], _ => rfl), .nil, fun _ _ => .nil, I .is_condition_within a fd F⟩
  · obtain ⟨a, fd, gm, F⟩ := D.f_is_expression
    exact ⟨a, fd, _, [], [], gm, F.kp, rfl, F.bindsN (fun _ _ _ _ _ _ us hl => match us, hl with | [_], _ => rfl), .nil, fun _ _ => .nil, I .is_expression a fd F⟩
  · obtain ⟨a, fd, gm, F⟩ := D.f_is_expression_within
    exact ⟨a, fd, _, [], [], gm, F.kp, rfl, F.bindsN (fun _ _ _ _ _ _ us hl => match us, hl with | [_, _], _ => rfl), .nil, fun _ _ => .nil, I .is_expression_within a fd F⟩
  · obtain ⟨a, fd, gm, F⟩ := D.f_is_integer
    obtain ⟨ds, hv, hb⟩ := F.binds1 (ps := ["thing", "low", "high"]) 3 2 (by simp) rfl (fun _ _ _ _ _ _ _ us its h1 h2 => match us, its, h1, h2 with | [_, _, _], [_, _], _, _ => ⟨_, rfl, rfl⟩)
    exact ⟨a, fd, _, _, ds, gm, F.kp, rfl, hb, hv, fun ρ G0 => .nil, I .is_integer a fd F⟩
  · obtain ⟨a, fd, gm, F⟩ := D.f_is_name
    exact ⟨a, fd, _, [], [], gm, F.kp, rfl, F.bindsN (fun _ _ _ _ _ _ us hl => match us, hl with | [_], _ => rfl), .nil, fun _ _ => .nil, I .is_name a fd F⟩
  · obtain ⟨a, fd, gm, F⟩ := D.f_is_pair
    exact ⟨a, fd, _, [], [], gm, F.kp, rfl, F.bindsN (fun _ _ _ _ _ _ us hl => match us, hl with | [_], _ => rfl), .nil, fun _ _ => .nil, I .is_pair a fd F⟩
  · obtain ⟨a, fd, gm, F⟩ := D.f_is_pairs
    exact ⟨a, fd, _, [], [], gm, F.kp, rfl, F.bindsN (fun _ _ _ _ _ _ us hl => match us, hl with | [_], _ => rfl), .nil, fun _ _ => .nil, I .is_pairs a fd F⟩
  · obtain ⟨a, fd, gm, F⟩ := D.f_is_right
    exact ⟨a, fd, _, [], [], gm, F.kp, rfl, F.bindsN (fun _ _ _ _ _ _ us hl => match us, hl with | [_], _ => rfl), .nil, fun _ _ => .nil, I .is_right a fd F⟩
  · obtain ⟨a, fd, gm, F⟩ := D.f_is_statement_within
    exact ⟨a, fd, _, [], [], gm, F.kp, rfl, F.bindsN (fun _ _ _ _ _ _ us hl => match us, hl with | [_, _], _ => rfl), .nil, fun _ _ => .nil, I .is_statement_within a fd F⟩
  · obtain ⟨a, fd, gm, F⟩ := D.f_is_tagged
    exact ⟨a, fd, _, [], [], gm, F.kp, rfl, F.bindsN (fun _ _ _ _ _ _ us hl => match us, hl with | [_, _], _ => rfl), .nil, fun _ _ => .nil, I .is_tagged a fd F⟩
  · obtain ⟨a, fd, gm, F⟩ := D.f_is_variable
    exact ⟨a, fd, _, [], [], gm, F.kp, rfl, F.bindsN (fun _ _ _ _ _ _ us hl => match us, hl with | [_], _ => rfl), .nil, fun _ _ => .nil, I .is_variable a fd F⟩
  · obtain ⟨a, fd, gm, F⟩ := D.f_is_variables
    exact ⟨a, fd, _, [], [], gm, F.kp, rfl, F.bindsN (fun _ _ _ _ _ _ us hl => match us, hl with | [_], _ => rfl), .nil, fun _ _ => .nil, I .is_variables a fd F⟩
  · obtain ⟨a, fd, gm, F⟩ := D.f_need_alike
    exact ⟨a, fd, _, [], [], gm, F.kp, rfl, F.bindsN (fun _ _ _ _ _ _ us hl => match us, hl with | [_, _], _ => rfl), .nil, fun _ _ => .nil, I .need_alike a fd F⟩
  · obtain ⟨a, fd, gm, F⟩ := D.f_need_condition
    exact ⟨a, fd, _, [], [], gm, F.kp, rfl, F.bindsN (fun _ _ _ _ _ _ us hl => match us, hl with | [_], _ => rfl), .nil, fun _ _ => .nil, I .need_condition a fd F⟩
  · obtain ⟨a, fd, gm, F⟩ := D.f_need_condition_of
    exact ⟨a, fd, _, [], [], gm, F.kp, rfl, F.bindsN (fun _ _ _ _ _ _ us hl => match us, hl with | [_, _], _ => rfl), .nil, fun _ _ => .nil, I .need_condition_of a fd F⟩
  · obtain ⟨a, fd, gm, F⟩ := D.f_need_program
    exact ⟨a, fd, _, [], [], gm, F.kp, rfl, F.bindsN (fun _ _ _ _ _ _ us hl => match us, hl with | [_], _ => rfl), .nil, fun _ _ => .nil, I .need_program a fd F⟩
  · obtain ⟨a, fd, gm, F⟩ := D.f_own_names
    exact ⟨a, fd, _, [], [], gm, F.kp, rfl, F.bindsN (fun _ _ _ _ _ _ us hl => match us, hl with | [_], _ => rfl), .nil, fun _ _ => .nil, I .own_names a fd F⟩
  · obtain ⟨a, fd, gm, F⟩ := D.f_pairs_names
    exact ⟨a, fd, _, [], [], gm, F.kp, rfl, F.bindsN (fun _ _ _ _ _ _ us hl => match us, hl with | [_], _ => rfl), .nil, fun _ _ => .nil, I .pairs_names a fd F⟩
  · obtain ⟨a, fd, gm, F⟩ := D.f_parts_of
    exact ⟨a, fd, _, [], [], gm, F.kp, rfl, F.bindsN (fun _ _ _ _ _ _ us hl => match us, hl with | [_], _ => rfl), .nil, fun _ _ => .nil, I .parts_of a fd F⟩
  · obtain ⟨a, fd, gm, F⟩ := D.f_places_of
    exact ⟨a, fd, _, [], [], gm, F.kp, rfl, F.bindsN (fun _ _ _ _ _ _ us hl => match us, hl with | [_], _ => rfl), .nil, fun _ _ => .nil, I .places_of a fd F⟩
  · obtain ⟨a, fd, gm, F⟩ := D.f_statement_names
    exact ⟨a, fd, _, [], [], gm, F.kp, rfl, F.bindsN (fun _ _ _ _ _ _ us hl => match us, hl with | [_], _ => rfl), .nil, fun _ _ => .nil, I .statement_names a fd F⟩
  · obtain ⟨a, fd, gm, F⟩ := D.f_statement_size
    exact ⟨a, fd, _, [], [], gm, F.kp, rfl, F.bindsN (fun _ _ _ _ _ _ us hl => match us, hl with | [_], _ => rfl), .nil, fun _ _ => .nil, I .statement_size a fd F⟩
  · obtain ⟨a, fd, gm, F⟩ := D.f_statements_in
    exact ⟨a, fd, _, [], [], gm, F.kp, rfl, F.bindsN (fun _ _ _ _ _ _ us hl => match us, hl with | [_], _ => rfl), .nil, fun _ _ => .nil, I .statements_in a fd F⟩
  · obtain ⟨a, fd, gm, F⟩ := D.f_then
    exact ⟨a, fd, _, [], [], gm, F.kp, rfl, F.bindsN (fun _ _ _ _ _ _ us hl => match us, hl with | [_, _], _ => rfl), .nil, fun _ _ => .nil, I .then a fd F⟩
  · obtain ⟨a, fd, gm, F⟩ := D.f_whole
    exact ⟨a, fd, _, [], [], gm, F.kp, rfl, F.bindsN (fun _ _ _ _ _ _ us hl => match us, hl with | [_, _], _ => rfl), .nil, fun _ _ => .nil, I .whole a fd F⟩
  · obtain ⟨a, fd, gm, F⟩ := D.f_around
    have I2 := I .around a fd F
    obtain ⟨oc, od, dV, kV, doc, pm, an, cdv, ct, osl, rfl, lk, hcd, hD, hK⟩ := F.ex
    rcases hD with ⟨_, rfl⟩ | ⟨z, _⟩
    · exact ⟨a, _, _, gm, F.kp, rfl, rfl, by decide, fun s ws _ hl => match ws, hl with | [_, _], _ => .of_eq rfl, I2⟩
    · exact absurd rfl z
  · obtain ⟨a, fd, gm, F⟩ := D.f_either
    have I2 := I .either a fd F
    obtain ⟨oc, od, dV, kV, doc, pm, an, cdv, ct, osl, rfl, lk, hcd, hD, hK⟩ := F.ex
    rcases hD with ⟨_, rfl⟩ | ⟨z, _⟩
    · exact ⟨a, _, _, gm, F.kp, rfl, rfl, by decide, fun s ws _ hl => match ws, hl with | [_, _, _], _ => .of_eq rfl, I2⟩
    · exact absurd rfl z
  · obtain ⟨a, fd, gm, F⟩ := D.f_then
    have I2 := I .then a fd F
    obtain ⟨oc, od, dV, kV, doc, pm, an, cdv, ct, osl, rfl, lk, hcd, hD, hK⟩ := F.ex
    rcases hD with ⟨_, rfl⟩ | ⟨z, _⟩
    · exact ⟨a, _, _, gm, F.kp, rfl, rfl, by decide, fun s ws _ hl => match ws, hl with | [_, _], _ => .of_eq rfl, I2⟩
    · exact absurd rfl z
theorem sem_ar : ∀ n f xs cs, sem n f xs cs = .bad ∨ xs.length = arN f
  | 0, _, _, _ => .inl rfl
  | n + 1, f, xs, cs => by cases f <;> exact bodyF_ar xs cs
theorem all_ok (X : Xs K mg) (D : Ds K mg) : ∀ n f, FnAll K mg P w base n (sem n) f
  | 0, f => by cases f <;> (intro a fd _; exact fn_bad rfl)
  | n + 1, f => by
    have C := calls_of D (sem_ar n) (all_ok X D n)
    cases f
    · exact fun a fd F => fn_sound (m := 0) F fs_is_integer rfl rfl (d_is_integer X C)
    · exact fun a fd F => fn_sound (m := 1) F fs_is_name rfl rfl (d_is_name X C)
    · exact fun a fd F => fn_sound (m := 1) F fs_are_names rfl rfl (d_are_names X C)
    · exact fun a fd F => fn_sound (m := 0) F fs_is_variable rfl rfl (d_is_variable X C)
    · exact fun a fd F => fn_sound (m := 4) F fs_is_variables rfl rfl (d_is_variables X C)
    · exact fun a fd F => fn_sound (m := 2) F fs_places_of rfl rfl (d_places_of X C)
    · exact fun a fd F => fn_sound (m := 0) F fs_is_tagged rfl rfl (d_is_tagged X C)
    · exact fun a fd F => fn_sound (m := 0) F fs_is_expression_within rfl rfl (d_is_expression_within X C)
    · exact fun a fd F => fn_sound (m := 0) F fs_is_condition_within rfl rfl (d_is_condition_within X C)
    · exact fun a fd F => fn_sound (m := 0) F fs_is_expression rfl rfl (d_is_expression X C)
    · exact fun a fd F => fn_sound (m := 0) F fs_is_condition rfl rfl (d_is_condition X C)
    · exact fun a fd F => fn_sound (m := 0) F fs_is_pair rfl rfl (d_is_pair X C)
    · exact fun a fd F => fn_sound (m := 1) F fs_is_pairs rfl rfl (d_is_pairs X C)
    · exact fun a fd F => fn_sound (m := 1) F fs_is_choice rfl rfl (d_is_choice X C)
    · exact fun a fd F => fn_sound (m := 0) F fs_expression_names rfl rfl (d_expression_names X C)
    · exact fun a fd F => fn_sound (m := 0) F fs_condition_names rfl rfl (d_condition_names X C)
    · exact fun a fd F => fn_sound (m := 2) F fs_pairs_names rfl rfl (d_pairs_names X C)
    · exact fun a fd F => fn_sound (m := 2) F fs_is_statement_within rfl rfl (d_is_statement_within X C)
    · exact fun a fd F => fn_sound (m := 0) F fs_is_act rfl rfl (d_is_act X C)
    · exact fun a fd F => fn_sound (m := 1) F fs_are_statements rfl rfl (d_are_statements X C)
    · exact fun a fd F => fn_sound (m := 0) F fs_inner_of rfl rfl (d_inner_of X C)
    · exact fun a fd F => fn_sound (m := 2) F fs_statements_in rfl rfl (d_statements_in X C)
    · exact fun a fd F => fn_sound (m := 1) F fs_statement_size rfl rfl (d_statement_size X C)
    · exact fun a fd F => fn_sound (m := 3) F fs_own_names rfl rfl (d_own_names X C)
    · exact fun a fd F => fn_sound (m := 2) F fs_statement_names rfl rfl (d_statement_names X C)
    · exact fun a fd F => fn_sound (m := 2) F fs_is_right rfl rfl (d_is_right X C)
    · exact fun a fd F => fn_sound (m := 0) F fs_need_program rfl rfl (d_need_program X C)
    · exact fun a fd F => fn_sound (m := 0) F fs_need_condition rfl rfl (d_need_condition X C)
    · exact fun a fd F => fn_sound (m := 2) F fs_need_condition_of rfl rfl (d_need_condition_of X C)
    · exact fun a fd F => fn_sound (m := 0) F fs_need_alike rfl rfl (d_need_alike X C)
    · exact fun a fd F => fn_sound (m := 0) F fs_parts_of rfl rfl (d_parts_of X C)
    · exact fun a fd F => fn_sound (m := 0) F fs_whole rfl rfl (d_whole X C)
    · exact fun a fd F => fn_sound (m := 0) F fs_then rfl rfl (d_then X C)
    · exact fun a fd F => fn_sound (m := 0) F fs_either rfl rfl (d_either X C)
    · exact fun a fd F => fn_sound (m := 0) F fs_around rfl rfl (d_around X C)
    · exact fun a fd F => fn_sound (m := 1) F fs__law_bag rfl rfl (d__law_bag X C)
    · exact fun a fd F => fn_sound (m := 2) F fs__law_take rfl rfl (d__law_take X C)
    · exact fun a fd F => fn_sound (m := 0) F fs__law_pick rfl rfl (d__law_pick X C)
    · exact fun a fd F => fn_sound (m := 4) F fs__law_variables rfl rfl (d__law_variables X C)
    · exact fun a fd F => fn_sound (m := 3) F fs__law_expression rfl rfl (d__law_expression X C)
    · exact fun a fd F => fn_sound (m := 3) F fs__law_condition rfl rfl (d__law_condition X C)
    · exact fun a fd F => fn_sound (m := 8) F fs__law_statement rfl rfl (d__law_statement X C)
    · exact fun a fd F => fn_sound (m := 2) F fs__law_statements rfl rfl (d__law_statements X C)
    · exact fun a fd F => fn_sound (m := 5) F fs__law_program rfl rfl (d__law_program X C)
    · exact fun a fd F => fn_sound (m := 3) F fs__law_many rfl rfl (d__law_many X C)
    · exact fun a fd F => fn_sound (m := 0) F fs__law_parts rfl rfl (d__law_parts X C)
    · exact fun a fd F => fn_sound (m := 1) F fs__law_told rfl rfl (d__law_told X C)
    · exact fun a fd F => fn_sound (m := 2) F fs__law_other rfl rfl (d__law_other X C)
    · exact fun a fd F => fn_sound (m := 17) F fs__law_right rfl rfl (d__law_right X C)
    · exact fun a fd F => fn_sound (m := 1) F fs_law rfl rfl (d_law X C)
end
def dfs : List He.DefD := [⟨("is_integer", none), "is_integer", "is_integer", defArgs (top 14), defBody (top 14), sc_is_integer, [.non, .non], []⟩, ⟨("is_name", none), "is_name", "is_name", defArgs (top 15), defBody (top 15), sc_is_name, [], []⟩, ⟨("are_names", none), "are_names", "are_names", defArgs (top 16), defBody (top 16), sc_are_names, [], []⟩, ⟨("is_variable", none), "is_variable", "is_variable", defArgs (top 17), defBody (top 17), sc_is_variable, [], []⟩, ⟨("is_variables", none), "is_variables", "is_variables", defArgs (top 18), defBody (top 18), sc_is_variables, [], []⟩, ⟨("places_of", none), "places_of", "places_of", defArgs (top 19), defBody (top 19), sc_places_of, [], []⟩, ⟨("is_tagged", none), "is_tagged", "is_tagged", defArgs (top 28), defBody (top 28), sc_is_tagged, [], []⟩, ⟨("is_expression_within", none), "is_expression_within", "is_expression_within", defArgs (top 29), defBody (top 29), sc_is_expression_within, [], []⟩, ⟨("is_condition_within", none), "is_condition_within", "is_condition_within", defArgs (top 30), defBody (top 30), sc_is_condition_within, [], []⟩, ⟨("is_expression", none), "is_expression", "is_expression", defArgs (top 31), defBody (top 31), sc_is_expression, [], []⟩, ⟨("is_condition", none), "is_condition", "is_condition", defArgs (top 32), defBody (top 32), sc_is_condition, [], []⟩, ⟨("is_pair", none), "is_pair", "is_pair", defArgs (top 33), defBody (top 33), sc_is_pair, [], []⟩, ⟨("is_pairs", none), "is_pairs", "is_pairs", defArgs (top 34), defBody (top 34), sc_is_pairs, [], []⟩, ⟨("is_choice", none), "is_choice", "is_choice", defArgs (top 35), defBody (top 35), sc_is_choice, [], []⟩, ⟨("expression_names", none), "expression_names", "expression_names", defArgs (top 36), defBody (top 36), sc_expression_names, [], []⟩, ⟨("condition_names", none), "condition_names", "condition_names", defArgs (top 37), defBody (top 37), sc_condition_names, [], []⟩, ⟨("pairs_names", none), "pairs_names", "pairs_names", defArgs (top 38), defBody (top 38), sc_pairs_names, [], []⟩, ⟨("is_statement_within", none), "is_statement_within", "is_statement_within", defArgs (top 39), defBody (top 39), sc_is_statement_within, [], []⟩, ⟨("is_act", none), "is_act", "is_act", defArgs (top 40), defBody (top 40), sc_is_act, [], []⟩, ⟨("are_statements", none), "are_statements", "are_statements", defArgs (top 41), defBody (top 41), sc_are_statements, [], []⟩, ⟨("inner_of", none), "inner_of", "inner_of", defArgs (top 42), defBody (top 42), sc_inner_of, [], []⟩, ⟨("statements_in", none), "statements_in", "statements_in", defArgs (top 43), defBody (top 43), sc_statements_in, [], []⟩, ⟨("statement_size", none), "statement_size", "statement_size", defArgs (top 44), defBody (top 44), sc_statement_size, [], []⟩, ⟨("own_names", none), "own_names", "own_names", defArgs (top 45), defBody (top 45), sc_own_names, [], []⟩, ⟨("statement_names", none), "statement_names", "statement_names", defArgs (top 46), defBody (top 46), sc_statement_names, [], []⟩, ⟨("is_right", none), "is_right", "is_right", defArgs (top 47), defBody (top 47), sc_is_right, [], []⟩, ⟨("need_program", none), "need_program", "need_program", defArgs (top 48), defBody (top 48), sc_need_program, [], []⟩, ⟨("need_condition", none), "need_condition", "need_condition", defArgs (top 49), defBody (top 49), sc_need_condition, [], []⟩, ⟨("need_condition_of", none), "need_condition_of", "need_condition_of", defArgs (top 50), defBody (top 50), sc_need_condition_of, [], []⟩, ⟨("need_alike", none), "need_alike", "need_alike", defArgs (top 52), defBody (top 52), sc_need_alike, [], []⟩, ⟨("parts_of", none), "parts_of", "parts_of", defArgs (top 53), defBody (top 53), sc_parts_of, [], []⟩, ⟨("whole", none), "whole", "whole", defArgs (top 54), defBody (top 54), sc_whole, [], []⟩, ⟨("then", none), "then", "then", defArgs (top 55), defBody (top 55), sc_then, [], []⟩, ⟨("either", none), "either", "either", defArgs (top 56), defBody (top 56), sc_either, [], []⟩, ⟨("around", none), "around", "around", defArgs (top 57), defBody (top 57), sc_around, [], []⟩, ⟨("_law_bag", none), "_law_bag", "_law_bag", defArgs (top 59), defBody (top 59), sc__law_bag, [], []⟩, ⟨("_law_take", none), "_law_take", "_law_take", defArgs (top 60), defBody (top 60), sc__law_take, [], []⟩, ⟨("_law_pick", none), "_law_pick", "_law_pick", defArgs (top 61), defBody (top 61), sc__law_pick, [], []⟩, ⟨("_law_variables", none), "_law_variables", "_law_variables", defArgs (top 62), defBody (top 62), sc__law_variables, [], []⟩, ⟨("_law_expression", none), "_law_expression", "_law_expression", defArgs (top 63), defBody (top 63), sc__law_expression, [], []⟩, ⟨("_law_condition", none), "_law_condition", "_law_condition", defArgs (top 64), defBody (top 64), sc__law_condition, [], []⟩, ⟨("_law_statement", none), "_law_statement", "_law_statement", defArgs (top 65), defBody (top 65), sc__law_statement, [], []⟩, ⟨("_law_statements", none), "_law_statements", "_law_statements", defArgs (top 66), defBody (top 66), sc__law_statements, [], []⟩, ⟨("_law_program", none), "_law_program", "_law_program", defArgs (top 67), defBody (top 67), sc__law_program, [], []⟩, ⟨("_law_many", none), "_law_many", "_law_many", defArgs (top 68), defBody (top 68), sc__law_many, [], []⟩, ⟨("_law_parts", none), "_law_parts", "_law_parts", defArgs (top 69), defBody (top 69), sc__law_parts, [], []⟩, ⟨("_law_told", none), "_law_told", "_law_told", defArgs (top 70), defBody (top 70), sc__law_told, [], []⟩, ⟨("_law_other", none), "_law_other", "_law_other", defArgs (top 71), defBody (top 71), sc__law_other, [], []⟩, ⟨("_law_right", none), "_law_right", "_law_right", defArgs (top 72), defBody (top 72), sc__law_right, [], []⟩, ⟨("law", none), "law", "law", defArgs (top 73), defBody (top 73), sc_law, [], []⟩]
def fcs : List He.Fa := [.glo "is_integer", .glo "is_name", .glo "are_names", .glo "is_variable", .glo "is_variables", .glo "places_of", .glo "is_tagged", .glo "is_expression_within", .glo "is_condition_within", .glo "is_expression", .glo "is_condition", .glo "is_pair", .glo "is_pairs", .glo "is_choice", .glo "expression_names", .glo "condition_names", .glo "pairs_names", .glo "is_statement_within", .glo "is_act", .glo "are_statements", .glo "inner_of", .glo "statements_in", .glo "statement_size", .glo "own_names", .glo "statement_names", .glo "is_right", .glo "need_program", .glo "need_condition", .glo "need_condition_of", .glo "need_alike", .glo "parts_of", .glo "whole", .glo "then", .glo "either", .glo "around", .glo "_law_bag", .glo "_law_take", .glo "_law_pick", .glo "_law_variables", .glo "_law_expression", .glo "_law_condition", .glo "_law_statement", .glo "_law_statements", .glo "_law_program", .glo "_law_many", .glo "_law_parts", .glo "_law_told", .glo "_law_other", .glo "_law_right", .glo "law", .free "all", .free "bool", .free "enumerate", .free "int", .free "isinstance", .free "len", .free "list", .free "max", .free "min", .free "range", .free "set", .free "str", .free "sum", .free "tuple", .glo "COMPARISONS", .int "LEAST_SIZE" 2, .int "MOST_DEEP" 10, .int "MOST_NAME" 10, .int "MOST_NUMBER" 99, .int "MOST_PAIRS" 6, .int "MOST_SIZE" 6, .int "MOST_STATEMENTS" 60, .int "MOST_STATES" 24, .int "MOST_VARIABLES" 4, .int "MOST_WITHIN" 12, .str "NAME_SIGNS" "abcdefghijklmnopqrstuvwxyz0123456789", .glo "OPERATIONS", .str "SMALL" "abcdefghijklmnopqrstuvwxyz", .glo "WORDS", .glo "BadCondition", .glo "BadProgram", .glo "NotAlike", .exc "BadCondition", .exc "BadProgram", .exc "NotAlike", .exm "BadCondition" "BadCondition" true, .exm "BadCondition" "BadProgram" false, .exm "BadCondition" "NotAlike" false, .exm "BadProgram" "BadCondition" false, .exm "BadProgram" "BadProgram" true, .exm "BadProgram" "NotAlike" false, .exm "NotAlike" "BadCondition" false, .exm "NotAlike" "BadProgram" false, .exm "NotAlike" "NotAlike" true]
def tbs : Tb := [("COMPARISONS", [(.str "is"), (.str "below")]), ("OPERATIONS", [(.str "add"), (.str "less by"), (.str "times"), (.str "least"), (.str "most")]), ("WORDS", [(.str "vars"), (.str "skip"), (.str "draw"), (.str "from"), (.str "weight"), (.str "choose"), (.str "see"), (.str "if"), (.str "then"), (.str "else"), (.str "while"), (.str "do"), (.str "true"), (.str "is"), (.str "below"), (.str "not"), (.str "and"), (.str "or"), (.str "least"), (.str "most")])]
def loose_0 : List PySem.Str := ["ChanceError", "BadProgram", "BadCondition", "NotAlike", "WORDS", "SMALL", "NAME_SIGNS", "MOST_NAME", "MOST_VARIABLES", "LEAST_SIZE", "MOST_SIZE", "MOST_STATES", "is_integer", "is_name", "are_names", "is_variable", "is_variables", "places_of", "OPERATIONS", "COMPARISONS", "MOST_NUMBER", "MOST_PAIRS", "MOST_STATEMENTS", "MOST_WITHIN", "MOST_DEEP", "is_tagged", "is_expression_within", "is_condition_within", "is_expression", "is_condition"]
def loose_30 : List PySem.Str := ["is_pair", "is_pairs", "is_choice", "expression_names", "condition_names", "pairs_names", "is_statement_within", "is_act", "are_statements", "inner_of", "statements_in", "statement_size", "own_names", "statement_names", "is_right", "need_program", "need_condition", "need_condition_of", "need_alike", "parts_of", "whole", "then", "either", "around", "_law_bag", "_law_take", "_law_pick", "_law_variables", "_law_expression", "_law_condition"]
def loose_60 : List PySem.Str := ["_law_statement", "_law_statements", "_law_program", "_law_many", "_law_parts", "_law_told", "_law_other", "_law_right"]
def loose : List PySem.Str := loose_0 ++ loose_30 ++ loose_60

abbrev Rr : PySem.W.OpenRow := PySem.W.OpenLaw.row Rw
abbrev hk : PySem.W.Hook := hookT 4 fcs dfs tbs
def ob (s : PySem.W.SharedT) : He.AlD × Bool := obsT 4 fcs dfs tbs (HandSHeadRun.getT s)
theorem ob_eq (s : PySem.W.SharedT) : ob s = hk.obs s.abs := obsT_eq (HandSHeadRun.getT_eq s)
theorem run (w : World) : HandSHeadRun.RunEq Rr (PySem.W.view Rr.prog [73]) hk ob 20000 loose w := by
  intro os
  kernel_rfl
section
variable {P : Program} {w : World} {K : PySem.W.Frag} {h : Heap} {mg : PySem.Str → Option Value}
theorem xs_of (X : K.In h) (G : h.Ns mainGlobals mg) (c : He.SaysD fcs dfs K) (t : tbOk tbs K = true) : Xs K mg := by
  have mt_ok : MtOk K mg mt := by
    refine mtOf_ok fun p hp => ?_
    simp only [List.mem_cons, List.not_mem_nil, or_false] at hp
    rcases hp with rfl | rfl | rfl | rfl | rfl | rfl | rfl | rfl | rfl
    · exact ⟨_, _, He.glo_ok X G (c.fact 79 (f := .glo "BadCondition") rfl), He.glo_ok X G (c.fact 79 (f := .glo "BadCondition") rfl), He.exm_ok (c.fact 85 (f := .exm "BadCondition" "BadCondition" true) rfl)⟩
    · exact ⟨_, _, He.glo_ok X G (c.fact 79 (f := .glo "BadCondition") rfl), He.glo_ok X G (c.fact 80 (f := .glo "BadProgram") rfl), He.exm_ok (c.fact 86 (f := .exm "BadCondition" "BadProgram" false) rfl)⟩
    · exact ⟨_, _, He.glo_ok X G (c.fact 79 (f := .glo "BadCondition") rfl), He.glo_ok X G (c.fact 81 (f := .glo "NotAlike") rfl), He.exm_ok (c.fact 87 (f := .exm "BadCondition" "NotAlike" false) rfl)⟩
    · exact ⟨_, _, He.glo_ok X G (c.fact 80 (f := .glo "BadProgram") rfl), He.glo_ok X G (c.fact 79 (f := .glo "BadCondition") rfl), He.exm_ok (c.fact 88 (f := .exm "BadProgram" "BadCondition" false) rfl)⟩
    · exact ⟨_, _, He.glo_ok X G (c.fact 80 (f := .glo "BadProgram") rfl), He.glo_ok X G (c.fact 80 (f := .glo "BadProgram") rfl), He.exm_ok (c.fact 89 (f := .exm "BadProgram" "BadProgram" true) rfl)⟩
    · exact ⟨_, _, He.glo_ok X G (c.fact 80 (f := .glo "BadProgram") rfl), He.glo_ok X G (c.fact 81 (f := .glo "NotAlike") rfl), He.exm_ok (c.fact 90 (f := .exm "BadProgram" "NotAlike" false) rfl)⟩
    · exact ⟨_, _, He.glo_ok X G (c.fact 81 (f := .glo "NotAlike") rfl), He.glo_ok X G (c.fact 79 (f := .glo "BadCondition") rfl), He.exm_ok (c.fact 91 (f := .exm "NotAlike" "BadCondition" false) rfl)⟩
    · exact ⟨_, _, He.glo_ok X G (c.fact 81 (f := .glo "NotAlike") rfl), He.glo_ok X G (c.fact 80 (f := .glo "BadProgram") rfl), He.exm_ok (c.fact 92 (f := .exm "NotAlike" "BadProgram" false) rfl)⟩
    · exact ⟨_, _, He.glo_ok X G (c.fact 81 (f := .glo "NotAlike") rfl), He.glo_ok X G (c.fact 81 (f := .glo "NotAlike") rfl), He.exm_ok (c.fact 93 (f := .exm "NotAlike" "NotAlike" true) rfl)⟩
  exact ⟨He.free_ok X G (c.fact 50 (f := .free "all") rfl),
    He.free_ok X G (c.fact 51 (f := .free "bool") rfl),
    He.free_ok X G (c.fact 52 (f := .free "enumerate") rfl),
    He.free_ok X G (c.fact 53 (f := .free "int") rfl),
    He.free_ok X G (c.fact 54 (f := .free "isinstance") rfl),
    He.free_ok X G (c.fact 55 (f := .free "len") rfl),
    He.free_ok X G (c.fact 56 (f := .free "list") rfl),
    He.free_ok X G (c.fact 57 (f := .free "max") rfl),
    He.free_ok X G (c.fact 58 (f := .free "min") rfl),
    He.free_ok X G (c.fact 59 (f := .free "range") rfl),
    He.free_ok X G (c.fact 60 (f := .free "set") rfl),
    He.free_ok X G (c.fact 61 (f := .free "str") rfl),
    He.free_ok X G (c.fact 62 (f := .free "sum") rfl),
    He.free_ok X G (c.fact 63 (f := .free "tuple") rfl),
    glob_tup t 0 rfl (He.glo_ok X G (c.fact 64 (f := .glo "COMPARISONS") rfl)),
    glob_int (He.int_ok X G (c.fact 65 (f := .int "LEAST_SIZE" 2) rfl)),
    glob_int (He.int_ok X G (c.fact 66 (f := .int "MOST_DEEP" 10) rfl)),
    glob_int (He.int_ok X G (c.fact 67 (f := .int "MOST_NAME" 10) rfl)),
    glob_int (He.int_ok X G (c.fact 68 (f := .int "MOST_NUMBER" 99) rfl)),
    glob_int (He.int_ok X G (c.fact 69 (f := .int "MOST_PAIRS" 6) rfl)),
    glob_int (He.int_ok X G (c.fact 70 (f := .int "MOST_SIZE" 6) rfl)),
    glob_int (He.int_ok X G (c.fact 71 (f := .int "MOST_STATEMENTS" 60) rfl)),
    glob_int (He.int_ok X G (c.fact 72 (f := .int "MOST_STATES" 24) rfl)),
    glob_int (He.int_ok X G (c.fact 73 (f := .int "MOST_VARIABLES" 4) rfl)),
    glob_int (He.int_ok X G (c.fact 74 (f := .int "MOST_WITHIN" 12) rfl)),
    glob_str (He.str_ok X G (c.fact 75 (f := .str "NAME_SIGNS" "abcdefghijklmnopqrstuvwxyz0123456789") rfl)),
    glob_tup t 1 rfl (He.glo_ok X G (c.fact 76 (f := .glo "OPERATIONS") rfl)),
    glob_str (He.str_ok X G (c.fact 77 (f := .str "SMALL" "abcdefghijklmnopqrstuvwxyz") rfl)),
    glob_tup t 2 rfl (He.glo_ok X G (c.fact 78 (f := .glo "WORDS") rfl)),
    exck_of (He.glo_ok X G (c.fact 79 (f := .glo "BadCondition") rfl)) (c.fact 82 (f := .exc "BadCondition") rfl),
    exck_of (He.glo_ok X G (c.fact 80 (f := .glo "BadProgram") rfl)) (c.fact 83 (f := .exc "BadProgram") rfl),
    exck_of (He.glo_ok X G (c.fact 81 (f := .glo "NotAlike") rfl)) (c.fact 84 (f := .exc "NotAlike") rfl),
    ⟨_, He.glo_ok X G (c.fact 79 (f := .glo "BadCondition") rfl)⟩,
    ⟨_, He.glo_ok X G (c.fact 80 (f := .glo "BadProgram") rfl)⟩,
    ⟨_, He.glo_ok X G (c.fact 81 (f := .glo "NotAlike") rfl)⟩,
    mt_ok⟩
theorem ds_of (X : K.In h) (G : h.Ns mainGlobals mg) (c : He.SaysD fcs dfs K) : Ds K mg := by
  refine ⟨?_, ?_, ?_, ?_, ?_, ?_, ?_, ?_, ?_, ?_, ?_, ?_, ?_, ?_, ?_, ?_, ?_, ?_, ?_, ?_, ?_, ?_, ?_, ?_, ?_, ?_, ?_, ?_, ?_, ?_, ?_, ?_, ?_, ?_, ?_, ?_, ?_, ?_, ?_, ?_, ?_, ?_, ?_, ?_, ?_, ?_, ?_, ?_, ?_, ?_⟩
  · obtain ⟨fd, F⟩ := c.def_ 0 rfl
    exact ⟨_, fd, He.glo_ok X G (c.fact 0 (f := .glo "is_integer") rfl), F⟩
  · obtain ⟨fd, F⟩ := c.def_ 1 rfl
    exact ⟨_, fd, He.glo_ok X G (c.fact 1 (f := .glo "is_name") rfl), F⟩
  · obtain ⟨fd, F⟩ := c.def_ 2 rfl
    exact ⟨_, fd, He.glo_ok X G (c.fact 2 (f := .glo "are_names") rfl), F⟩
  · obtain ⟨fd, F⟩ := c.def_ 3 rfl
    exact ⟨_, fd, He.glo_ok X G (c.fact 3 (f := .glo "is_variable") rfl), F⟩
  · obtain ⟨fd, F⟩ := c.def_ 4 rfl
    exact ⟨_, fd, He.glo_ok X G (c.fact 4 (f := .glo "is_variables") rfl), F⟩
  · obtain ⟨fd, F⟩ := c.def_ 5 rfl
    exact ⟨_, fd, He.glo_ok X G (c.fact 5 (f := .glo "places_of") rfl), F⟩
  · obtain ⟨fd, F⟩ := c.def_ 6 rfl
    exact ⟨_, fd, He.glo_ok X G (c.fact 6 (f := .glo "is_tagged") rfl), F⟩
  · obtain ⟨fd, F⟩ := c.def_ 7 rfl
    exact ⟨_, fd, He.glo_ok X G (c.fact 7 (f := .glo "is_expression_within") rfl), F⟩
  · obtain ⟨fd, F⟩ := c.def_ 8 rfl
    exact ⟨_, fd, He.glo_ok X G (c.fact 8 (f := .glo "is_condition_within") rfl), F⟩
  · obtain ⟨fd, F⟩ := c.def_ 9 rfl
    exact ⟨_, fd, He.glo_ok X G (c.fact 9 (f := .glo "is_expression") rfl), F⟩
  · obtain ⟨fd, F⟩ := c.def_ 10 rfl
    exact ⟨_, fd, He.glo_ok X G (c.fact 10 (f := .glo "is_condition") rfl), F⟩
  · obtain ⟨fd, F⟩ := c.def_ 11 rfl
    exact ⟨_, fd, He.glo_ok X G (c.fact 11 (f := .glo "is_pair") rfl), F⟩
  · obtain ⟨fd, F⟩ := c.def_ 12 rfl
    exact ⟨_, fd, He.glo_ok X G (c.fact 12 (f := .glo "is_pairs") rfl), F⟩
  · obtain ⟨fd, F⟩ := c.def_ 13 rfl
    exact ⟨_, fd, He.glo_ok X G (c.fact 13 (f := .glo "is_choice") rfl), F⟩
  · obtain ⟨fd, F⟩ := c.def_ 14 rfl
    exact ⟨_, fd, He.glo_ok X G (c.fact 14 (f := .glo "expression_names") rfl), F⟩
  · obtain ⟨fd, F⟩ := c.def_ 15 rfl
    exact ⟨_, fd, He.glo_ok X G (c.fact 15 (f := .glo "condition_names") rfl), F⟩
  · obtain ⟨fd, F⟩ := c.def_ 16 rfl
    exact ⟨_, fd, He.glo_ok X G (c.fact 16 (f := .glo "pairs_names") rfl), F⟩
  · obtain ⟨fd, F⟩ := c.def_ 17 rfl
    exact ⟨_, fd, He.glo_ok X G (c.fact 17 (f := .glo "is_statement_within") rfl), F⟩
  · obtain ⟨fd, F⟩ := c.def_ 18 rfl
    exact ⟨_, fd, He.glo_ok X G (c.fact 18 (f := .glo "is_act") rfl), F⟩
  · obtain ⟨fd, F⟩ := c.def_ 19 rfl
    exact ⟨_, fd, He.glo_ok X G (c.fact 19 (f := .glo "are_statements") rfl), F⟩
  · obtain ⟨fd, F⟩ := c.def_ 20 rfl
    exact ⟨_, fd, He.glo_ok X G (c.fact 20 (f := .glo "inner_of") rfl), F⟩
  · obtain ⟨fd, F⟩ := c.def_ 21 rfl
    exact ⟨_, fd, He.glo_ok X G (c.fact 21 (f := .glo "statements_in") rfl), F⟩
  · obtain ⟨fd, F⟩ := c.def_ 22 rfl
    exact ⟨_, fd, He.glo_ok X G (c.fact 22 (f := .glo "statement_size") rfl), F⟩
  · obtain ⟨fd, F⟩ := c.def_ 23 rfl
    exact ⟨_, fd, He.glo_ok X G (c.fact 23 (f := .glo "own_names") rfl), F⟩
  · obtain ⟨fd, F⟩ := c.def_ 24 rfl
    exact ⟨_, fd, He.glo_ok X G (c.fact 24 (f := .glo "statement_names") rfl), F⟩
  · obtain ⟨fd, F⟩ := c.def_ 25 rfl
    exact ⟨_, fd, He.glo_ok X G (c.fact 25 (f := .glo "is_right") rfl), F⟩
  · obtain ⟨fd, F⟩ := c.def_ 26 rfl
    exact ⟨_, fd, He.glo_ok X G (c.fact 26 (f := .glo "need_program") rfl), F⟩
  · obtain ⟨fd, F⟩ := c.def_ 27 rfl
    exact ⟨_, fd, He.glo_ok X G (c.fact 27 (f := .glo "need_condition") rfl), F⟩
  · obtain ⟨fd, F⟩ := c.def_ 28 rfl
    exact ⟨_, fd, He.glo_ok X G (c.fact 28 (f := .glo "need_condition_of") rfl), F⟩
  · obtain ⟨fd, F⟩ := c.def_ 29 rfl
    exact ⟨_, fd, He.glo_ok X G (c.fact 29 (f := .glo "need_alike") rfl), F⟩
  · obtain ⟨fd, F⟩ := c.def_ 30 rfl
    exact ⟨_, fd, He.glo_ok X G (c.fact 30 (f := .glo "parts_of") rfl), F⟩
  · obtain ⟨fd, F⟩ := c.def_ 31 rfl
    exact ⟨_, fd, He.glo_ok X G (c.fact 31 (f := .glo "whole") rfl), F⟩
  · obtain ⟨fd, F⟩ := c.def_ 32 rfl
    exact ⟨_, fd, He.glo_ok X G (c.fact 32 (f := .glo "then") rfl), F⟩
  · obtain ⟨fd, F⟩ := c.def_ 33 rfl
    exact ⟨_, fd, He.glo_ok X G (c.fact 33 (f := .glo "either") rfl), F⟩
  · obtain ⟨fd, F⟩ := c.def_ 34 rfl
    exact ⟨_, fd, He.glo_ok X G (c.fact 34 (f := .glo "around") rfl), F⟩
  · obtain ⟨fd, F⟩ := c.def_ 35 rfl
    exact ⟨_, fd, He.glo_ok X G (c.fact 35 (f := .glo "_law_bag") rfl), F⟩
  · obtain ⟨fd, F⟩ := c.def_ 36 rfl
    exact ⟨_, fd, He.glo_ok X G (c.fact 36 (f := .glo "_law_take") rfl), F⟩
  · obtain ⟨fd, F⟩ := c.def_ 37 rfl
    exact ⟨_, fd, He.glo_ok X G (c.fact 37 (f := .glo "_law_pick") rfl), F⟩
  · obtain ⟨fd, F⟩ := c.def_ 38 rfl
    exact ⟨_, fd, He.glo_ok X G (c.fact 38 (f := .glo "_law_variables") rfl), F⟩
  · obtain ⟨fd, F⟩ := c.def_ 39 rfl
    exact ⟨_, fd, He.glo_ok X G (c.fact 39 (f := .glo "_law_expression") rfl), F⟩
  · obtain ⟨fd, F⟩ := c.def_ 40 rfl
    exact ⟨_, fd, He.glo_ok X G (c.fact 40 (f := .glo "_law_condition") rfl), F⟩
  · obtain ⟨fd, F⟩ := c.def_ 41 rfl
    exact ⟨_, fd, He.glo_ok X G (c.fact 41 (f := .glo "_law_statement") rfl), F⟩
  · obtain ⟨fd, F⟩ := c.def_ 42 rfl
    exact ⟨_, fd, He.glo_ok X G (c.fact 42 (f := .glo "_law_statements") rfl), F⟩
  · obtain ⟨fd, F⟩ := c.def_ 43 rfl
    exact ⟨_, fd, He.glo_ok X G (c.fact 43 (f := .glo "_law_program") rfl), F⟩
  · obtain ⟨fd, F⟩ := c.def_ 44 rfl
    exact ⟨_, fd, He.glo_ok X G (c.fact 44 (f := .glo "_law_many") rfl), F⟩
  · obtain ⟨fd, F⟩ := c.def_ 45 rfl
    exact ⟨_, fd, He.glo_ok X G (c.fact 45 (f := .glo "_law_parts") rfl), F⟩
  · obtain ⟨fd, F⟩ := c.def_ 46 rfl
    exact ⟨_, fd, He.glo_ok X G (c.fact 46 (f := .glo "_law_told") rfl), F⟩
  · obtain ⟨fd, F⟩ := c.def_ 47 rfl
    exact ⟨_, fd, He.glo_ok X G (c.fact 47 (f := .glo "_law_other") rfl), F⟩
  · obtain ⟨fd, F⟩ := c.def_ 48 rfl
    exact ⟨_, fd, He.glo_ok X G (c.fact 48 (f := .glo "_law_right") rfl), F⟩
  · obtain ⟨fd, F⟩ := c.def_ 49 rfl
    exact ⟨_, fd, He.glo_ok X G (c.fact 49 (f := .glo "law") rfl), F⟩
end
end LW
end
section
set_option Elab.async false
set_option linter.all false
set_option maxRecDepth 100000
set_option autoImplicit false
namespace LW
open PySem PySem.Spec PyProof.Rows L2 DL
abbrev yes (b : Bool) (cs : Cs) : R Slot := .ok (.fr (.d (.bool b))) cs
abbrev nul (cs : Cs) : R Slot := .ok (.fr (.d .none)) cs
theorem is_integer_lh (n : Nat) (i a b : Int) (cs : Cs) : sem (n + 1) .is_integer [.d (.int i), .d (.int a), .d (.int b)] cs = yes (decide (a ≤ i) && decide (i ≤ b)) cs := by
  rw [e_is_integer]
  by_cases h : a ≤ i <;> simp [s_is_integer, isiB, isNone, geD, leD, cT, h]
theorem is_integer_0 (n : Nat) (i : Int) (cs : Cs) : sem (n + 1) .is_integer [.d (.int i), .d .none, .d .none] cs = yes true cs := by
  rw [e_is_integer]
  simp [s_is_integer, isiB, isNone, geD, leD, cT]
def NameOk (x : Str) : Prop := ∀ n cs, sem (n + 1) .is_name [.d (.str x)] cs = yes true cs
theorem is_variable_ok (n : Nat) (x : Str) (s : Int) (cs : Cs) (h : NameOk x) (h1 : 2 ≤ s) (h2 : s ≤ 6) : sem (n + 2) .is_variable [.d (.tuple [.str x, .int s])] cs = yes true cs := by
  rw [e_is_variable]
  simp [s_is_variable, isiB, h n, is_integer_lh, h1, h2, eqOk, g_LEAST_SIZE, g_MOST_SIZE, PyData.canLay0, PyData.eqv, PyData.depth]
/-- what distinct names count to -/
theorem cntS_nd : ∀ (l : List Str) (n : Nat) (seen : List Str), (∀ x ∈ l, x ∉ seen) → l.Nodup → cntS l n seen = n + l.length
  | [], _, _, _, _ => rfl
  | x :: r, n, seen, h, nd => by
    obtain ⟨h1, h2⟩ := List.nodup_cons.mp nd
    have e : seen.any (· == x) = false := by
      rw [List.any_eq_false]
      intro y hy
      have : y ≠ x := fun z => h x (by simp) (z ▸ hy)
      simp [this]
    unfold cntS
    rw [e, cntS_nd r _ _ (fun y hy => by
      rw [List.mem_append, List.mem_singleton]
      rintro (z | z)
      · exact h y (by simp [hy]) z
      · exact h1 (z ▸ hy)) h2]
    simp
    omega
/-- a comprehension whose turns change nothing -/
theorem lcL_all {g : Val → Sl → Option Sl} {tt : ST} {te : SE} {slB : Sl} {cs : Cs} {f : Val → PyData} : ∀ {xs : List Val}, (∀ x ∈ xs, ∃ s, g x slB = some s ∧ tt s cs = .ok true cs ∧ te s cs = .ok (.d (f x)) cs) → lcL g tt te slB xs cs = .ok (xs.map f) cs
  | [], _ => rfl
  | x :: xs, h => by
    obtain ⟨s, h1, h2, h3⟩ := h x (by simp)
    have ih := lcL_all (xs := xs) fun y hy => h y (by simp [hy])
    unfold lcL
    rw [h1]
    simp [h2, h3, ih, noEx]
theorem strsOf_map : ∀ l : List Str, strsOf (l.map PyData.str) = some l
  | [] => rfl
  | x :: r => by simp [strsOf, strsOf_map r]
theorem lcL_true {g : Val → Sl → Option Sl} {tt : ST} {te : SE} {slB : Sl} {cs : Cs} {xs : List Val} (h : ∀ x ∈ xs, ∃ s, g x slB = some s ∧ tt s cs = .ok true cs ∧ te s cs = .ok (.d (.bool true)) cs) : lcL g tt te slB xs cs = .ok (List.replicate xs.length (.bool true)) cs := by
  rw [lcL_all (f := fun _ => .bool true) h, List.map_const']
theorem bls_rep : ∀ k : Nat, blsOf (List.replicate k (PyData.bool true)) = some (List.replicate k true)
  | 0 => rfl
  | k + 1 => by simp [List.replicate_succ, blsOf, bls_rep k]
@[simp] theorem all_rep {k : Nat} {cs : Cs} : DL.allB [.d (.list (List.replicate k (PyData.bool true)))] cs = .ok (.d (.bool true)) cs := by
  simp [DL.allB, blsL, seqL, bls_rep]
theorem are_names_ok (n : Nat) (l : List Str) (cs : Cs) (h : ∀ x ∈ l, NameOk x) (nd : l.Nodup) (hl : l.length < 100) : sem (n + 2) .are_names [.d (.tuple (l.map PyData.str))] cs = yes true cs := by
  rw [e_are_names]
  have e : lcL (gNm 1) tTrue (eFz (oDef (sem (n + 1) .is_name) [] (aCons (eVar 1) aNil))) (blkSl [some (Slot.fr (Val.d (PyData.tuple (l.map PyData.str)))), none] [1]) ((l.map PyData.str).map Val.d) cs = .ok (List.replicate ((l.map PyData.str).map Val.d).length (PyData.bool true)) cs := by
    refine lcL_true fun x hx => ?_
    simp only [List.mem_map] at hx
    obtain ⟨y, ⟨z, hz, rfl⟩, rfl⟩ := hx
    refine ⟨_, rfl, rfl, ?_⟩
    simp [blkSl, wipeS, unOwn, h z hz n]
  rw [List.map_map] at e
  have c := cntS_nd l 0 [] (by simp) nd
  have hl2 : l.length < 4095 := by omega
  have hl3 : l.length ≤ 16777216 := by omega
  simp [s_are_names, isiB, oLc, e, hl2, hl3, lenSetV, strsOf_map, c, eqOk, PyData.canLay0, PyData.eqv, PyData.depth]
def planD (l : List (Str × Int)) : PyData := .tuple (l.map fun p => .tuple [.str p.1, .int p.2])
structure PlanOk (l : List (Str × Int)) : Prop where
  nm : ∀ p ∈ l, NameOk p.1
  nd : (l.map (·.1)).Nodup
  sz : ∀ p ∈ l, 2 ≤ p.2 ∧ p.2 ≤ 6
  len : 1 ≤ l.length ∧ l.length ≤ 4
  many : (l.map (·.2)).foldl (· * ·) 1 ≤ 24
theorem many_loop {G : Fn → FS} {cs : Cs} : ∀ (l : List (Str × Int)) (m : Int) (t a b c d : Option Slot), (∀ p ∈ l, 2 ≤ p.2 ∧ p.2 ≤ 6) → 1 ≤ m → m * 6 ^ l.length < 2 ^ 60 →
    ∃ a' b', forL (gTp (gsCons (gNm 2) (gsCons (gNm 3) gsNil))) (sAug 1 imulD (eVar 3)) (l.map fun p => Val.d (.tuple [.str p.1, .int p.2])) [t, some (.fr (.d (.int m))), a, b, c] cs = .nx [t, some (.fr (.d (.int ((l.map (·.2)).foldl (· * ·) m)))), a', b', c] cs
  | [], m, t, a, b, c, d, _, _, _ => ⟨a, b, rfl⟩
  | (x, s) :: l, m, t, a, b, c, d, h, hm, hb => by
    have hs := h (x, s) (by simp)
    have hs1 : 2 ≤ s := hs.1
    have hs2 : s ≤ 6 := hs.2
    have h6 : (0 : Int) < 6 ^ l.length := Int.pow_pos (by omega)
    have e6 : m * (6 : Int) ^ (l.length + 1) = (m * 6) * 6 ^ l.length := by rw [Int.pow_succ, Int.mul_comm (6 ^ l.length) 6, Int.mul_assoc]
    have hle : m * s * 6 ^ l.length ≤ m * 6 * 6 ^ l.length := Int.mul_le_mul_of_nonneg_right (Int.mul_le_mul_of_nonneg_left hs2 (by omega)) (by omega)
    have hb' : m * s * 6 ^ l.length < 2 ^ 60 := by
      simp only [List.length_cons] at hb
      omega
    have hms : 1 ≤ m * s := by
      have : m * 1 ≤ m * s := Int.mul_le_mul_of_nonneg_left (by omega) (by omega)
      omega
    obtain ⟨a', b', e⟩ := many_loop (G := G) (cs := cs) l (m * s) t (some (.fr (.d (.str x)))) (some (.fr (.d (.int s)))) c d (fun p hp => h p (by simp [hp])) hms hb'
    have hc : cMul64 m s = true := by
      unfold cMul64
      simp only [Bool.or_eq_true, Bool.and_eq_true, decide_eq_true_eq]
      exact .inr ⟨by omega, by omega⟩
    refine ⟨a', b', ?_⟩
    simp only [List.map_cons, List.foldl_cons]
    unfold forL
    simp [sAug, imulD, hc]
    exact e
theorem is_variables_ok (n : Nat) (l : List (Str × Int)) (cs : Cs) (P : PlanOk l) : sem (n + 3) .is_variables [.d (planD l)] cs = yes true cs := by
  rw [e_is_variables]
  have e : lcL (gNm 4) tTrue (eFz (oDef (sem (n + 2) .is_variable) [] (aCons (eVar 4) aNil))) (blkSl [some (Slot.fr (Val.d (planD l))), none, none, none, none] [4]) ((l.map fun p => PyData.tuple [.str p.1, .int p.2]).map Val.d) cs = .ok (List.replicate ((l.map fun p => PyData.tuple [.str p.1, .int p.2]).map Val.d).length (PyData.bool true)) cs := by
    refine lcL_true fun x hx => ?_
    simp only [List.mem_map] at hx
    obtain ⟨y, ⟨z, hz, rfl⟩, rfl⟩ := hx
    refine ⟨_, rfl, rfl, ?_⟩
    simp [blkSl, wipeS, unOwn, is_variable_ok n z.1 z.2 cs (P.nm z hz) (P.sz z hz).1 (P.sz z hz).2]
  have hlen := P.len
  have h16 : l.length ≤ 16777216 := by omega
  have l1 : (1 : Int) ≤ (l.length : Int) := by omega
  have l4 : (l.length : Int) ≤ 4 := by omega
  have hp : (1 : Int) * 6 ^ l.length < 2 ^ 60 := by
    have : l.length = 1 ∨ l.length = 2 ∨ l.length = 3 ∨ l.length = 4 := by omega
    rcases this with z | z | z | z <;> rw [z] <;> decide
  obtain ⟨a', b', ef⟩ := many_loop (G := sem (n + 2)) (cs := cs) l 1 (some (.fr (.d (planD l)))) none none none none P.sz (by decide) hp
  have e2 : lcL (gTp (gsCons (gNm 2) (gsCons (gNm 3) gsNil))) tTrue (eVar 2) (blkSl [some (Slot.fr (Val.d (planD l))), some (.fr (.d (.int ((l.map (·.2)).foldl (· * ·) 1)))), a', b', none] [2, 3]) (l.map fun p => Val.d (PyData.tuple [.str p.1, .int p.2])) cs = .ok ((l.map fun p => Val.d (PyData.tuple [.str p.1, .int p.2])).map fun v => match v with
      | .d (.tuple (x :: _)) => x
      | _ => .none) cs := by
    refine lcL_all fun x hx => ?_
    simp only [List.mem_map] at hx
    obtain ⟨z, hz, rfl⟩ := hx
    exact ⟨_, rfl, rfl, rfl⟩
  rw [List.map_map] at e
  rw [List.map_map] at e2
  have an := are_names_ok n (l.map (·.1)) cs (fun x hx => by
    obtain ⟨z, hz, rfl⟩ := List.mem_map.mp hx
    exact P.nm z hz) P.nd (by rw [List.length_map]; omega)
  rw [List.map_map] at an
  have pd : planD l = .tuple (l.map fun p => .tuple [.str p.1, .int p.2]) := rfl
  rw [pd] at e e2 ef ⊢
  have hm := P.many
  simp only [Function.comp_def] at e e2 an
  simp [s_is_variables, isiB, oLc, e, e2, ef, h16, l1, l4, g_MOST_VARIABLES, g_MOST_STATES, leD, cT, List.map_map, Function.comp_def, hm]
  simp [an]
end LW
end
section
set_option Elab.async false
set_option linter.all false
set_option maxRecDepth 100000
set_option autoImplicit false
namespace LW
open PySem PySem.Spec PyProof.Rows L2 DL
inductive Op5 where
  | add | less | times | least | most
def Op5.word : Op5 → Str
  | .add => "add" | .less => "less by" | .times => "times" | .least => "least" | .most => "most"
inductive Ex5 where
  | num (i : Int)
  | var (x : Str)
  | op (w : Op5) (a b : Ex5)
def Ex5.toD : Ex5 → PyData
  | .num i => .tuple [.str "num", .int i]
  | .var x => .tuple [.str "var", .str x]
  | .op w a b => .tuple [.str w.word, a.toD, b.toD]
def Ex5.dep : Ex5 → Nat
  | .num _ => 1
  | .var _ => 1
  | .op _ a b => max a.dep b.dep + 1
def Ex5.ok (ns : List Str) : Ex5 → Prop
  | .num i => 0 ≤ i ∧ i ≤ 99
  | .var x => x ∈ ns
  | .op _ a b => a.ok ns ∧ b.ok ns
def Op5.ap : Op5 → Int → Int → Int
  | .add, i, j => i + j
  | .less, i, j => i - j
  | .times, i, j => i * j
  | .least, i, j => min i j
  | .most, i, j => max i j
def Ex5.ev (ρ : Str → Int) : Ex5 → Int
  | .num i => i
  | .var x => ρ x
  | .op w a b => w.ap (a.ev ρ) (b.ev ρ)
def Ex5.vars : Ex5 → List Str
  | .num _ => []
  | .var x => [x]
  | .op _ a b => a.vars ++ b.vars
theorem is_tagged_t (n : Nat) (w : Str) (xs : List PyData) (k : Int) (cs : Cs) : sem (n + 1) .is_tagged [.d (.tuple (.str w :: xs)), .d (.int k)] cs = yes (decide (((xs.length + 1 : Nat) : Int) = k)) cs := by
  rw [e_is_tagged]
  by_cases h : ((xs.length : Int) + 1) = k <;> simp [s_is_tagged, isiB, eqOk, PyData.canLay0, PyData.eqv, PyData.depth, h]
theorem notIn_ops (w : Op5) : notInD (.str w.word) g_OPERATIONS = some (.bool false) := by cases w <;> kernel_rfl
theorem word_num (w : Op5) : eqD (.str w.word) (.str "num") = some (.bool false) := by cases w <;> kernel_rfl
theorem word_var (w : Op5) : eqD (.str w.word) (.str "var") = some (.bool false) := by cases w <;> kernel_rfl
theorem q_nn : eqD (.str "num") (.str "num") = some (.bool true) := by kernel_rfl
theorem q_vn : eqD (.str "var") (.str "num") = some (.bool false) := by kernel_rfl
theorem q_vv : eqD (.str "var") (.str "var") = some (.bool true) := by kernel_rfl
theorem is_expr_ok (ns : List Str) (hn : ∀ x ∈ ns, NameOk x) : ∀ (e : Ex5) (left : Int), e.ok ns → (e.dep : Int) ≤ left → ∀ n cs, sem (n + e.dep + 2) .is_expression_within [.d e.toD, .d (.int left)] cs = yes true cs
  | .num i, left, h, hd, n, cs => by
    have h0 : 1 ≤ left := by simpa [Ex5.dep] using hd
    have h1 : ¬ left < 1 := by omega
    rw [e_is_expression_within]
    simp [s_is_expression_within, Ex5.toD, ltD, cT, h1, is_tagged_t, -ev_eqD, q_nn, is_integer_lh, g_MOST_NUMBER, h.1, h.2]
  | .var x, left, h, hd, n, cs => by
    have h0 : 1 ≤ left := by simpa [Ex5.dep] using hd
    have h1 : ¬ left < 1 := by omega
    rw [e_is_expression_within]
    simp [s_is_expression_within, Ex5.toD, ltD, cT, h1, is_tagged_t, -ev_eqD, q_vn, q_vv, hn x h (n + (Ex5.var x).dep)]
  | .op w a b, left, h, hd, n, cs => by
    have hm : ((max a.dep b.dep + 1 : Nat) : Int) ≤ left := hd
    have ha := is_expr_ok ns hn a (left - 1) h.1 (by omega) (n + (max a.dep b.dep - a.dep)) cs
    have hb := is_expr_ok ns hn b (left - 1) h.2 (by omega) (n + (max a.dep b.dep - b.dep)) cs
    rw [show n + (max a.dep b.dep - a.dep) + a.dep + 2 = n + max a.dep b.dep + 2 by omega] at ha
    rw [show n + (max a.dep b.dep - b.dep) + b.dep + 2 = n + max a.dep b.dep + 2 by omega] at hb
    have h1 : ¬ left < 1 := by omega
    rw [show n + (Ex5.op w a b).dep + 2 = (n + max a.dep b.dep + 2) + 1 by simp [Ex5.dep]; omega, e_is_expression_within]
    simp [s_is_expression_within, Ex5.toD, ltD, cT, subD, h1, is_tagged_t, ha, hb, notIn_ops, -ev_eqD]
theorem Ex5.vars_len : ∀ e : Ex5, e.vars.length ≤ 2 ^ e.dep
  | .num _ => by simp [Ex5.vars, Ex5.dep]
  | .var _ => by simp [Ex5.vars, Ex5.dep]
  | .op _ a b => by
    have h1 := Ex5.vars_len a
    have h2 := Ex5.vars_len b
    have h3 : 2 ^ a.dep ≤ 2 ^ max a.dep b.dep := Nat.pow_le_pow_right (by decide) (Nat.le_max_left _ _)
    have h4 : 2 ^ b.dep ≤ 2 ^ max a.dep b.dep := Nat.pow_le_pow_right (by decide) (Nat.le_max_right _ _)
    simp only [Ex5.vars, Ex5.dep, List.length_append, Nat.pow_succ]
    omega
theorem Ex5.vars_ok {ns : List Str} : ∀ e : Ex5, e.ok ns → ∀ x ∈ e.vars, x ∈ ns
  | .num _, _, x, h => by simp [Ex5.vars] at h
  | .var _, h, x, hx => by simp [Ex5.vars] at hx; subst hx; exact h
  | .op _ a b, h, x, hx => by
    simp only [Ex5.vars, List.mem_append] at hx
    rcases hx with hx | hx
    · exact Ex5.vars_ok a h.1 x hx
    · exact Ex5.vars_ok b h.2 x hx
/-- the names of an expression -/
theorem expr_names_ok : ∀ (e : Ex5), e.dep ≤ 20 → ∀ n cs, ∃ s, sem (n + e.dep) .expression_names [.d e.toD] cs = .ok s cs ∧ fz s = .d (.list (e.vars.map .str))
  | .num i, _, n, cs => by
    refine ⟨.ow (.list []), ?_, rfl⟩
    show sem (n + 1) _ _ _ = _
    rw [e_expression_names]
    simp [s_expression_names, Ex5.toD, -ev_eqD, q_nn, q_vn, q_vv]
  | .var x, _, n, cs => by
    refine ⟨.ow (.list [.str x]), ?_, rfl⟩
    show sem (n + 1) _ _ _ = _
    rw [e_expression_names]
    simp [s_expression_names, Ex5.toD, -ev_eqD, q_nn, q_vn, q_vv]
  | .op w a b, hd, n, cs => by
    have hd2 : max a.dep b.dep + 1 ≤ 20 := hd
    obtain ⟨s1, e1, f1⟩ := expr_names_ok a (by omega) (n + (max a.dep b.dep - a.dep)) cs
    obtain ⟨s2, e2, f2⟩ := expr_names_ok b (by omega) (n + (max a.dep b.dep - b.dep)) cs
    rw [show n + (max a.dep b.dep - a.dep) + a.dep = n + max a.dep b.dep by omega] at e1
    rw [show n + (max a.dep b.dep - b.dep) + b.dep = n + max a.dep b.dep by omega] at e2
    have l1 := Ex5.vars_len a
    have l2 := Ex5.vars_len b
    have p1 : 2 ^ a.dep ≤ 2 ^ 20 := Nat.pow_le_pow_right (by decide) (by omega)
    have p2 : 2 ^ b.dep ≤ 2 ^ 20 := Nat.pow_le_pow_right (by decide) (by omega)
    have hl : (a.vars.map PyData.str).length + (b.vars.map PyData.str).length ≤ 16777216 := by
      simp only [List.length_map]
      omega
    refine ⟨.fr (.d (.list ((a.vars ++ b.vars).map .str))), ?_, rfl⟩
    rw [show n + (Ex5.op w a b).dep = (n + max a.dep b.dep) + 1 by simp [Ex5.dep]; omega, e_expression_names]
    have ad : addD (.list (a.vars.map PyData.str)) (.list (b.vars.map PyData.str)) = some (.list (a.vars.map PyData.str ++ b.vars.map PyData.str)) := by
      show (none : Option PyData).or ((none : Option PyData).or ((none : Option PyData).or (if _ then _ else _))) = _
      rw [if_pos hl]
      rfl
    simp [s_expression_names, Ex5.toD, -ev_eqD, word_num, word_var, e1, e2, f1, f2, ad]
end LW
end
section
set_option Elab.async false
set_option linter.all false
set_option maxRecDepth 100000
set_option autoImplicit false
namespace LW
open PySem PySem.Spec PyProof.Rows L2 DL
inductive Cn5 where
  | tru
  | cmp (lt : Bool) (a b : Ex5)
  | neg (c : Cn5)
  | bin (an : Bool) (c d : Cn5)
def cw (lt : Bool) : Str := match lt with | true => "below" | false => "is"
def bw (an : Bool) : Str := match an with | true => "and" | false => "or"
def Cn5.toD : Cn5 → PyData
  | .tru => .tuple [.str "true"]
  | .cmp lt a b => .tuple [.str (cw lt), a.toD, b.toD]
  | .neg c => .tuple [.str "not", c.toD]
  | .bin an c d => .tuple [.str (bw an), c.toD, d.toD]
def Cn5.dep : Cn5 → Nat
  | .tru => 1
  | .cmp _ a b => max a.dep b.dep + 1
  | .neg c => c.dep + 1
  | .bin _ c d => max c.dep d.dep + 1
def Cn5.ok (ns : List Str) : Cn5 → Prop
  | .tru => True
  | .cmp _ a b => a.ok ns ∧ b.ok ns
  | .neg c => c.ok ns
  | .bin _ c d => c.ok ns ∧ d.ok ns
def Cn5.ev (ρ : Str → Int) : Cn5 → Bool
  | .tru => true
  | .cmp lt a b => match lt with
    | true => decide (a.ev ρ < b.ev ρ)
    | false => a.ev ρ == b.ev ρ
  | .neg c => !c.ev ρ
  | .bin an c d => match an with
    | true => c.ev ρ && d.ev ρ
    | false => c.ev ρ || d.ev ρ
def Cn5.vars : Cn5 → List Str
  | .tru => []
  | .cmp _ a b => a.vars ++ b.vars
  | .neg c => c.vars
  | .bin _ c d => c.vars ++ d.vars
theorem c_tt : eqD (.str "true") (.str "true") = some (.bool true) := by kernel_rfl
theorem c_nt : eqD (.str "not") (.str "true") = some (.bool false) := by kernel_rfl
theorem c_nn : eqD (.str "not") (.str "not") = some (.bool true) := by kernel_rfl
theorem c_c (lt : Bool) : eqD (.str (cw lt)) (.str "true") = some (.bool false) ∧ eqD (.str (cw lt)) (.str "not") = some (.bool false) ∧ eqD (.str (cw lt)) (.str "is") = some (.bool (!lt)) ∧ eqD (.str (cw lt)) (.str "below") = some (.bool lt) ∧ inD (.str (cw lt)) g_COMPARISONS = some (.bool true) ∧ inD (.str (cw lt)) (.tuple [.str "is", .str "below"]) = some (.bool true) := by
  cases lt <;> exact ⟨by kernel_rfl, by kernel_rfl, by kernel_rfl, by kernel_rfl, by kernel_rfl, by kernel_rfl⟩
theorem c_b (an : Bool) : eqD (.str (bw an)) (.str "true") = some (.bool false) ∧ eqD (.str (bw an)) (.str "not") = some (.bool false) ∧ eqD (.str (bw an)) (.str "is") = some (.bool false) ∧ eqD (.str (bw an)) (.str "below") = some (.bool false) ∧ eqD (.str (bw an)) (.str "and") = some (.bool an) ∧ inD (.str (bw an)) g_COMPARISONS = some (.bool false) ∧
    notInD (.str (bw an)) (.tuple [.str "and", .str "or"]) = some (.bool false) ∧ inD (.str (bw an)) (.tuple [.str "is", .str "below"]) = some (.bool false) := by
  cases an <;> exact ⟨by kernel_rfl, by kernel_rfl, by kernel_rfl, by kernel_rfl, by kernel_rfl, by kernel_rfl, by kernel_rfl, by kernel_rfl⟩
theorem is_cond_ok (ns : List Str) (hn : ∀ x ∈ ns, NameOk x) : ∀ (c : Cn5) (left : Int), c.ok ns → (c.dep : Int) ≤ left → ∀ n cs, sem (n + c.dep + 2) .is_condition_within [.d c.toD, .d (.int left)] cs = yes true cs
  | .tru, left, h, hd, n, cs => by
    have h0 : 1 ≤ left := by simpa [Cn5.dep] using hd
    have h1 : ¬ left < 1 := by omega
    rw [e_is_condition_within]
    simp [s_is_condition_within, Cn5.toD, ltD, cT, h1, is_tagged_t, -ev_eqD, c_tt]
  | .cmp lt a b, left, h, hd, n, cs => by
    have hm : ((max a.dep b.dep + 1 : Nat) : Int) ≤ left := hd
    have ha := is_expr_ok ns hn a (left - 1) h.1 (by omega) (n + (max a.dep b.dep - a.dep)) cs
    have hb := is_expr_ok ns hn b (left - 1) h.2 (by omega) (n + (max a.dep b.dep - b.dep)) cs
    rw [show n + (max a.dep b.dep - a.dep) + a.dep + 2 = n + max a.dep b.dep + 2 by omega] at ha
    rw [show n + (max a.dep b.dep - b.dep) + b.dep + 2 = n + max a.dep b.dep + 2 by omega] at hb
    have h1 : ¬ left < 1 := by omega
    obtain ⟨w1, w2, w3, w4, w5, w6⟩ := c_c lt
    rw [show n + (Cn5.cmp lt a b).dep + 2 = (n + max a.dep b.dep + 2) + 1 by simp [Cn5.dep]; omega, e_is_condition_within]
    simp [s_is_condition_within, Cn5.toD, ltD, cT, subD, h1, is_tagged_t, ha, hb, -ev_eqD, w1, w2, w5]
  | .neg c, left, h, hd, n, cs => by
    have hm : ((c.dep + 1 : Nat) : Int) ≤ left := hd
    have ha := is_cond_ok ns hn c (left - 1) h (by omega) n cs
    have h1 : ¬ left < 1 := by omega
    rw [show n + (Cn5.neg c).dep + 2 = (n + c.dep + 2) + 1 by simp [Cn5.dep]; omega, e_is_condition_within]
    simp [s_is_condition_within, Cn5.toD, ltD, cT, subD, h1, is_tagged_t, ha, -ev_eqD, c_nn, c_nt]
  | .bin an c d, left, h, hd, n, cs => by
    have hm : ((max c.dep d.dep + 1 : Nat) : Int) ≤ left := hd
    have ha := is_cond_ok ns hn c (left - 1) h.1 (by omega) (n + (max c.dep d.dep - c.dep)) cs
    have hb := is_cond_ok ns hn d (left - 1) h.2 (by omega) (n + (max c.dep d.dep - d.dep)) cs
    rw [show n + (max c.dep d.dep - c.dep) + c.dep + 2 = n + max c.dep d.dep + 2 by omega] at ha
    rw [show n + (max c.dep d.dep - d.dep) + d.dep + 2 = n + max c.dep d.dep + 2 by omega] at hb
    have h1 : ¬ left < 1 := by omega
    obtain ⟨w1, w2, w3, w4, w5, w6, w7, w8⟩ := c_b an
    rw [show n + (Cn5.bin an c d).dep + 2 = (n + max c.dep d.dep + 2) + 1 by simp [Cn5.dep]; omega, e_is_condition_within]
    simp [s_is_condition_within, Cn5.toD, ltD, cT, subD, h1, is_tagged_t, ha, hb, -ev_eqD, w1, w2, w6, w7]
theorem Cn5.vars_len : ∀ c : Cn5, c.vars.length ≤ 2 ^ c.dep
  | .tru => by simp [Cn5.vars, Cn5.dep]
  | .cmp _ a b => by
    have h1 := Ex5.vars_len a
    have h2 := Ex5.vars_len b
    have h3 : 2 ^ a.dep ≤ 2 ^ max a.dep b.dep := Nat.pow_le_pow_right (by decide) (Nat.le_max_left _ _)
    have h4 : 2 ^ b.dep ≤ 2 ^ max a.dep b.dep := Nat.pow_le_pow_right (by decide) (Nat.le_max_right _ _)
    simp only [Cn5.vars, Cn5.dep, List.length_append, Nat.pow_succ]
    omega
  | .neg c => by
    have h1 := Cn5.vars_len c
    simp only [Cn5.vars, Cn5.dep, Nat.pow_succ]
    omega
  | .bin _ a b => by
    have h1 := Cn5.vars_len a
    have h2 := Cn5.vars_len b
    have h3 : 2 ^ a.dep ≤ 2 ^ max a.dep b.dep := Nat.pow_le_pow_right (by decide) (Nat.le_max_left _ _)
    have h4 : 2 ^ b.dep ≤ 2 ^ max a.dep b.dep := Nat.pow_le_pow_right (by decide) (Nat.le_max_right _ _)
    simp only [Cn5.vars, Cn5.dep, List.length_append, Nat.pow_succ]
    omega
theorem Cn5.vars_ok {ns : List Str} : ∀ c : Cn5, c.ok ns → ∀ x ∈ c.vars, x ∈ ns
  | .tru, _, x, h => by simp [Cn5.vars] at h
  | .cmp _ a b, h, x, hx => by
    simp only [Cn5.vars, List.mem_append] at hx
    rcases hx with hx | hx
    · exact Ex5.vars_ok a h.1 x hx
    · exact Ex5.vars_ok b h.2 x hx
  | .neg c, h, x, hx => Cn5.vars_ok c h x hx
  | .bin _ a b, h, x, hx => by
    simp only [Cn5.vars, List.mem_append] at hx
    rcases hx with hx | hx
    · exact Cn5.vars_ok a h.1 x hx
    · exact Cn5.vars_ok b h.2 x hx
theorem add_strs {a b : List Str} (h : a.length + b.length ≤ 16777216) : addD (.list (a.map PyData.str)) (.list (b.map PyData.str)) = some (.list (a.map PyData.str ++ b.map PyData.str)) := by
  show (none : Option PyData).or ((none : Option PyData).or ((none : Option PyData).or (if _ then _ else _))) = _
  rw [if_pos (by simp only [List.length_map]; exact h)]
  rfl
theorem cond_names_ok : ∀ (c : Cn5), c.dep ≤ 20 → ∀ n cs, ∃ s, sem (n + c.dep) .condition_names [.d c.toD] cs = .ok s cs ∧ fz s = .d (.list (c.vars.map .str))
  | .tru, _, n, cs => by
    refine ⟨.ow (.list []), ?_, rfl⟩
    show sem (n + 1) _ _ _ = _
    rw [e_condition_names]
    simp [s_condition_names, Cn5.toD, -ev_eqD, c_tt]
  | .cmp lt a b, hd, n, cs => by
    have hd2 : max a.dep b.dep + 1 ≤ 20 := hd
    obtain ⟨s1, e1, f1⟩ := expr_names_ok a (by omega) (n + (max a.dep b.dep - a.dep)) cs
    obtain ⟨s2, e2, f2⟩ := expr_names_ok b (by omega) (n + (max a.dep b.dep - b.dep)) cs
    rw [show n + (max a.dep b.dep - a.dep) + a.dep = n + max a.dep b.dep by omega] at e1
    rw [show n + (max a.dep b.dep - b.dep) + b.dep = n + max a.dep b.dep by omega] at e2
    have l1 := Ex5.vars_len a
    have l2 := Ex5.vars_len b
    have p1 : 2 ^ a.dep ≤ 2 ^ 20 := Nat.pow_le_pow_right (by decide) (by omega)
    have p2 : 2 ^ b.dep ≤ 2 ^ 20 := Nat.pow_le_pow_right (by decide) (by omega)
    have ad := add_strs (a := a.vars) (b := b.vars) (by omega)
    obtain ⟨w1, w2, w3, w4, w5, w6⟩ := c_c lt
    refine ⟨.fr (.d (.list ((a.vars ++ b.vars).map .str))), ?_, rfl⟩
    rw [show n + (Cn5.cmp lt a b).dep = (n + max a.dep b.dep) + 1 by simp [Cn5.dep]; omega, e_condition_names]
    simp [s_condition_names, Cn5.toD, -ev_eqD, w1, w2, w5, e1, e2, f1, f2, ad]
  | .neg c, hd, n, cs => by
    obtain ⟨s1, e1, f1⟩ := cond_names_ok c (by simp only [Cn5.dep] at hd; omega) n cs
    refine ⟨s1, ?_, f1⟩
    rw [show n + (Cn5.neg c).dep = (n + c.dep) + 1 by simp [Cn5.dep]; omega, e_condition_names]
    simp [s_condition_names, Cn5.toD, -ev_eqD, c_nt, c_nn, e1]
  | .bin an a b, hd, n, cs => by
    have hd2 : max a.dep b.dep + 1 ≤ 20 := hd
    obtain ⟨s1, e1, f1⟩ := cond_names_ok a (by omega) (n + (max a.dep b.dep - a.dep)) cs
    obtain ⟨s2, e2, f2⟩ := cond_names_ok b (by omega) (n + (max a.dep b.dep - b.dep)) cs
    rw [show n + (max a.dep b.dep - a.dep) + a.dep = n + max a.dep b.dep by omega] at e1
    rw [show n + (max a.dep b.dep - b.dep) + b.dep = n + max a.dep b.dep by omega] at e2
    have l1 := Cn5.vars_len a
    have l2 := Cn5.vars_len b
    have p1 : 2 ^ a.dep ≤ 2 ^ 20 := Nat.pow_le_pow_right (by decide) (by omega)
    have p2 : 2 ^ b.dep ≤ 2 ^ 20 := Nat.pow_le_pow_right (by decide) (by omega)
    have ad := add_strs (a := a.vars) (b := b.vars) (by omega)
    obtain ⟨w1, w2, w3, w4, w5, w6, w7, w8⟩ := c_b an
    refine ⟨.fr (.d (.list ((a.vars ++ b.vars).map .str))), ?_, rfl⟩
    rw [show n + (Cn5.bin an a b).dep = (n + max a.dep b.dep) + 1 by simp [Cn5.dep]; omega, e_condition_names]
    simp [s_condition_names, Cn5.toD, -ev_eqD, w1, w2, w6, e1, e2, f1, f2, ad]
end LW
end
section
set_option Elab.async false
set_option linter.all false
set_option maxRecDepth 100000
set_option autoImplicit false
namespace LW
open PySem PySem.Spec PyProof.Rows L2 DL
theorem eqd_int (i j : Int) : eqD (.int i) (.int j) = some (.bool (i == j)) := by
  simp [eqOk, PyData.canLay0, PyData.eqv, PyData.depth]
def sz (a : Int) : Nat := a.natAbs.log2
theorem log_lt {n k : Nat} (h : n < 2 ^ k) (hk : 0 < k) : n.log2 < k := by
  by_cases h0 : n = 0
  · subst h0; simpa using hk
  · exact (Nat.log2_lt h0).mpr h
theorem lt_log (n : Nat) : n < 2 ^ (n.log2 + 1) := by
  by_cases h0 : n = 0
  · subst h0; decide
  · exact (Nat.log2_lt h0).mp (Nat.lt_succ_self _)
theorem sz_mul (a b : Int) : sz (a * b) ≤ sz a + sz b + 1 := by
  unfold sz
  rw [Int.natAbs_mul]
  have h := Nat.mul_lt_mul'' (lt_log a.natAbs) (lt_log b.natAbs)
  rw [← Nat.pow_add] at h
  have := log_lt h (by omega)
  omega
theorem sz_add (a b : Int) : sz (a + b) ≤ max (sz a) (sz b) + 1 := by
  unfold sz
  have h1 : a.natAbs < 2 ^ (max a.natAbs.log2 b.natAbs.log2 + 1) := Nat.lt_of_lt_of_le (lt_log _) (Nat.pow_le_pow_right (by decide) (by omega))
  have h2 : b.natAbs < 2 ^ (max a.natAbs.log2 b.natAbs.log2 + 1) := Nat.lt_of_lt_of_le (lt_log _) (Nat.pow_le_pow_right (by decide) (by omega))
  have h3 : (a + b).natAbs < 2 ^ (max a.natAbs.log2 b.natAbs.log2 + 1 + 1) := by
    have : (a + b).natAbs ≤ a.natAbs + b.natAbs := Int.natAbs_add_le a b
    rw [Nat.pow_succ]
    omega
  have := log_lt h3 (by omega)
  omega
theorem sz_lt {a : Int} {k : Nat} (h0 : 0 ≤ a) (h : a < 2 ^ k) (hk : 0 < k) : sz a < k := by
  unfold sz
  refine log_lt ?_ hk
  have : ((a.natAbs : Nat) : Int) = a := Int.natAbs_of_nonneg h0
  have h2 : ((a.natAbs : Nat) : Int) < ((2 ^ k : Nat) : Int) := by
    rw [this]
    simpa using h
  exact Int.ofNat_lt.mp h2
theorem cMul_sz {a b : Int} (h : sz a + sz b < 1000000) : cMul a b = true := decide_eq_true h
def BagAt (b : Nat) (cs : Cs) (Z : Int) : Prop := ∃ x y z : Int, cs[b]? = some (.lst [.d (.int x), .d (.int y), .d (.int z)]) ∧ 0 ≤ y ∧ y < 10 ^ 41 ∧ 0 ≤ z ∧ z ≤ Z
def Only (S : List Nat) (cs cs' : Cs) : Prop := cs.length ≤ cs'.length ∧ ∀ i, i < cs.length → i ∉ S → cs'[i]? = cs[i]?
theorem Only.refl (S : List Nat) (cs : Cs) : Only S cs cs := ⟨Nat.le_refl _, fun _ _ _ => rfl⟩
theorem Only.trans {S : List Nat} {a b c : Cs} (h : Only S a b) (k : Only S b c) : Only S a c := ⟨Nat.le_trans h.1 k.1, fun i hi hs => (k.2 i (Nat.lt_of_lt_of_le hi h.1) hs).trans (h.2 i hi hs)⟩
theorem Only.mono {S T : List Nat} {a b : Cs} (h : Only S a b) (hs : ∀ i ∈ S, i ∈ T) : Only T a b := ⟨h.1, fun i hi ht => h.2 i hi fun z => ht (hs i z)⟩
theorem Only.set {b : Nat} {cs : Cs} {c : Cell} : Only [b] cs (cs.set b c) := ⟨by simp, fun i _ hs => by rw [List.getElem?_set_ne (fun e => hs (by simp [e]))]⟩
theorem sPut_cel {i n j : Nat} {fv fx : SE} {sl : Sl} {cs : Cs} {xs : List Val} {k : Int} {v : Val} (e1 : sl[i]? = some (some (.fr (.cel n)))) (e2 : fv sl cs = .ok v cs) (e3 : fx sl cs = .ok (.d (.int k)) cs) (e4 : cs[n]? = some (.lst xs)) (e5 : ixN xs.length k = some j) (hv : v.solid = true) :
    sPut i fv fx sl cs = .nx sl (cs.set n (.lst (xs.set j v))) := by
  have l : lstAt i sl cs = some xs := by
    unfold lstAt
    rw [e1]
    dsimp only
    rw [e4]
  unfold sPut
  rw [e2]
  simp only [R.go_ok, l, e3]
  unfold setAt
  simp only [e5, hv, if_true]
  unfold put2 lstPut
  simp only [e1, e4]
theorem take_ok (n b : Nat) (cs : Cs) (Z m : Int) (B : BagAt b cs Z) (hZ : Z < 2 ^ 1000) (h0 : 0 < m) (h1 : m < 2 ^ 60) :
    ∃ (r : Int) (cs' : Cs), sem (n + 1) ._law_take [.cel b, .d (.int m)] cs = .ok (.fr (.d (.int r))) cs' ∧ 0 ≤ r ∧ r < m ∧ BagAt b cs' (Z + 1) ∧ Only [b] cs cs' := by
  obtain ⟨x, y, z, e, hy0, hy1, hz0, hz1⟩ := B
  have hb : b < cs.length := (List.getElem?_eq_some_iff.mp e).1
  have i0 : ixD (.cel b) (.d (.int 0)) cs = .ok (.d (.int x)) cs := ev_ixC e ev_atI0 rfl
  have i1 : ixD (.cel b) (.d (.int 1)) cs = .ok (.d (.int y)) cs := ev_ixC e ev_atI1 rfl
  have i2 : ixD (.cel b) (.d (.int 2)) cs = .ok (.d (.int z)) cs := ev_ixC e ev_atI2 rfl
  have cd : cDiv x m = true := by
    have : m.natAbs.log2 < 60 := sz_lt (by omega) h1 (by decide)
    unfold cDiv
    simp only [Bool.and_eq_true, decide_eq_true_eq]
    exact ⟨h0, by omega⟩
  have cm : ∀ i, cMod i m = true := fun i => decide_eq_true h0
  by_cases hx : 0 < x
  · refine ⟨x % m, cs.set b (.lst [.d (.int (x / m)), .d (.int y), .d (.int z)]), ?_, Int.emod_nonneg _ (by omega), Int.emod_lt_of_pos _ h0, ⟨x / m, y, z, List.getElem?_set_self hb, hy0, hy1, hz0, by omega⟩, Only.set⟩
    rw [e__law_take]
    have pt := sPut_cel (i := 0) (fv := eOp divD (eIx (eVar 0) (eC (.int 0))) (eVar 1)) (fx := eC (.int 0)) (sl := [some (Slot.fr (.cel b)), some (Slot.fr (.d (.int m))), some (Slot.fr (.d (.int (x % m)))), none]) (cs := cs) (xs := [.d (.int x), .d (.int y), .d (.int z)]) (k := 0) (j := 0) (v := .d (.int (x / m))) rfl (by simp [i0, divD, cd]) rfl e rfl rfl
    simp only [List.set_cons_zero] at pt
    simp [s__law_take, i0, gtD, cT, hx, modD, cm, pt]
  · have hz2 : 0 ≤ z + 1 := by omega
    have hs1 : sz (z + 1) < 1001 := sz_lt hz2 (by omega) (by decide)
    have hy2 : sz (y + 1) < 140 := sz_lt (by omega) (by omega) (by decide)
    have s3 : sz 30011 = 14 := by decide +kernel
    have s7 : sz 7 = 2 := by decide +kernel
    have s1 : sz 104729 = 16 := by decide +kernel
    have c1 : cMul 30011 (z + 1) = true := cMul_sz (by omega)
    have b1 := sz_mul 30011 (z + 1)
    have b2 := sz_add (30011 * (z + 1)) 7
    have c2 : cMul (y + 1) (30011 * (z + 1) + 7) = true := cMul_sz (by omega)
    have b3 := sz_mul (y + 1) (30011 * (z + 1) + 7)
    have c3 : cMul 104729 (z + 1) = true := cMul_sz (by omega)
    have b4 := sz_mul 104729 (z + 1)
    have c4 : cMul (104729 * (z + 1)) (z + 1) = true := cMul_sz (by omega)
    have b5 := sz_mul (104729 * (z + 1)) (z + 1)
    have b6 := sz_add ((y + 1) * (30011 * (z + 1) + 7)) (104729 * (z + 1) * (z + 1))
    generalize hM : (y + 1) * (30011 * (z + 1) + 7) + 104729 * (z + 1) * (z + 1) = M at b6
    have c5 : cMul M M = true := cMul_sz (by omega)
    have hp1 : (0 : Int) < 10 ^ 41 + 37 := by decide
    have hp2 : (0 : Int) < 10 ^ 40 + 4323 := by decide
    have m0 := Int.emod_nonneg (M * M) (b := 10 ^ 41 + 37) (by decide)
    have m1 := Int.emod_lt_of_pos (M * M) hp1
    generalize hM2 : M * M % (10 ^ 41 + 37) = M2 at m0 m1
    have t1 : sz M2 < 140 := sz_lt m0 (by omega) (by decide)
    have t2 : sz (M2 + 97) < 140 := sz_lt (by omega) (by omega) (by decide)
    have c6 : cMul M2 (M2 + 97) = true := cMul_sz (by omega)
    generalize hM3 : M2 * (M2 + 97) % (10 ^ 40 + 4323) = M3
    have pw1 : cPow 10 41 = true := by decide +kernel
    have pw2 : cPow 10 40 = true := by decide +kernel
    have cmp : cMod (M * M) (10 ^ 41 + 37) = true := decide_eq_true hp1
    have cmp2 : cMod (M2 * (M2 + 97)) (10 ^ 40 + 4323) = true := decide_eq_true hp2
    have cdd : cDiv M3 100003 = true := by
      have : (100003 : Int).natAbs.log2 < 9000 := by decide +kernel
      unfold cDiv
      simp only [Bool.and_eq_true, decide_eq_true_eq]
      exact ⟨by decide, this⟩
    have e' : (cs.set b (.lst [.d (.int x), .d (.int y), .d (.int (z + 1))]))[b]? = some (.lst [.d (.int x), .d (.int y), .d (.int (z + 1))]) := List.getElem?_set_self hb
    refine ⟨M3 / 100003 % m, cs.set b (.lst [.d (.int x), .d (.int y), .d (.int (z + 1))]), ?_, Int.emod_nonneg _ (by omega), Int.emod_lt_of_pos _ h0, ⟨x, y, z + 1, e', hy0, hy1, hz2, by omega⟩, Only.set⟩
    rw [e__law_take]
    have pt := sPut_cel (i := 0) (fv := eOp addD (eIx (eVar 0) (eC (.int 2))) (eC (.int 1))) (fx := eC (.int 2)) (sl := [some (Slot.fr (.cel b)), some (Slot.fr (.d (.int m))), none, none]) (cs := cs) (xs := [.d (.int x), .d (.int y), .d (.int z)]) (k := 2) (j := 2) (v := .d (.int (z + 1))) rfl (by simp [i2]) rfl e rfl rfl
    simp only [List.set_cons_succ, List.set_cons_zero] at pt
    have j1 : ixD (.cel b) (.d (.int 1)) (cs.set b (.lst [.d (.int x), .d (.int y), .d (.int (z + 1))])) = .ok (.d (.int y)) (cs.set b (.lst [.d (.int x), .d (.int y), .d (.int (z + 1))])) := ev_ixC e' ev_atI1 rfl
    have j2 : ixD (.cel b) (.d (.int 2)) (cs.set b (.lst [.d (.int x), .d (.int y), .d (.int (z + 1))])) = .ok (.d (.int (z + 1))) (cs.set b (.lst [.d (.int x), .d (.int y), .d (.int (z + 1))])) := ev_ixC e' ev_atI2 rfl
    have n41 : Int.toNat 41 = 41 := rfl
    have n40 : Int.toNat 40 = 40 := rfl
    generalize cs.set b (.lst [.d (.int x), .d (.int y), .d (.int (z + 1))]) = cs1 at pt j1 j2
    simp [s__law_take, i0, gtD, cT, hx, pt, j1, j2, c1, c2, c3, c4, hM, c5, modD, powD, divD, pw1, pw2, n41, n40, -Int.reducePow, -Int.reduceAdd, cmp, hM2, c6, cmp2, hM3, cdd, cm]
def ZB : Int := 2 ^ 1000
theorem take_k (n b : Nat) (cs : Cs) (Z m : Int) (B : BagAt b cs Z) (hZ : Z < ZB) (h0 : 0 < m) (h1 : m < 2 ^ 60) :
    ∃ (r : Int) (cs' : Cs), sem (n + 1) ._law_take [.cel b, .d (.int m)] cs = .ok (.fr (.d (.int r))) cs' ∧ 0 ≤ r ∧ r < m ∧ BagAt b cs' (Z + 1) ∧ Only [b] cs cs' := take_ok n b cs Z m B hZ h0 h1
theorem pick_ok (n b : Nat) (cs : Cs) (Z : Int) (xs : List PyData) (B : BagAt b cs Z) (hZ : Z < ZB) (h0 : 0 < xs.length) (h1 : xs.length ≤ 1000) :
    ∃ (x : PyData) (cs' : Cs), sem (n + 2) ._law_pick [.cel b, .d (.list xs)] cs = .ok (.fr (.d x)) cs' ∧ x ∈ xs ∧ BagAt b cs' (Z + 1) ∧ Only [b] cs cs' := by
  obtain ⟨r, cs', e, r0, r1, B', O⟩ := take_k n b cs Z xs.length B hZ (by omega) (by omega)
  obtain ⟨k, rfl⟩ : ∃ k : Nat, r = (k : Int) := ⟨r.toNat, by omega⟩
  have hk : k < xs.length := by omega
  refine ⟨xs[k], cs', ?_, List.getElem_mem hk, B', O⟩
  have a : atI xs (k : Int) = some xs[k] := DL.atI_nat (List.getElem?_eq_getElem hk)
  rw [e__law_pick]
  simp [s__law_pick, e, a]
theorem BagAt.only {b : Nat} {S : List Nat} {cs cs' : Cs} {Z : Int} (B : BagAt b cs Z) (O : Only S cs cs') (h : b ∉ S) : BagAt b cs' Z := by
  obtain ⟨x, y, z, e, r⟩ := B
  exact ⟨x, y, z, by rw [O.2 b (List.getElem?_eq_some_iff.mp e).1 h]; exact e, r⟩
theorem BagAt.mono {b : Nat} {cs : Cs} {Z Z' : Int} (B : BagAt b cs Z) (h : Z ≤ Z') : BagAt b cs Z' := by
  obtain ⟨x, y, z, e, a, c, d, f⟩ := B
  exact ⟨x, y, z, e, a, c, d, by omega⟩
def RoomAt (q : Nat) (cs : Cs) : Prop := ∃ k : Int, cs[q]? = some (.lst [.d (.int k)])
theorem RoomAt.only {q : Nat} {S : List Nat} {cs cs' : Cs} (B : RoomAt q cs) (O : Only S cs cs') (h : q ∉ S) : RoomAt q cs' := by
  obtain ⟨k, e⟩ := B
  exact ⟨k, by rw [O.2 q (List.getElem?_eq_some_iff.mp e).1 h]; exact e⟩
/-- the room shrinks by one -/
theorem room_put {q : Nat} {cs : Cs} {sl : Sl} {k : Int} (e : cs[q]? = some (.lst [.d (.int k)])) (hs : sl[3]? = some (some (.fr (.cel q)))) :
    sPut 3 (eOp subD (eIx (eVar 3) (eC (.int 0))) (eC (.int 1))) (eC (.int 0)) sl cs = .nx sl (cs.set q (.lst [.d (.int (k - 1))])) := by
  have i0 : ixD (.cel q) (.d (.int 0)) cs = .ok (.d (.int k)) cs := ev_ixC e ev_atI0 rfl
  exact sPut_cel (xs := [.d (.int k)]) (k := 0) (j := 0) (v := .d (.int (k - 1))) hs (by simp [hs, i0, subD, cT]) rfl e rfl rfl
/-- cost of an expression -/
def cE (d : Nat) : Int := 4 * 2 ^ (d + 1) - 1
theorem cE_pos (d : Nat) : 7 ≤ cE d := by
  unfold cE
  have : (0 : Int) < 2 ^ d := Int.pow_pos (by decide)
  rw [Int.pow_succ]
  omega
theorem cE_succ (d : Nat) : cE (d + 1) = cE d + cE d + 1 := by
  unfold cE
  rw [Int.pow_succ 2 (d + 1)]
  omega
theorem num_lim {x : PyData} (h : x ∈ [PyData.int 3, .int 10, .int 100]) : ∃ i : Int, x = .int i ∧ 0 < i ∧ i ≤ 100 := by
  simp only [List.mem_cons, List.not_mem_nil, or_false] at h
  rcases h with rfl | rfl | rfl <;> exact ⟨_, rfl, by decide, by decide⟩
theorem way_op {r : Int} (h0 : 4 ≤ r) (h1 : r < 9) : ∃ w : Op5, atI [PyData.str "add", .str "less by", .str "times", .str "least", .str "most"] (r - 4) = some (.str w.word) := by
  have : r = 4 ∨ r = 5 ∨ r = 6 ∨ r = 7 ∨ r = 8 := by omega
  rcases this with rfl | rfl | rfl | rfl | rfl
  · exact ⟨.add, rfl⟩
  · exact ⟨.less, rfl⟩
  · exact ⟨.times, rfl⟩
  · exact ⟨.least, rfl⟩
  · exact ⟨.most, rfl⟩
def wayE (G : Fn → FS) : SE := eIf (tAndD (tBool (eOp gtD (eVar 2) (eC (.int 1)))) (tBool (eOp gtD (eIx (eVar 3) (eC (.int 0))) (eC (.int 0))))) (eFz (oDef (G ._law_take) [] (aCons (eVar 0) (aCons (eC (.int 9)) (aNil))))) (eFz (oDef (G ._law_take) [] (aCons (eVar 0) (aCons (eC (.int 4)) (aNil)))))
def tailE (G : Fn → FS) : SS := sSeq (sIf (tBool (eOp ltD (eVar 4) (eC (.int 2)))) (sRet (oFr (eTup (aCons (eC (.str "num")) (aCons (eFz (oDef (G ._law_take) [] (aCons (eVar 0) (aCons (eFz (oDef (G ._law_pick) [] (aCons (eVar 0) (aCons (eLst (aCons (eC (.int 3)) (aCons (eC (.int 10)) (aCons (eC (.int 100)) (aNil))))) (aNil))))) (aNil))))) (aNil)))))) (sNil)) (sSeq (sIf (tBool (eOp ltD (eVar 4) (eC (.int 4)))) (sRet (oFr (eTup (aCons (eC (.str "var")) (aCons (eFz (oDef (G ._law_pick) [] (aCons (eVar 0) (aCons (eVar 1) (aNil))))) (aNil)))))) (sNil)) (sSeq (sSet 5 (oFr (eFz (oDef (G ._law_expression) [] (aCons (eVar 0) (aCons (eVar 1) (aCons (eOp subD (eVar 2) (eC (.int 1))) (aCons (eVar 3) (aNil))))))))) (sSeq (sSet 6 (oFr (eFz (oDef (G ._law_expression) [] (aCons (eVar 0) (aCons (eVar 1) (aCons (eOp subD (eVar 2) (eC (.int 1))) (aCons (eVar 3) (aNil))))))))) (sRet (oFr (eTup (aCons (eIx (eLst (aCons (eC (.str "add")) (aCons (eC (.str "less by")) (aCons (eC (.str "times")) (aCons (eC (.str "least")) (aCons (eC (.str "most")) (aNil))))))) (eOp subD (eVar 4) (eC (.int 4)))) (aCons (eVar 5) (aCons (eVar 6) (aNil))))))))))
theorem expr_split (G : Fn → FS) : s__law_expression G = sSeq (sPut 3 (eOp subD (eIx (eVar 3) (eC (.int 0))) (eC (.int 1))) (eC (.int 0))) (sSeq (sSet 4 (oFr (wayE G))) (tailE G)) := rfl
/-- the tail where no expression goes on -/
theorem expr_leaf {ns : List Str} {L : List PyData} (hL : L = ns.map PyData.str) (hn : 0 < ns.length) (hn2 : ns.length ≤ 1000) {b q : Nat} (n : Nat) (cs : Cs) (Z D r : Int) (B : BagAt b cs Z) (hZ : Z + 2 < ZB) (r0 : 0 ≤ r) (r1 : r < 4) :
    ∃ (e : Ex5) (cs' : Cs), tailE (sem (n + 2)) [some (.fr (.cel b)), some (.fr (.d (.list L))), some (.fr (.d (.int D))), some (.fr (.cel q)), some (.fr (.d (.int r))), none, none] cs = .rt (.fr (.d e.toD)) cs' ∧ e.ok ns ∧ e.dep = 1 ∧ BagAt b cs' (Z + 2) ∧ Only [b] cs cs' := by
  by_cases h2 : r < 2
  · obtain ⟨x, cs1, e1, hx, B1, O1⟩ := pick_ok n b cs Z [.int 3, .int 10, .int 100] B (by omega) (by decide) (by decide)
    obtain ⟨i, rfl, hi0, hi1⟩ := num_lim hx
    obtain ⟨k, cs2, e2, k0, k1, B2, O2⟩ := take_k (n + 1) b cs1 (Z + 1) i B1 (by omega) hi0 (by omega)
    refine ⟨.num k, cs2, ?_, ⟨k0, by omega⟩, rfl, B2.mono (by omega), O1.trans O2⟩
    simp [tailE, ltD, cT, h2, e1, e2, Ex5.toD]
  · have hl : L.length = ns.length := by rw [hL, List.length_map]
    obtain ⟨x, cs1, e1, hx, B1, O1⟩ := pick_ok n b cs Z L B (by omega) (by omega) (by omega)
    rw [hL] at hx
    obtain ⟨y, hy, rfl⟩ := List.mem_map.mp hx
    refine ⟨.var y, cs1, ?_, hy, rfl, B1.mono (by omega), O1⟩
    simp [tailE, ltD, cT, h2, r1, e1, Ex5.toD]
theorem wayE_1 {b q n : Nat} {cs : Cs} {L : List PyData} {r : Int} {cs' : Cs} (e : sem (n + 1) ._law_take [.cel b, .d (.int 4)] cs = .ok (.fr (.d (.int r))) cs') :
    wayE (sem (n + 1)) [some (.fr (.cel b)), some (.fr (.d (.list L))), some (.fr (.d (.int 1))), some (.fr (.cel q)), none, none, none] cs = .ok (.d (.int r)) cs' := by
  simp [wayE, gtD, cT, e]
theorem wayE_4 {b q n : Nat} {cs : Cs} {L : List PyData} {r D k : Int} {cs' : Cs} (ek : cs[q]? = some (.lst [.d (.int k)])) (hD : 1 < D) (hk : ¬ 0 < k) (e : sem (n + 1) ._law_take [.cel b, .d (.int 4)] cs = .ok (.fr (.d (.int r))) cs') :
    wayE (sem (n + 1)) [some (.fr (.cel b)), some (.fr (.d (.list L))), some (.fr (.d (.int D))), some (.fr (.cel q)), none, none, none] cs = .ok (.d (.int r)) cs' := by
  have i0 : ixD (.cel q) (.d (.int 0)) cs = .ok (.d (.int k)) cs := ev_ixC ek ev_atI0 rfl
  simp [wayE, gtD, cT, hD, i0, hk, e]
theorem wayE_9 {b q n : Nat} {cs : Cs} {L : List PyData} {r D k : Int} {cs' : Cs} (ek : cs[q]? = some (.lst [.d (.int k)])) (hD : 1 < D) (hk : 0 < k) (e : sem (n + 1) ._law_take [.cel b, .d (.int 9)] cs = .ok (.fr (.d (.int r))) cs') :
    wayE (sem (n + 1)) [some (.fr (.cel b)), some (.fr (.d (.list L))), some (.fr (.d (.int D))), some (.fr (.cel q)), none, none, none] cs = .ok (.d (.int r)) cs' := by
  have i0 : ixD (.cel q) (.d (.int 0)) cs = .ok (.d (.int k)) cs := ev_ixC ek ev_atI0 rfl
  simp [wayE, gtD, cT, hD, i0, hk, e]
theorem expression_gen {ns : List Str} {L : List PyData} (hL : L = ns.map PyData.str) (hn : 0 < ns.length) (hn2 : ns.length ≤ 1000) {b q : Nat} (hbq : b ≠ q) : ∀ (d n : Nat) (cs : Cs) (Z : Int), BagAt b cs Z → RoomAt q cs → Z + cE (d + 1) < ZB →
    ∃ (e : Ex5) (cs' : Cs), sem (n + d + 4) ._law_expression [.cel b, .d (.list L), .d (.int ((d + 1 : Nat) : Int)), .cel q] cs = .ok (.fr (.d e.toD)) cs' ∧ e.ok ns ∧ e.dep ≤ d + 1 ∧ BagAt b cs' (Z + cE (d + 1)) ∧ RoomAt q cs' ∧ Only [b, q] cs cs' := by
  intro d
  induction d with
  | zero =>
    intro n cs Z B R hZ
    have hc := cE_pos (0 + 1)
    obtain ⟨k, ek⟩ := R
    have pt := room_put (sl := [some (.fr (.cel b)), some (.fr (.d (.list L))), some (.fr (.d (.int 1))), some (.fr (.cel q)), none, none, none]) ek rfl
    have O1 : Only [q] cs (cs.set q (.lst [.d (.int (k - 1))])) := Only.set
    have R1 : RoomAt q (cs.set q (.lst [.d (.int (k - 1))])) := ⟨k - 1, List.getElem?_set_self (List.getElem?_eq_some_iff.mp ek).1⟩
    have B1 := B.only O1 (by simp [hbq])
    generalize cs.set q (.lst [.d (.int (k - 1))]) = cs1 at pt O1 R1 B1
    obtain ⟨r, cs2, e2, r0, r1, B2, O2⟩ := take_k (n + 2) b cs1 Z 4 B1 (by omega) (by decide) (by decide)
    have W := wayE_1 (q := q) (L := L) e2
    obtain ⟨e, cs3, e3, h1, h2, B3, O3⟩ := expr_leaf (q := q) hL hn hn2 (n + 1) cs2 (Z + 1) 1 r B2 (by omega) r0 r1
    have O : Only [b] cs1 cs3 := O2.trans O3
    refine ⟨e, cs3, ?_, h1, by omega, B3.mono (by omega), R1.only O (by simp [Ne.symm hbq]), (O1.mono (by simp)).trans (O.mono (by simp))⟩
    rw [e__law_expression, expr_split, ev_seq]
    show bodyR ((sPut 3 (eOp subD (eIx (eVar 3) (eC (.int 0))) (eC (.int 1))) (eC (.int 0)) [some (.fr (.cel b)), some (.fr (.d (.list L))), some (.fr (.d (.int 1))), some (.fr (.cel q)), none, none, none] cs).seq (sSeq (sSet 4 (oFr (wayE (sem (n + 2 + 1))))) (tailE (sem (n + 1 + 2))))) = _
    rw [pt, RS.seq_nx, ev_seq, ev_set, ev_oFr, W]
    simp only [R.bind_ok, ev_solid, if_true, R.go_ok, RS.seq_nx, List.set_cons_succ, List.set_cons_zero]
    rw [e3]
    rfl
  | succ d ih =>
    intro n cs Z B R hZ
    have hc := cE_pos (d + 1)
    have hs := cE_succ (d + 1)
    obtain ⟨k, ek⟩ := R
    have hD : (1 : Int) < ((d + 1 + 1 : Nat) : Int) := by omega
    have pt := room_put (sl := [some (.fr (.cel b)), some (.fr (.d (.list L))), some (.fr (.d (.int ((d + 1 + 1 : Nat) : Int)))), some (.fr (.cel q)), none, none, none]) ek rfl
    have O1 : Only [q] cs (cs.set q (.lst [.d (.int (k - 1))])) := Only.set
    have ek1 : (cs.set q (.lst [.d (.int (k - 1))]))[q]? = some (.lst [.d (.int (k - 1))]) := List.getElem?_set_self (List.getElem?_eq_some_iff.mp ek).1
    have B1 := B.only O1 (by simp [hbq])
    generalize cs.set q (.lst [.d (.int (k - 1))]) = cs1 at pt O1 ek1 B1
    have R1 : RoomAt q cs1 := ⟨k - 1, ek1⟩
    -- what the body does once the way is known
    have fin : ∀ (r : Int) (cs2 : Cs) (s : DL.Slot) (cs3 : Cs), wayE (sem (n + (d + 1) + 3)) [some (.fr (.cel b)), some (.fr (.d (.list L))), some (.fr (.d (.int ((d + 1 + 1 : Nat) : Int)))), some (.fr (.cel q)), none, none, none] cs1 = .ok (.d (.int r)) cs2 →
        tailE (sem (n + (d + 1) + 3)) [some (.fr (.cel b)), some (.fr (.d (.list L))), some (.fr (.d (.int ((d + 1 + 1 : Nat) : Int)))), some (.fr (.cel q)), some (.fr (.d (.int r))), none, none] cs2 = .rt s cs3 →
        sem (n + (d + 1) + 4) ._law_expression [.cel b, .d (.list L), .d (.int ((d + 1 + 1 : Nat) : Int)), .cel q] cs = .ok s cs3 := fun r cs2 s cs3 W T => by
      rw [e__law_expression, expr_split, ev_seq, pt, RS.seq_nx, ev_seq, ev_set, ev_oFr, W]
      simp only [R.bind_ok, ev_solid, if_true, R.go_ok, RS.seq_nx, List.set_cons_succ, List.set_cons_zero]
      rw [T]
      rfl
    by_cases hk : 0 < k - 1
    · obtain ⟨r, cs2, e2, r0, r1, B2, O2⟩ := take_k (n + (d + 1) + 2) b cs1 Z 9 B1 (by omega) (by decide) (by decide)
      have W := wayE_9 (q := q) (L := L) ek1 hD hk e2
      by_cases h4 : r < 4
      · obtain ⟨e, cs3, e3, h1, h2, B3, O3⟩ := expr_leaf (q := q) hL hn hn2 (n + (d + 1) + 1) cs2 (Z + 1) ((d + 1 + 1 : Nat) : Int) r B2 (by omega) r0 h4
        have O : Only [b] cs1 cs3 := O2.trans O3
        exact ⟨e, cs3, fin r cs2 _ cs3 W e3, h1, by omega, B3.mono (by omega), R1.only O (by simp [Ne.symm hbq]), (O1.mono (by simp)).trans (O.mono (by simp))⟩
      · have R2 : RoomAt q cs2 := R1.only O2 (by simp [Ne.symm hbq])
        obtain ⟨ea, cs3, e3, a1, a2, B3, R3, O3⟩ := ih n cs2 (Z + 1) B2 R2 (by omega)
        obtain ⟨eb, cs4, e4, b1, b2, B4, R4, O4⟩ := ih n cs3 (Z + 1 + cE (d + 1)) B3 R3 (by omega)
        obtain ⟨w, ew⟩ := way_op (r := r) (by omega) r1
        have h2 : ¬ r < 2 := by omega
        have hdd : ((d + 1 + 1 : Nat) : Int) - 1 = ((d + 1 : Nat) : Int) := by omega
        refine ⟨.op w ea eb, cs4, fin r cs2 _ cs4 W ?_, ⟨a1, b1⟩, by simp only [Ex5.dep]; omega, B4.mono (by omega), R4, ((O1.mono (by simp)).trans (O2.mono (by simp))).trans (O3.trans O4)⟩
        rw [show n + (d + 1) + 3 = n + d + 4 by omega]
        clear fin W pt
        generalize ((d + 1 + 1 : Nat) : Int) = D2 at hdd ⊢
        generalize ((d + 1 : Nat) : Int) = D1 at hdd e3 e4
        simp [tailE, ltD, subD, cT, h2, h4, hdd, e3, e4, ew, Ex5.toD]
    · obtain ⟨r, cs2, e2, r0, r1, B2, O2⟩ := take_k (n + (d + 1) + 2) b cs1 Z 4 B1 (by omega) (by decide) (by decide)
      have W := wayE_4 (q := q) (L := L) ek1 hD hk e2
      obtain ⟨e, cs3, e3, h1, h2, B3, O3⟩ := expr_leaf (q := q) hL hn hn2 (n + (d + 1) + 1) cs2 (Z + 1) ((d + 1 + 1 : Nat) : Int) r B2 (by omega) r0 r1
      have O : Only [b] cs1 cs3 := O2.trans O3
      exact ⟨e, cs3, fin r cs2 _ cs3 W e3, h1, by omega, B3.mono (by omega), R1.only O (by simp [Ne.symm hbq]), (O1.mono (by simp)).trans (O.mono (by simp))⟩
def wayC (G : Fn → FS) : SE := eIf (tAndD (tBool (eOp gtD (eVar 2) (eC (.int 2)))) (tBool (eOp gtD (eIx (eVar 3) (eC (.int 0))) (eC (.int 0))))) (eFz (oDef (G ._law_take) [] (aCons (eVar 0) (aCons (eC (.int 10)) (aNil))))) (eFz (oDef (G ._law_take) [] (aCons (eVar 0) (aCons (eC (.int 6)) (aNil)))))
def tailC (G : Fn → FS) : SS := sSeq (sIf (tBool (eOp eqD (eVar 4) (eC (.int 0)))) (sRet (oFr (eTup (aCons (eC (.str "true")) (aNil))))) (sNil)) (sSeq (sIf (tBool (eOp ltD (eVar 4) (eC (.int 6)))) (sSeq (sSet 5 (oFr (eFz (oDef (G ._law_expression) [] (aCons (eVar 0) (aCons (eVar 1) (aCons (eCall minB (bCons (eC (.int 3)) (bCons (eOp subD (eVar 2) (eC (.int 1))) (aNil)))) (aCons (eVar 3) (aNil))))))))) (sSeq (sSet 6 (oFr (eFz (oDef (G ._law_expression) [] (aCons (eVar 0) (aCons (eVar 1) (aCons (eCall minB (bCons (eC (.int 3)) (bCons (eOp subD (eVar 2) (eC (.int 1))) (aNil)))) (aCons (eVar 3) (aNil))))))))) (sRet (oFr (eTup (aCons (eIf (tBool (eOp ltD (eVar 4) (eC (.int 4)))) (eC (.str "is")) (eC (.str "below"))) (aCons (eVar 5) (aCons (eVar 6) (aNil))))))))) (sNil)) (sSeq (sIf (tBool (eOp eqD (eVar 4) (eC (.int 6)))) (sRet (oFr (eTup (aCons (eC (.str "not")) (aCons (eFz (oDef (G ._law_condition) [] (aCons (eVar 0) (aCons (eVar 1) (aCons (eOp subD (eVar 2) (eC (.int 1))) (aCons (eVar 3) (aNil))))))) (aNil)))))) (sNil)) (sSeq (sSet 5 (oFr (eFz (oDef (G ._law_condition) [] (aCons (eVar 0) (aCons (eVar 1) (aCons (eOp subD (eVar 2) (eC (.int 1))) (aCons (eVar 3) (aNil))))))))) (sRet (oFr (eTup (aCons (eIx (eLst (aCons (eC (.str "and")) (aCons (eC (.str "or")) (aCons (eC (.str "or")) (aNil))))) (eOp subD (eVar 4) (eC (.int 7)))) (aCons (eVar 5) (aCons (eFz (oDef (G ._law_condition) [] (aCons (eVar 0) (aCons (eVar 1) (aCons (eOp subD (eVar 2) (eC (.int 1))) (aCons (eVar 3) (aNil))))))) (aNil))))))))))
theorem cond_split (G : Fn → FS) : s__law_condition G = sSeq (sPut 3 (eOp subD (eIx (eVar 3) (eC (.int 0))) (eC (.int 1))) (eC (.int 0))) (sSeq (sSet 4 (oFr (wayC G))) (tailC G)) := rfl
def cC (d : Nat) : Int := 256 * 2 ^ d - 1
theorem cC_pos (d : Nat) : 255 ≤ cC d := by
  unfold cC
  have : (0 : Int) < 2 ^ d := Int.pow_pos (by decide)
  omega
theorem cC_succ (d : Nat) : cC (d + 1) = cC d + cC d + 1 := by
  unfold cC
  rw [Int.pow_succ]
  omega
theorem wayC_6 {b q n : Nat} {cs : Cs} {L : List PyData} {r D k : Int} {cs' : Cs} (ek : cs[q]? = some (.lst [.d (.int k)])) (h : ¬ (2 < D ∧ 0 < k)) (e : sem (n + 1) ._law_take [.cel b, .d (.int 6)] cs = .ok (.fr (.d (.int r))) cs') :
    wayC (sem (n + 1)) [some (.fr (.cel b)), some (.fr (.d (.list L))), some (.fr (.d (.int D))), some (.fr (.cel q)), none, none, none] cs = .ok (.d (.int r)) cs' := by
  have i0 : ixD (.cel q) (.d (.int 0)) cs = .ok (.d (.int k)) cs := ev_ixC ek ev_atI0 rfl
  by_cases hD : 2 < D
  · have hk : ¬ 0 < k := fun z => h ⟨hD, z⟩
    simp [wayC, gtD, cT, hD, i0, hk, e]
  · simp [wayC, gtD, cT, hD, i0, e]
theorem wayC_10 {b q n : Nat} {cs : Cs} {L : List PyData} {r D k : Int} {cs' : Cs} (ek : cs[q]? = some (.lst [.d (.int k)])) (hD : 2 < D) (hk : 0 < k) (e : sem (n + 1) ._law_take [.cel b, .d (.int 10)] cs = .ok (.fr (.d (.int r))) cs') :
    wayC (sem (n + 1)) [some (.fr (.cel b)), some (.fr (.d (.list L))), some (.fr (.d (.int D))), some (.fr (.cel q)), none, none, none] cs = .ok (.d (.int r)) cs' := by
  have i0 : ixD (.cel q) (.d (.int 0)) cs = .ok (.d (.int k)) cs := ev_ixC ek ev_atI0 rfl
  simp [wayC, gtD, cT, hD, i0, hk, e]
theorem way_bin {r : Int} (h0 : 7 ≤ r) (h1 : r < 10) : ∃ an : Bool, atI [PyData.str "and", .str "or", .str "or"] (r - 7) = some (.str (bw an)) := by
  have : r = 7 ∨ r = 8 ∨ r = 9 := by omega
  rcases this with rfl | rfl | rfl
  · exact ⟨true, rfl⟩
  · exact ⟨false, rfl⟩
  · exact ⟨false, rfl⟩
/-- the tail where no condition goes on -/
theorem cond_leaf {ns : List Str} {L : List PyData} (hL : L = ns.map PyData.str) (hn : 0 < ns.length) (hn2 : ns.length ≤ 1000) {b q : Nat} (hbq : b ≠ q) (d n : Nat) (cs : Cs) (Z r : Int) (B : BagAt b cs Z) (R : RoomAt q cs) (hZ : Z + 200 < ZB) (r0 : 0 ≤ r) (r1 : r < 6) :
    ∃ (c : Cn5) (cs' : Cs), tailC (sem (n + 7)) [some (.fr (.cel b)), some (.fr (.d (.list L))), some (.fr (.d (.int ((d + 2 : Nat) : Int)))), some (.fr (.cel q)), some (.fr (.d (.int r))), none, none] cs = .rt (.fr (.d c.toD)) cs' ∧ c.ok ns ∧ c.dep ≤ d + 2 ∧ BagAt b cs' (Z + 200) ∧ RoomAt q cs' ∧ Only [b, q] cs cs' := by
  by_cases h0 : r = 0
  · subst h0
    refine ⟨.tru, cs, ?_, trivial, by simp only [Cn5.dep]; omega, B.mono (by omega), R, Only.refl _ _⟩
    simp [tailC, eqd_int, -ev_eqD, Cn5.toD]
  · obtain ⟨k, hk, hk2⟩ : ∃ k : Nat, min 3 (((d + 2 : Nat) : Int) - 1) = ((k + 1 : Nat) : Int) ∧ k ≤ 2 ∧ k ≤ d := ⟨min 2 d, by omega, by omega, by omega⟩
    have hc : cE (k + 1) ≤ 63 := by
      have : k = 0 ∨ k = 1 ∨ k = 2 := by omega
      rcases this with rfl | rfl | rfl <;> decide
    have hc0 := cE_pos (k + 1)
    obtain ⟨ea, cs1, e1, a1, a2, B1, R1, O1⟩ := expression_gen hL hn hn2 hbq k (n + 3 - k) cs Z B R (by omega)
    obtain ⟨eb, cs2, e2, b1, b2, B2, R2, O2⟩ := expression_gen hL hn hn2 hbq k (n + 3 - k) cs1 (Z + cE (k + 1)) B1 R1 (by omega)
    rw [show n + 3 - k + k + 4 = n + 7 by omega, ← hk] at e1 e2
    have hr : (r == 0) = false := by simpa using h0
    generalize ((d + 2 : Nat) : Int) = D at e1 e2 ⊢
    by_cases h4 : r < 4
    · refine ⟨.cmp false ea eb, cs2, ?_, ⟨a1, b1⟩, by simp only [Cn5.dep]; omega, B2.mono (by omega), R2, O1.trans O2⟩
      simp [tailC, eqd_int, hr, -ev_eqD, ltD, subD, cT, r1, h4, e1, e2, Cn5.toD, cw]
    · refine ⟨.cmp true ea eb, cs2, ?_, ⟨a1, b1⟩, by simp only [Cn5.dep]; omega, B2.mono (by omega), R2, O1.trans O2⟩
      simp [tailC, eqd_int, hr, -ev_eqD, ltD, subD, cT, r1, h4, e1, e2, Cn5.toD, cw]
theorem condition_gen {ns : List Str} {L : List PyData} (hL : L = ns.map PyData.str) (hn : 0 < ns.length) (hn2 : ns.length ≤ 1000) {b q : Nat} (hbq : b ≠ q) : ∀ (d n : Nat) (cs : Cs) (Z : Int), BagAt b cs Z → RoomAt q cs → Z + cC d < ZB →
    ∃ (c : Cn5) (cs' : Cs), sem (n + d + 8) ._law_condition [.cel b, .d (.list L), .d (.int ((d + 2 : Nat) : Int)), .cel q] cs = .ok (.fr (.d c.toD)) cs' ∧ c.ok ns ∧ c.dep ≤ d + 2 ∧ BagAt b cs' (Z + cC d) ∧ RoomAt q cs' ∧ Only [b, q] cs cs' := by
  intro d
  induction d with
  | zero =>
    intro n cs Z B R hZ
    have hc := cC_pos 0
    obtain ⟨k, ek⟩ := R
    have pt := room_put (sl := [some (.fr (.cel b)), some (.fr (.d (.list L))), some (.fr (.d (.int ((0 + 2 : Nat) : Int)))), some (.fr (.cel q)), none, none, none]) ek rfl
    have O1 : Only [q] cs (cs.set q (.lst [.d (.int (k - 1))])) := Only.set
    have ek1 : (cs.set q (.lst [.d (.int (k - 1))]))[q]? = some (.lst [.d (.int (k - 1))]) := List.getElem?_set_self (List.getElem?_eq_some_iff.mp ek).1
    have B1 := B.only O1 (by simp [hbq])
    generalize cs.set q (.lst [.d (.int (k - 1))]) = cs1 at pt O1 ek1 B1
    have R1 : RoomAt q cs1 := ⟨k - 1, ek1⟩
    obtain ⟨r, cs2, e2, r0, r1, B2, O2⟩ := take_k (n + 6) b cs1 Z 6 B1 (by omega) (by decide) (by decide)
    have W := wayC_6 (q := q) (L := L) (D := ((0 + 2 : Nat) : Int)) ek1 (by simp) e2
    obtain ⟨c, cs3, e3, h1, h2, B3, R3, O3⟩ := cond_leaf (q := q) hL hn hn2 hbq 0 n cs2 (Z + 1) r B2 (R1.only O2 (by simp [Ne.symm hbq])) (by omega) r0 r1
    refine ⟨c, cs3, ?_, h1, h2, B3.mono (by omega), R3, ((O1.mono (by simp)).trans (O2.mono (by simp))).trans O3⟩
    rw [e__law_condition, cond_split, ev_seq, pt, RS.seq_nx, ev_seq, ev_set, ev_oFr, W]
    simp only [R.bind_ok, ev_solid, if_true, R.go_ok, RS.seq_nx, List.set_cons_succ, List.set_cons_zero]
    rw [e3]
    rfl
  | succ d ih =>
    intro n cs Z B R hZ
    have hc := cC_pos d
    have hs := cC_succ d
    obtain ⟨k, ek⟩ := R
    have hD : (2 : Int) < ((d + 1 + 2 : Nat) : Int) := by omega
    have pt := room_put (sl := [some (.fr (.cel b)), some (.fr (.d (.list L))), some (.fr (.d (.int ((d + 1 + 2 : Nat) : Int)))), some (.fr (.cel q)), none, none, none]) ek rfl
    have O1 : Only [q] cs (cs.set q (.lst [.d (.int (k - 1))])) := Only.set
    have ek1 : (cs.set q (.lst [.d (.int (k - 1))]))[q]? = some (.lst [.d (.int (k - 1))]) := List.getElem?_set_self (List.getElem?_eq_some_iff.mp ek).1
    have B1 := B.only O1 (by simp [hbq])
    generalize cs.set q (.lst [.d (.int (k - 1))]) = cs1 at pt O1 ek1 B1
    have R1 : RoomAt q cs1 := ⟨k - 1, ek1⟩
    have fin : ∀ (r : Int) (cs2 : Cs) (s : DL.Slot) (cs3 : Cs), wayC (sem (n + (d + 1) + 7)) [some (.fr (.cel b)), some (.fr (.d (.list L))), some (.fr (.d (.int ((d + 1 + 2 : Nat) : Int)))), some (.fr (.cel q)), none, none, none] cs1 = .ok (.d (.int r)) cs2 →
        tailC (sem (n + (d + 1) + 7)) [some (.fr (.cel b)), some (.fr (.d (.list L))), some (.fr (.d (.int ((d + 1 + 2 : Nat) : Int)))), some (.fr (.cel q)), some (.fr (.d (.int r))), none, none] cs2 = .rt s cs3 →
        sem (n + (d + 1) + 8) ._law_condition [.cel b, .d (.list L), .d (.int ((d + 1 + 2 : Nat) : Int)), .cel q] cs = .ok s cs3 := fun r cs2 s cs3 W T => by
      rw [e__law_condition, cond_split, ev_seq, pt, RS.seq_nx, ev_seq, ev_set, ev_oFr, W]
      simp only [R.bind_ok, ev_solid, if_true, R.go_ok, RS.seq_nx, List.set_cons_succ, List.set_cons_zero]
      rw [T]
      rfl
    by_cases hk : 0 < k - 1
    · obtain ⟨r, cs2, e2, r0, r1, B2, O2⟩ := take_k (n + (d + 1) + 6) b cs1 Z 10 B1 (by omega) (by decide) (by decide)
      have W := wayC_10 (q := q) (L := L) ek1 hD hk e2
      have R2 : RoomAt q cs2 := R1.only O2 (by simp [Ne.symm hbq])
      have O12 : Only [b, q] cs cs2 := (O1.mono (by simp)).trans (O2.mono (by simp))
      by_cases h6 : r < 6
      · obtain ⟨c, cs3, e3, h1, h2, B3, R3, O3⟩ := cond_leaf (q := q) hL hn hn2 hbq (d + 1) (n + (d + 1)) cs2 (Z + 1) r B2 R2 (by omega) r0 h6
        exact ⟨c, cs3, fin r cs2 _ cs3 W e3, h1, h2, B3.mono (by omega), R3, O12.trans O3⟩
      · obtain ⟨ca, cs3, e3, a1, a2, B3, R3, O3⟩ := ih n cs2 (Z + 1) B2 R2 (by omega)
        have hr0 : (r == 0) = false := by
          have : r ≠ 0 := by omega
          simpa using this
        have hdd : ((d + 1 + 2 : Nat) : Int) - 1 = ((d + 2 : Nat) : Int) := by omega
        by_cases he : r = 6
        · subst he
          refine ⟨.neg ca, cs3, fin 6 cs2 _ cs3 W ?_, a1, by simp only [Cn5.dep]; omega, B3.mono (by omega), R3, O12.trans O3⟩
          rw [show n + (d + 1) + 7 = n + d + 8 by omega]
          clear fin W pt
          generalize ((d + 1 + 2 : Nat) : Int) = D2 at hdd ⊢
          generalize ((d + 2 : Nat) : Int) = D1 at hdd e3
          simp [tailC, eqd_int, -ev_eqD, ltD, subD, cT, hdd, e3, Cn5.toD]
        · obtain ⟨cb, cs4, e4, b1, b2, B4, R4, O4⟩ := ih n cs3 (Z + 1 + cC d) B3 R3 (by omega)
          obtain ⟨an, ew⟩ := way_bin (r := r) (by omega) r1
          have hr6 : (r == 6) = false := by simpa using he
          refine ⟨.bin an ca cb, cs4, fin r cs2 _ cs4 W ?_, ⟨a1, b1⟩, by simp only [Cn5.dep]; omega, B4.mono (by omega), R4, O12.trans (O3.trans O4)⟩
          rw [show n + (d + 1) + 7 = n + d + 8 by omega]
          clear fin W pt
          generalize ((d + 1 + 2 : Nat) : Int) = D2 at hdd ⊢
          generalize ((d + 2 : Nat) : Int) = D1 at hdd e3 e4
          simp [tailC, eqd_int, -ev_eqD, hr0, hr6, ltD, subD, cT, h6, hdd, e3, e4, ew, Cn5.toD]
    · obtain ⟨r, cs2, e2, r0, r1, B2, O2⟩ := take_k (n + (d + 1) + 6) b cs1 Z 6 B1 (by omega) (by decide) (by decide)
      have W := wayC_6 (q := q) (L := L) (D := ((d + 1 + 2 : Nat) : Int)) ek1 (fun z => hk z.2) e2
      have R2 : RoomAt q cs2 := R1.only O2 (by simp [Ne.symm hbq])
      have O12 : Only [b, q] cs cs2 := (O1.mono (by simp)).trans (O2.mono (by simp))
      obtain ⟨c, cs3, e3, h1, h2, B3, R3, O3⟩ := cond_leaf (q := q) hL hn hn2 hbq (d + 1) (n + (d + 1)) cs2 (Z + 1) r B2 R2 (by omega) r0 r1
      exact ⟨c, cs3, fin r cs2 _ cs3 W e3, h1, h2, B3.mono (by omega), R3, O12.trans O3⟩
end LW
end
section
set_option Elab.async false
set_option linter.all false
set_option maxRecDepth 100000
set_option autoImplicit false
namespace LW
open PySem PySem.Spec PyProof.Rows L2 DL
def stI (l : List Int) : List (List Int) := l.foldl (fun sts s => sts.flatMap fun st => (List.range s.toNat).map fun k => st ++ [Int.ofNat k]) [[]]
def tupI (l : List Int) : PyData := .tuple (l.map .int)
def sizes : List (List Int) := [[2], [3], [6], [2, 2], [2, 3], [3, 2], [4, 6], [2, 2, 2], [2, 2, 6], [2, 2, 2, 3], [4], [5], [3, 2, 2, 2], [2, 4, 3]]
theorem lcL_filter {g : Val → Sl → Option Sl} {tt : ST} {te : SE} {slB : Sl} {cs : Cs} {f : Val → PyData} {pr : Val → Bool} : ∀ {xs : List Val}, (∀ x ∈ xs, ∃ s, g x slB = some s ∧ tt s cs = .ok (pr x) cs ∧ te s cs = .ok (.d (f x)) cs) → lcL g tt te slB xs cs = .ok ((xs.filter pr).map f) cs
  | [], _ => rfl
  | x :: xs, h => by
    obtain ⟨s, h1, h2, h3⟩ := h x (by simp)
    have ih := lcL_filter (xs := xs) fun y hy => h y (by simp [hy])
    unfold lcL
    rw [h1]
    cases hp : pr x <;> simp [h2, h3, ih, noEx, hp]
theorem cut_map {α β : Type} (f : α → β) (xs : List α) (lo hi : Option Int) : cut (xs.map f) lo hi = (cut xs lo hi).map f := by
  unfold cut
  rw [List.length_map, List.map_drop.symm, List.map_take.symm]
theorem intsOf_map : ∀ l : List Int, intsOf (l.map PyData.int) = some l
  | [] => rfl
  | a :: l => by simp [intsOf, intsOf_map l]
theorem bag_ok (n : Nat) (ns : List Int) (k : Nat) (cs : Cs) (hk : k < 4) : ∃ x y : Int, sem (n + 1) ._law_bag [.lk (ns.map .int), .d (.int (k : Int))] cs = .ok (.ow (.list [.int x, .int y, .int (61 * (k : Int))])) cs ∧ 0 ≤ y ∧ y < 10 ^ 41 := by
  have sm : sumB [.d (.list (cut (ns.map PyData.int) none (some 1)))] cs = .ok (.d (.int (cut ns none (some 1)).sum)) cs := by
    unfold sumB intsL seqL
    rw [cut_map]
    simp [intsOf_map]
  have m1 : ∀ i : Int, cMod i 1000003 = true := fun i => rfl
  have pw1 : cPow 10 18 = true := by decide +kernel
  have pw2 : cPow 10 40 = true := by decide +kernel
  have n18 : Int.toNat 18 = 18 := rfl
  have n40 : Int.toNat 40 = 40 := rfl
  have hp2 : (0 : Int) < 10 ^ 40 + 121 := by decide
  have m2 : ∀ i : Int, cMod i (10 ^ 40 + 121) = true := fun i => decide_eq_true hp2
  have cm : cMul 61 (k : Int) = true := by
    have : k = 0 ∨ k = 1 ∨ k = 2 ∨ k = 3 := by omega
    rcases this with rfl | rfl | rfl | rfl <;> decide +kernel
  by_cases h : (k : Int) < (ns.length : Int)
  · have hk2 : k < ns.length := by omega
    have a : atI (ns.map PyData.int) (k : Int) = some (.int ns[k]) := DL.atI_nat (by simp [hk2])
    have y0 := Int.emod_nonneg ns[k] (b := 10 ^ 40 + 121) (by decide)
    have y1 := Int.emod_lt_of_pos ns[k] hp2
    refine ⟨max 0 (ns[k] - 10 ^ 18), ns[k] % (10 ^ 40 + 121), ?_, y0, by omega⟩
    rw [e__law_bag]
    simp [s__law_bag, sliceV, sm, modD, m1, ltD, cT, h, a, subD, powD, pw1, pw2, n18, n40, -Int.reducePow, -Int.reduceAdd, m2, cm]
  · have y0 := Int.emod_nonneg ((cut ns none (some 1)).sum % 1000003) (b := 10 ^ 40 + 121) (by decide)
    have y1 := Int.emod_lt_of_pos ((cut ns none (some 1)).sum % 1000003) hp2
    refine ⟨max 0 ((cut ns none (some 1)).sum % 1000003 - 10 ^ 18), ((cut ns none (some 1)).sum % 1000003) % (10 ^ 40 + 121), ?_, y0, by omega⟩
    rw [e__law_bag]
    simp [s__law_bag, sliceV, sm, modD, m1, ltD, cT, h, subD, powD, pw1, pw2, n18, n40, -Int.reducePow, -Int.reduceAdd, m2, cm]
def pool : List Str := ["x", "y", "z", "n", "a1", "score4", "x9", "abcdefghi5", "b6", "if8", "o0"]
def nameOf (r : Int) (k : Nat) : Str := pool.getD ((r + 3 * (k : Int)) % 11).toNat "x"
theorem pool_ok : ∀ x ∈ pool, NameOk x := by
  intro x hx
  simp only [pool, List.mem_cons, List.not_mem_nil, or_false] at hx
  rcases hx with rfl | rfl | rfl | rfl | rfl | rfl | rfl | rfl | rfl | rfl | rfl <;> exact fun n cs => by kernel_rfl
theorem pool_so : ∀ x ∈ pool, PyData.strOk x = true := by
  intro x hx
  simp only [pool, List.mem_cons, List.not_mem_nil, or_false] at hx
  rcases hx with rfl | rfl | rfl | rfl | rfl | rfl | rfl | rfl | rfl | rfl | rfl <;> kernel_rfl
theorem nameOf_mem (r : Int) (k : Nat) : nameOf r k ∈ pool := by
  unfold nameOf
  have h0 := Int.emod_nonneg (r + 3 * (k : Int)) (b := 11) (by decide)
  have h1 := Int.emod_lt_of_pos (r + 3 * (k : Int)) (b := 11) (by decide)
  have hl : ((r + 3 * (k : Int)) % 11).toNat < pool.length := by
    show _ < 11
    omega
  rw [List.getD_eq_getElem?_getD, List.getElem?_eq_getElem hl]
  exact List.getElem_mem hl
theorem name_at (r : Int) (k : Nat) : atI (pool.map PyData.str) ((r + 3 * (k : Int)) % 11) = some (.str (nameOf r k)) := by
  have h0 := Int.emod_nonneg (r + 3 * (k : Int)) (b := 11) (by decide)
  have h1 := Int.emod_lt_of_pos (r + 3 * (k : Int)) (b := 11) (by decide)
  unfold nameOf
  generalize (r + 3 * (k : Int)) % 11 = i at h0 h1
  obtain ⟨j, rfl⟩ : ∃ j : Nat, i = (j : Int) := ⟨i.toNat, by omega⟩
  have hl : j < pool.length := by
    show j < 11
    omega
  refine DL.atI_nat ?_
  rw [Int.toNat_natCast, List.getD_eq_getElem?_getD, List.getElem?_map, List.getElem?_eq_getElem hl]
  rfl
theorem names_nd {r : Int} (h0 : 0 ≤ r) (h1 : r < 11) : ((List.range 4).map (nameOf r)).Nodup := by
  have : r = 0 ∨ r = 1 ∨ r = 2 ∨ r = 3 ∨ r = 4 ∨ r = 5 ∨ r = 6 ∨ r = 7 ∨ r = 8 ∨ r = 9 ∨ r = 10 := by omega
  rcases this with rfl | rfl | rfl | rfl | rfl | rfl | rfl | rfl | rfl | rfl | rfl <;> decide +kernel
def planFrom (r : Int) : Nat → List Int → List (Str × Int)
  | _, [] => []
  | k, s :: t => (nameOf r k, s) :: planFrom r (k + 1) t
theorem plan_snd (r : Int) : ∀ (k : Nat) (l : List Int), (planFrom r k l).map (·.2) = l
  | _, [] => rfl
  | k, s :: t => by simp [planFrom, plan_snd r (k + 1) t]
theorem plan_fst (r : Int) : ∀ (k : Nat) (l : List Int), (planFrom r k l).map (·.1) = ((List.range l.length).map fun i => nameOf r (k + i))
  | _, [] => rfl
  | k, s :: t => by
    rw [planFrom, List.map_cons, plan_fst r (k + 1) t, List.length_cons, List.range_succ_eq_map, List.map_cons, List.map_map]
    simp only [Nat.add_zero, List.cons.injEq, true_and]
    refine List.map_congr_left fun i _ => ?_
    simp only [Function.comp_apply]
    congr 1
    omega
theorem plan_len (r : Int) (k : Nat) (l : List Int) : (planFrom r k l).length = l.length := by
  have := congrArg List.length (plan_snd r k l)
  simpa using this
theorem sizes_small : (sizes.all fun l => decide (1 ≤ l.length) && decide (l.length ≤ 4) && l.all (fun s => decide (2 ≤ s) && decide (s ≤ 6)) && decide (l.foldl (· * ·) 1 ≤ 24) && decide ((stI l).length ≤ 24) && decide (0 < (stI l).length)) = true := by decide +kernel
structure Plan (p : List (Str × Int)) : Prop where
  P : PlanOk p
  so : ∀ x ∈ p.map (·.1), PyData.strOk x = true
  pl : ∀ x ∈ p.map (·.1), x ∈ pool
theorem plan_all {r : Int} (h0 : 0 ≤ r) (h1 : r < 11) {l : List Int} (hl : l ∈ sizes) : Plan (planFrom r 0 l) := by
  have hs := List.all_eq_true.mp sizes_small l hl
  simp only [Bool.and_eq_true, decide_eq_true_eq, List.all_eq_true] at hs
  obtain ⟨⟨⟨⟨⟨s1, s2⟩, s3⟩, s4⟩, s5⟩, s6⟩ := hs
  have mem : ∀ q ∈ planFrom r 0 l, q.1 ∈ pool ∧ q.2 ∈ l := fun q hq => by
    constructor
    · have : q.1 ∈ (planFrom r 0 l).map (·.1) := List.mem_map_of_mem hq
      rw [plan_fst] at this
      obtain ⟨i, _, e⟩ := List.mem_map.mp this
      rw [← e]
      exact nameOf_mem r _
    · have : q.2 ∈ (planFrom r 0 l).map (·.2) := List.mem_map_of_mem hq
      rwa [plan_snd] at this
  refine ⟨⟨fun q hq => pool_ok _ (mem q hq).1, ?_, fun q hq => s3 _ (mem q hq).2, by rw [plan_len]; exact ⟨s1, s2⟩, by rw [plan_snd]; exact s4⟩, fun x hx => ?_, fun x hx => ?_⟩
  · rw [plan_fst]
    have nd := names_nd h0 h1
    have e : (List.range l.length).map (fun i => nameOf r (0 + i)) = ((List.range 4).map (nameOf r)).take l.length := by
      rw [← List.map_take, List.take_range, Nat.min_eq_left s2]
      refine List.map_congr_left fun i _ => ?_
      rw [Nat.zero_add]
    rw [e]
    exact nd.sublist (List.take_sublist _ _)
  · obtain ⟨q, hq, rfl⟩ := List.mem_map.mp hx
    exact pool_so _ (mem q hq).1
  · obtain ⟨q, hq, rfl⟩ := List.mem_map.mp hx
    exact (mem q hq).1
@[simp] theorem seqV_plan {p : List (Str × Int)} {cs : Cs} : seqV (.d (planD p)) cs = .ok ((p.map fun p => PyData.tuple [.str p.1, .int p.2]).map Val.d) cs := rfl
theorem plan_map (r : Int) : ∀ (k : Nat) (l : List Int), (List.range l.length).map (fun i => PyData.tuple [.str (nameOf r (k + i)), .int (l.getD i 0)]) = (planFrom r k l).map fun p => PyData.tuple [.str p.1, .int p.2]
  | _, [] => rfl
  | k, s :: t => by
    rw [planFrom, List.map_cons, ← plan_map r (k + 1) t, List.length_cons, List.range_succ_eq_map, List.map_cons, List.map_map]
    simp only [Nat.add_zero, List.getD_cons_zero, List.cons.injEq, true_and]
    refine List.map_congr_left fun i _ => ?_
    simp only [Function.comp_apply, List.getD_cons_succ]
    rw [show k + (i + 1) = k + 1 + i by omega]
def sizesE : SE := eLst (aCons (eTup (aCons (eC (.int 2)) (aNil))) (aCons (eTup (aCons (eC (.int 3)) (aNil))) (aCons (eTup (aCons (eC (.int 6)) (aNil))) (aCons (eTup (aCons (eC (.int 2)) (aCons (eC (.int 2)) (aNil)))) (aCons (eTup (aCons (eC (.int 2)) (aCons (eC (.int 3)) (aNil)))) (aCons (eTup (aCons (eC (.int 3)) (aCons (eC (.int 2)) (aNil)))) (aCons (eTup (aCons (eC (.int 4)) (aCons (eC (.int 6)) (aNil)))) (aCons (eTup (aCons (eC (.int 2)) (aCons (eC (.int 2)) (aCons (eC (.int 2)) (aNil))))) (aCons (eTup (aCons (eC (.int 2)) (aCons (eC (.int 2)) (aCons (eC (.int 6)) (aNil))))) (aCons (eTup (aCons (eC (.int 2)) (aCons (eC (.int 2)) (aCons (eC (.int 2)) (aCons (eC (.int 3)) (aNil)))))) (aCons (eTup (aCons (eC (.int 4)) (aNil))) (aCons (eTup (aCons (eC (.int 5)) (aNil))) (aCons (eTup (aCons (eC (.int 3)) (aCons (eC (.int 2)) (aCons (eC (.int 2)) (aCons (eC (.int 2)) (aNil)))))) (aCons (eTup (aCons (eC (.int 2)) (aCons (eC (.int 4)) (aCons (eC (.int 3)) (aNil))))) (aNil)))))))))))))))
def poolE : SE := eLst (aCons (eC (.str "x")) (aCons (eC (.str "y")) (aCons (eC (.str "z")) (aCons (eC (.str "n")) (aCons (eC (.str "a1")) (aCons (eC (.str "score4")) (aCons (eC (.str "x9")) (aCons (eC (.str "abcdefghi5")) (aCons (eC (.str "b6")) (aCons (eC (.str "if8")) (aCons (eC (.str "o0")) (aNil))))))))))))
theorem sizesE_ev (sl : Sl) (cs : Cs) : sizesE sl cs = .ok (.d (.list (sizes.map tupI))) cs := by kernel_rfl
theorem poolE_ev (sl : Sl) (cs : Cs) : poolE sl cs = .ok (.d (.list (pool.map PyData.str))) cs := by kernel_rfl
theorem vars_split (G : Fn → FS) : s__law_variables G = sSeq (sSet 1 (oFr (eFz (oDef (G ._law_pick) [] (aCons (eVar 0) (aCons sizesE (aNil))))))) (sSeq (sSet 2 (oFr poolE)) (sSeq (sSet 3 (oFr (eFz (oDef (G ._law_take) [] (aCons (eVar 0) (aCons (eC (.int 11)) (aNil))))))) (sRet (oFr (eCall tupleB (bCons (eFz (oLc (pRange1 (bCons (eCall lenB (bCons (eVar 1) (aNil))) (aNil))) (gNm 4) (tTrue) (eTup (aCons (eIx (eVar 2) (eOp modD (eCall intB (bCons (eOp addD (eVar 3) (eOp mulD (eC (.int 3)) (eVar 4))) (aNil))) (eC (.int 11)))) (aCons (eIx (eVar 1) (eVar 4)) (aNil)))) [4])) (aNil))))))) := rfl
theorem range_ev {fa : SA} {sl : Sl} {cs cs1 : Cs} {n : Nat} (h : fa sl cs = .ok [.d (.int n)] cs1) (hn : n ≤ 16777216) : pRange1 fa sl cs = .ok (rangeL 0 n) cs1 := by
  have hb : inB (n : Int) = true := by
    unfold inB
    simp only [Bool.and_eq_true, decide_eq_true_eq]
    exact ⟨by omega, by omega⟩
  have rv : rangeV1 [.d (.int n)] cs1 = .ok (rangeL 0 n) cs1 := by
    show (if inB (n : Int) = true then R.ok (rangeL 0 (n : Int).toNat) cs1 else .bad) = _
    rw [if_pos hb, Int.toNat_natCast]
  unfold pRange1
  rw [h, R.bind_ok, rv]
theorem lc_ev {it : SA} {g : Val → Sl → Option Sl} {tt : ST} {te : SE} {vs : List Nat} {sl : Sl} {cs cs1 cs2 : Cs} {xs : List Val} {ys : List PyData} (h1 : it sl cs = .ok xs cs1) (hl : xs.length ≤ 16777216) (h2 : lcL g tt te (blkSl sl vs) xs cs1 = .ok ys cs2) : oLc it g tt te vs sl cs = .ok (.ow (.list ys)) cs2 := by
  unfold oLc
  rw [h1, R.bind_ok, if_pos hl, h2]
  rfl
theorem variables_ok (n b : Nat) (cs : Cs) (Z : Int) (B : BagAt b cs Z) (hZ : Z + 2 < ZB) : ∃ (p : List (Str × Int)) (cs' : Cs), sem (n + 3) ._law_variables [.cel b] cs = .ok (.fr (.d (planD p))) cs' ∧ Plan p ∧ BagAt b cs' (Z + 2) ∧ Only [b] cs cs' := by
  obtain ⟨x, cs1, e1, hx, B1, O1⟩ := pick_ok n b cs Z (sizes.map tupI) B (by omega) (by decide) (by decide)
  obtain ⟨l, hl, rfl⟩ := List.mem_map.mp hx
  obtain ⟨r, cs2, e2, r0, r1, B2, O2⟩ := take_k (n + 1) b cs1 (Z + 1) 11 B1 (by omega) (by decide) (by decide)
  have PL := plan_all r0 r1 hl
  have hlen : l.length ≤ 4 := by
    have := PL.P.len
    rw [plan_len] at this
    exact this.2
  refine ⟨planFrom r 0 l, cs2, ?_, PL, B2.mono (by omega), O1.trans O2⟩
  have lc : lcL (gNm 4) tTrue (eTup (aCons (eIx (eVar 2) (eOp modD (eCall intB (bCons (eOp addD (eVar 3) (eOp mulD (eC (.int 3)) (eVar 4))) (aNil))) (eC (.int 11)))) (aCons (eIx (eVar 1) (eVar 4)) (aNil)))) (blkSl [some (.fr (.cel b)), some (.fr (.d (tupI l))), some (.fr (.d (.list (pool.map PyData.str)))), some (.fr (.d (.int r))), none] [4]) (rangeL 0 l.length) cs2
      = .ok ((rangeL 0 l.length).map fun v => match v with
        | .d (.int i) => .tuple [.str (nameOf r i.toNat), .int (l.getD i.toNat 0)]
        | _ => .none) cs2 := by
    refine lcL_all fun x hx => ?_
    simp only [rangeL, List.mem_map, List.mem_range] at hx
    obtain ⟨i, hi, rfl⟩ := hx
    have c3 : cMul 3 (i : Int) = true := by
      have : i = 0 ∨ i = 1 ∨ i = 2 ∨ i = 3 := by omega
      rcases this with rfl | rfl | rfl | rfl <;> decide +kernel
    have cm : ∀ j : Int, cMod j 11 = true := fun j => rfl
    have na := name_at r i
    have la : atI (l.map PyData.int) (i : Int) = some (.int (l.getD i 0)) := DL.atI_nat (by simp [List.getD_eq_getElem?_getD, hi])
    refine ⟨_, rfl, rfl, ?_⟩
    simp [blkSl, wipeS, unOwn, c3, modD, cm, na, tupI, la]
  have fin : (rangeL 0 l.length).map (fun v => match v with
        | .d (.int i) => PyData.tuple [.str (nameOf r i.toNat), .int (l.getD i.toNat 0)]
        | _ => .none) = (planFrom r 0 l).map fun p => PyData.tuple [.str p.1, .int p.2] := by
    rw [← plan_map r 0 l]
    unfold rangeL
    rw [List.map_map]
    refine List.map_congr_left fun i _ => ?_
    simp
  rw [fin] at lc
  have hr : (rangeL 0 l.length).length ≤ 16777216 := by
    unfold rangeL
    simp only [List.length_map, List.length_range]
    omega
  have tl : lenB [.d (tupI l)] cs2 = .ok (.d (.int l.length)) cs2 := by simp [tupI]
  have e2' : sem (n + 2) ._law_take [.cel b, .d (.int 11)] cs1 = .ok (.fr (.d (.int r))) cs2 := e2
  have st1 : sSet 1 (oFr (eFz (oDef (sem (n + 2) ._law_pick) [] (aCons (eVar 0) (aCons (sizesE) (aNil)))))) [some (.fr (.cel b)), none, none, none, none] cs = .nx [some (.fr (.cel b)), some (.fr (.d (tupI l))), none, none, none] cs1 := by
    simp only [ev_set, ev_oFr, ev_fz, ev_def, ev_aCons, ev_var (v := .cel b) (show [some (DL.Slot.fr (.cel b)), none, none, none, none][0]? = some (some (.fr (.cel b))) from rfl), R.bind_ok, ev_solidC, if_true, sizesE_ev, ev_solid, ev_aNil, List.append_nil, e1, ev_fzF, R.go_ok, List.set_cons_succ, List.set_cons_zero]
  have st2 : sSet 2 (oFr poolE) [some (.fr (.cel b)), some (.fr (.d (tupI l))), none, none, none] cs1 = .nx [some (.fr (.cel b)), some (.fr (.d (tupI l))), some (.fr (.d (.list (pool.map PyData.str)))), none, none] cs1 := by
    simp only [ev_set, ev_oFr, poolE_ev, R.bind_ok, ev_solid, if_true, R.go_ok, List.set_cons_succ, List.set_cons_zero]
  generalize hP : PyData.list (pool.map PyData.str) = P at st2 lc
  have st3 : sSet 3 (oFr (eFz (oDef (sem (n + 2) ._law_take) [] (aCons (eVar 0) (aCons (eC (.int 11)) (aNil)))))) [some (.fr (.cel b)), some (.fr (.d (tupI l))), some (.fr (.d P)), none, none] cs1 = .nx [some (.fr (.cel b)), some (.fr (.d (tupI l))), some (.fr (.d P)), some (.fr (.d (.int r))), none] cs2 := by
    simp [e2']
  have q1 : bCons (eCall lenB (bCons (eVar 1) (aNil))) (aNil) [some (.fr (.cel b)), some (.fr (.d (tupI l))), some (.fr (.d P)), some (.fr (.d (.int r))), none] cs2 = .ok [.d (.int l.length)] cs2 := by simp [tl]
  have st4 : sRet (oFr (eCall tupleB (bCons (eFz (oLc (pRange1 (bCons (eCall lenB (bCons (eVar 1) (aNil))) (aNil))) (gNm 4) (tTrue) (eTup (aCons (eIx (eVar 2) (eOp modD (eCall intB (bCons (eOp addD (eVar 3) (eOp mulD (eC (.int 3)) (eVar 4))) (aNil))) (eC (.int 11)))) (aCons (eIx (eVar 1) (eVar 4)) (aNil)))) [4])) (aNil)))) [some (.fr (.cel b)), some (.fr (.d (tupI l))), some (.fr (.d P)), some (.fr (.d (.int r))), none] cs2 = .rt (.fr (.d (planD (planFrom r 0 l)))) cs2 := by
    have st5 := lc_ev (it := pRange1 (bCons (eCall lenB (bCons (eVar 1) (aNil))) (aNil))) (sl := [some (.fr (.cel b)), some (.fr (.d (tupI l))), some (.fr (.d P)), some (.fr (.d (.int r))), none]) (cs := cs2) (range_ev q1 (by omega)) hr lc
    simp only [ev_ret, ev_oFr, ev_call, ev_bCons, ev_fz, st5, R.bind_ok, ev_fzO, ev_aNil, ev_tuL, ev_solid, if_true, R.go_ok, planD]
  rw [e__law_variables, vars_split, ev_seq]
  show bodyR ((sSet 1 (oFr (eFz (oDef (sem (n + 2) ._law_pick) [] (aCons (eVar 0) (aCons (sizesE) (aNil)))))) [some (.fr (.cel b)), none, none, none, none] cs).seq _) = _
  rw [st1, RS.seq_nx, ev_seq, st2, RS.seq_nx, ev_seq, st3, RS.seq_nx, st4]
  rfl
end LW
end
section
set_option Elab.async false
set_option linter.all false
set_option maxRecDepth 100000
set_option autoImplicit false
namespace LW
open PySem PySem.Spec PyProof.Rows L2 DL
/-- the dict of places -/
def plK : List (Str × Int) → Nat → List (PyData × PyData)
  | [], _ => []
  | (x, _) :: r, k => (.str x, .int (k : Nat)) :: plK r (k + 1)
theorem dput_new {acc : List (PyData × PyData)} {x : Str} {v : PyData} (h : ∀ a ∈ acc, keyOf a.1 ≠ some (.inr x)) : dPut acc (.inr x) v = acc ++ [(.str x, v)] := by
  unfold dPut
  rw [if_neg]
  · rfl
  · intro z
    rw [List.any_eq_true] at z
    obtain ⟨a, ha, e⟩ := z
    exact h a ha (of_decide_eq_true e)
theorem dc_places {slB : Sl} {cs : Cs} (hs : slB = [some (.fr (.d .none)), none, none] ∨ ∃ v, slB = [some (.fr v), none, none]) : ∀ (rest : List (Str × Int)) (k : Nat) (acc : List (PyData × PyData)), (∀ q ∈ rest, ∀ a ∈ acc, keyOf a.1 ≠ some (.inr q.1)) → (rest.map (·.1)).Nodup →
    dcL (gTp (gsCons (gNm 1) (gsCons (gNm 2) gsNil))) tTrue (eIx (eVar 2) (eC (.int 0))) (eVar 1) slB (enumFrom k (rest.map fun p => PyData.tuple [.str p.1, .int p.2])) acc cs = .ok (acc ++ plK rest k) cs
  | [], k, acc, _, _ => by simp [enumFrom, dcL, plK]
  | (x, s) :: rest, k, acc, h, nd => by
    obtain ⟨v, rfl⟩ : ∃ v, slB = [some (.fr v), none, none] := by
      rcases hs with e | e
      · exact ⟨_, e⟩
      · exact e
    simp only [List.map_cons] at nd
    obtain ⟨n1, n2⟩ := List.nodup_cons.mp nd
    have ih := dc_places (slB := [some (.fr v), none, none]) (cs := cs) (.inr ⟨v, rfl⟩) rest (k + 1) (acc ++ [(.str x, .int (k : Nat))]) (fun q hq a ha => by
      rcases List.mem_append.mp ha with z | z
      · exact h q (by simp [hq]) a z
      · simp only [List.mem_singleton] at z
        subst z
        intro e
        have e' : x = q.1 := by
          have : (Sum.inr x : Key) = .inr q.1 := Option.some.inj e
          exact Sum.inr.inj this
        exact n1 (e' ▸ List.mem_map_of_mem hq)) n2
    simp only [List.map_cons, enumFrom]
    unfold dcL
    simp [noEx, DL.keyOf]
    rw [dput_new (h (x, s) (by simp)), ih]
    simp [plK]
theorem places_ok (n : Nat) (p : List (Str × Int)) (cs : Cs) (P : PlanOk p) : sem (n + 1) .places_of [.d (planD p)] cs = .ok (.ow (.dict (plK p 0))) cs := by
  rw [e_places_of]
  have e := dc_places (cs := cs) (slB := [some (.fr (.d (planD p))), none, none]) (.inr ⟨_, rfl⟩) p 0 [] (by simp) P.nd
  have hp := P.len
  have h16 : p.length ≤ 16777216 := by omega
  have pd : planD p = .tuple (p.map fun p => .tuple [.str p.1, .int p.2]) := rfl
  rw [pd] at e ⊢
  have b : blkSl [some (Slot.fr (Val.d (PyData.tuple (p.map fun p => PyData.tuple [.str p.1, .int p.2])))), none, none] [1, 2] = [some (Slot.fr (Val.d (PyData.tuple (p.map fun p => PyData.tuple [.str p.1, .int p.2])))), none, none] := rfl
  simp [s_places_of, oDc, enumW, enum_len, h16, b, e]
/-- a name's place -/
theorem eqv_str {x y : Str} : PyData.eqv (.str x) (.str y) = (x == y) := by
  unfold PyData.eqv
  rfl
theorem place_both (x : Str) : ∀ (p : List (Str × Int)) (k : Nat), x ∈ p.map (·.1) → ∃ j, j < p.length ∧ DL.placeOf ((p.map (·.1)).map PyData.str) (.str x) = some j ∧ dFind (plK p k) (.inr x) = some (.int ((k + j : Nat) : Int))
  | [], _, h => by simp at h
  | (y, s) :: r, k, h => by
    by_cases e : y = x
    · subst e
      refine ⟨0, by simp, ?_, ?_⟩
      · simp [DL.placeOf, eqv_str]
      · simp [plK, dFind, DL.keyOf]
    · have h2 : x ∈ r.map (·.1) := by
        simp only [List.map_cons, List.mem_cons] at h
        exact h.resolve_left fun z => e z.symm
      obtain ⟨j, h1, h3, h4⟩ := place_both x r (k + 1) h2
      refine ⟨j + 1, by simp [h1], ?_, ?_⟩
      · have : (y == x) = false := by simpa [beq_iff_eq] using e
        simp only [List.map_cons, DL.placeOf, eqv_str, this]
        rw [h3]
        rfl
      · have : ¬ (some (Sum.inr y : Key) = some (.inr x)) := fun z => e (Sum.inr.inj (Option.some.inj z))
        unfold plK dFind
        rw [show DL.keyOf (.str y) = some (.inr y) from rfl, if_neg this, h4]
        congr 3
        omega
/-- every name stands there -/
theorem in_places {p : List (Str × Int)} {x : Str} (h : x ∈ p.map (·.1)) : inD (.str x) (.dict (plK p 0)) = some (.bool true) := by
  obtain ⟨j, _, _, h3⟩ := place_both x p 0 h
  have k : kAll (plK p 0) = true := by
    cases p with
    | nil => rfl
    | cons a r => rfl
  show (none : Option PyData).or ((none : Option PyData).or (inKD _ _)) = _
  unfold inKD dictK
  simp [DL.keyOf, k, h3]
end LW
end
section
set_option Elab.async false
set_option linter.all false
set_option maxRecDepth 100000
set_option autoImplicit false
namespace LW
open PySem PySem.Spec PyProof.Rows L2 DL
/-! ### words compared -/
@[simp high] theorem qw_skip_skip : eqD (.str "skip") (.str "skip") = some (.bool true) := by kernel_rfl
@[simp high] theorem qw_skip_set : eqD (.str "skip") (.str "set") = some (.bool false) := by kernel_rfl
@[simp high] theorem qw_skip_draw : eqD (.str "skip") (.str "draw") = some (.bool false) := by kernel_rfl
@[simp high] theorem qw_skip_choose : eqD (.str "skip") (.str "choose") = some (.bool false) := by kernel_rfl
@[simp high] theorem qw_skip_see : eqD (.str "skip") (.str "see") = some (.bool false) := by kernel_rfl
@[simp high] theorem qw_skip_if : eqD (.str "skip") (.str "if") = some (.bool false) := by kernel_rfl
@[simp high] theorem qw_skip_while : eqD (.str "skip") (.str "while") = some (.bool false) := by kernel_rfl
@[simp high] theorem qw_skip_seq : eqD (.str "skip") (.str "seq") = some (.bool false) := by kernel_rfl
@[simp high] theorem qw_set_skip : eqD (.str "set") (.str "skip") = some (.bool false) := by kernel_rfl
@[simp high] theorem qw_set_set : eqD (.str "set") (.str "set") = some (.bool true) := by kernel_rfl
@[simp high] theorem qw_set_draw : eqD (.str "set") (.str "draw") = some (.bool false) := by kernel_rfl
@[simp high] theorem qw_set_choose : eqD (.str "set") (.str "choose") = some (.bool false) := by kernel_rfl
@[simp high] theorem qw_set_see : eqD (.str "set") (.str "see") = some (.bool false) := by kernel_rfl
@[simp high] theorem qw_set_if : eqD (.str "set") (.str "if") = some (.bool false) := by kernel_rfl
@[simp high] theorem qw_set_while : eqD (.str "set") (.str "while") = some (.bool false) := by kernel_rfl
@[simp high] theorem qw_set_seq : eqD (.str "set") (.str "seq") = some (.bool false) := by kernel_rfl
@[simp high] theorem qw_draw_skip : eqD (.str "draw") (.str "skip") = some (.bool false) := by kernel_rfl
@[simp high] theorem qw_draw_set : eqD (.str "draw") (.str "set") = some (.bool false) := by kernel_rfl
@[simp high] theorem qw_draw_draw : eqD (.str "draw") (.str "draw") = some (.bool true) := by kernel_rfl
@[simp high] theorem qw_draw_choose : eqD (.str "draw") (.str "choose") = some (.bool false) := by kernel_rfl
@[simp high] theorem qw_draw_see : eqD (.str "draw") (.str "see") = some (.bool false) := by kernel_rfl
@[simp high] theorem qw_draw_if : eqD (.str "draw") (.str "if") = some (.bool false) := by kernel_rfl
@[simp high] theorem qw_draw_while : eqD (.str "draw") (.str "while") = some (.bool false) := by kernel_rfl
@[simp high] theorem qw_draw_seq : eqD (.str "draw") (.str "seq") = some (.bool false) := by kernel_rfl
@[simp high] theorem qw_choose_skip : eqD (.str "choose") (.str "skip") = some (.bool false) := by kernel_rfl
@[simp high] theorem qw_choose_set : eqD (.str "choose") (.str "set") = some (.bool false) := by kernel_rfl
@[simp high] theorem qw_choose_draw : eqD (.str "choose") (.str "draw") = some (.bool false) := by kernel_rfl
@[simp high] theorem qw_choose_choose : eqD (.str "choose") (.str "choose") = some (.bool true) := by kernel_rfl
@[simp high] theorem qw_choose_see : eqD (.str "choose") (.str "see") = some (.bool false) := by kernel_rfl
@[simp high] theorem qw_choose_if : eqD (.str "choose") (.str "if") = some (.bool false) := by kernel_rfl
@[simp high] theorem qw_choose_while : eqD (.str "choose") (.str "while") = some (.bool false) := by kernel_rfl
@[simp high] theorem qw_choose_seq : eqD (.str "choose") (.str "seq") = some (.bool false) := by kernel_rfl
@[simp high] theorem qw_see_skip : eqD (.str "see") (.str "skip") = some (.bool false) := by kernel_rfl
@[simp high] theorem qw_see_set : eqD (.str "see") (.str "set") = some (.bool false) := by kernel_rfl
@[simp high] theorem qw_see_draw : eqD (.str "see") (.str "draw") = some (.bool false) := by kernel_rfl
@[simp high] theorem qw_see_choose : eqD (.str "see") (.str "choose") = some (.bool false) := by kernel_rfl
@[simp high] theorem qw_see_see : eqD (.str "see") (.str "see") = some (.bool true) := by kernel_rfl
@[simp high] theorem qw_see_if : eqD (.str "see") (.str "if") = some (.bool false) := by kernel_rfl
@[simp high] theorem qw_see_while : eqD (.str "see") (.str "while") = some (.bool false) := by kernel_rfl
@[simp high] theorem qw_see_seq : eqD (.str "see") (.str "seq") = some (.bool false) := by kernel_rfl
@[simp high] theorem qw_if_skip : eqD (.str "if") (.str "skip") = some (.bool false) := by kernel_rfl
@[simp high] theorem qw_if_set : eqD (.str "if") (.str "set") = some (.bool false) := by kernel_rfl
@[simp high] theorem qw_if_draw : eqD (.str "if") (.str "draw") = some (.bool false) := by kernel_rfl
@[simp high] theorem qw_if_choose : eqD (.str "if") (.str "choose") = some (.bool false) := by kernel_rfl
@[simp high] theorem qw_if_see : eqD (.str "if") (.str "see") = some (.bool false) := by kernel_rfl
@[simp high] theorem qw_if_if : eqD (.str "if") (.str "if") = some (.bool true) := by kernel_rfl
@[simp high] theorem qw_if_while : eqD (.str "if") (.str "while") = some (.bool false) := by kernel_rfl
@[simp high] theorem qw_if_seq : eqD (.str "if") (.str "seq") = some (.bool false) := by kernel_rfl
@[simp high] theorem qw_while_skip : eqD (.str "while") (.str "skip") = some (.bool false) := by kernel_rfl
@[simp high] theorem qw_while_set : eqD (.str "while") (.str "set") = some (.bool false) := by kernel_rfl
@[simp high] theorem qw_while_draw : eqD (.str "while") (.str "draw") = some (.bool false) := by kernel_rfl
@[simp high] theorem qw_while_choose : eqD (.str "while") (.str "choose") = some (.bool false) := by kernel_rfl
@[simp high] theorem qw_while_see : eqD (.str "while") (.str "see") = some (.bool false) := by kernel_rfl
@[simp high] theorem qw_while_if : eqD (.str "while") (.str "if") = some (.bool false) := by kernel_rfl
@[simp high] theorem qw_while_while : eqD (.str "while") (.str "while") = some (.bool true) := by kernel_rfl
@[simp high] theorem qw_while_seq : eqD (.str "while") (.str "seq") = some (.bool false) := by kernel_rfl
@[simp high] theorem qw_seq_skip : eqD (.str "seq") (.str "skip") = some (.bool false) := by kernel_rfl
@[simp high] theorem qw_seq_set : eqD (.str "seq") (.str "set") = some (.bool false) := by kernel_rfl
@[simp high] theorem qw_seq_draw : eqD (.str "seq") (.str "draw") = some (.bool false) := by kernel_rfl
@[simp high] theorem qw_seq_choose : eqD (.str "seq") (.str "choose") = some (.bool false) := by kernel_rfl
@[simp high] theorem qw_seq_see : eqD (.str "seq") (.str "see") = some (.bool false) := by kernel_rfl
@[simp high] theorem qw_seq_if : eqD (.str "seq") (.str "if") = some (.bool false) := by kernel_rfl
@[simp high] theorem qw_seq_while : eqD (.str "seq") (.str "while") = some (.bool false) := by kernel_rfl
@[simp high] theorem qw_seq_seq : eqD (.str "seq") (.str "seq") = some (.bool true) := by kernel_rfl
@[simp high] theorem nw_skip : neD (.str "skip") (.str "seq") = some (.bool true) := by kernel_rfl
@[simp high] theorem iw_skip : inD (.str "skip") (.tuple [.str "if", .str "while"]) = some (.bool false) := by kernel_rfl
@[simp high] theorem ix_skip : inD (.str "skip") (.tuple [.str "see", .str "if", .str "while"]) = some (.bool false) := by kernel_rfl
@[simp high] theorem nw_set : neD (.str "set") (.str "seq") = some (.bool true) := by kernel_rfl
@[simp high] theorem iw_set : inD (.str "set") (.tuple [.str "if", .str "while"]) = some (.bool false) := by kernel_rfl
@[simp high] theorem ix_set : inD (.str "set") (.tuple [.str "see", .str "if", .str "while"]) = some (.bool false) := by kernel_rfl
@[simp high] theorem nw_draw : neD (.str "draw") (.str "seq") = some (.bool true) := by kernel_rfl
@[simp high] theorem iw_draw : inD (.str "draw") (.tuple [.str "if", .str "while"]) = some (.bool false) := by kernel_rfl
@[simp high] theorem ix_draw : inD (.str "draw") (.tuple [.str "see", .str "if", .str "while"]) = some (.bool false) := by kernel_rfl
@[simp high] theorem nw_choose : neD (.str "choose") (.str "seq") = some (.bool true) := by kernel_rfl
@[simp high] theorem iw_choose : inD (.str "choose") (.tuple [.str "if", .str "while"]) = some (.bool false) := by kernel_rfl
@[simp high] theorem ix_choose : inD (.str "choose") (.tuple [.str "see", .str "if", .str "while"]) = some (.bool false) := by kernel_rfl
@[simp high] theorem nw_see : neD (.str "see") (.str "seq") = some (.bool true) := by kernel_rfl
@[simp high] theorem iw_see : inD (.str "see") (.tuple [.str "if", .str "while"]) = some (.bool false) := by kernel_rfl
@[simp high] theorem ix_see : inD (.str "see") (.tuple [.str "see", .str "if", .str "while"]) = some (.bool true) := by kernel_rfl
@[simp high] theorem nw_if : neD (.str "if") (.str "seq") = some (.bool true) := by kernel_rfl
@[simp high] theorem iw_if : inD (.str "if") (.tuple [.str "if", .str "while"]) = some (.bool true) := by kernel_rfl
@[simp high] theorem ix_if : inD (.str "if") (.tuple [.str "see", .str "if", .str "while"]) = some (.bool true) := by kernel_rfl
@[simp high] theorem nw_while : neD (.str "while") (.str "seq") = some (.bool true) := by kernel_rfl
@[simp high] theorem iw_while : inD (.str "while") (.tuple [.str "if", .str "while"]) = some (.bool true) := by kernel_rfl
@[simp high] theorem ix_while : inD (.str "while") (.tuple [.str "see", .str "if", .str "while"]) = some (.bool true) := by kernel_rfl
@[simp high] theorem nw_seq : neD (.str "seq") (.str "seq") = some (.bool false) := by kernel_rfl
@[simp high] theorem iw_seq : inD (.str "seq") (.tuple [.str "if", .str "while"]) = some (.bool false) := by kernel_rfl
@[simp high] theorem ix_seq : inD (.str "seq") (.tuple [.str "see", .str "if", .str "while"]) = some (.bool false) := by kernel_rfl
@[simp high] theorem eqd_intH (i j : Int) : eqD (.int i) (.int j) = some (.bool (i == j)) := eqd_int i j
@[simp high] theorem ned_intH (i j : Int) : neD (.int i) (.int j) = some (.bool (!(i == j))) := by
  simp [eqOk, PyData.canLay0, PyData.eqv, PyData.depth]
@[simp] theorem ev_atI3 {α : Type} {x y z u : α} {xs : List α} : atI (x :: y :: z :: u :: xs) 3 = some u := DL.atI_nat (j := 3) rfl
end LW
end
section
set_option Elab.async false
set_option linter.all false
set_option maxRecDepth 100000
set_option autoImplicit false
namespace LW
open PySem PySem.Spec PyProof.Rows L2 DL
/-! ### statements -/
inductive Leaf (ns : List Str) : PyData → Prop
  | skip : Leaf ns (.tuple [.str "skip"])
  | set {x : Str} {e : Ex5} (hx : x ∈ ns) (he : e.ok ns) (hd : e.dep ≤ 10) : Leaf ns (.tuple [.str "set", .str x, e.toD])
  | draw {x : Str} {ps : List (Ex5 × Int)} (hx : x ∈ ns) (h1 : 1 ≤ ps.length) (h6 : ps.length ≤ 6) (hp : ∀ p ∈ ps, p.1.ok ns ∧ p.1.dep ≤ 10 ∧ 1 ≤ p.2 ∧ p.2 ≤ 99) : Leaf ns (.tuple [.str "draw", .str x, .tuple (ps.map fun p => .tuple [p.1.toD, .int p.2])])
  | choose {x : Str} {vs : List Ex5} (hx : x ∈ ns) (h1 : 1 ≤ vs.length) (h6 : vs.length ≤ 6) (hp : ∀ p ∈ vs, p.ok ns ∧ p.dep ≤ 10) : Leaf ns (.tuple [.str "choose", .str x, .tuple (vs.map Ex5.toD)])
  | see {c : Cn5} (hc : c.ok ns) (hd : c.dep ≤ 10) : Leaf ns (.tuple [.str "see", c.toD])
def full (b : Bool) (s : PyData) (r : List PyData) : List PyData := if b then s :: r else r
/-- a statement (b: a seq, of the statements l), how deep it is, the statements in it -/
inductive StOk (ns : List Str) : Bool → PyData → List PyData → Nat → List PyData → Prop
  | leaf {s : PyData} (h : Leaf ns s) : StOk ns false s [] 1 [s]
  | whl {b : Bool} {c : Cn5} {s : PyData} {l : List PyData} {d : Nat} {r : List PyData} (hc : c.ok ns) (hd : c.dep ≤ 10) (h : StOk ns b s l d r) (ok : b = true → 2 ≤ l.length) :
      StOk ns false (.tuple [.str "while", c.toD, s]) [] (d + 1) (.tuple [.str "while", c.toD, s] :: full b s r)
  | ite {b b' : Bool} {c : Cn5} {s t : PyData} {l l' : List PyData} {d e : Nat} {r r' : List PyData} (hc : c.ok ns) (hd : c.dep ≤ 10) (h : StOk ns b s l d r) (ok : b = true → 2 ≤ l.length) (h' : StOk ns b' t l' e r') (ok' : b' = true → 2 ≤ l'.length) :
      StOk ns false (.tuple [.str "if", c.toD, s, t]) [] (max d e + 1) (.tuple [.str "if", c.toD, s, t] :: (full b s r ++ full b' t r'))
  | nil : StOk ns true (.tuple [.str "seq", .tuple []]) [] 0 []
  | cons {s : PyData} {l l' : List PyData} {d e : Nat} {r r' : List PyData} (h : StOk ns false s l' d r) (t : StOk ns true (.tuple [.str "seq", .tuple l]) l e r') : StOk ns true (.tuple [.str "seq", .tuple (s :: l)]) (s :: l) (max d e) (r ++ r')
theorem StOk.seq_eq {ns : List Str} {b : Bool} {s : PyData} {l : List PyData} {d : Nat} {r : List PyData} (h : StOk ns b s l d r) : b = true → s = .tuple [.str "seq", .tuple l] := by
  cases h <;> intro z <;> first | rfl | cases z
/-! fuel as a bound -/
theorem succ_of {N k : Nat} (h : k + 1 ≤ N) : ∃ n, N = n + 1 ∧ k ≤ n := ⟨N - 1, by omega, by omega⟩
section
variable {ns : List Str} (hn : ∀ x ∈ ns, NameOk x)
include hn
theorem isx {e : Ex5} (h : e.ok ns) (hd : e.dep ≤ 10) {N : Nat} (hN : 13 ≤ N) (cs : Cs) : sem N .is_expression [.d e.toD] cs = yes true cs := by
  obtain ⟨n, rfl, hn1⟩ := succ_of hN
  have a := is_expr_ok ns hn e 10 h (by omega) (n - e.dep - 2) cs
  rw [show n - e.dep - 2 + e.dep + 2 = n by omega] at a
  rw [e_is_expression]
  simp [s_is_expression, a, g_MOST_DEEP]
theorem isc {c : Cn5} (h : c.ok ns) (hd : c.dep ≤ 10) {N : Nat} (hN : 13 ≤ N) (cs : Cs) : sem N .is_condition [.d c.toD] cs = yes true cs := by
  obtain ⟨n, rfl, hn1⟩ := succ_of hN
  have a := is_cond_ok ns hn c 10 h (by omega) (n - c.dep - 2) cs
  rw [show n - c.dep - 2 + c.dep + 2 = n by omega] at a
  rw [e_is_condition]
  simp [s_is_condition, a, g_MOST_DEEP]
theorem isn {x : Str} (h : x ∈ ns) {N : Nat} (hN : 1 ≤ N) (cs : Cs) : sem N .is_name [.d (.str x)] cs = yes true cs := by
  obtain ⟨n, rfl, hn1⟩ := succ_of hN
  exact hn x h n cs
theorem is_pair_ok {e : Ex5} {w : Int} (h : e.ok ns) (hd : e.dep ≤ 10) (h1 : 1 ≤ w) (h2 : w ≤ 99) {N : Nat} (hN : 14 ≤ N) (cs : Cs) : sem N .is_pair [.d (.tuple [e.toD, .int w])] cs = yes true cs := by
  obtain ⟨n, rfl, hn1⟩ := succ_of hN
  obtain ⟨m, rfl, _⟩ := succ_of (show 1 ≤ n by omega)
  have a := isx hn h hd (N := m + 1) (by omega) cs
  rw [e_is_pair]
  simp [s_is_pair, isiB, a, is_integer_lh, g_MOST_NUMBER, h1, h2, -ev_eqD, -ev_neD]
theorem is_pairs_ok {ps : List (Ex5 × Int)} (h1 : 1 ≤ ps.length) (h6 : ps.length ≤ 6) (hp : ∀ p ∈ ps, p.1.ok ns ∧ p.1.dep ≤ 10 ∧ 1 ≤ p.2 ∧ p.2 ≤ 99) {N : Nat} (hN : 15 ≤ N) (cs : Cs) :
    sem N .is_pairs [.d (.tuple (ps.map fun p => .tuple [p.1.toD, .int p.2]))] cs = yes true cs := by
  obtain ⟨n, rfl, hn1⟩ := succ_of hN
  rw [e_is_pairs]
  have e : lcL (gNm 1) tTrue (eFz (oDef (sem n .is_pair) [] (aCons (eVar 1) aNil))) (blkSl [some (.fr (.d (.tuple (ps.map fun p => .tuple [p.1.toD, .int p.2])))), none] [1]) ((ps.map fun p => PyData.tuple [p.1.toD, .int p.2]).map Val.d) cs = .ok (List.replicate ((ps.map fun p => PyData.tuple [p.1.toD, .int p.2]).map Val.d).length (PyData.bool true)) cs := by
    refine lcL_true fun x hx => ?_
    simp only [List.mem_map] at hx
    obtain ⟨y, ⟨p, hp', rfl⟩, rfl⟩ := hx
    refine ⟨_, rfl, rfl, ?_⟩
    have q := hp p hp'
    simp [blkSl, wipeS, unOwn, is_pair_ok hn q.1 q.2.1 q.2.2.1 q.2.2.2 hn1 cs]
  rw [List.map_map] at e
  have hl : ps.length ≤ 16777216 := by omega
  have l1 : (1 : Int) ≤ (ps.length : Int) := by omega
  have l6 : (ps.length : Int) ≤ 6 := by omega
  simp only [Function.comp_def] at e
  simp [s_is_pairs, isiB, oLc, e, hl, leD, cT, l1, l6, g_MOST_PAIRS, List.map_map, Function.comp_def]
theorem is_choice_ok {vs : List Ex5} (h1 : 1 ≤ vs.length) (h6 : vs.length ≤ 6) (hp : ∀ p ∈ vs, p.ok ns ∧ p.dep ≤ 10) {N : Nat} (hN : 14 ≤ N) (cs : Cs) :
    sem N .is_choice [.d (.tuple (vs.map Ex5.toD))] cs = yes true cs := by
  obtain ⟨n, rfl, hn1⟩ := succ_of hN
  rw [e_is_choice]
  have e : lcL (gNm 1) tTrue (eFz (oDef (sem n .is_expression) [] (aCons (eVar 1) aNil))) (blkSl [some (.fr (.d (.tuple (vs.map Ex5.toD)))), none] [1]) ((vs.map Ex5.toD).map Val.d) cs = .ok (List.replicate ((vs.map Ex5.toD).map Val.d).length (PyData.bool true)) cs := by
    refine lcL_true fun x hx => ?_
    simp only [List.mem_map] at hx
    obtain ⟨y, ⟨p, hp', rfl⟩, rfl⟩ := hx
    refine ⟨_, rfl, rfl, ?_⟩
    have q := hp p hp'
    simp [blkSl, wipeS, unOwn, isx hn q.1 q.2 hn1 cs]
  rw [List.map_map] at e
  have hl : vs.length ≤ 16777216 := by omega
  have l1 : (1 : Int) ≤ (vs.length : Int) := by omega
  have l6 : (vs.length : Int) ≤ 6 := by omega
  simp only [Function.comp_def] at e
  simp [s_is_choice, isiB, oLc, e, hl, leD, cT, l1, l6, g_MOST_PAIRS, List.map_map, Function.comp_def]
/-- a leaf is right where there is room for one -/
theorem leaf_within {s : PyData} (h : Leaf ns s) (left : Int) {N : Nat} (hN : 18 ≤ N) (cs : Cs) : sem N .is_statement_within [.d s, .d (.int left)] cs = yes (decide (1 ≤ left)) cs := by
  obtain ⟨n, rfl, hn1⟩ := succ_of hN
  obtain ⟨m, rfl, hm⟩ := succ_of (show 17 ≤ n by omega)
  rw [e_is_statement_within]
  by_cases hl : left < 1
  · have hl2 : decide (1 ≤ left) = false := by simp; omega
    rw [hl2]
    cases h <;> simp [s_is_statement_within, isiB, -ev_eqD, -ev_neD, ltD, cT, hl]
  · have hl2 : decide (1 ≤ left) = true := by simp; omega
    rw [hl2]
    cases h with
    | skip => simp [s_is_statement_within, isiB, -ev_eqD, -ev_neD, ltD, cT, hl]
    | set hx he hd =>
      have a := isx hn he hd (N := m) (by omega) cs
      have b := isn hn hx (N := m + 1) (by omega) cs
      have c : ∀ x, sem (m + 1) .is_act [.d (.str "set"), .d x] cs = sem m .is_expression [.d x] cs := fun x => by
        rw [e_is_act]
        simp [s_is_act, -ev_eqD]
        cases sem m .is_expression [.d x] cs <;> rfl
      simp [s_is_statement_within, isiB, -ev_eqD, -ev_neD, ltD, cT, hl, a, b, c]
    | draw hx h1 h6 hp =>
      have a := is_pairs_ok hn h1 h6 hp (N := m) (by omega) cs
      have b := isn hn hx (N := m + 1) (by omega) cs
      have c : ∀ x, sem (m + 1) .is_act [.d (.str "draw"), .d x] cs = sem m .is_pairs [.d x] cs := fun x => by
        rw [e_is_act]
        simp [s_is_act, -ev_eqD]
        cases sem m .is_pairs [.d x] cs <;> rfl
      simp [s_is_statement_within, isiB, -ev_eqD, -ev_neD, ltD, cT, hl, a, b, c]
    | choose hx h1 h6 hp =>
      have a := is_choice_ok hn h1 h6 hp (N := m) (by omega) cs
      have b := isn hn hx (N := m + 1) (by omega) cs
      simp [s_is_statement_within, isiB, -ev_eqD, -ev_neD, ltD, cT, hl, b, e_is_act, s_is_act, a]
    | see hc hd =>
      have a := isc hn hc hd (N := m + 1) (by omega) cs
      simp [s_is_statement_within, isiB, -ev_eqD, -ev_neD, ltD, cT, hl, a]
end
end LW
end
section
set_option Elab.async false
set_option linter.all false
set_option maxRecDepth 100000
set_option autoImplicit false
namespace LW
open PySem PySem.Spec PyProof.Rows L2 DL
def bodyA (G : Fn → FS) : SS := sIf (tOrD (tNotD (tTru (eFz (oDef (G .is_statement_within) [] (aCons (eVar 2) (aCons (eVar 1) (aNil))))))) (tBool (eOp eqD (eIx (eVar 2) (eC (.int 0))) (eC (.str "seq"))))) (sRet (oFr (eC (.bool false)))) (sNil)
/-- a statement that is no seq -/
structure NoSeq (s : PyData) : Prop where
  ex : ∃ (w : PySem.Str) (rest : List PyData), s = .tuple (.str w :: rest) ∧ eqD (.str w) (.str "seq") = some (.bool false) ∧ neD (.str w) (.str "seq") = some (.bool true)
theorem StOk.noseq {ns : List PySem.Str} {b : Bool} {s : PyData} {l : List PyData} {d : Nat} {r : List PyData} (h : StOk ns b s l d r) : b = false → NoSeq s := by
  cases h with
  | leaf h => intro _; cases h <;> exact ⟨_, _, rfl, by simp, by simp⟩
  | whl => intro _; exact ⟨_, _, rfl, by simp, by simp⟩
  | ite => intro _; exact ⟨_, _, rfl, by simp, by simp⟩
  | nil => intro z; cases z
  | cons => intro z; cases z
section
variable {ns : List PySem.Str} (hn : ∀ x ∈ ns, NameOk x)
include hn
def WithinOk (b : Bool) (s : PyData) (l : List PyData) (d : Nat) : Prop :=
  (b = false → ∀ (left : Int) (N : Nat) (cs : Cs), 0 ≤ left → 3 * d + 20 ≤ N → sem N .is_statement_within [.d s, .d (.int left)] cs = yes (decide ((d : Int) ≤ left)) cs) ∧
  (b = true → ∀ (left : Int) (N : Nat) (cs : Cs) (t x : Option DL.Slot), 0 ≤ left → 3 * d + 20 ≤ N → ∃ x', forL (gNm 2) (bodyA (sem N)) (l.map Val.d) [t, some (.fr (.d (.int left))), x] cs = if (d : Int) ≤ left then .nx [t, some (.fr (.d (.int left))), x'] cs else .rt (.fr (.d (.bool false))) cs)
omit hn in
theorem within_full {b : Bool} {s : PyData} {l : List PyData} {d : Nat} (W : WithinOk b s l d) (eq : b = true → s = .tuple [.str "seq", .tuple l]) (ok : b = true → 2 ≤ l.length) (hl : l.length ≤ 1000) (left : Int) (N : Nat) (cs : Cs) (h0 : 0 ≤ left) (hN : 3 * d + 22 ≤ N) :
    sem N .is_statement_within [.d s, .d (.int left)] cs = yes (decide ((d : Int) ≤ left)) cs := by
  cases b with
  | false => exact W.1 rfl left N cs h0 (by omega)
  | true =>
    cases eq rfl
    have h2 := ok rfl
    obtain ⟨n, rfl, hn1⟩ := succ_of (show 3 * d + 21 + 1 ≤ N by omega)
    obtain ⟨m, rfl, hm⟩ := succ_of hn1
    obtain ⟨x', e⟩ := W.2 rfl left m cs (some (.fr (.d (.tuple l)))) none h0 hm
    have a : sem (m + 1) .are_statements [.d (.tuple l), .d (.int left)] cs = yes (decide ((d : Int) ≤ left)) cs := by
      rw [e_are_statements]
      have hl2 : ¬ ((l.length : Int) < 2) := by omega
      have e2 : forL (gNm 2) (bodyA (sem m)) (l.map Val.d) [some (.fr (.d (.tuple l))), some (.fr (.d (.int left))), none] cs = _ := e
      unfold bodyA at e2
      simp [s_are_statements, isiB, ltD, cT, hl2, -ev_eqD, -ev_neD]
      rw [e2]
      by_cases h : (d : Int) ≤ left <;> simp [h]
    rw [e_is_statement_within]
    simp [s_is_statement_within, isiB, -ev_eqD, -ev_neD, a]
theorem stmt_within {b : Bool} {s : PyData} {l : List PyData} {d : Nat} {r : List PyData} (h : StOk ns b s l d r) (hr : r.length ≤ 1000) : WithinOk b s l d ∧ l.length ≤ r.length := by
  induction h with
  | leaf h => exact ⟨⟨fun _ left N cs h0 hN => leaf_within hn h left (by omega) cs, fun z => by cases z⟩, by simp⟩
  | @whl b c s l d r hc hd h ok ih =>
    have hr2 : r.length ≤ 1000 := by
      simp only [List.length_cons, full] at hr
      split at hr <;> simp at hr <;> omega
    obtain ⟨W, hl⟩ := ih hr2
    refine ⟨⟨fun _ left N cs h0 hN => ?_, fun z => by cases z⟩, by simp⟩
    obtain ⟨n, rfl, hn1⟩ := succ_of (show 3 * d + 22 + 1 ≤ N by omega)
    rw [e_is_statement_within]
    by_cases hl1 : left < 1
    · have hl2 : decide (((d + 1 : Nat) : Int) ≤ left) = false := by simp; omega
      rw [hl2]
      simp [s_is_statement_within, isiB, -ev_eqD, -ev_neD, ltD, cT, hl1]
    · have a := isc hn hc hd (N := n) (by omega) cs
      have w := within_full W h.seq_eq ok (by omega) (left - 1) n cs (by omega) hn1
      have hl2 : decide (((d + 1 : Nat) : Int) ≤ left) = decide ((d : Int) ≤ left - 1) := by
        congr 1
        exact propext ⟨fun z => by omega, fun z => by omega⟩
      rw [hl2]
      simp [s_is_statement_within, isiB, -ev_eqD, -ev_neD, ltD, subD, cT, hl1, a, w]
  | @ite b b' c s t l l' d e r r' hc hd h ok h' ok' ih ih' =>
    have hr2 : r.length ≤ 1000 ∧ r'.length ≤ 1000 := by
      simp only [List.length_cons, List.length_append, full] at hr
      constructor <;> (split at hr <;> split at hr <;> simp at hr <;> omega)
    obtain ⟨W, hl⟩ := ih hr2.1
    obtain ⟨W', hl'⟩ := ih' hr2.2
    refine ⟨⟨fun _ left N cs h0 hN => ?_, fun z => by cases z⟩, by simp⟩
    obtain ⟨n, rfl, hn1⟩ := succ_of (show 3 * max d e + 22 + 1 ≤ N by omega)
    rw [e_is_statement_within]
    by_cases hl1 : left < 1
    · have hl2 : decide (((max d e + 1 : Nat) : Int) ≤ left) = false := by simp; omega
      rw [hl2]
      simp [s_is_statement_within, isiB, -ev_eqD, -ev_neD, ltD, cT, hl1]
    · have a := isc hn hc hd (N := n) (by omega) cs
      have w := within_full W h.seq_eq ok (by omega) (left - 1) n cs (by omega) (by omega)
      have w' := within_full W' h'.seq_eq ok' (by omega) (left - 1) n cs (by omega) (by omega)
      have hl2 : decide (((max d e + 1 : Nat) : Int) ≤ left) = (decide ((d : Int) ≤ left - 1) && decide ((e : Int) ≤ left - 1)) := by
        rw [← Bool.decide_and]
        congr 1
        exact propext ⟨fun z => by omega, fun z => by omega⟩
      rw [hl2]
      by_cases q : (d : Int) ≤ left - 1 <;> simp [s_is_statement_within, isiB, -ev_eqD, -ev_neD, ltD, subD, cT, hl1, a, w, w', q]
  | nil =>
    refine ⟨⟨fun z => by (cases z), fun _ left N cs t x h0 hN => ⟨x, ?_⟩⟩, by simp⟩
    rw [if_pos (by simpa using h0)]
    rfl
  | @cons s l l' d e r r' h t ih ih' =>
    have hr2 : r.length ≤ 1000 ∧ r'.length ≤ 1000 := by
      simp only [List.length_append] at hr
      omega
    obtain ⟨W, hl⟩ := ih hr2.1
    obtain ⟨W', hl'⟩ := ih' hr2.2
    have hr1 : 1 ≤ r.length := by cases h <;> simp
    refine ⟨⟨fun z => by (cases z), fun _ left N cs t x h0 hN => ?_⟩, by simp; omega⟩
    have w := W.1 rfl left N cs h0 (by omega)
    obtain ⟨wd, rest, rfl, q1, q2⟩ := (h.noseq rfl).ex
    obtain ⟨x', ef⟩ := W'.2 rfl left N cs t (some (.fr (.d (.tuple (.str wd :: rest))))) h0 (by omega)
    refine ⟨x', ?_⟩
    simp only [List.map_cons]
    unfold forL
    have hb : bodyA (sem N) [t, some (.fr (.d (.int left))), some (.fr (.d (.tuple (.str wd :: rest))))] cs = if (d : Int) ≤ left then .nx [t, some (.fr (.d (.int left))), some (.fr (.d (.tuple (.str wd :: rest))))] cs else .rt (.fr (.d (.bool false))) cs := by
      by_cases q : (d : Int) ≤ left <;> simp [bodyA, w, q, q1, -ev_eqD, -ev_neD]
    simp only [ev_gNm, List.set_cons_succ, List.set_cons_zero]
    rw [hb]
    by_cases q : (d : Int) ≤ left
    · rw [if_pos q]
      dsimp only
      rw [ef]
      by_cases q' : (e : Int) ≤ left
      · rw [if_pos q', if_pos (by omega)]
      · rw [if_neg q', if_neg (by omega)]
    · rw [if_neg q, if_neg (by omega)]
end
end LW
end
section
set_option Elab.async false
set_option linter.all false
set_option maxRecDepth 100000
set_option autoImplicit false
namespace LW
open PySem PySem.Spec PyProof.Rows L2 DL
theorem lcL_id {k : Nat} {sl : Sl} {cs : Cs} (h : k < sl.length) (zs : List PyData) : lcL (gNm k) tTrue (eVar k) sl (zs.map Val.d) cs = .ok zs cs := by
  have e := lcL_all (g := gNm k) (tt := tTrue) (te := eVar k) (slB := sl) (cs := cs) (f := fun v => match v with | .d y => y | _ => .none) (xs := zs.map Val.d) fun x hx => by
    obtain ⟨y, _, rfl⟩ := List.mem_map.mp hx
    exact ⟨_, rfl, rfl, ev_var (List.getElem?_set_self h)⟩
  rw [e, List.map_map]
  congr 1
  exact List.map_id _
theorem lc2_map {α : Type} {g : Val → Sl → Option Sl} {it1 : SA} {k : Nat} {slB : Sl} {vs1 : List Nat} {cs : Cs} {h : α → PyData} {F : α → List PyData} : ∀ {l : List α}, (∀ a ∈ l, ∃ s, g (.d (h a)) slB = some s ∧ it1 s cs = .ok ((F a).map Val.d) cs ∧ k < (wipeS s vs1).length) →
    lcL2 g tTrue it1 (gNm k) tTrue (eVar k) slB vs1 (l.map fun a => Val.d (h a)) cs = .ok (l.flatMap F) cs
  | [], _ => rfl
  | a :: l, q => by
    obtain ⟨s, h1, h3, h4⟩ := q a (by simp)
    have ih := lc2_map (l := l) fun y hy => q y (by simp [hy])
    rw [List.map_cons]
    unfold lcL2
    rw [h1]
    simp [h3, ih, noEx, lcL_id h4]
theorem olc2_map {α : Type} {it : SA} {g : Val → Sl → Option Sl} {it1 : SA} {k : Nat} {sl : Sl} {vs vs1 : List Nat} {cs : Cs} {h : α → PyData} {F : α → List PyData} {l : List α} (hi : it sl cs = .ok (l.map fun a => Val.d (h a)) cs)
    (q : ∀ a ∈ l, ∃ s, g (.d (h a)) (blkSl sl vs) = some s ∧ it1 s cs = .ok ((F a).map Val.d) cs ∧ k < (wipeS s vs1).length) (hl : (l.flatMap F).length ≤ 16777216) : oLc2 it g tTrue it1 (gNm k) tTrue (eVar k) vs vs1 sl cs = .ok (.ow (.list (l.flatMap F))) cs := by
  unfold oLc2
  rw [hi, R.bind_ok, lc2_map q]
  exact if_pos hl
/-! ### the rows of a statement -/
def nsq : PyData → Bool
  | .tuple (.str w :: _) => !(w == "seq")
  | _ => false
def cnt (r : List PyData) : Nat := (r.filter nsq).length
theorem cnt_app (a b : List PyData) : cnt (a ++ b) = cnt a + cnt b := by simp [cnt]
/-- what stands in a row, and its names -/
inductive Row (ns : List PySem.Str) : PyData → Prop
  | leaf {s : PyData} (h : Leaf ns s) : Row ns s
  | whl {c : Cn5} {l : List PyData} (hc : c.ok ns) (hd : c.dep ≤ 10) : Row ns (.tuple (.str "while" :: c.toD :: l))
  | ite {c : Cn5} {l : List PyData} (hc : c.ok ns) (hd : c.dep ≤ 10) : Row ns (.tuple (.str "if" :: c.toD :: l))
  | seq {l : List PyData} : Row ns (.tuple (.str "seq" :: l))
theorem full_mem {b : Bool} {s x : PyData} {r : List PyData} (h : x ∈ full b s r) : (b = true ∧ x = s) ∨ x ∈ r := by
  unfold full at h
  cases b with
  | true => simp at h; rcases h with h | h
            · exact .inl ⟨rfl, h⟩
            · exact .inr h
  | false => exact .inr (by simpa using h)
theorem StOk.rows {ns : List PySem.Str} {b : Bool} {s : PyData} {l : List PyData} {d : Nat} {r : List PyData} (h : StOk ns b s l d r) : ∀ x ∈ r, Row ns x := by
  have sq : ∀ {b : Bool} {s : PyData} {l : List PyData} {d : Nat} {r : List PyData}, StOk ns b s l d r → b = true → Row ns s := fun h z => by
    rw [h.seq_eq z]
    exact .seq
  induction h with
  | leaf h => intro x hx; simp at hx; subst hx; exact .leaf h
  | whl hc hd h ok ih =>
    intro x hx
    rcases List.mem_cons.mp hx with rfl | hx
    · exact .whl hc hd
    · rcases full_mem hx with ⟨z, rfl⟩ | hx
      · exact sq h z
      · exact ih x hx
  | ite hc hd h ok h' ok' ih ih' =>
    intro x hx
    rcases List.mem_cons.mp hx with rfl | hx
    · exact .ite hc hd
    · rcases List.mem_append.mp hx with hx | hx
      · rcases full_mem hx with ⟨z, rfl⟩ | hx
        · exact sq h z
        · exact ih x hx
      · rcases full_mem hx with ⟨z, rfl⟩ | hx
        · exact sq h' z
        · exact ih' x hx
  | nil => intro x hx; simp at hx
  | cons h t ih ih' =>
    intro x hx
    rcases List.mem_append.mp hx with hx | hx
    · exact ih x hx
    · exact ih' x hx
theorem Row.head {ns : List PySem.Str} {x : PyData} (h : Row ns x) : ∃ (w : PySem.Str) (rest : List PyData), x = .tuple (.str w :: rest) ∧ neD (.str w) (.str "seq") = some (.bool (nsq x)) := by
  have q : ∀ {w : PySem.Str} {rest : List PyData} {b : Bool}, neD (.str w) (.str "seq") = some (.bool b) → (!(w == ("seq" : PySem.Str))) = b → neD (.str w) (.str "seq") = some (.bool (nsq (.tuple (.str w :: rest)))) := fun h e => by
    rw [h, ← e]
    rfl
  cases h with
  | leaf h => cases h <;> exact ⟨_, _, rfl, q (b := true) (by simp) (by decide +kernel)⟩
  | whl => exact ⟨_, _, rfl, q (b := true) (by simp) (by decide +kernel)⟩
  | ite => exact ⟨_, _, rfl, q (b := true) (by simp) (by decide +kernel)⟩
  | seq => exact ⟨_, _, rfl, q (b := false) (by simp) (by decide +kernel)⟩
theorem add_lists {a b : List PyData} (h : a.length + b.length ≤ 16777216) : addD (.list a) (.list b) = some (.list (a ++ b)) := by
  unfold addD gI gAddS gAddT gAddL
  simp [h]
def bodyR' (G : Fn → FS) : SS := sSet 1 (oFr (eOp addD (eVar 1) (eFz (oDef (G .statements_in) [] (aCons (eVar 2) (aNil))))))
def RowsOk (b : Bool) (s : PyData) (l : List PyData) (d : Nat) (r : List PyData) : Prop :=
  (b = false → ∀ (N : Nat) (cs : Cs), 3 * d + 20 ≤ N → ∃ o, sem N .statements_in [.d s] cs = .ok o cs ∧ fz o = .d (.list r)) ∧
  (b = true → ∀ (N : Nat) (cs : Cs) (t x : Option DL.Slot) (o : DL.Slot) (acc : List PyData), fz o = .d (.list acc) → acc.length + r.length ≤ 2000 → 3 * d + 20 ≤ N → ∃ x' o', forL (gNm 2) (bodyR' (sem N)) (l.map Val.d) [t, some o, x] cs = .nx [t, some o', x'] cs ∧ fz o' = .d (.list (acc ++ r)))
theorem own_read {o : DL.Slot} {acc : List PyData} (h : fz o = .d (.list acc)) : o = .ow (.list acc) ∨ o = .fr (.d (.list acc)) := by
  cases o with
  | fr v => right; exact congrArg DL.Slot.fr h
  | ow x => left; simp [fz] at h; rw [h]
/-- one turn of the rows' loop -/
theorem rows_turn {N : Nat} {cs : Cs} {t x : Option DL.Slot} {o o1 : DL.Slot} {acc r : List PyData} {y : PyData} (h : fz o = .d (.list acc)) (e : sem N .statements_in [.d y] cs = .ok o1 cs) (h1 : fz o1 = .d (.list r)) (hl : acc.length + r.length ≤ 2000) :
    bodyR' (sem N) [t, some o, some (.fr (.d y))] cs = .nx [t, some (.fr (.d (.list (acc ++ r)))), some (.fr (.d y))] cs := by
  have a := add_lists (a := acc) (b := r) (by omega)
  rcases own_read h with rfl | rfl <;> simp [bodyR', e, h1, a]
theorem rows_body {N : Nat} {cs : Cs} {s : PyData} {ls : List PyData} {o o' : DL.Slot} {x' : Option DL.Slot} (h1 : sem N .inner_of [.d s] cs = .ok o cs) (h2 : fz o = .d (.list ls))
    (h3 : forL (gNm 2) (bodyR' (sem N)) (ls.map Val.d) [some (.fr (.d s)), some (.ow (.list [s])), none] cs = .nx [some (.fr (.d s)), some o', x'] cs) : sem (N + 1) .statements_in [.d s] cs = .ok o' cs := by
  unfold bodyR' at h3
  rw [e_statements_in]
  rcases own_read h2 with rfl | rfl <;> simp [s_statements_in, h1, h3]
theorem rows_full {b : Bool} {s : PyData} {l : List PyData} {d : Nat} {r : List PyData} (W : RowsOk b s l d r) (eq : b = true → s = .tuple [.str "seq", .tuple l]) (hl : r.length ≤ 1000) (N : Nat) (cs : Cs) (hN : 3 * d + 22 ≤ N) :
    ∃ o, sem N .statements_in [.d s] cs = .ok o cs ∧ fz o = .d (.list (full b s r)) := by
  cases b with
  | false => exact W.1 rfl N cs (by omega)
  | true =>
    cases eq rfl
    obtain ⟨n, rfl, hn1⟩ := succ_of (show 3 * d + 21 + 1 ≤ N by omega)
    obtain ⟨m, rfl, hm⟩ := succ_of hn1
    obtain ⟨x', o', ef, fo⟩ := W.2 rfl (m + 1) cs (some (.fr (.d (.tuple [.str "seq", .tuple l])))) none (.ow (.list [.tuple [.str "seq", .tuple l]])) [.tuple [.str "seq", .tuple l]] rfl (by simp; omega) (by omega)
    have a : sem (m + 1) .inner_of [.d (.tuple [.str "seq", .tuple l])] cs = .ok (.ow (.list l)) cs := by
      rw [e_inner_of]
      simp [s_inner_of, -ev_eqD, listO, listItems]
    exact ⟨o', rows_body a rfl ef, fo⟩
theorem inner_leaf {ns : List PySem.Str} {s : PyData} (h : Leaf ns s) (N : Nat) (cs : Cs) : sem (N + 1) .inner_of [.d s] cs = .ok (.fr (.d (.list []))) cs := by
  rw [e_inner_of]
  cases h <;> simp [s_inner_of, -ev_eqD]
theorem inner_whl {c s : PyData} (N : Nat) (cs : Cs) : sem (N + 1) .inner_of [.d (.tuple [.str "while", c, s])] cs = .ok (.fr (.d (.list [s]))) cs := by
  rw [e_inner_of]
  simp [s_inner_of, -ev_eqD, sliceV, listB, listItems]
  rfl
theorem inner_ite {c s t : PyData} (N : Nat) (cs : Cs) : sem (N + 1) .inner_of [.d (.tuple [.str "if", c, s, t])] cs = .ok (.fr (.d (.list [s, t]))) cs := by
  rw [e_inner_of]
  simp [s_inner_of, -ev_eqD, sliceV, listB, listItems]
  rfl
theorem rows_ok {ns : List PySem.Str} {b : Bool} {s : PyData} {l : List PyData} {d : Nat} {r : List PyData} (h : StOk ns b s l d r) (hr : r.length ≤ 1000) : RowsOk b s l d r := by
  induction h with
  | @leaf s h =>
    refine ⟨fun _ N cs hN => ?_, fun z => by cases z⟩
    obtain ⟨n, rfl, hn1⟩ := succ_of (show 1 + 1 ≤ N by omega)
    obtain ⟨m, rfl, hm⟩ := succ_of (show 0 + 1 ≤ n by omega)
    refine ⟨.ow (.list [s]), ?_, rfl⟩
    exact rows_body (x' := none) (inner_leaf h m cs) rfl rfl
  | @whl b c s l d r hc hd h ok ih =>
    have hr3 : (full b s r).length ≤ 999 := by
      simp only [List.length_cons] at hr
      omega
    have hr2 : r.length ≤ 999 := by
      unfold full at hr3
      cases b <;> simp at hr3 <;> omega
    refine ⟨fun _ N cs hN => ?_, fun z => by cases z⟩
    obtain ⟨n, rfl, hn1⟩ := succ_of (show 3 * d + 22 + 1 ≤ N by omega)
    obtain ⟨m, rfl, hm⟩ := succ_of (show 0 + 1 ≤ n by omega)
    obtain ⟨o, e, fo⟩ := rows_full (ih (by omega)) h.seq_eq (by omega) (m + 1) cs (by omega)
    have tn := rows_turn (t := some (.fr (.d (.tuple [.str "while", c.toD, s])))) (x := none) (o := .ow (.list [.tuple [.str "while", c.toD, s]])) (acc := [.tuple [.str "while", c.toD, s]]) rfl e fo (by simp; omega)
    refine ⟨.fr (.d (.list ([.tuple [.str "while", c.toD, s]] ++ full b s r))), rows_body (inner_whl m cs) rfl (x' := some (.fr (.d s))) ?_, rfl⟩
    simp only [List.map_cons, List.map_nil]
    unfold forL
    simp only [ev_gNm, List.set_cons_succ, List.set_cons_zero]
    rw [tn]
    rfl
  | @ite b b' c s t l l' d e r r' hc hd h ok h' ok' ih ih' =>
    have hr3 : (full b s r).length + (full b' t r').length ≤ 999 := by
      simp only [List.length_cons, List.length_append] at hr
      omega
    have hr2 : r.length ≤ 999 ∧ r'.length ≤ 999 := by
      unfold full at hr3
      cases b <;> cases b' <;> simp at hr3 <;> omega
    obtain ⟨hr2, hr2'⟩ := hr2
    refine ⟨fun _ N cs hN => ?_, fun z => by cases z⟩
    obtain ⟨n, rfl, hn1⟩ := succ_of (show 3 * max d e + 22 + 1 ≤ N by omega)
    obtain ⟨m, rfl, hm⟩ := succ_of (show 0 + 1 ≤ n by omega)
    obtain ⟨o, ee, fo⟩ := rows_full (ih (by omega)) h.seq_eq (by omega) (m + 1) cs (by omega)
    obtain ⟨o', ee', fo'⟩ := rows_full (ih' (by omega)) h'.seq_eq (by omega) (m + 1) cs (by omega)
    have tn := rows_turn (t := some (.fr (.d (.tuple [.str "if", c.toD, s, t])))) (x := none) (o := .ow (.list [.tuple [.str "if", c.toD, s, t]])) (acc := [.tuple [.str "if", c.toD, s, t]]) rfl ee fo (by simp; omega)
    have tn' := rows_turn (t := some (.fr (.d (.tuple [.str "if", c.toD, s, t])))) (x := none) (o := .fr (.d (.list ([.tuple [.str "if", c.toD, s, t]] ++ full b s r)))) (acc := [.tuple [.str "if", c.toD, s, t]] ++ full b s r) rfl ee' fo' (by simp; omega)
    refine ⟨.fr (.d (.list ([.tuple [.str "if", c.toD, s, t]] ++ full b s r ++ full b' t r'))), rows_body (inner_ite m cs) rfl (x' := some (.fr (.d t))) ?_, ?_⟩
    · simp only [List.map_cons, List.map_nil]
      unfold forL
      simp only [ev_gNm, List.set_cons_succ, List.set_cons_zero]
      rw [tn]
      dsimp only
      unfold forL
      simp only [ev_gNm, List.set_cons_succ, List.set_cons_zero]
      rw [tn']
      rfl
    · simp [fz]
  | nil =>
    refine ⟨fun z => by (cases z), fun _ N cs t x o acc fo hl hN => ⟨x, o, rfl, by simpa using fo⟩⟩
  | @cons s l l' d e r r' h t ih ih' =>
    have hr2 : r.length ≤ 1000 ∧ r'.length ≤ 1000 := by
      simp only [List.length_append] at hr
      omega
    refine ⟨fun z => by (cases z), fun _ N cs t x o acc fo hl hN => ?_⟩
    simp only [List.length_append] at hl
    obtain ⟨o1, e1, fo1⟩ := (ih hr2.1).1 rfl N cs (by omega)
    have tn := rows_turn (t := t) (x := none) fo e1 fo1 (by omega)
    obtain ⟨x', o', ef, fo'⟩ := (ih' hr2.2).2 rfl N cs t (some (.fr (.d s))) (.fr (.d (.list (acc ++ r)))) (acc ++ r) rfl (by simp; omega) (by omega)
    refine ⟨x', o', ?_, by rw [fo', List.append_assoc]⟩
    simp only [List.map_cons]
    unfold forL
    simp only [ev_gNm, List.set_cons_succ, List.set_cons_zero]
    rw [tn]
    exact ef
end LW
end
section
set_option Elab.async false
set_option linter.all false
set_option maxRecDepth 100000
set_option autoImplicit false
namespace LW
open PySem PySem.Spec PyProof.Rows L2 DL
def unD : Val → PyData
  | .d x => x
  | _ => .none
theorem cnt_full {ns : List PySem.Str} {b : Bool} {s : PyData} {l : List PyData} {d : Nat} {r : List PyData} (h : StOk ns b s l d r) : cnt (full b s r) = cnt r := by
  cases b with
  | false => rfl
  | true =>
    rw [h.seq_eq rfl]
    have : nsq (.tuple [.str "seq", .tuple l]) = false := by
      show (!(("seq" : PySem.Str) == "seq")) = false
      decide +kernel
    simp [full, cnt, this]
theorem full_rows {ns : List PySem.Str} {b : Bool} {s : PyData} {l : List PyData} {d : Nat} {r : List PyData} (h : StOk ns b s l d r) : ∀ x ∈ full b s r, Row ns x := fun x hx => by
  rcases full_mem hx with ⟨z, rfl⟩ | hx
  · rw [h.seq_eq z]; exact .seq
  · exact h.rows x hx
theorem size_ok {ns : List PySem.Str} {b : Bool} {s : PyData} {l : List PyData} {d : Nat} {r : List PyData} (h : StOk ns b s l d r) (hr : r.length ≤ 900) (N : Nat) (cs : Cs) (hN : 3 * d + 23 ≤ N) : sem N .statement_size [.d s] cs = .ok (.fr (.d (.int (cnt r : Nat)))) cs := by
  obtain ⟨n, rfl, hn1⟩ := succ_of (show 3 * d + 22 + 1 ≤ N by omega)
  obtain ⟨o, e, fo⟩ := rows_full (rows_ok h (by omega)) h.seq_eq (by omega) n cs hn1
  have f : ∀ (t : Option DL.Slot), lcL (gNm 1) (tBool (eOp neD (eIx (eVar 1) (eC (.int 0))) (eC (.str "seq")))) (eVar 1) (blkSl [t, none] [1]) ((full b s r).map Val.d) cs = .ok ((((full b s r).map Val.d).filter fun v => nsq (unD v)).map unD) cs := fun t => by
    refine lcL_filter fun x hx => ?_
    obtain ⟨y, hy, rfl⟩ := List.mem_map.mp hx
    obtain ⟨w, rest, rfl, hw⟩ := (full_rows h y hy).head
    refine ⟨_, rfl, ?_, rfl⟩
    simp [blkSl, wipeS, unOwn, hw, -ev_neD, -ev_eqD]
    rfl
  have hlen : (((full b s r).map Val.d).filter fun v => nsq (unD v)).length = cnt r := by
    rw [← cnt_full h, cnt, List.filter_map, List.length_map]
    rfl
  have hl : (full b s r).length ≤ 16777216 := by
    unfold full
    cases b <;> simp <;> omega
  rw [e_statement_size]
  simp [s_statement_size, e, fo, oLc, hl, f, hlen]
section
variable {ns : List PySem.Str}
theorem enames {e : Ex5} (hd : e.dep ≤ 10) {N : Nat} (hN : 10 ≤ N) (cs : Cs) : ∃ o, sem N .expression_names [.d e.toD] cs = .ok o cs ∧ fz o = .d (.list (e.vars.map .str)) := by
  have h := expr_names_ok e (by omega) (N - e.dep) cs
  rwa [show N - e.dep + e.dep = N by omega] at h
theorem cnames {c : Cn5} (hd : c.dep ≤ 10) {N : Nat} (hN : 10 ≤ N) (cs : Cs) : ∃ o, sem N .condition_names [.d c.toD] cs = .ok o cs ∧ fz o = .d (.list (c.vars.map .str)) := by
  have h := cond_names_ok c (by omega) (N - c.dep) cs
  rwa [show N - c.dep + c.dep = N by omega] at h
theorem evars_len {e : Ex5} (hd : e.dep ≤ 10) : e.vars.length ≤ 1024 := Nat.le_trans e.vars_len (Nat.le_trans (Nat.pow_le_pow_right (by decide) hd) (by decide))
theorem cvars_len {e : Cn5} (hd : e.dep ≤ 10) : e.vars.length ≤ 1024 := Nat.le_trans e.vars_len (Nat.le_trans (Nat.pow_le_pow_right (by decide) hd) (by decide))
/-- the names of a row -/
def rowNames : PyData → List PySem.Str → Prop := fun s L => ∀ (N : Nat) (cs : Cs), 25 ≤ N → ∃ o, sem N .own_names [.d s] cs = .ok o cs ∧ fz o = .d (.list (L.map .str))
theorem flat_len {α β : Type} {f : α → List β} {k : Nat} : ∀ {l : List α}, (∀ x ∈ l, (f x).length ≤ k) → (l.flatMap f).length ≤ l.length * k
  | [], _ => by simp
  | x :: l, h => by
    have := flat_len (l := l) fun y hy => h y (by simp [hy])
    have := h x (by simp)
    rw [List.flatMap_cons, List.length_append, List.length_cons, Nat.succ_mul]
    omega
theorem row_names {s : PyData} (h : Row ns s) : ∃ L, rowNames s L ∧ (∀ x ∈ L, x ∈ ns) ∧ L.length ≤ 10000 := by
  cases h with
  | leaf h =>
    cases h with
    | skip =>
      refine ⟨[], fun N cs hN => ?_, by simp, by simp⟩
      obtain ⟨n, rfl, _⟩ := succ_of (show 24 + 1 ≤ N by omega)
      refine ⟨.ow (.list []), ?_, rfl⟩
      rw [e_own_names]
      simp [s_own_names, -ev_eqD]
    | @set x e hx he hd =>
      refine ⟨x :: e.vars, fun N cs hN => ?_, fun y hy => ?_, by have := evars_len hd; simp; omega⟩
      · obtain ⟨n, rfl, _⟩ := succ_of (show 24 + 1 ≤ N by omega)
        obtain ⟨o, ee, fo⟩ := enames hd (N := n) (by omega) cs
        have a := add_lists (a := [.str x]) (b := e.vars.map .str) (by have := evars_len hd; simp; omega)
        refine ⟨.fr (.d (.list ([.str x] ++ e.vars.map .str))), ?_, rfl⟩
        rw [e_own_names]
        simp [s_own_names, -ev_eqD, ee, fo, a]
      · rcases List.mem_cons.mp hy with rfl | hy
        · exact hx
        · exact Ex5.vars_ok e he y hy
    | @draw x ps hx h1 h6 hp =>
      have hl : ((ps.flatMap fun p => p.1.vars)).length ≤ 6 * 1024 := Nat.le_trans (flat_len (k := 1024) fun p hp' => evars_len (hp p hp').2.1) (Nat.mul_le_mul_right _ h6)
      refine ⟨x :: ps.flatMap fun p => p.1.vars, fun N cs hN => ?_, fun y hy => ?_, by simp only [List.length_cons]; omega⟩
      · obtain ⟨n, rfl, _⟩ := succ_of (show 24 + 1 ≤ N by omega)
        obtain ⟨m, rfl, _⟩ := succ_of (show 23 + 1 ≤ n by omega)
        have pn : sem (m + 1) .pairs_names [.d (.tuple (ps.map fun p => .tuple [p.1.toD, .int p.2]))] cs = .ok (.ow (.list (ps.flatMap fun p => p.1.vars.map .str))) cs := by
          rw [e_pairs_names]
          have o := olc2_map (it := pSeq (eVar 0)) (g := gNm 1) (it1 := pSeq (eFz (oDef (sem m .expression_names) [] (aCons (eIx (eVar 1) (eC (.int 0))) aNil)))) (k := 2) (sl := [some (.fr (.d (.tuple (ps.map fun p => .tuple [p.1.toD, .int p.2])))), none, none]) (vs := [1, 2]) (vs1 := [2]) (cs := cs)
            (h := fun p : Ex5 × Int => .tuple [p.1.toD, .int p.2]) (F := fun p => p.1.vars.map .str) (l := ps) (by simp [Function.comp_def]) (fun p hp' => by
              obtain ⟨o, ee, fo⟩ := enames (hp p hp').2.1 (N := m) (by omega) cs
              refine ⟨_, rfl, ?_, by simp [wipeS, blkSl]⟩
              simp [blkSl, wipeS, unOwn, ee, fo]) (by rw [← List.map_flatMap, List.length_map]; omega)
          show bodyR (sRet _ _ _) = _
          rw [ev_ret, o]
          rfl
        rw [← List.map_flatMap] at pn
        have a := add_lists (a := [.str x]) (b := (ps.flatMap fun p => p.1.vars).map .str) (by simp only [List.length_map, List.length_cons, List.length_nil]; omega)
        refine ⟨.fr (.d (.list ([.str x] ++ (ps.flatMap fun p => p.1.vars).map .str))), ?_, rfl⟩
        rw [e_own_names]
        generalize (ps.flatMap fun p => p.1.vars).map PyData.str = L at pn a
        simp [s_own_names, -ev_eqD, pn, a]
      · rcases List.mem_cons.mp hy with rfl | hy
        · exact hx
        · obtain ⟨p, hp', hy⟩ := List.mem_flatMap.mp hy
          exact Ex5.vars_ok p.1 (hp p hp').1 y hy
    | @choose x vs hx h1 h6 hp =>
      have hl : ((vs.flatMap Ex5.vars)).length ≤ 6 * 1024 := Nat.le_trans (flat_len (k := 1024) fun p hp' => evars_len (hp p hp').2) (Nat.mul_le_mul_right _ h6)
      refine ⟨x :: vs.flatMap Ex5.vars, fun N cs hN => ?_, fun y hy => ?_, by simp only [List.length_cons]; omega⟩
      · obtain ⟨m, rfl, _⟩ := succ_of (show 24 + 1 ≤ N by omega)
        have a := add_lists (a := [.str x]) (b := (vs.flatMap Ex5.vars).map .str) (by simp only [List.length_map, List.length_cons, List.length_nil]; omega)
        refine ⟨.fr (.d (.list ([.str x] ++ (vs.flatMap Ex5.vars).map .str))), ?_, rfl⟩
        have hl2 : ((vs.flatMap Ex5.vars).map PyData.str).length ≤ 16777216 := by rw [List.length_map]; omega
        rw [e_own_names]
        have lc : ∀ t u, oLc2 (pSeq (eIx (eVar 0) (eC (.int 2)))) (gNm 2) tTrue (pSeq (eFz (oDef (sem m .expression_names) [] (aCons (eVar 2) aNil)))) (gNm 3) tTrue (eVar 3) [2, 3] [3] [some (.fr (.d (.tuple [t, u, .tuple (vs.map Ex5.toD)]))), some (.fr (.d (.str "choose"))), none, none] cs = .ok (.ow (.list (vs.flatMap fun p => p.vars.map .str))) cs := fun t u =>
          olc2_map (h := Ex5.toD) (F := fun p => p.vars.map .str) (l := vs) (by simp [Function.comp_def]) (fun p hp' => by
              obtain ⟨o, ee, fo⟩ := enames (hp p hp').2 (N := m) (by omega) cs
              refine ⟨_, rfl, ?_, by simp [wipeS, blkSl]⟩
              simp [blkSl, wipeS, unOwn, ee, fo]) (by rw [← List.map_flatMap, List.length_map]; omega)
        simp only [← List.map_flatMap] at lc
        generalize (vs.flatMap Ex5.vars).map PyData.str = L at lc a
        simp [s_own_names, -ev_eqD, lc, a]
      · rcases List.mem_cons.mp hy with rfl | hy
        · exact hx
        · obtain ⟨p, hp', hy⟩ := List.mem_flatMap.mp hy
          exact Ex5.vars_ok p (hp p hp').1 y hy
    | @see c hc hd =>
      refine ⟨c.vars, fun N cs hN => ?_, Cn5.vars_ok c hc, by have := cvars_len hd; omega⟩
      obtain ⟨n, rfl, _⟩ := succ_of (show 24 + 1 ≤ N by omega)
      obtain ⟨o, ee, fo⟩ := cnames hd (N := n) (by omega) cs
      refine ⟨o, ?_, fo⟩
      rw [e_own_names]
      simp [s_own_names, -ev_eqD, ee]
  | @whl c l hc hd =>
    refine ⟨c.vars, fun N cs hN => ?_, Cn5.vars_ok c hc, by have := cvars_len hd; omega⟩
    obtain ⟨n, rfl, _⟩ := succ_of (show 24 + 1 ≤ N by omega)
    obtain ⟨o, ee, fo⟩ := cnames hd (N := n) (by omega) cs
    refine ⟨o, ?_, fo⟩
    rw [e_own_names]
    simp [s_own_names, -ev_eqD, ee]
  | @ite c l hc hd =>
    refine ⟨c.vars, fun N cs hN => ?_, Cn5.vars_ok c hc, by have := cvars_len hd; omega⟩
    obtain ⟨n, rfl, _⟩ := succ_of (show 24 + 1 ≤ N by omega)
    obtain ⟨o, ee, fo⟩ := cnames hd (N := n) (by omega) cs
    refine ⟨o, ?_, fo⟩
    rw [e_own_names]
    simp [s_own_names, -ev_eqD, ee]
  | seq =>
    refine ⟨[], fun N cs hN => ?_, by simp, by simp⟩
    obtain ⟨n, rfl, _⟩ := succ_of (show 24 + 1 ≤ N by omega)
    refine ⟨.ow (.list []), ?_, rfl⟩
    rw [e_own_names]
    simp [s_own_names, -ev_eqD]
end
end LW
end
section
set_option Elab.async false
set_option linter.all false
set_option maxRecDepth 100000
set_option autoImplicit false
namespace LW
open PySem PySem.Spec PyProof.Rows L2 DL
open Classical in
noncomputable def rn (ns : List PySem.Str) (x : PyData) : List PySem.Str := if h : Row ns x then Classical.choose (row_names h) else []
theorem rn_ok {ns : List PySem.Str} {x : PyData} (h : Row ns x) : rowNames x (rn ns x) ∧ (∀ y ∈ rn ns x, y ∈ ns) ∧ (rn ns x).length ≤ 10000 := by
  unfold rn
  rw [dif_pos h]
  exact Classical.choose_spec (row_names h)
theorem full_len {b : Bool} {s : PyData} {r : List PyData} : (full b s r).length ≤ r.length + 1 := by
  unfold full
  cases b <;> simp
theorem snames_ok {ns : List PySem.Str} {b : Bool} {s : PyData} {l : List PyData} {d : Nat} {r : List PyData} (h : StOk ns b s l d r) (hr : r.length ≤ 900) (N : Nat) (cs : Cs) (hN : 3 * d + 26 ≤ N) :
    sem N .statement_names [.d s] cs = .ok (.ow (.list (((full b s r).flatMap (rn ns)).map .str))) cs := by
  obtain ⟨n, rfl, hn1⟩ := succ_of (show 3 * d + 25 + 1 ≤ N by omega)
  obtain ⟨o, e, fo⟩ := rows_full (rows_ok h (by omega)) h.seq_eq (by omega) n cs (by omega)
  have fl := full_len (b := b) (s := s) (r := r)
  have ln : ((full b s r).flatMap (rn ns)).length ≤ 901 * 10000 := Nat.le_trans (flat_len (k := 10000) fun x hx => (rn_ok (full_rows h x hx)).2.2) (Nat.mul_le_mul_right _ (by omega))
  rw [e_statement_names]
  have q := olc2_map (it := pSeq (eFz (oDef (sem n .statements_in) [] (aCons (eVar 0) (aNil))))) (g := gNm 1) (it1 := pSeq (eFz (oDef (sem n .own_names) [] (aCons (eVar 1) (aNil))))) (k := 2) (sl := [some (.fr (.d s)), none, none]) (vs := [1, 2]) (vs1 := [2]) (cs := cs)
    (h := id) (F := fun x => (rn ns x).map .str) (l := full b s r) (by simp [e, fo]) (fun x hx => by
      obtain ⟨o, ee, fo⟩ := (rn_ok (full_rows h x hx)).1 n cs (by omega)
      refine ⟨_, rfl, ?_, by simp [wipeS, blkSl]⟩
      simp [blkSl, wipeS, unOwn, ee, fo]) (by rw [← List.map_flatMap, List.length_map]; omega)
  rw [← List.map_flatMap] at q
  show bodyR (sRet _ _ _) = _
  rw [ev_ret, q]
  rfl
theorem is_right_ok {p : List (PySem.Str × Int)} (P : PlanOk p) {b : Bool} {s : PyData} {l : List PyData} {d : Nat} {r : List PyData} (h : StOk (p.map (·.1)) b s l d r) (ok : b = true → 2 ≤ l.length) (hr : r.length ≤ 900) (N : Nat) (cs : Cs) (hN : 3 * d + 27 ≤ N) :
    sem N .is_right [.d (.tuple [planD p, s])] cs = yes (decide (d ≤ 12) && decide (cnt r ≤ 60)) cs := by
  obtain ⟨n, rfl, hn1⟩ := succ_of (show 3 * d + 26 + 1 ≤ N by omega)
  have hn : ∀ x ∈ p.map (·.1), NameOk x := fun x hx => by
    obtain ⟨q, hq, rfl⟩ := List.mem_map.mp hx
    exact P.nm q hq
  obtain ⟨W, hl⟩ := stmt_within hn h (by omega)
  have a1 := is_variables_ok (n - 3) p cs P
  rw [show n - 3 + 3 = n by omega] at a1
  have a2 := within_full W h.seq_eq ok (by omega) 12 n cs (by decide) (by omega)
  have a3 := size_ok h hr n cs (by omega)
  have a4 := places_ok (n - 1) p cs P
  rw [show n - 1 + 1 = n by omega] at a4
  have a5 := snames_ok h hr n cs (by omega)
  have fl := full_len (b := b) (s := s) (r := r)
  have ln : ((full b s r).flatMap (rn (p.map (·.1)))).length ≤ 901 * 10000 := Nat.le_trans (flat_len (k := 10000) fun x hx => (rn_ok (full_rows h x hx)).2.2) (Nat.mul_le_mul_right _ (by omega))
  have mem : ∀ x ∈ (full b s r).flatMap (rn (p.map (·.1))), x ∈ p.map (·.1) := fun x hx => by
    obtain ⟨y, hy, hx⟩ := List.mem_flatMap.mp hx
    exact (rn_ok (full_rows h y hy)).2.1 x hx
  generalize (full b s r).flatMap (rn (p.map (·.1))) = L at a5 ln mem
  have lc : ∀ t, lcL (gNm 2) tTrue (eOp inD (eVar 2) (eVar 1)) (blkSl [t, some (.fr (.d (.dict (plK p 0)))), none] [2]) ((L.map PyData.str).map Val.d) cs = .ok (List.replicate ((L.map PyData.str).map Val.d).length (.bool true)) cs := fun t => by
    refine lcL_true fun x hx => ?_
    simp only [List.mem_map] at hx
    obtain ⟨_, ⟨y, hy, rfl⟩, rfl⟩ := hx
    refine ⟨_, rfl, rfl, ?_⟩
    simp [blkSl, wipeS, unOwn, in_places (mem y hy)]
  have hl2 : L.length ≤ 16777216 := by omega
  rw [List.map_map] at lc
  simp only [Function.comp_def] at lc
  have d12 : decide ((d : Int) ≤ 12) = decide (d ≤ 12) := by
    congr 1
    exact propext ⟨fun z => by omega, fun z => by omega⟩
  rw [d12] at a2
  rw [e_is_right]
  by_cases h12 : d ≤ 12
  · by_cases h60 : cnt r ≤ 60
    · have h61 : ¬ (60 < (cnt r : Int)) := by omega
      simp [s_is_right, isiB, -ev_eqD, -ev_neD, a1, a2, a3, a4, a5, g_MOST_WITHIN, g_MOST_STATEMENTS, gtD, cT, h12, h60, h61, oLc, lc, hl2, List.map_map, Function.comp_def]
    · have h61 : 60 < (cnt r : Int) := by omega
      simp [s_is_right, isiB, -ev_eqD, -ev_neD, a1, a2, a3, g_MOST_WITHIN, g_MOST_STATEMENTS, gtD, cT, h12, h60, h61]
  · simp [s_is_right, isiB, -ev_eqD, -ev_neD, a1, a2, g_MOST_WITHIN, h12]
end LW
end
section
set_option Elab.async false
set_option linter.all false
set_option maxRecDepth 100000
set_option autoImplicit false
namespace LW
open PySem PySem.Spec PyProof.Rows L2 DL
/-! ### fuel as a bound -/
theorem takeN {N b : Nat} {cs : Cs} {Z m : Int} (B : BagAt b cs Z) (hZ : Z < ZB) (h0 : 0 < m) (h1 : m < 2 ^ 60) (hN : 1 ≤ N) :
    ∃ (r : Int) (cs' : Cs), sem N ._law_take [.cel b, .d (.int m)] cs = .ok (.fr (.d (.int r))) cs' ∧ 0 ≤ r ∧ r < m ∧ BagAt b cs' (Z + 1) ∧ Only [b] cs cs' := by
  obtain ⟨n, rfl, _⟩ := succ_of hN
  exact take_k n b cs Z m B hZ h0 h1
theorem pickN {N b : Nat} {cs : Cs} {Z : Int} {xs : List PyData} (B : BagAt b cs Z) (hZ : Z < ZB) (h0 : 0 < xs.length) (h1 : xs.length ≤ 1000) (hN : 2 ≤ N) :
    ∃ (x : PyData) (cs' : Cs), sem N ._law_pick [.cel b, .d (.list xs)] cs = .ok (.fr (.d x)) cs' ∧ x ∈ xs ∧ BagAt b cs' (Z + 1) ∧ Only [b] cs cs' := by
  obtain ⟨n, rfl⟩ : ∃ n, N = n + 2 := ⟨N - 2, by omega⟩
  exact pick_ok n b cs Z xs B hZ h0 h1
section
variable {ns : List PySem.Str} {L : List PyData} (hL : L = ns.map PyData.str) (hn : 0 < ns.length) (hn2 : ns.length ≤ 1000) {b q le : Nat} (hbq : b ≠ q)
include hL hn hn2 hbq
theorem exprN (d : Nat) {N : Nat} {cs : Cs} {Z : Int} (B : BagAt b cs Z) (R : RoomAt q cs) (hZ : Z + cE (d + 1) < ZB) (hN : d + 4 ≤ N) :
    ∃ (e : Ex5) (cs' : Cs), sem N ._law_expression [.cel b, .d (.list L), .d (.int ((d + 1 : Nat) : Int)), .cel q] cs = .ok (.fr (.d e.toD)) cs' ∧ e.ok ns ∧ e.dep ≤ d + 1 ∧ BagAt b cs' (Z + cE (d + 1)) ∧ RoomAt q cs' ∧ Only [b, q] cs cs' := by
  obtain ⟨n, rfl⟩ : ∃ n, N = n + d + 4 := ⟨N - d - 4, by omega⟩
  exact expression_gen hL hn hn2 hbq d n cs Z B R hZ
theorem condN (d : Nat) {N : Nat} {cs : Cs} {Z : Int} (B : BagAt b cs Z) (R : RoomAt q cs) (hZ : Z + cC d < ZB) (hN : d + 8 ≤ N) :
    ∃ (c : Cn5) (cs' : Cs), sem N ._law_condition [.cel b, .d (.list L), .d (.int ((d + 2 : Nat) : Int)), .cel q] cs = .ok (.fr (.d c.toD)) cs' ∧ c.ok ns ∧ c.dep ≤ d + 2 ∧ BagAt b cs' (Z + cC d) ∧ RoomAt q cs' ∧ Only [b, q] cs cs' := by
  obtain ⟨n, rfl⟩ : ∃ n, N = n + d + 8 := ⟨N - d - 8, by omega⟩
  exact condition_gen hL hn hn2 hbq d n cs Z B R hZ
end
/-- a comprehension whose turns change cells -/
theorem lcL_gen {g : Val → Sl → Option Sl} {te : SE} {slB : Sl} {I : Nat → Cs → Prop} {P : PyData → Prop} : ∀ (xs : List Val) (k : Nat) (cs : Cs), I k cs → (∀ x ∈ xs, ∀ (j : Nat) (cs : Cs), j < k + xs.length → I j cs → ∃ s d cs', g x slB = some s ∧ te s cs = .ok (.d d) cs' ∧ P d ∧ I (j + 1) cs') →
    ∃ ds cs', lcL g tTrue te slB xs cs = .ok ds cs' ∧ I (k + xs.length) cs' ∧ ds.length = xs.length ∧ ∀ d ∈ ds, P d
  | [], k, cs, i, _ => ⟨[], cs, rfl, i, rfl, by simp⟩
  | x :: xs, k, cs, i, h => by
    obtain ⟨s, d, cs1, h1, h2, p, i1⟩ := h x (by simp) k cs (by simp) i
    have hk : k + (x :: xs).length = k + 1 + xs.length := by rw [List.length_cons]; omega
    rw [hk] at h ⊢
    obtain ⟨ds, cs2, e, i2, l, ps⟩ := lcL_gen xs (k + 1) cs1 i1 fun y hy => h y (by simp [hy])
    refine ⟨d :: ds, cs2, ?_, i2, by simp [l], fun y hy => ?_⟩
    · unfold lcL
      rw [h1]
      simp [h2, e, noEx]
    · rcases List.mem_cons.mp hy with rfl | hy
      · exact p
      · exact ps y hy
theorem exists_map {α : Type} {f : α → PyData} {Q : α → Prop} : ∀ {ds : List PyData}, (∀ d ∈ ds, ∃ a, d = f a ∧ Q a) → ∃ l : List α, ds = l.map f ∧ l.length = ds.length ∧ ∀ a ∈ l, Q a
  | [], _ => ⟨[], rfl, rfl, by simp⟩
  | d :: ds, h => by
    obtain ⟨a, e, q⟩ := h d (by simp)
    obtain ⟨l, e2, ll, qs⟩ := exists_map (ds := ds) fun y hy => h y (by simp [hy])
    exact ⟨a :: l, by rw [e, e2]; rfl, by simp [ll], fun y hy => by
      rcases List.mem_cons.mp hy with rfl | hy
      · exact q
      · exact qs y hy⟩
theorem range_cel {lo : Int} {n : Nat} {x : Val} (h : x ∈ rangeL lo n) : ∃ i : Int, x = .d (.int i) := by
  simp only [rangeL, List.mem_map] at h
  obtain ⟨i, _, rfl⟩ := h
  exact ⟨_, rfl⟩
theorem range_len {lo : Int} {n : Nat} : (rangeL lo n).length = n := by simp [rangeL]
def drawA (G : Fn → FS) : SS := sSet 7 (oFr (eOp addD (eC (.int 1)) (eFz (oDef (G ._law_take) [] (aCons (eVar 0) (aCons (eFz (oDef (G ._law_pick) [] (aCons (eVar 0) (aCons (eLst (aCons (eC (.int 2)) (aCons (eC (.int 3)) (aCons (eC (.int 6)) (aNil))))) (aNil))))) (aNil)))))))
def drawB (G : Fn → FS) : SS := sSet 8 (oLc (pRange1 (bCons (eVar 7) (aNil))) (gNm 11) (tTrue) (eOp addD (eC (.int 1)) (eFz (oDef (G ._law_take) [] (aCons (eVar 0) (aCons (eFz (oDef (G ._law_pick) [] (aCons (eVar 0) (aCons (eLst (aCons (eC (.int 3)) (aCons (eC (.int 9)) (aCons (eC (.int 99)) (aNil))))) (aNil))))) (aNil)))))) [11])
def drawD (G : Fn → FS) : SS := sRet (oFr (eTup (aCons (eC (.str "draw")) (aCons (eVar 6) (aCons (eCall tupleB (bCons (eFz (oLc (pSeq (eVar 8)) (gNm 12) (tTrue) (eTup (aCons (eFz (oDef (G ._law_expression) [] (aCons (eVar 0) (aCons (eVar 1) (aCons (eC (.int 2)) (aCons (eVar 2) (aNil))))))) (aCons (eVar 12) (aNil)))) [12])) (aNil))) (aNil))))))
def drawS (G : Fn → FS) : SS := sSeq (drawA G) (sSeq (drawB G) (sSeq (sFz 8) (drawD G)))
def chooseA (G : Fn → FS) : SS := sSet 7 (oFr (eOp addD (eC (.int 1)) (eFz (oDef (G ._law_take) [] (aCons (eVar 0) (aCons (eC (.int 6)) (aNil)))))))
def chooseD (G : Fn → FS) : SS := sRet (oFr (eTup (aCons (eC (.str "choose")) (aCons (eVar 6) (aCons (eCall tupleB (bCons (eFz (oLc (pRange1 (bCons (eVar 7) (aNil))) (gNm 11) (tTrue) (eFz (oDef (G ._law_expression) [] (aCons (eVar 0) (aCons (eVar 1) (aCons (eC (.int 2)) (aCons (eVar 2) (aNil))))))) [11])) (aNil))) (aNil))))))
def chooseS (G : Fn → FS) : SS := sSeq (chooseA G) (chooseD G)
def compS (G : Fn → FS) : SS := sSeq (sSet 9 (oFr (eFz (oDef (G ._law_condition) [] (aCons (eVar 0) (aCons (eVar 1) (aCons (eC (.int 4)) (aCons (eVar 2) (aNil))))))))) (sSeq (sSet 10 (oFr (eFz (oDef (G ._law_statements) [] (aCons (eVar 0) (aCons (eVar 1) (aCons (eVar 2) (aCons (eVar 3) (aCons (eOp subD (eVar 4) (eC (.int 1))) (aNil)))))))))) (sSeq (sIf (tBool (eOp eqD (eVar 5) (eC (.int 7)))) (sRet (oFr (eTup (aCons (eC (.str "while")) (aCons (eVar 9) (aCons (eVar 10) (aNil))))))) (sNil)) (sRet (oFr (eTup (aCons (eC (.str "if")) (aCons (eVar 9) (aCons (eVar 10) (aCons (eFz (oDef (G ._law_statements) [] (aCons (eVar 0) (aCons (eVar 1) (aCons (eVar 2) (aCons (eVar 3) (aCons (eOp subD (eVar 4) (eC (.int 1))) (aNil)))))))) (aNil))))))))))
def tailS (G : Fn → FS) : SS := sSeq (sIf (tBool (eOp eqD (eVar 5) (eC (.int 0)))) (sRet (oFr (eTup (aCons (eC (.str "skip")) (aNil))))) (sNil)) (sSeq (sIf (tBool (eOp ltD (eVar 5) (eC (.int 3)))) (sRet (oFr (eTup (aCons (eC (.str "set")) (aCons (eVar 6) (aCons (eFz (oDef (G ._law_expression) [] (aCons (eVar 0) (aCons (eVar 1) (aCons (eC (.int 3)) (aCons (eVar 2) (aNil))))))) (aNil))))))) (sNil)) (sSeq (sIf (tBool (eOp ltD (eVar 5) (eC (.int 5)))) (drawS G) (sNil)) (sSeq (sIf (tBool (eOp eqD (eVar 5) (eC (.int 5)))) (chooseS G) (sNil)) (sSeq (sIf (tBool (eOp eqD (eVar 5) (eC (.int 6)))) (sRet (oFr (eTup (aCons (eC (.str "see")) (aCons (eFz (oDef (G ._law_condition) [] (aCons (eVar 0) (aCons (eVar 1) (aCons (eC (.int 4)) (aCons (eVar 2) (aNil))))))) (aNil)))))) (sNil)) (compS G)))))
def wayS (G : Fn → FS) : SE := eIf (tAndD (tBool (eOp gtD (eVar 4) (eC (.int 1)))) (tBool (eOp gtD (eIx (eVar 3) (eC (.int 0))) (eC (.int 2))))) (eFz (oDef (G ._law_take) [] (aCons (eVar 0) (aCons (eC (.int 11)) (aNil))))) (eFz (oDef (G ._law_take) [] (aCons (eVar 0) (aCons (eC (.int 7)) (aNil)))))
theorem stmt_split (G : Fn → FS) : s__law_statement G = sSeq (sPut 3 (eOp subD (eIx (eVar 3) (eC (.int 0))) (eC (.int 1))) (eC (.int 0))) (sSeq (sSet 5 (oFr (wayS G))) (sSeq (sSet 6 (oFr (eFz (oDef (G ._law_pick) [] (aCons (eVar 0) (aCons (eVar 1) (aNil))))))) (tailS G))) := rfl
def turnS (G : Fn → FS) : SS := sIf (tBool (eOp gtD (eIx (eVar 3) (eC (.int 0))) (eC (.int 0)))) (sMeth 5 appAt (eFz (oDef (G ._law_statement) [] (aCons (eVar 0) (aCons (eVar 1) (aCons (eVar 2) (aCons (eVar 3) (aCons (eVar 4) (aNil))))))))) (sNil)
def lastS : SS := sRet (oFr (eIf (tBool (eOp eqD (eCall lenB (bCons (eVar 5) (aNil))) (eC (.int 1)))) (eIx (eVar 5) (eC (.int 0))) (eTup (aCons (eC (.str "seq")) (aCons (eCall tupleB (bCons (eVar 5) (aNil))) (aNil))))))
theorem stmts_split (G : Fn → FS) : s__law_statements G = sSeq (sSet 5 (oLst (aCons (eFz (oDef (G ._law_statement) [] (aCons (eVar 0) (aCons (eVar 1) (aCons (eVar 2) (aCons (eVar 3) (aCons (eVar 4) (aNil)))))))) (aNil)))) (sSeq (sFor (pRange1 (bCons (eFz (oDef (G ._law_take) [] (aCons (eVar 0) (aCons (eC (.int 4)) (aNil))))) (aNil))) (gNm 6) (turnS G)) lastS) := rfl
/-! ### the leaves -/
section
variable {ns : List PySem.Str} {L : List PyData} (hL : L = ns.map PyData.str) (hn : 0 < ns.length) (hn2 : ns.length ≤ 1000) {b q : Nat} (hbq : b ≠ q)
include hL hn hn2 hbq
theorem draw_eval {N : Nat} (hN : 6 ≤ N) {cs : Cs} {Z : Int} {x : PySem.Str} (hx : x ∈ ns) (le deep way : DL.Slot) (B : BagAt b cs Z) (R : RoomAt q cs) (hZ : Z + 1000 < ZB) :
    ∃ (s : PyData) (cs' : Cs), drawS (sem N) [some (.fr (.cel b)), some (.fr (.d (.list L))), some (.fr (.cel q)), some le, some deep, some way, some (.fr (.d (.str x))), none, none, none, none, none, none] cs = .rt (.fr (.d s)) cs' ∧ Leaf ns s ∧ BagAt b cs' (Z + 500) ∧ RoomAt q cs' ∧ Only [b, q] cs cs' := by
  obtain ⟨m, cs1, e1, hm, B1, O1⟩ := pickN (xs := [.int 2, .int 3, .int 6]) B (by omega) (by decide) (by decide) (show 2 ≤ N by omega)
  obtain ⟨mi, rfl, m0, m6⟩ : ∃ i : Int, m = .int i ∧ 0 < i ∧ i ≤ 6 := by
    simp only [List.mem_cons, List.not_mem_nil, or_false] at hm
    rcases hm with rfl | rfl | rfl <;> exact ⟨_, rfl, by decide, by decide⟩
  obtain ⟨k, cs2, e2, k0, k1, B2, O2⟩ := takeN (m := mi) B1 (by omega) m0 (by omega) (show 1 ≤ N by omega)
  obtain ⟨n, hnk⟩ : ∃ n : Nat, 1 + k = (n : Int) := ⟨(1 + k).toNat, by omega⟩
  have n1 : 1 ≤ n := by omega
  have n6 : n ≤ 6 := by omega
  have O02 : Only [b] cs cs2 := O1.trans O2
  have R2 : RoomAt q cs2 := R.only O02 (by simp [Ne.symm hbq])
  -- the weights
  obtain ⟨ws, cs3, e3, ⟨B3, O3⟩, l3, p3⟩ := lcL_gen (g := gNm 11) (te := eOp addD (eC (.int 1)) (eFz (oDef (sem N ._law_take) [] (aCons (eVar 0) (aCons (eFz (oDef (sem N ._law_pick) [] (aCons (eVar 0) (aCons (eLst (aCons (eC (.int 3)) (aCons (eC (.int 9)) (aCons (eC (.int 99)) (aNil))))) (aNil))))) (aNil))))))
    (slB := blkSl [some (.fr (.cel b)), some (.fr (.d (.list L))), some (.fr (.cel q)), some le, some deep, some way, some (.fr (.d (.str x))), some (.fr (.d (.int n))), none, none, none, none, none] [11]) (I := fun k cs' => BagAt b cs' (Z + 2 + 2 * k) ∧ Only [b] cs2 cs')
    (P := fun d => ∃ w : Int, d = .int w ∧ 1 ≤ w ∧ w ≤ 99) (rangeL 0 n) 0 cs2 ⟨B2.mono (by omega), Only.refl _ _⟩ (fun v hv k cs' hk ⟨Bk, Ok⟩ => by
      rw [range_len] at hk
      obtain ⟨i, rfl⟩ := range_cel hv
      obtain ⟨m, c1, f1, hm, C1, P1⟩ := pickN (xs := [.int 3, .int 9, .int 99]) Bk (by omega) (by decide) (by decide) (show 2 ≤ N by omega)
      obtain ⟨mi, rfl, m0, m6⟩ : ∃ i : Int, m = .int i ∧ 0 < i ∧ i ≤ 99 := by
        simp only [List.mem_cons, List.not_mem_nil, or_false] at hm
        rcases hm with rfl | rfl | rfl <;> exact ⟨_, rfl, by decide, by decide⟩
      obtain ⟨w, c2, f2, w0, w1, C2, P2⟩ := takeN (m := mi) C1 (by omega) m0 (by omega) (show 1 ≤ N by omega)
      refine ⟨_, .int (1 + w), c2, rfl, ?_, ⟨_, rfl, by omega, by omega⟩, C2.mono (by omega), Ok.trans (P1.trans P2)⟩
      simp [blkSl, wipeS, unOwn, f1, f2])
  rw [range_len] at B3 l3
  obtain ⟨wl, rfl, ll, pl⟩ := exists_map (f := PyData.int) (Q := fun w => 1 ≤ w ∧ w ≤ 99) p3
  have lw : wl.length = n := by rw [ll, l3]
  have R3 : RoomAt q cs3 := R2.only O3 (by simp [Ne.symm hbq])
  -- the pairs
  obtain ⟨ds, cs4, e4, ⟨B4, R4, O4⟩, l4, p4⟩ := lcL_gen (g := gNm 12) (te := eTup (aCons (eFz (oDef (sem N ._law_expression) [] (aCons (eVar 0) (aCons (eVar 1) (aCons (eC (.int 2)) (aCons (eVar 2) (aNil))))))) (aCons (eVar 12) (aNil))))
    (slB := blkSl [some (.fr (.cel b)), some (.fr (.d (.list L))), some (.fr (.cel q)), some le, some deep, some way, some (.fr (.d (.str x))), some (.fr (.d (.int n))), some (.fr (.d (.list (wl.map .int)))), none, none, none, none] [12]) (I := fun k cs' => BagAt b cs' (Z + 14 + 31 * k) ∧ RoomAt q cs' ∧ Only [b, q] cs3 cs')
    (P := fun d => ∃ p : Ex5 × Int, d = .tuple [p.1.toD, .int p.2] ∧ p.1.ok ns ∧ p.1.dep ≤ 10 ∧ 1 ≤ p.2 ∧ p.2 ≤ 99) ((wl.map PyData.int).map Val.d) 0 cs3 ⟨B3.mono (by omega), R3, Only.refl _ _⟩ (fun v hv k cs' hk ⟨Bk, Rk, Ok⟩ => by
      simp only [List.length_map] at hk
      simp only [List.mem_map] at hv
      obtain ⟨_, ⟨w, hw, rfl⟩, rfl⟩ := hv
      have h31 : cE (1 + 1) = 31 := by decide
      obtain ⟨e, c1, f1, a1, a2, C1, D1, P1⟩ := exprN hL hn hn2 hbq 1 Bk Rk (by omega) (show 1 + 4 ≤ N by omega)
      refine ⟨_, .tuple [e.toD, .int w], c1, rfl, ?_, ⟨(e, w), rfl, a1, by show e.dep ≤ 10; omega, pl w hw⟩, C1.mono (by omega), D1, Ok.trans P1⟩
      have f1' : sem N ._law_expression [.cel b, .d (.list L), .d (.int 2), .cel q] cs' = .ok (.fr (.d e.toD)) c1 := f1
      simp [blkSl, wipeS, unOwn, f1'])
  simp only [List.length_map] at B4 l4
  obtain ⟨ps, rfl, lp, pp⟩ := exists_map (f := fun p : Ex5 × Int => .tuple [p.1.toD, .int p.2]) p4
  have lps : ps.length = n := by rw [lp, l4, lw]
  refine ⟨_, cs4, ?_, .draw hx (ps := ps) (by omega) (by omega) pp, B4.mono (by omega), R4, (O02.mono (by simp)).trans ((O3.mono (by simp)).trans O4)⟩
  have r3 : oLc (pRange1 (bCons (eVar 7) (aNil))) (gNm 11) (tTrue) (eOp addD (eC (.int 1)) (eFz (oDef (sem N ._law_take) [] (aCons (eVar 0) (aCons (eFz (oDef (sem N ._law_pick) [] (aCons (eVar 0) (aCons (eLst (aCons (eC (.int 3)) (aCons (eC (.int 9)) (aCons (eC (.int 99)) (aNil))))) (aNil))))) (aNil)))))) [11]
      [some (.fr (.cel b)), some (.fr (.d (.list L))), some (.fr (.cel q)), some le, some deep, some way, some (.fr (.d (.str x))), some (.fr (.d (.int n))), none, none, none, none, none] cs2 = .ok (.ow (.list (wl.map .int))) cs3 :=
    lc_ev (range_ev (n := n) (by simp) (by omega)) (by rw [range_len]; omega) e3
  have r4 : oLc (pSeq (eVar 8)) (gNm 12) (tTrue) (eTup (aCons (eFz (oDef (sem N ._law_expression) [] (aCons (eVar 0) (aCons (eVar 1) (aCons (eC (.int 2)) (aCons (eVar 2) (aNil))))))) (aCons (eVar 12) (aNil)))) [12]
      [some (.fr (.cel b)), some (.fr (.d (.list L))), some (.fr (.cel q)), some le, some deep, some way, some (.fr (.d (.str x))), some (.fr (.d (.int n))), some (.fr (.d (.list (wl.map .int)))), none, none, none, none] cs3 = .ok (.ow (.list (ps.map fun p : Ex5 × Int => .tuple [p.1.toD, .int p.2]))) cs4 :=
    lc_ev (by simp) (by simp; omega) e4
  have s1 : drawA (sem N) [some (.fr (.cel b)), some (.fr (.d (.list L))), some (.fr (.cel q)), some le, some deep, some way, some (.fr (.d (.str x))), none, none, none, none, none, none] cs = .nx [some (.fr (.cel b)), some (.fr (.d (.list L))), some (.fr (.cel q)), some le, some deep, some way, some (.fr (.d (.str x))), some (.fr (.d (.int n))), none, none, none, none, none] cs2 := by
    simp [drawA, e1, e2, hnk]
  have s2 : drawB (sem N) [some (.fr (.cel b)), some (.fr (.d (.list L))), some (.fr (.cel q)), some le, some deep, some way, some (.fr (.d (.str x))), some (.fr (.d (.int n))), none, none, none, none, none] cs2 = .nx [some (.fr (.cel b)), some (.fr (.d (.list L))), some (.fr (.cel q)), some le, some deep, some way, some (.fr (.d (.str x))), some (.fr (.d (.int n))), some (.ow (.list (wl.map .int))), none, none, none, none] cs3 := by
    unfold drawB
    rw [ev_set, r3]
    rfl
  have s4 : drawD (sem N) [some (.fr (.cel b)), some (.fr (.d (.list L))), some (.fr (.cel q)), some le, some deep, some way, some (.fr (.d (.str x))), some (.fr (.d (.int n))), some (.fr (.d (.list (wl.map .int)))), none, none, none, none] cs3 = .rt (.fr (.d (.tuple [.str "draw", .str x, .tuple (ps.map fun p : Ex5 × Int => .tuple [p.1.toD, .int p.2])]))) cs4 := by
    simp [drawD, r4]
  unfold drawS
  rw [ev_seq, s1, RS.seq_nx, ev_seq, s2, RS.seq_nx, ev_seq]
  show ((RS.nx [some (.fr (.cel b)), some (.fr (.d (.list L))), some (.fr (.cel q)), some le, some deep, some way, some (.fr (.d (.str x))), some (.fr (.d (.int n))), some (.fr (.d (.list (wl.map .int)))), none, none, none, none] cs3).seq (drawD (sem N))) = _
  rw [RS.seq_nx, s4]
omit hL hn hn2 hbq in
theorem choose_fin {F : SO} {sl : Sl} {cs cs' : Cs} {x : PySem.Str} {l : List PyData} (h1 : eVar 6 sl cs = .ok (.d (.str x)) cs) (h2 : F sl cs = .ok (.ow (.list l)) cs') :
    sRet (oFr (eTup (aCons (eC (.str "choose")) (aCons (eVar 6) (aCons (eCall tupleB (bCons (eFz F) (aNil))) (aNil)))))) sl cs = .rt (.fr (.d (.tuple [.str "choose", .str x, .tuple l]))) cs' := by
  simp [h1, h2]
theorem choose_eval {N : Nat} (hN : 6 ≤ N) {cs : Cs} {Z : Int} {x : PySem.Str} (hx : x ∈ ns) (le deep way : DL.Slot) (B : BagAt b cs Z) (R : RoomAt q cs) (hZ : Z + 1000 < ZB) :
    ∃ (s : PyData) (cs' : Cs), chooseS (sem N) [some (.fr (.cel b)), some (.fr (.d (.list L))), some (.fr (.cel q)), some le, some deep, some way, some (.fr (.d (.str x))), none, none, none, none, none, none] cs = .rt (.fr (.d s)) cs' ∧ Leaf ns s ∧ BagAt b cs' (Z + 500) ∧ RoomAt q cs' ∧ Only [b, q] cs cs' := by
  obtain ⟨k, cs2, e2, k0, k1, B2, O2⟩ := takeN (m := 6) B (by omega) (by decide) (by omega) (show 1 ≤ N by omega)
  obtain ⟨n, hnk⟩ : ∃ n : Nat, 1 + k = (n : Int) := ⟨(1 + k).toNat, by omega⟩
  have n1 : 1 ≤ n := by omega
  have n6 : n ≤ 6 := by omega
  have R2 : RoomAt q cs2 := R.only O2 (by simp [Ne.symm hbq])
  obtain ⟨ds, cs4, e4, ⟨B4, R4, O4⟩, l4, p4⟩ := lcL_gen (g := gNm 11) (te := eFz (oDef (sem N ._law_expression) [] (aCons (eVar 0) (aCons (eVar 1) (aCons (eC (.int 2)) (aCons (eVar 2) (aNil)))))))
    (slB := blkSl [some (.fr (.cel b)), some (.fr (.d (.list L))), some (.fr (.cel q)), some le, some deep, some way, some (.fr (.d (.str x))), some (.fr (.d (.int n))), none, none, none, none, none] [11]) (I := fun k cs' => BagAt b cs' (Z + 1 + 31 * k) ∧ RoomAt q cs' ∧ Only [b, q] cs2 cs')
    (P := fun d => ∃ p : Ex5, d = p.toD ∧ p.ok ns ∧ p.dep ≤ 10) (rangeL 0 n) 0 cs2 ⟨B2.mono (by omega), R2, Only.refl _ _⟩ (fun v hv k cs' hk ⟨Bk, Rk, Ok⟩ => by
      rw [range_len] at hk
      obtain ⟨i, rfl⟩ := range_cel hv
      have h31 : cE (1 + 1) = 31 := by decide
      obtain ⟨e, c1, f1, a1, a2, C1, D1, P1⟩ := exprN hL hn hn2 hbq 1 Bk Rk (by omega) (show 1 + 4 ≤ N by omega)
      refine ⟨_, e.toD, c1, rfl, ?_, ⟨e, rfl, a1, by omega⟩, C1.mono (by omega), D1, Ok.trans P1⟩
      have f1' : sem N ._law_expression [.cel b, .d (.list L), .d (.int 2), .cel q] cs' = .ok (.fr (.d e.toD)) c1 := f1
      simp [blkSl, wipeS, unOwn, f1'])
  rw [range_len] at B4 l4
  obtain ⟨ps, rfl, lp, pp⟩ := exists_map (f := Ex5.toD) p4
  have lps : ps.length = n := by rw [lp, l4]
  refine ⟨_, cs4, ?_, .choose hx (vs := ps) (by omega) (by omega) pp, B4.mono (by omega), R4, (O2.mono (by simp)).trans O4⟩
  have r4 : oLc (pRange1 (bCons (eVar 7) (aNil))) (gNm 11) (tTrue) (eFz (oDef (sem N ._law_expression) [] (aCons (eVar 0) (aCons (eVar 1) (aCons (eC (.int 2)) (aCons (eVar 2) (aNil))))))) [11]
      [some (.fr (.cel b)), some (.fr (.d (.list L))), some (.fr (.cel q)), some le, some deep, some way, some (.fr (.d (.str x))), some (.fr (.d (.int n))), none, none, none, none, none] cs2 = .ok (.ow (.list (ps.map Ex5.toD))) cs4 :=
    lc_ev (range_ev (n := n) (by simp) (by omega)) (by rw [range_len]; omega) e4
  have s1 : chooseA (sem N) [some (.fr (.cel b)), some (.fr (.d (.list L))), some (.fr (.cel q)), some le, some deep, some way, some (.fr (.d (.str x))), none, none, none, none, none, none] cs = .nx [some (.fr (.cel b)), some (.fr (.d (.list L))), some (.fr (.cel q)), some le, some deep, some way, some (.fr (.d (.str x))), some (.fr (.d (.int n))), none, none, none, none, none] cs2 := by
    simp [chooseA, e2, hnk]
  have s4 : chooseD (sem N) [some (.fr (.cel b)), some (.fr (.d (.list L))), some (.fr (.cel q)), some le, some deep, some way, some (.fr (.d (.str x))), some (.fr (.d (.int n))), none, none, none, none, none] cs2 = .rt (.fr (.d (.tuple [.str "choose", .str x, .tuple (ps.map Ex5.toD)]))) cs4 := by
    exact choose_fin rfl r4
  unfold chooseS
  rw [ev_seq, s1, RS.seq_nx, s4]
end
end LW
end
section
set_option Elab.async false
set_option linter.all false
set_option maxRecDepth 100000
set_option autoImplicit false
namespace LW
open PySem PySem.Spec PyProof.Rows L2 DL
def LeftAt (q : Nat) (cs : Cs) (L : Int) : Prop := cs[q]? = some (.lst [.d (.int L)])
theorem LeftAt.only {q : Nat} {S : List Nat} {cs cs' : Cs} {L : Int} (B : LeftAt q cs L) (O : Only S cs cs') (h : q ∉ S) : LeftAt q cs' L := by
  unfold LeftAt at *
  rw [O.2 q (List.getElem?_eq_some_iff.mp B).1 h]
  exact B
theorem zb_big : (1000000000000 : Int) < ZB := by unfold ZB; decide +kernel
theorem StOk.snoc {ns : List PySem.Str} {s : PyData} {l' : List PyData} {d : Nat} {r : List PyData} (h : StOk ns false s l' d r) : ∀ {l : List PyData} {e : Nat} {r' : List PyData}, StOk ns true (.tuple [.str "seq", .tuple l]) l e r' →
    StOk ns true (.tuple [.str "seq", .tuple (l ++ [s])]) (l ++ [s]) (max e d) (r' ++ r)
  | [], e, r', t => by
    cases t
    have := StOk.cons h .nil
    simpa using this
  | x :: l, e, r', t => by
    cases t with
    | cons h1 t1 =>
      have := StOk.cons h1 (StOk.snoc h t1)
      rw [List.cons_append, List.append_assoc, Nat.max_assoc]
      exact this
theorem StOk.rlen {ns : List PySem.Str} {b : Bool} {s : PyData} {l : List PyData} {d : Nat} {r : List PyData} (h : StOk ns b s l d r) : r.length ≤ 3 * cnt r ∧ (b = false → 1 ≤ cnt r) := by
  have c1 : ∀ {x : PyData} {r : List PyData}, nsq x = true → cnt (x :: r) = 1 + cnt r := fun {x r} h => by simp [cnt, h]; omega
  induction h with
  | leaf h =>
    have : ∀ {s : PyData}, Leaf ns s → nsq s = true := fun h => by
      have q : ∀ (w : PySem.Str) (rest : List PyData), (!(w == ("seq" : PySem.Str))) = true → nsq (.tuple (.str w :: rest)) = true := fun w rest h => h
      cases h <;> exact q _ _ (by decide +kernel)
    rw [c1 (this h)]
    simp [cnt]
  | @whl b c s l d r hc hd h ok ih =>
    have hq : nsq (.tuple [.str "while", c.toD, s]) = true := by show (!(("while" : PySem.Str) == "seq")) = true; decide +kernel
    have hf := cnt_full h
    have hl := full_len (b := b) (s := s) (r := r)
    rw [c1 hq, hf, List.length_cons]
    omega
  | @ite b b' c s t l l' d e r r' hc hd h ok h' ok' ih ih' =>
    have hq : nsq (.tuple [.str "if", c.toD, s, t]) = true := by show (!(("if" : PySem.Str) == "seq")) = true; decide +kernel
    have hf := cnt_full h
    have hf' := cnt_full h'
    have hl := full_len (b := b) (s := s) (r := r)
    have hl' := full_len (b := b') (s := t) (r := r')
    rw [c1 hq, cnt_app, hf, hf', List.length_cons, List.length_append]
    omega
  | nil => simp [cnt]
  | cons h t ih ih' =>
    rw [cnt_app, List.length_append]
    exact ⟨by omega, fun z => by cases z⟩
section
variable {ns : List PySem.Str} {L : List PyData} (hL : L = ns.map PyData.str) (hn : 0 < ns.length) (hn2 : ns.length ≤ 1000) {b q le : Nat} (hbq : b ≠ q) (hbl : b ≠ le) (hql : q ≠ le)
/-- what a statement's generator leaves -/
def StG (ns : List PySem.Str) (L : List PyData) (b q le dd : Nat) : Prop := dd ≤ 60 → ∀ (N : Nat) (cs : Cs) (Z K : Int), 2 * dd + 14 ≤ N → BagAt b cs Z → RoomAt q cs → LeftAt le cs K → Z + 3000 * K ≤ 1000000000 → -100 ≤ K →
  ∃ (s : PyData) (l : List PyData) (d : Nat) (r : List PyData) (cs' : Cs) (K' : Int), sem N ._law_statement [.cel b, .d (.list L), .cel q, .cel le, .d (.int ((dd + 1 : Nat) : Int))] cs = .ok (.fr (.d s)) cs' ∧ StOk ns false s l d r ∧ d ≤ dd + 1 ∧ (cnt r : Int) = K - K' ∧
    min (K - 1) (-dd) ≤ K' ∧ K' ≤ K - 1 ∧ BagAt b cs' (Z + 3000 * (K - K') - 1) ∧ RoomAt q cs' ∧ LeftAt le cs' K' ∧ Only [b, q, le] cs cs'
def SsG (ns : List PySem.Str) (L : List PyData) (b q le dd : Nat) : Prop := dd ≤ 60 → ∀ (N : Nat) (cs : Cs) (Z K : Int), 2 * dd + 15 ≤ N → BagAt b cs Z → RoomAt q cs → LeftAt le cs K → Z + 3000 * K ≤ 1000000000 → -100 ≤ K →
  ∃ (bb : Bool) (s : PyData) (l : List PyData) (d : Nat) (r : List PyData) (cs' : Cs) (K' : Int), sem N ._law_statements [.cel b, .d (.list L), .cel q, .cel le, .d (.int ((dd + 1 : Nat) : Int))] cs = .ok (.fr (.d s)) cs' ∧ StOk ns bb s l d r ∧ (bb = true → 2 ≤ l.length) ∧ d ≤ dd + 1 ∧ (cnt r : Int) = K - K' ∧
    min (K - 1) (-dd) ≤ K' ∧ K' ≤ K - 1 ∧ BagAt b cs' (Z + 3000 * (K - K')) ∧ RoomAt q cs' ∧ LeftAt le cs' K' ∧ Only [b, q, le] cs cs'
/-! ### a list of statements from statements -/
theorem meth_ownC {i : Nat} {f : SE} {sl : Sl} {cs cs' : Cs} {ds : List PyData} {v : PyData} (hs : sl[i]? = some (some (.ow (.list ds)))) (hf : f sl cs = .ok (.d v) cs') (hl : ds.length < 16777216) : sMeth i appAt f sl cs = .nx (sl.set i (some (.ow (.list (ds ++ [v]))))) cs' := by
  have l1 : ∀ cs, lstAt i sl cs = some (ds.map Val.d) := fun cs => by
    unfold lstAt
    rw [hs]
  have l2 : appAt (ds.map Val.d) (.d v) = some (ds.map Val.d ++ [.d v]) := by
    unfold appAt
    rw [if_pos ⟨by rw [List.length_map]; exact hl, rfl⟩]
  have dsn : ∀ ds : List PyData, datsOf (ds.map Val.d ++ [.d v]) = some (ds ++ [v]) := fun ds => by
    induction ds with
    | nil => rfl
    | cons x ds ih => simp [ih]
  have l3 : lstPut i (ds.map Val.d ++ [.d v]) sl cs' = some (sl.set i (some (.ow (.list (ds ++ [v])))), cs') := by
    unfold lstPut
    rw [hs]
    simp only [dsn, Option.map_some]
  unfold sMeth
  simp only [l1, hf, R.go_ok, l2, put2, l3]
theorem last_one {t0 t1 t2 t3 t4 t6 : Option DL.Slot} {s : PyData} {cs : Cs} : lastS [t0, t1, t2, t3, t4, some (.ow (.list [s])), t6] cs = .rt (.fr (.d s)) cs := by
  simp [lastS, -ev_eqD]
theorem last_many {t0 t1 t2 t3 t4 t6 : Option DL.Slot} {l : List PyData} {cs : Cs} (h : 2 ≤ l.length) : lastS [t0, t1, t2, t3, t4, some (.ow (.list l)), t6] cs = .rt (.fr (.d (.tuple [.str "seq", .tuple l]))) cs := by
  have h1 : ((l.length : Int) == 1) = false := by simp; omega
  simp [lastS, -ev_eqD, h1]
structure LInv (ns : List PySem.Str) (b q le dd : Nat) (cs0 : Cs) (Z0 K0 : Int) (l : List PyData) (d : Nat) (r : List PyData) (cs : Cs) (K : Int) : Prop where
  st : StOk ns true (.tuple [.str "seq", .tuple l]) l d r
  ln : 1 ≤ l.length
  dp : d ≤ dd + 1
  ct : (cnt r : Int) = K0 - K
  lo : min (K0 - 1) (-dd) ≤ K
  hi : K ≤ K0 - 1
  bg : BagAt b cs (Z0 + 3000 * (K0 - K))
  rm : RoomAt q cs
  lf : LeftAt le cs K
  on : Only [b, q, le] cs0 cs
theorem loop_ss {dd : Nat} (hdd : dd ≤ 60) (S : StG ns L b q le dd) {n : Nat} (hN : 2 * dd + 14 ≤ n) {cs0 : Cs} {Z0 K0 : Int} (hZ : Z0 + 3000 * K0 ≤ 1000000000) : ∀ (xs : List Val) (l : List PyData) (d : Nat) (r : List PyData) (cs : Cs) (K : Int) (t6 : Option DL.Slot), xs.length + l.length ≤ 100 → LInv ns b q le dd cs0 Z0 K0 l d r cs K →
    ∃ (l' : List PyData) (d' : Nat) (r' : List PyData) (cs' : Cs) (K' : Int) (t6' : Option DL.Slot), forL (gNm 6) (turnS (sem n)) xs [some (.fr (.cel b)), some (.fr (.d (.list L))), some (.fr (.cel q)), some (.fr (.cel le)), some (.fr (.d (.int ((dd + 1 : Nat) : Int)))), some (.ow (.list l)), t6] cs
      = .nx [some (.fr (.cel b)), some (.fr (.d (.list L))), some (.fr (.cel q)), some (.fr (.cel le)), some (.fr (.d (.int ((dd + 1 : Nat) : Int)))), some (.ow (.list l')), t6'] cs' ∧ LInv ns b q le dd cs0 Z0 K0 l' d' r' cs' K' ∧ l'.length ≤ 100
  | [], l, d, r, cs, K, t6, hl, I => ⟨l, d, r, cs, K, t6, rfl, I, by simpa using hl⟩
  | x :: xs, l, d, r, cs, K, t6, hl, I => by
    have i0 : ixD (.cel le) (.d (.int 0)) cs = .ok (.d (.int K)) cs := ev_ixC I.lf ev_atI0 rfl
    simp only [List.length_cons] at hl
    by_cases hK : 0 < K
    · obtain ⟨s, l1, d1, r1, cs1, K1, e1, h1, hd1, hc1, hm1, hk1, B1, R1, Lf1, O1⟩ := S hdd n cs (Z0 + 3000 * (K0 - K)) K hN I.bg I.rm I.lf (by omega) (by omega)
      have I' : LInv ns b q le dd cs0 Z0 K0 (l ++ [s]) (max d d1) (r ++ r1) cs1 K1 := by
        have := I.dp
        have := I.ct
        have := I.lo
        have := I.hi
        exact ⟨h1.snoc I.st, by simp, by omega, by rw [cnt_app]; omega, by omega, by omega, B1.mono (by omega), R1, Lf1, I.on.trans O1⟩
      obtain ⟨l', d', r', cs', K', t6', e, I2, hl2⟩ := loop_ss hdd S hN hZ xs (l ++ [s]) _ _ cs1 K1 (some (.fr x)) (by simp; omega) I'
      refine ⟨l', d', r', cs', K', t6', ?_, I2, hl2⟩
      have tn : turnS (sem n) [some (.fr (.cel b)), some (.fr (.d (.list L))), some (.fr (.cel q)), some (.fr (.cel le)), some (.fr (.d (.int ((dd + 1 : Nat) : Int)))), some (.ow (.list l)), some (.fr x)] cs
          = .nx [some (.fr (.cel b)), some (.fr (.d (.list L))), some (.fr (.cel q)), some (.fr (.cel le)), some (.fr (.d (.int ((dd + 1 : Nat) : Int)))), some (.ow (.list (l ++ [s]))), some (.fr x)] cs1 := by
        generalize ((dd + 1 : Nat) : Int) = D at e1 ⊢
        have m := meth_ownC (i := 5) (f := eFz (oDef (sem n ._law_statement) [] (aCons (eVar 0) (aCons (eVar 1) (aCons (eVar 2) (aCons (eVar 3) (aCons (eVar 4) (aNil)))))))) (sl := [some (.fr (.cel b)), some (.fr (.d (.list L))), some (.fr (.cel q)), some (.fr (.cel le)), some (.fr (.d (.int D))), some (.ow (.list l)), some (.fr x)]) (cs := cs) (cs' := cs1) (ds := l) (v := s) rfl (by simp [e1]) (by omega)
        unfold turnS
        simp [i0, gtD, cT, hK, m]
      unfold forL
      simp only [ev_gNm, List.set_cons_succ, List.set_cons_zero]
      rw [tn]
      exact e
    · obtain ⟨l', d', r', cs', K', t6', e, I2, hl2⟩ := loop_ss hdd S hN hZ xs l d r cs K (some (.fr x)) (by omega) I
      refine ⟨l', d', r', cs', K', t6', ?_, I2, hl2⟩
      have tn : turnS (sem n) [some (.fr (.cel b)), some (.fr (.d (.list L))), some (.fr (.cel q)), some (.fr (.cel le)), some (.fr (.d (.int ((dd + 1 : Nat) : Int)))), some (.ow (.list l)), some (.fr x)] cs
          = .nx [some (.fr (.cel b)), some (.fr (.d (.list L))), some (.fr (.cel q)), some (.fr (.cel le)), some (.fr (.d (.int ((dd + 1 : Nat) : Int)))), some (.ow (.list l)), some (.fr x)] cs := by
        unfold turnS
        simp [i0, gtD, cT, hK]
      unfold forL
      simp only [ev_gNm, List.set_cons_succ, List.set_cons_zero]
      rw [tn]
      exact e
theorem seq_one {s : PyData} {d : Nat} {r : List PyData} (h : StOk ns true (.tuple [.str "seq", .tuple [s]]) [s] d r) : ∃ l, StOk ns false s l d r := by
  cases h with
  | cons h t =>
    cases t
    exact ⟨_, by simpa using h⟩
include hbq hbl hql in
theorem ss_of {dd : Nat} (S : StG ns L b q le dd) : SsG ns L b q le dd := by
  intro hdd N cs Z K hN B R Lf hZ hK
  have zb := zb_big
  obtain ⟨n, rfl, hn1⟩ := succ_of (show 2 * dd + 14 + 1 ≤ N by omega)
  obtain ⟨s1, l1, d1, r1, cs1, K1, e1, h1, hd1, hc1, hm1, hk1, B1, R1, Lf1, O1⟩ := S hdd n cs Z K hn1 B R Lf hZ hK
  obtain ⟨k, cs2, e2, k0, k1, B2, O2⟩ := takeN (m := 4) B1 (by omega) (by decide) (by decide) (show 1 ≤ n by omega)
  obtain ⟨kn, rfl⟩ : ∃ kn : Nat, k = (kn : Int) := ⟨k.toNat, by omega⟩
  have I : LInv ns b q le dd cs Z K [s1] d1 r1 cs2 K1 := by
    have st := StOk.cons h1 .nil
    simp only [Nat.max_zero, List.append_nil] at st
    exact ⟨st, by simp, hd1, hc1, hm1, hk1, B2.mono (by omega), R1.only O2 (by simp [Ne.symm hbq]), Lf1.only O2 (by simp [Ne.symm hbl]), O1.trans (O2.mono (by simp))⟩
  obtain ⟨l', d', r', cs', K', t6', e, I2, hl2⟩ := loop_ss hdd S hn1 hZ (rangeL 0 kn) [s1] d1 r1 cs2 K1 none (by rw [range_len]; simp; omega) I
  have fin : ∀ (s : PyData), lastS [some (.fr (.cel b)), some (.fr (.d (.list L))), some (.fr (.cel q)), some (.fr (.cel le)), some (.fr (.d (.int ((dd + 1 : Nat) : Int)))), some (.ow (.list l')), t6'] cs' = .rt (.fr (.d s)) cs' → sem (n + 1) ._law_statements [.cel b, .d (.list L), .cel q, .cel le, .d (.int ((dd + 1 : Nat) : Int))] cs = .ok (.fr (.d s)) cs' := fun s hs => by
    generalize ((dd + 1 : Nat) : Int) = D at e1 e hs ⊢
    rw [e__law_statements, stmts_split]
    have p1 : sSet 5 (oLst (aCons (eFz (oDef (sem n ._law_statement) [] (aCons (eVar 0) (aCons (eVar 1) (aCons (eVar 2) (aCons (eVar 3) (aCons (eVar 4) (aNil)))))))) (aNil))) [some (.fr (.cel b)), some (.fr (.d (.list L))), some (.fr (.cel q)), some (.fr (.cel le)), some (.fr (.d (.int D))), none, none] cs = .nx [some (.fr (.cel b)), some (.fr (.d (.list L))), some (.fr (.cel q)), some (.fr (.cel le)), some (.fr (.d (.int D))), some (.ow (.list [s1])), none] cs1 := by
      simp [e1]
    have p2 : pRange1 (bCons (eFz (oDef (sem n ._law_take) [] (aCons (eVar 0) (aCons (eC (.int 4)) (aNil))))) (aNil)) [some (.fr (.cel b)), some (.fr (.d (.list L))), some (.fr (.cel q)), some (.fr (.cel le)), some (.fr (.d (.int D))), some (.ow (.list [s1])), none] cs1 = .ok (rangeL 0 kn) cs2 := range_ev (n := kn) (by simp [e2]) (by omega)
    rw [ev_seq, p1, RS.seq_nx, ev_seq, ev_sFor, p2, DL.R.go_ok, e, RS.seq_nx, hs]
    rfl
  have st := I2.st
  have ln := I2.ln
  by_cases h1 : l'.length = 1
  · obtain ⟨s, rfl⟩ := List.length_eq_one_iff.mp h1
    obtain ⟨l, st⟩ := seq_one st
    exact ⟨false, s, l, d', r', cs', K', fin s last_one, st, (fun z => by cases z), I2.dp, I2.ct, I2.lo, I2.hi, I2.bg, I2.rm, I2.lf, I2.on⟩
  · exact ⟨true, _, l', d', r', cs', K', fin _ (last_many (by omega)), st, fun _ => by omega, I2.dp, I2.ct, I2.lo, I2.hi, I2.bg, I2.rm, I2.lf, I2.on⟩
end
end LW
end
section
set_option Elab.async false
set_option linter.all false
set_option maxRecDepth 100000
set_option autoImplicit false
namespace LW
open PySem PySem.Spec PyProof.Rows L2 DL
/-- the slots of a statement's generator behind way and name -/
abbrev slS (b : Nat) (L : List PyData) (q le : Nat) (D r : Int) (x : PySem.Str) : Sl := [some (.fr (.cel b)), some (.fr (.d (.list L))), some (.fr (.cel q)), some (.fr (.cel le)), some (.fr (.d (.int D))), some (.fr (.d (.int r))), some (.fr (.d (.str x))), none, none, none, none, none, none]
section
variable {ns : List PySem.Str} {L : List PyData} (hL : L = ns.map PyData.str) (hn : 0 < ns.length) (hn2 : ns.length ≤ 1000) {b q le : Nat} (hbq : b ≠ q) (hbl : b ≠ le) (hql : q ≠ le)
theorem way_eval {N : Nat} (hN : 1 ≤ N) {cs : Cs} {Z K D : Int} (hD : 1 ≤ D) (B : BagAt b cs Z) (hZ : Z < ZB) (Lf : LeftAt le cs K) :
    ∃ (r : Int) (cs' : Cs), wayS (sem N) [some (.fr (.cel b)), some (.fr (.d (.list L))), some (.fr (.cel q)), some (.fr (.cel le)), some (.fr (.d (.int D))), none, none, none, none, none, none, none, none] cs = .ok (.d (.int r)) cs' ∧ 0 ≤ r ∧ r < 11 ∧ (7 ≤ r → 1 < D ∧ 2 < K) ∧ BagAt b cs' (Z + 1) ∧ Only [b] cs cs' := by
  have i0 : ixD (.cel le) (.d (.int 0)) cs = .ok (.d (.int K)) cs := ev_ixC Lf ev_atI0 rfl
  by_cases h1 : 1 < D
  · by_cases h2 : 2 < K
    · obtain ⟨r, cs', e, r0, r1, B', O⟩ := takeN (m := 11) B hZ (by decide) (by decide) hN
      exact ⟨r, cs', by simp [wayS, gtD, cT, h1, i0, h2, e], r0, r1, fun _ => ⟨h1, h2⟩, B', O⟩
    · obtain ⟨r, cs', e, r0, r1, B', O⟩ := takeN (m := 7) B hZ (by decide) (by decide) hN
      exact ⟨r, cs', by simp [wayS, gtD, cT, h1, i0, h2, e], r0, by omega, fun z => by omega, B', O⟩
  · obtain ⟨r, cs', e, r0, r1, B', O⟩ := takeN (m := 7) B hZ (by decide) (by decide) hN
    exact ⟨r, cs', by simp [wayS, gtD, cT, h1, e], r0, by omega, fun z => by omega, B', O⟩
/-- the tail by the way drawn -/
theorem tail_seq {p : SS} {sl : Sl} {cs : Cs} {rest : SS} {s : DL.Slot} {cs' : Cs} (h : p sl cs = .rt s cs') : (p sl cs).seq rest = .rt s cs' := by rw [h]; rfl
theorem tail_0 {G : Fn → FS} {D : Int} {x : PySem.Str} {cs : Cs} : tailS G (slS b L q le D 0 x) cs = .rt (.fr (.d (.tuple [.str "skip"]))) cs := by
  simp [tailS, slS, -ev_eqD]
theorem tail_1 {G : Fn → FS} {D r : Int} {x : PySem.Str} {cs cs' : Cs} {e : PyData} (h0 : 0 < r) (h1 : r < 3) (h : G ._law_expression [.cel b, .d (.list L), .d (.int 3), .cel q] cs = .ok (.fr (.d e)) cs') : tailS G (slS b L q le D r x) cs = .rt (.fr (.d (.tuple [.str "set", .str x, e]))) cs' := by
  have hr : (r == 0) = false := by simp; omega
  simp [tailS, slS, -ev_eqD, hr, ltD, cT, h1, h]
theorem tail_3 {G : Fn → FS} {D r : Int} {x : PySem.Str} {cs cs' : Cs} {s : DL.Slot} (h0 : 3 ≤ r) (h1 : r < 5) (h : drawS G (slS b L q le D r x) cs = .rt s cs') : tailS G (slS b L q le D r x) cs = .rt s cs' := by
  have hr : (r == 0) = false := by simp; omega
  have h3 : ¬ r < 3 := by omega
  simp only [slS] at h
  simp [tailS, slS, -ev_eqD, hr, ltD, cT, h1, h3, h]
theorem tail_5 {G : Fn → FS} {D : Int} {x : PySem.Str} {cs cs' : Cs} {s : DL.Slot} (h : chooseS G (slS b L q le D 5 x) cs = .rt s cs') : tailS G (slS b L q le D 5 x) cs = .rt s cs' := by
  simp only [slS] at h
  simp [tailS, slS, -ev_eqD, ltD, cT, h]
theorem tail_6 {G : Fn → FS} {D : Int} {x : PySem.Str} {cs cs' : Cs} {c : PyData} (h : G ._law_condition [.cel b, .d (.list L), .d (.int 4), .cel q] cs = .ok (.fr (.d c)) cs') : tailS G (slS b L q le D 6 x) cs = .rt (.fr (.d (.tuple [.str "see", c]))) cs' := by
  simp [tailS, slS, -ev_eqD, ltD, cT, h]
theorem tail_7 {G : Fn → FS} {D r : Int} {x : PySem.Str} {cs cs' : Cs} {s : DL.Slot} (h0 : 7 ≤ r) (h : compS G (slS b L q le D r x) cs = .rt s cs') : tailS G (slS b L q le D r x) cs = .rt s cs' := by
  have hr : (r == 0) = false := by simp; omega
  have hr5 : (r == 5) = false := by simp; omega
  have hr6 : (r == 6) = false := by simp; omega
  have h3 : ¬ r < 3 := by omega
  have h5 : ¬ r < 5 := by omega
  simp only [slS] at h
  simp [tailS, slS, -ev_eqD, hr, hr5, hr6, ltD, cT, h3, h5, h]
theorem comp_whl {G : Fn → FS} {D D' : Int} {x : PySem.Str} {cs c1 c2 : Cs} {c s : PyData} (hD : D - 1 = D') (h1 : G ._law_condition [.cel b, .d (.list L), .d (.int 4), .cel q] cs = .ok (.fr (.d c)) c1) (h2 : G ._law_statements [.cel b, .d (.list L), .cel q, .cel le, .d (.int D')] c1 = .ok (.fr (.d s)) c2) :
    compS G (slS b L q le D 7 x) cs = .rt (.fr (.d (.tuple [.str "while", c, s]))) c2 := by
  simp [compS, slS, -ev_eqD, subD, cT, hD, h1, h2]
theorem comp_ite {G : Fn → FS} {D D' r : Int} {x : PySem.Str} {cs c1 c2 c3 : Cs} {c s t : PyData} (hr : 8 ≤ r) (hD : D - 1 = D') (h1 : G ._law_condition [.cel b, .d (.list L), .d (.int 4), .cel q] cs = .ok (.fr (.d c)) c1) (h2 : G ._law_statements [.cel b, .d (.list L), .cel q, .cel le, .d (.int D')] c1 = .ok (.fr (.d s)) c2)
    (h3 : G ._law_statements [.cel b, .d (.list L), .cel q, .cel le, .d (.int D')] c2 = .ok (.fr (.d t)) c3) : compS G (slS b L q le D r x) cs = .rt (.fr (.d (.tuple [.str "if", c, s, t]))) c3 := by
  have hr7 : (r == 7) = false := by simp; omega
  simp [compS, slS, -ev_eqD, hr7, subD, cT, hD, h1, h2, h3]
include hL hn hn2 hbq hbl hql in
theorem st_of {dd : Nat} (S : dd ≠ 0 → SsG ns L b q le (dd - 1)) : StG ns L b q le dd := by
  intro hdd N cs Z K hN B R Lf hZ hK
  have zb := zb_big
  obtain ⟨n, rfl, hn1⟩ := succ_of (show 2 * dd + 13 + 1 ≤ N by omega)
  have pt := room_put (sl := [some (.fr (.cel b)), some (.fr (.d (.list L))), some (.fr (.cel q)), some (.fr (.cel le)), some (.fr (.d (.int ((dd + 1 : Nat) : Int)))), none, none, none, none, none, none, none, none]) Lf rfl
  have O0 : Only [le] cs (cs.set le (.lst [.d (.int (K - 1))])) := Only.set
  have Lf1 : LeftAt le (cs.set le (.lst [.d (.int (K - 1))])) (K - 1) := List.getElem?_set_self (List.getElem?_eq_some_iff.mp Lf).1
  have B0 := B.only O0 (by simp [hbl])
  have R0 := R.only O0 (by simp [hql])
  generalize cs.set le (.lst [.d (.int (K - 1))]) = cs0 at pt O0 Lf1 B0 R0
  obtain ⟨r, cs1, e1, r0, r1, rc, B1, O1⟩ := way_eval (L := L) (q := q) (N := n) (by omega) (D := ((dd + 1 : Nat) : Int)) (by omega) B0 (by omega) Lf1
  have hl : L.length = ns.length := by rw [hL, List.length_map]
  obtain ⟨x, cs2, e2, hx, B2, O2⟩ := pickN (xs := L) B1 (by omega) (by omega) (by omega) (show 2 ≤ n by omega)
  rw [hL] at hx
  obtain ⟨x, hxm, rfl⟩ := List.mem_map.mp hx
  have O12 : Only [b] cs0 cs2 := O1.trans O2
  have R2 := R0.only O12 (by simp [Ne.symm hbq])
  have Lf2 := Lf1.only O12 (by simp [Ne.symm hbl])
  have O02 : Only [b, q, le] cs cs2 := (O0.mono (by simp)).trans (O12.mono (by simp))
  have fin : ∀ (s : PyData) (cs' : Cs), tailS (sem n) (slS b L q le ((dd + 1 : Nat) : Int) r x) cs2 = .rt (.fr (.d s)) cs' → sem (n + 1) ._law_statement [.cel b, .d (.list L), .cel q, .cel le, .d (.int ((dd + 1 : Nat) : Int))] cs = .ok (.fr (.d s)) cs' := fun s cs' T => by
    generalize ((dd + 1 : Nat) : Int) = D at pt e1 T ⊢
    rw [e__law_statement, stmt_split, ev_seq, pt, RS.seq_nx, ev_seq, ev_set, ev_oFr, e1]
    simp only [DL.R.bind_ok, ev_solid, if_true, DL.R.go_ok, RS.seq_nx, List.set_cons_succ, List.set_cons_zero]
    have p2 : sSet 6 (oFr (eFz (oDef (sem n ._law_pick) [] (aCons (eVar 0) (aCons (eVar 1) (aNil)))))) [some (.fr (.cel b)), some (.fr (.d (.list L))), some (.fr (.cel q)), some (.fr (.cel le)), some (.fr (.d (.int D))), some (.fr (.d (.int r))), none, none, none, none, none, none, none] cs1 = .nx (slS b L q le D r x) cs2 := by
      simp [e2]
    rw [ev_seq, p2, RS.seq_nx, T]
    rfl
  -- a leaf
  have leaf : ∀ (s : PyData) (cs' : Cs), tailS (sem n) (slS b L q le ((dd + 1 : Nat) : Int) r x) cs2 = .rt (.fr (.d s)) cs' → Leaf ns s → BagAt b cs' (Z + 2 + 500) → RoomAt q cs' → Only [b, q] cs2 cs' →
      ∃ (s : PyData) (l : List PyData) (d : Nat) (r : List PyData) (cs' : Cs) (K' : Int), sem (n + 1) ._law_statement [.cel b, .d (.list L), .cel q, .cel le, .d (.int ((dd + 1 : Nat) : Int))] cs = .ok (.fr (.d s)) cs' ∧ StOk ns false s l d r ∧ d ≤ dd + 1 ∧ (cnt r : Int) = K - K' ∧
        min (K - 1) (-dd) ≤ K' ∧ K' ≤ K - 1 ∧ BagAt b cs' (Z + 3000 * (K - K') - 1) ∧ RoomAt q cs' ∧ LeftAt le cs' K' ∧ Only [b, q, le] cs cs' := fun s cs' T lf B R O => by
    have h := StOk.leaf lf
    have := h.rlen
    simp only [List.length_singleton] at this
    have c1 : cnt [s] ≤ 1 := by
      have := List.length_filter_le nsq [s]
      simpa [cnt] using this
    refine ⟨s, [], 1, [s], cs', K - 1, fin s cs' T, h, by omega, by omega, by omega, by omega, B.mono (by omega), R, Lf2.only O (by simp [Ne.symm hbl, Ne.symm hql]), O02.trans (O.mono (by simp))⟩
  by_cases h0 : r = 0
  · subst h0
    exact leaf _ cs2 tail_0 .skip (B2.mono (by omega)) R2 (Only.refl _ _)
  by_cases h3 : r < 3
  · have h63 : cE (2 + 1) = 63 := by decide
    obtain ⟨e, cs3, e3, a1, a2, B3, R3, O3⟩ := exprN hL hn hn2 hbq 2 B2 R2 (by omega) (show 2 + 4 ≤ n by omega)
    exact leaf _ cs3 (tail_1 (by omega) h3 e3) (.set hxm a1 (by omega)) (B3.mono (by omega)) R3 O3
  by_cases h5 : r < 5
  · obtain ⟨s, cs3, e3, lf, B3, R3, O3⟩ := draw_eval hL hn hn2 hbq (N := n) (by omega) hxm (.fr (.cel le)) (.fr (.d (.int ((dd + 1 : Nat) : Int)))) (.fr (.d (.int r))) B2 R2 (by omega)
    exact leaf s cs3 (tail_3 (by omega) h5 e3) lf (B3.mono (by omega)) R3 O3
  by_cases h5' : r = 5
  · subst h5'
    obtain ⟨s, cs3, e3, lf, B3, R3, O3⟩ := choose_eval hL hn hn2 hbq (N := n) (by omega) hxm (.fr (.cel le)) (.fr (.d (.int ((dd + 1 : Nat) : Int)))) (.fr (.d (.int 5))) B2 R2 (by omega)
    exact leaf s cs3 (tail_5 e3) lf (B3.mono (by omega)) R3 O3
  have h1023 : cC 2 = 1023 := by decide
  obtain ⟨c, cs3, e3, a1, a2, B3, R3, O3⟩ := condN hL hn hn2 hbq 2 B2 R2 (by omega) (show 2 + 8 ≤ n by omega)
  have Lf3 := Lf2.only O3 (by simp [Ne.symm hbl, Ne.symm hql])
  have O03 : Only [b, q, le] cs cs3 := O02.trans (O3.mono (by simp))
  by_cases h6 : r = 6
  · subst h6
    have h := StOk.leaf (Leaf.see a1 (show c.dep ≤ 10 by omega))
    have hrl := h.rlen
    simp only [List.length_singleton] at hrl
    have c1 : cnt [PyData.tuple [.str "see", c.toD]] ≤ 1 := by
      have := List.length_filter_le nsq [PyData.tuple [.str "see", c.toD]]
      simpa [cnt] using this
    exact ⟨_, [], 1, _, cs3, K - 1, fin _ cs3 (tail_6 e3), h, by omega, by omega, by omega, by omega, B3.mono (by omega), R3, Lf3, O03⟩
  obtain ⟨hD, hK2⟩ := rc (by omega)
  have hd0 : dd ≠ 0 := fun z => by subst z; simp at hD
  obtain ⟨m, rfl⟩ : ∃ m, dd = m + 1 := ⟨dd - 1, by omega⟩
  have S' := S hd0
  rw [Nat.add_sub_cancel] at S'
  have hDD : ((m + 1 + 1 : Nat) : Int) - 1 = ((m + 1 : Nat) : Int) := by omega
  obtain ⟨bb, s, l, d, rr, cs4, K4, e4, h4, ok4, hd4, hc4, hm4, hk4, B4, R4, Lf4, O4⟩ := S' (by omega) n cs3 _ (K - 1) (by omega) B3 R3 Lf3 (by omega) (by omega)
  by_cases h7 : r = 7
  · subst h7
    have hw := StOk.whl a1 (show c.dep ≤ 10 by omega) h4 ok4
    have hq : nsq (.tuple [.str "while", c.toD, s]) = true := by show (!(("while" : PySem.Str) == "seq")) = true; decide +kernel
    have hct : cnt (.tuple [.str "while", c.toD, s] :: full bb s rr) = 1 + cnt rr := by rw [← cnt_full h4]; simp [cnt, hq]; omega
    exact ⟨_, [], _, _, cs4, K4, fin _ cs4 (tail_7 (by omega) (comp_whl hDD e3 e4)), hw, by omega, by omega, by omega, by omega, B4.mono (by omega), R4, Lf4, O03.trans O4⟩
  · obtain ⟨bb', s', l', d', rr', cs5, K5, e5, h5, ok5, hd5, hc5, hm5, hk5, B5, R5, Lf5, O5⟩ := S' (by omega) n cs4 _ K4 (by omega) B4 R4 Lf4 (by omega) (by omega)
    have hw := StOk.ite a1 (show c.dep ≤ 10 by omega) h4 ok4 h5 ok5
    have hq : nsq (.tuple [.str "if", c.toD, s, s']) = true := by show (!(("if" : PySem.Str) == "seq")) = true; decide +kernel
    have hct : cnt (.tuple [.str "if", c.toD, s, s'] :: (full bb s rr ++ full bb' s' rr')) = 1 + cnt rr + cnt rr' := by
      rw [← cnt_full h4, ← cnt_full h5, Nat.add_assoc, ← cnt_app]
      simp [cnt, hq]
      omega
    exact ⟨_, [], _, _, cs5, K5, fin _ cs5 (tail_7 (by omega) (comp_ite (by omega) hDD e3 e4 e5)), hw, by omega, by omega, by omega, by omega, B5.mono (by omega), R5, Lf5, O03.trans (O4.trans O5)⟩
include hL hn hn2 hbq hbl hql in
theorem st_gen : ∀ dd, StG ns L b q le dd
  | 0 => st_of hL hn hn2 hbq hbl hql fun z => absurd rfl z
  | dd + 1 => st_of hL hn hn2 hbq hbl hql fun _ => ss_of hbq hbl hql (st_gen dd)
include hL hn hn2 hbq hbl hql in
theorem ss_gen (dd : Nat) : SsG ns L b q le dd := ss_of hbq hbl hql (st_gen hL hn hn2 hbq hbl hql dd)
end
end LW
end
section
set_option Elab.async false
set_option linter.all false
set_option maxRecDepth 100000
set_option autoImplicit false
namespace LW
open PySem PySem.Spec PyProof.Rows L2 DL
/-! ### data that == can compare -/
theorem eqvRefl (d : PyData) (h : d.canLay0 = true) : PyData.eqv d d = true := by first | exact PySem.PyData.eqv_refl d h | exact PySem.SeqAt.eqv_refl d h | exact PySem.eqv_refl d h | exact PyProof.Rows.eqv_refl d h | exact eqv_refl d h
structure Fit (x : PyData) (k : Nat) : Prop where
  lay : x.canLay0 = true
  dp : x.depth ≤ k
structure FitL (xs : List PyData) (k : Nat) : Prop where
  lay : PyData.canLayAll0 xs = true
  dp : PyData.depthAll xs ≤ k
theorem Fit.mono {x : PyData} {j k : Nat} (h : Fit x j) (q : j ≤ k) : Fit x k := ⟨h.lay, Nat.le_trans h.dp q⟩
theorem FitL.nil {k : Nat} : FitL [] k := ⟨rfl, Nat.zero_le _⟩
theorem FitL.cons {x : PyData} {xs : List PyData} {k : Nat} (h : Fit x k) (t : FitL xs k) : FitL (x :: xs) k := ⟨by simp [PyData.canLayAll0, h.lay, t.lay], by simp only [PyData.depthAll]; exact Nat.max_le.mpr ⟨h.dp, t.dp⟩⟩
theorem FitL.app {xs ys : List PyData} {k : Nat} (h : FitL xs k) (t : FitL ys k) : FitL (xs ++ ys) k := by
  induction xs with
  | nil => exact t
  | cons x xs ih =>
    obtain ⟨l, d⟩ := h
    simp only [PyData.canLayAll0, Bool.and_eq_true] at l
    simp only [PyData.depthAll] at d
    exact FitL.cons ⟨l.1, Nat.le_trans (Nat.le_max_left _ _) d⟩ (ih ⟨l.2, Nat.le_trans (Nat.le_max_right _ _) d⟩)
theorem FitL.map {α : Type} {f : α → PyData} {k : Nat} : ∀ {l : List α}, (∀ a ∈ l, Fit (f a) k) → FitL (l.map f) k
  | [], _ => FitL.nil
  | a :: l, h => FitL.cons (h a (by simp)) (FitL.map fun b hb => h b (by simp [hb]))
theorem FitL.tup {xs : List PyData} {k : Nat} (h : FitL xs k) : Fit (.tuple xs) (k + 1) := ⟨by simp only [PyData.canLay0]; exact h.lay, by simp only [PyData.depth]; exact Nat.succ_le_succ h.dp⟩
theorem FitL.lst {xs : List PyData} {k : Nat} (h : FitL xs k) : Fit (.list xs) (k + 1) := ⟨by simp only [PyData.canLay0]; exact h.lay, by simp only [PyData.depth]; exact Nat.succ_le_succ h.dp⟩
theorem Fit.int {i : Int} {k : Nat} : Fit (.int i) k := ⟨rfl, Nat.zero_le _⟩
theorem Fit.str {x : PySem.Str} {k : Nat} (h : PyData.strOk x = true) : Fit (.str x) k := ⟨h, Nat.zero_le _⟩
theorem fit_eqOk {x y : PyData} {k : Nat} (hx : Fit x k) (hy : y.canLay0 = true) (hk : k ≤ 150) : eqOk x y = true := by
  unfold eqOk
  simp only [hx.lay, hy, Bool.and_eq_true, decide_eq_true_eq, true_and]
  have := hx.dp
  omega
theorem ne_self {x : PyData} {k : Nat} (hx : Fit x k) (hk : k ≤ 150) : neD x x = some (.bool false) := by
  unfold neD
  rw [if_pos (fit_eqOk hx hx.lay hk), eqvRefl x hx.lay]
  rfl
theorem eq_self {x : PyData} {k : Nat} (hx : Fit x k) (hk : k ≤ 150) : eqD x x = some (.bool true) := by
  unfold eqD
  rw [if_pos (fit_eqOk hx hx.lay hk), eqvRefl x hx.lay]
theorem ne_of {x y : PyData} {k : Nat} (hx : Fit x k) (hy : y.canLay0 = true) (hk : k ≤ 150) : neD x y = some (.bool (!PyData.eqv x y)) := by
  unfold neD
  rw [if_pos (fit_eqOk hx hy hk)]
/-! the words -/
theorem w_ok : ∀ w ∈ (["skip", "set", "draw", "choose", "see", "if", "while", "seq", "num", "var", "add", "less by", "times", "least", "most", "true", "not", "is", "below", "and", "or", "program", "condition", "alike", "qq", "zz", "Z"] : List PySem.Str), PyData.strOk w = true := by decide +kernel
section
variable {ns : List PySem.Str} (so : ∀ x ∈ ns, PyData.strOk x = true)
include so
theorem Ex5.fit : ∀ {e : Ex5}, e.ok ns → Fit e.toD (e.dep + 1)
  | .num i, _ => FitL.tup (FitL.cons (Fit.str (w_ok _ (by simp))) (FitL.cons Fit.int FitL.nil))
  | .var x, h => FitL.tup (FitL.cons (Fit.str (w_ok _ (by simp))) (FitL.cons (Fit.str (so x h)) FitL.nil))
  | .op w a b, h => by
    have wo : PyData.strOk w.word = true := by cases w <;> exact w_ok _ (by simp [Op5.word])
    refine FitL.tup (FitL.cons (Fit.str wo) (FitL.cons ((Ex5.fit h.1).mono ?_) (FitL.cons ((Ex5.fit h.2).mono ?_) FitL.nil))) <;> simp only [Ex5.dep] <;> omega
theorem Cn5.fit : ∀ {c : Cn5}, c.ok ns → Fit c.toD (c.dep + 1)
  | .tru, _ => ⟨by decide +kernel, by decide +kernel⟩
  | .cmp lt a b, h => by
    have wo : PyData.strOk (cw lt) = true := by cases lt <;> exact w_ok _ (by simp [cw])
    refine FitL.tup (FitL.cons (Fit.str wo) (FitL.cons ((Ex5.fit so h.1).mono ?_) (FitL.cons ((Ex5.fit so h.2).mono ?_) FitL.nil))) <;> simp only [Cn5.dep] <;> omega
  | .neg c, h => by
    have ih : Fit c.toD (c.dep + 1) := Cn5.fit h
    exact FitL.tup (k := c.dep + 1) (FitL.cons (Fit.str (w_ok _ (by simp))) (FitL.cons ih FitL.nil))
  | .bin an a b, h => by
    have wo : PyData.strOk (bw an) = true := by cases an <;> exact w_ok _ (by simp [bw])
    refine FitL.tup (FitL.cons (Fit.str wo) (FitL.cons ((Cn5.fit h.1).mono ?_) (FitL.cons ((Cn5.fit h.2).mono ?_) FitL.nil))) <;> simp only [Cn5.dep] <;> omega
theorem Leaf.fit {s : PyData} (h : Leaf ns s) : Fit s 20 := by
  cases h with
  | skip => exact ⟨by decide +kernel, by decide +kernel⟩
  | set hx he hd => exact FitL.tup (FitL.cons (Fit.str (w_ok _ (by simp))) (FitL.cons (Fit.str (so _ hx)) (FitL.cons ((Ex5.fit so he).mono (by omega)) FitL.nil)))
  | draw hx h1 h6 hp =>
    exact FitL.tup (FitL.cons (Fit.str (w_ok _ (by simp))) (FitL.cons (Fit.str (so _ hx)) (FitL.cons (FitL.tup (k := 18) (FitL.map fun p hp' => FitL.tup (k := 17) (FitL.cons ((Ex5.fit so (hp p hp').1).mono (by have := (hp p hp').2.1; omega)) (FitL.cons Fit.int FitL.nil)))) FitL.nil)))
  | choose hx h1 h6 hp =>
    exact FitL.tup (FitL.cons (Fit.str (w_ok _ (by simp))) (FitL.cons (Fit.str (so _ hx)) (FitL.cons (FitL.tup (k := 18) (FitL.map fun p hp' => (Ex5.fit so (hp p hp').1).mono (by have := (hp p hp').2; omega))) FitL.nil)))
  | see hc hd => exact FitL.tup (FitL.cons (Fit.str (w_ok _ (by simp))) (FitL.cons ((Cn5.fit so hc).mono (by omega)) FitL.nil))
theorem StOk.fit {b : Bool} {s : PyData} {l : List PyData} {d : Nat} {r : List PyData} (h : StOk ns b s l d r) : (b = false → Fit s (3 * d + 20)) ∧ FitL l (3 * d + 20) ∧ Fit s (3 * d + 22) := by
  have up : ∀ {s : PyData} {l : List PyData} {d : Nat}, Fit s (3 * d + 20) → (false = false → Fit s (3 * d + 20)) ∧ FitL [] (3 * d + 20) ∧ Fit s (3 * d + 22) := fun h => ⟨fun _ => h, FitL.nil, h.mono (by omega)⟩
  induction h with
  | leaf h => exact up (l := []) ((h.fit so).mono (by omega))
  | @whl b c s l d r hc hd h ok ih =>
    refine up (l := []) ?_
    rw [show 3 * (d + 1) + 20 = 3 * d + 22 + 1 by omega]
    exact FitL.tup (FitL.cons (Fit.str (w_ok _ (by simp))) (FitL.cons ((Cn5.fit so hc).mono (by omega)) (FitL.cons ih.2.2 FitL.nil)))
  | @ite b b' c s t l l' d e r r' hc hd h ok h' ok' ih ih' =>
    refine up (l := []) ?_
    rw [show 3 * (max d e + 1) + 20 = 3 * max d e + 22 + 1 by omega]
    exact FitL.tup (FitL.cons (Fit.str (w_ok _ (by simp))) (FitL.cons ((Cn5.fit so hc).mono (by omega)) (FitL.cons (ih.2.2.mono (by omega)) (FitL.cons (ih'.2.2.mono (by omega)) FitL.nil))))
  | nil => exact ⟨(fun z => by cases z), FitL.nil, ⟨by decide +kernel, by decide +kernel⟩⟩
  | @cons s l l' d e r r' h t ih ih' =>
    have fl : FitL (s :: l) (3 * max d e + 20) := FitL.cons ((ih.1 rfl).mono (by omega)) ⟨ih'.2.1.lay, Nat.le_trans ih'.2.1.dp (by omega)⟩
    exact ⟨(fun z => by cases z), fl, FitL.tup (k := 3 * max d e + 21) (FitL.cons (Fit.str (w_ok _ (by simp))) (FitL.cons fl.tup FitL.nil))⟩
end
end LW
end
section
set_option Elab.async false
set_option linter.all false
set_option maxRecDepth 100000
set_option autoImplicit false
namespace LW
open PySem PySem.Spec PyProof.Rows L2 DL
def progD (p : List (PySem.Str × Int)) (s : PyData) : PyData := .tuple [planD p, s]
def exc (w : PySem.Str) (cs : Cs) : R DL.Slot := .ex ⟨w, []⟩ cs
/-- a program of the variables p: its statement, how deep, how many -/
structure Prg (p : List (PySem.Str × Int)) (b : Bool) (s : PyData) (l : List PyData) (d : Nat) (r : List PyData) : Prop where
  P : PlanOk p
  S : StOk (p.map (·.1)) b s l d r
  ok : b = true → 2 ≤ l.length
  len : r.length ≤ 900
def okB (d : Nat) (r : List PyData) : Bool := decide (d ≤ 12) && decide (cnt r ≤ 60)
section
variable {p : List (PySem.Str × Int)} {b : Bool} {s : PyData} {l : List PyData} {d : Nat} {r : List PyData}
theorem needp {N : Nat} (G : Prg p b s l d r) (hN : 3 * d + 28 ≤ N) (cs : Cs) : sem N .need_program [.d (progD p s)] cs = if okB d r = true then nul cs else exc "BadProgram" cs := by
  obtain ⟨n, rfl, hn⟩ := succ_of (show 3 * d + 27 + 1 ≤ N by omega)
  have a : sem n .is_right [.d (progD p s)] cs = yes (okB d r) cs := is_right_ok G.P G.S G.ok G.len n cs hn
  rw [e_need_program]
  cases h : okB d r <;> simp [s_need_program, a, h, sRaise, exc]
theorem whole_ev {N : Nat} (G : Prg p b s l d r) (hN : 3 * d + 29 ≤ N) (cs : Cs) : sem N .whole [.d (planD p), .d s] cs = if okB d r = true then .ok (.fr (.d (progD p s))) cs else exc "BadProgram" cs := by
  obtain ⟨n, rfl, hn⟩ := succ_of (show 3 * d + 28 + 1 ≤ N by omega)
  have a := needp G hn cs
  unfold progD at a
  rw [e_whole]
  cases h : okB d r <;> simp [s_whole, a, h, exc, progD]
end
/-! ### conditions -/
theorem needc {ns : List PySem.Str} (hn : ∀ x ∈ ns, NameOk x) {c : Cn5} (h : c.ok ns) (hd : c.dep ≤ 10) {N : Nat} (hN : 14 ≤ N) (cs : Cs) : sem N .need_condition [.d c.toD] cs = nul cs := by
  obtain ⟨n, rfl, hn1⟩ := succ_of (show 13 + 1 ≤ N by omega)
  rw [e_need_condition]
  simp [s_need_condition, isc hn h hd hn1 cs]
theorem not_places {p : List (PySem.Str × Int)} {x : PySem.Str} (h : x ∉ p.map (·.1)) : inD (.str x) (.dict (plK p 0)) = some (.bool false) := by
  have e : ∀ (p : List (PySem.Str × Int)) (k : Nat), x ∉ p.map (·.1) → dFind (plK p k) (.inr x) = none := by
    intro p
    induction p with
    | nil => intro k _; rfl
    | cons a p ih =>
      intro k hx
      simp only [List.map_cons, List.mem_cons, not_or] at hx
      unfold plK dFind
      have : DL.keyOf (.str a.1) ≠ some (.inr x) := fun z => hx.1 (by
        have : some (Sum.inr (α := Int) a.1) = some (.inr x) := z
        injection this with this
        injection this with this
        exact this.symm)
      rw [if_neg this]
      exact ih _ hx.2
  have k : kAll (plK p 0) = true := by
    cases p with
    | nil => rfl
    | cons a r => rfl
  show (none : Option PyData).or ((none : Option PyData).or (inKD _ _)) = _
  unfold inKD dictK
  simp [DL.keyOf, k, e p 0 h]
/-- the names of a condition stand among the variables, or not -/
theorem needco {p : List (PySem.Str × Int)} (P : PlanOk p) {c : Cn5} (h : c.ok (p.map (·.1))) (hd : c.dep ≤ 10) {N : Nat} (hN : 12 ≤ N) (cs : Cs) : sem N .need_condition_of [.d (planD p), .d c.toD] cs = nul cs := by
  obtain ⟨n, rfl, hn1⟩ := succ_of (show 11 + 1 ≤ N by omega)
  have a4 := places_ok (n - 1) p cs P
  rw [show n - 1 + 1 = n by omega] at a4
  obtain ⟨o, ee, fo⟩ := cnames hd (N := n) (by omega) cs
  have vl := cvars_len hd
  have mem := Cn5.vars_ok c h
  generalize c.vars = L at fo vl mem
  have lc : ∀ t u, lcL (gNm 3) tTrue (eOp inD (eVar 3) (eVar 2)) (blkSl [t, u, some (.fr (.d (.dict (plK p 0)))), none] [3]) ((L.map PyData.str).map Val.d) cs = .ok (List.replicate ((L.map PyData.str).map Val.d).length (.bool true)) cs := fun t u => by
    refine lcL_true fun x hx => ?_
    simp only [List.mem_map] at hx
    obtain ⟨_, ⟨y, hy, rfl⟩, rfl⟩ := hx
    refine ⟨_, rfl, rfl, ?_⟩
    simp [blkSl, wipeS, unOwn, in_places (mem y hy)]
  have hl2 : L.length ≤ 16777216 := by omega
  rw [e_need_condition_of]
  rw [List.map_map] at lc
  simp only [Function.comp_def] at lc
  simp [s_need_condition_of, a4, ee, fo, oLc, lc, hl2, List.map_map, Function.comp_def]
/-- the two bad conditions -/
def bad1 : PyData := .tuple [.str "is", .tuple [.str "var", .str "zz"], .tuple [.str "num", .int 0]]
def bad2 : PyData := .tuple [.str "not", .tuple [.str "below", .tuple [.str "num", .int 1], .tuple [.str "var", .str "Z"]]]
theorem zz_pool : ("zz" : PySem.Str) ∉ pool := by decide +kernel
theorem qq_pool : ("qq" : PySem.Str) ∉ pool := by decide +kernel
theorem name_zz : NameOk "zz" := fun n cs => by kernel_rfl
theorem name_qq : NameOk "qq" := fun n cs => by kernel_rfl
theorem bad1_form {N : Nat} (hN : 14 ≤ N) (cs : Cs) : sem N .need_condition [.d bad1] cs = nul cs :=
  needc (ns := ["zz"]) (fun x hx => by simp at hx; subst hx; exact name_zz) (c := .cmp false (.var "zz") (.num 0)) (by simp [Cn5.ok, Ex5.ok]) (by decide) hN cs
theorem bad1_of {p : List (PySem.Str × Int)} (P : PlanOk p) (hp : ∀ x ∈ p.map (·.1), x ∈ pool) {N : Nat} (hN : 12 ≤ N) (cs : Cs) : sem N .need_condition_of [.d (planD p), .d bad1] cs = exc "BadCondition" cs := by
  obtain ⟨n, rfl, hn1⟩ := succ_of (show 11 + 1 ≤ N by omega)
  have a4 := places_ok (n - 1) p cs P
  rw [show n - 1 + 1 = n by omega] at a4
  obtain ⟨o, ee, fo⟩ := cnames (c := .cmp false (.var "zz") (.num 0)) (by decide) (N := n) (by omega) cs
  have ee : sem n .condition_names [.d bad1] cs = .ok o cs := ee
  have fo : fz o = .d (.list [.str "zz"]) := fo
  have z := not_places (fun h => zz_pool (hp _ h))
  rw [e_need_condition_of]
  simp [s_need_condition_of, a4, ee, fo, oLc, lcL, blkSl, wipeS, unOwn, z, noEx, DL.allB, blsL, seqL, blsOf, sRaise, exc]
theorem bad2_form {N : Nat} (hN : 14 ≤ N) (cs : Cs) : sem N .need_condition [.d bad2] cs = exc "BadCondition" cs := by
  obtain ⟨n, rfl⟩ : ∃ n, N = n + 14 := ⟨N - 14, by omega⟩
  kernel_rfl
/-! ### two programs -/
theorem needa {x y : PyData} {s t : PyData} {v : Bool} (h : neD x y = some (.bool v)) {N : Nat} (hN : 1 ≤ N) (cs : Cs) : sem N .need_alike [.d (.tuple [x, s]), .d (.tuple [y, t])] cs = if v = true then exc "NotAlike" cs else nul cs := by
  obtain ⟨n, rfl, hn1⟩ := succ_of (show 0 + 1 ≤ N by omega)
  rw [e_need_alike]
  cases v <;> simp [s_need_alike, h, -ev_neD, sRaise, exc]
def partL (b : Bool) (s : PyData) (l : List PyData) : List PyData := if b then l else [s]
theorem partsN {ns : List PySem.Str} {b : Bool} {s : PyData} {l : List PyData} {d : Nat} {r : List PyData} (h : StOk ns b s l d r) {N : Nat} (hN : 1 ≤ N) (cs : Cs) : sem N .parts_of [.d s] cs = .ok (.fr (.d (.tuple (partL b s l)))) cs ∧ sem N ._law_parts [.d s] cs = .ok (.fr (.d (.tuple (partL b s l)))) cs := by
  obtain ⟨n, rfl, hn1⟩ := succ_of (show 0 + 1 ≤ N by omega)
  cases b with
  | false =>
    obtain ⟨w, rest, rfl, q1, q2⟩ := (h.noseq rfl).ex
    rw [e_parts_of, e__law_parts]
    simp [s_parts_of, s__law_parts, q1, -ev_eqD, partL]
  | true =>
    rw [h.seq_eq rfl, e_parts_of, e__law_parts]
    simp [s_parts_of, s__law_parts, -ev_eqD, partL]
theorem add_tups {a b : List PyData} (h : a.length + b.length ≤ 16777216) : addD (.tuple a) (.tuple b) = some (.tuple (a ++ b)) := by
  unfold addD gI gAddS gAddT
  simp [h]
theorem StOk.app {ns : List PySem.Str} : ∀ {l l' : List PyData} {d e : Nat} {r r' : List PyData}, StOk ns true (.tuple [.str "seq", .tuple l]) l d r → StOk ns true (.tuple [.str "seq", .tuple l']) l' e r' →
    StOk ns true (.tuple [.str "seq", .tuple (l ++ l')]) (l ++ l') (max d e) (r ++ r')
  | [], l', d, e, r, r', h, t => by
    cases h
    simpa using t
  | x :: l, l', d, e, r, r', h, t => by
    cases h with
    | cons h1 h2 =>
      have := StOk.cons h1 (StOk.app h2 t)
      rw [List.cons_append, List.append_assoc, Nat.max_assoc]
      exact this
theorem StOk.part {ns : List PySem.Str} {b : Bool} {s : PyData} {l : List PyData} {d : Nat} {r : List PyData} (h : StOk ns b s l d r) : StOk ns true (.tuple [.str "seq", .tuple (partL b s l)]) (partL b s l) d r := by
  cases b with
  | true =>
    have := h
    rw [h.seq_eq rfl] at this
    exact this
  | false =>
    have := StOk.cons h .nil
    simpa [partL] using this
theorem partL_len {b : Bool} {s : PyData} {l : List PyData} (h : b = true → 2 ≤ l.length) : 1 ≤ (partL b s l).length := by
  cases b with
  | true => have := h rfl; simp [partL]; omega
  | false => simp [partL]
end LW
end
section
set_option Elab.async false
set_option linter.all false
set_option maxRecDepth 100000
set_option autoImplicit false
namespace LW
open PySem PySem.Spec PyProof.Rows L2 DL
theorem ret_go {r : R DL.Slot} {sl : Sl} : bodyR (r.go sl fun s cs1 => .rt s cs1) = r := by cases r <;> rfl
section
variable {p p' : List (PySem.Str × Int)} {b b' : Bool} {s s' : PyData} {l l' : List PyData} {d d' : Nat} {r r' : List PyData}
theorem then_ev {N : Nat} (hN : 90 ≤ N) (G : Prg p b s l d r) (g : okB d r = true) (hd : d ≤ 12) (G' : Prg p' b' s' l' d' r') (g' : okB d' r' = true) (hd' : d' ≤ 12) {v : Bool} (ne : neD (planD p) (planD p') = some (.bool v)) (cs : Cs) :
    sem N .then [.d (progD p s), .d (progD p' s')] cs = if v = true then exc "NotAlike" cs else sem (N - 1) .whole [.d (planD p), .d (.tuple [.str "seq", .tuple (partL b s l ++ partL b' s' l')])] cs := by
  obtain ⟨n, rfl, hn⟩ := succ_of (show 89 + 1 ≤ N by omega)
  have a1 := needp G (N := n) (by omega) cs
  have a2 := needp G' (N := n) (by omega) cs
  have a3 := needa (s := s) (t := s') ne (N := n) (by omega) cs
  have a4 := (partsN G.S (N := n) (by omega) cs).1
  have a5 := (partsN G'.S (N := n) (by omega) cs).1
  rw [if_pos g] at a1
  rw [if_pos g'] at a2
  have q := add_tups (a := partL b s l) (b := partL b' s' l') (by
    have h1 := (stmt_within (fun x hx => by obtain ⟨q, hq, rfl⟩ := List.mem_map.mp hx; exact G.P.nm q hq) G.S (by have := G.len; omega)).2
    have h2 := (stmt_within (fun x hx => by obtain ⟨q, hq, rfl⟩ := List.mem_map.mp hx; exact G'.P.nm q hq) G'.S (by have := G'.len; omega)).2
    have := G.len
    have := G'.len
    unfold partL
    cases b <;> cases b' <;> simp <;> omega)
  unfold progD at a1 a2
  rw [e_then, Nat.add_sub_cancel]
  unfold progD
  cases v with
  | true => simp [s_then, a1, a2, a3, exc]
  | false =>
    simp [s_then, a1, a2, a3, a4, a5, q]
    exact ret_go
theorem either_ev {N : Nat} (hN : 90 ≤ N) {c : PyData} (hc : ∀ (N : Nat) (cs : Cs), 14 ≤ N → sem N .need_condition [.d c] cs = nul cs) {vc : Bool} (hco : ∀ (N : Nat) (cs : Cs), 12 ≤ N → sem N .need_condition_of [.d (planD p), .d c] cs = if vc = true then exc "BadCondition" cs else nul cs)
    (G : Prg p b s l d r) (g : okB d r = true) (hd : d ≤ 12) (G' : Prg p' b' s' l' d' r') (g' : okB d' r' = true) (hd' : d' ≤ 12) {v : Bool} (ne : neD (planD p) (planD p') = some (.bool v)) (cs : Cs) :
    sem N .either [.d c, .d (progD p s), .d (progD p' s')] cs = if vc = true then exc "BadCondition" cs else if v = true then exc "NotAlike" cs else sem (N - 1) .whole [.d (planD p), .d (.tuple [.str "if", c, s, s'])] cs := by
  obtain ⟨n, rfl, hn⟩ := succ_of (show 89 + 1 ≤ N by omega)
  have a1 := needp G (N := n) (by omega) cs
  have a2 := needp G' (N := n) (by omega) cs
  have a3 := needa (s := s) (t := s') ne (N := n) (by omega) cs
  have a4 := hc n cs (by omega)
  have a5 := hco n cs (by omega)
  rw [if_pos g] at a1
  rw [if_pos g'] at a2
  unfold progD at a1 a2
  rw [e_either, Nat.add_sub_cancel]
  unfold progD
  cases vc with
  | true => simp [s_either, a1, a2, a4, a5, exc]
  | false =>
    cases v with
    | true => simp [s_either, a1, a2, a3, a4, a5, exc]
    | false =>
      simp [s_either, a1, a2, a3, a4, a5]
      exact ret_go
theorem around_ev {N : Nat} (hN : 90 ≤ N) {c : PyData} (hc : ∀ (N : Nat) (cs : Cs), 14 ≤ N → sem N .need_condition [.d c] cs = nul cs) {vc : Bool} (hco : ∀ (N : Nat) (cs : Cs), 12 ≤ N → sem N .need_condition_of [.d (planD p), .d c] cs = if vc = true then exc "BadCondition" cs else nul cs)
    (G : Prg p b s l d r) (g : okB d r = true) (hd : d ≤ 12) (cs : Cs) :
    sem N .around [.d c, .d (progD p s)] cs = if vc = true then exc "BadCondition" cs else sem (N - 1) .whole [.d (planD p), .d (.tuple [.str "while", c, s])] cs := by
  obtain ⟨n, rfl, hn⟩ := succ_of (show 89 + 1 ≤ N by omega)
  have a1 := needp G (N := n) (by omega) cs
  have a4 := hc n cs (by omega)
  have a5 := hco n cs (by omega)
  rw [if_pos g] at a1
  unfold progD at a1
  rw [e_around, Nat.add_sub_cancel]
  unfold progD
  cases vc with
  | true => simp [s_around, a1, a4, a5, exc]
  | false =>
    simp [s_around, a1, a4, a5]
    exact ret_go
end
theorem either_bad {N : Nat} (hN : 90 ≤ N) (one two : PyData) (cs : Cs) : sem N .either [.d bad2, .d one, .d two] cs = exc "BadCondition" cs := by
  obtain ⟨n, rfl, hn⟩ := succ_of (show 89 + 1 ≤ N by omega)
  have a4 := bad2_form (N := n) (by omega) cs
  rw [e_either]
  simp [s_either, a4, exc]
theorem around_bad {N : Nat} (hN : 90 ≤ N) (one : PyData) (cs : Cs) : sem N .around [.d bad2, .d one] cs = exc "BadCondition" cs := by
  obtain ⟨n, rfl, hn⟩ := succ_of (show 89 + 1 ≤ N by omega)
  have a4 := bad2_form (N := n) (by omega) cs
  rw [e_around]
  simp [s_around, a4, exc]
/-! ### what is told -/
def toldB (G : Fn → FS) : SS := sIf (tBool (eOp eqD (eVar 0) (eC (.int 0)))) (sSet 4 (oDefK (G .then) 2 [1, 0] (aCons (eVar 3) (aCons (eVar 2) (aNil))))) (sIf (tBool (eOp eqD (eVar 0) (eC (.int 1)))) (sSet 4 (oDefK (G .either) 3 [2, 0, 1] (aCons (eVar 2) (aCons (eVar 3) (aCons (eVar 1) (aNil)))))) (sSet 4 (oDefK (G .around) 2 [1, 0] (aCons (eVar 2) (aCons (eVar 1) (aNil))))))
theorem told_split (G : Fn → FS) : s__law_told G = sSeq (sSet 4 (oFr (eC .none))) (sSeq (sTry mt (toldB G) [("BadProgram", sSet 4 (oFr (eC (.str "program")))), ("BadCondition", sSet 4 (oFr (eC (.str "condition")))), ("NotAlike", sSet 4 (oFr (eC (.str "alike"))))]) (sRetV 4)) := rfl
def msg (w : PySem.Str) : PySem.Str := if w = "BadProgram" then "program" else if w = "BadCondition" then "condition" else "alike"
/-- an outcome as it is told -/
def outc : R DL.Slot → R DL.Slot
  | .ok s cs => .ok s cs
  | .ex e cs => .ok (.fr (.d (.str (msg e.cls)))) cs
  | .bad => .bad
theorem m_pp : mt "BadProgram" "BadProgram" = some true := by kernel_rfl
theorem m_cp : mt "BadCondition" "BadProgram" = some false := by kernel_rfl
theorem m_cc : mt "BadCondition" "BadCondition" = some true := by kernel_rfl
theorem m_ap : mt "NotAlike" "BadProgram" = some false := by kernel_rfl
theorem m_ac : mt "NotAlike" "BadCondition" = some false := by kernel_rfl
theorem m_aa : mt "NotAlike" "NotAlike" = some true := by kernel_rfl
theorem msg_p : msg "BadProgram" = "program" := by decide +kernel
theorem msg_c : msg "BadCondition" = "condition" := by decide +kernel
theorem msg_a : msg "NotAlike" = "alike" := by decide +kernel
theorem told_of {N : Nat} {way : Int} {test one two : PyData} {res : R DL.Slot} {cs : Cs} (h : toldB (sem N) [some (.fr (.d (.int way))), some (.fr (.d test)), some (.fr (.d one)), some (.fr (.d two)), some (.fr (.d .none))] cs = res.go [some (.fr (.d (.int way))), some (.fr (.d test)), some (.fr (.d one)), some (.fr (.d two)), some (.fr (.d .none))] fun s cs1 => .nx [some (.fr (.d (.int way))), some (.fr (.d test)), some (.fr (.d one)), some (.fr (.d two)), some s] cs1)
    (hr : (∃ x, res = .ok (.fr (.d x)) cs) ∨ res = exc "BadProgram" cs ∨ res = exc "BadCondition" cs ∨ res = exc "NotAlike" cs) : sem (N + 1) ._law_told [.d (.int way), .d test, .d one, .d two] cs = outc res := by
  rw [e__law_told, told_split, ev_seq, ev_set]
  simp only [ev_oFr, ev_c, R.bind_ok, ev_solid, if_true, R.go_ok, RS.seq_nx, List.set_cons_succ, List.set_cons_zero, ev_seq, sTry]
  rw [h]
  rcases hr with ⟨x, rfl⟩ | rfl | rfl | rfl
  · rfl
  · simp [exc, handle, m_pp, noExS, outc, msg_p]
  · simp [exc, handle, m_cp, m_cc, noExS, outc, msg_c]
  · simp [exc, handle, m_ap, m_ac, m_aa, noExS, outc, msg_a]
theorem told0 {N : Nat} {test one two : PyData} {cs : Cs} : toldB (sem N) [some (.fr (.d (.int 0))), some (.fr (.d test)), some (.fr (.d one)), some (.fr (.d two)), some (.fr (.d .none))] cs = (sem N .then [.d one, .d two] cs).go [some (.fr (.d (.int 0))), some (.fr (.d test)), some (.fr (.d one)), some (.fr (.d two)), some (.fr (.d .none))] fun s cs1 => .nx [some (.fr (.d (.int 0))), some (.fr (.d test)), some (.fr (.d one)), some (.fr (.d two)), some s] cs1 := by
  simp [toldB, -ev_eqD]
theorem told1 {N : Nat} {test one two : PyData} {cs : Cs} : toldB (sem N) [some (.fr (.d (.int 1))), some (.fr (.d test)), some (.fr (.d one)), some (.fr (.d two)), some (.fr (.d .none))] cs = (sem N .either [.d test, .d one, .d two] cs).go [some (.fr (.d (.int 1))), some (.fr (.d test)), some (.fr (.d one)), some (.fr (.d two)), some (.fr (.d .none))] fun s cs1 => .nx [some (.fr (.d (.int 1))), some (.fr (.d test)), some (.fr (.d one)), some (.fr (.d two)), some s] cs1 := by
  simp [toldB, -ev_eqD]
theorem told2 {N : Nat} {test one two : PyData} {cs : Cs} : toldB (sem N) [some (.fr (.d (.int 2))), some (.fr (.d test)), some (.fr (.d one)), some (.fr (.d two)), some (.fr (.d .none))] cs = (sem N .around [.d test, .d one] cs).go [some (.fr (.d (.int 2))), some (.fr (.d test)), some (.fr (.d one)), some (.fr (.d two)), some (.fr (.d .none))] fun s cs1 => .nx [some (.fr (.d (.int 2))), some (.fr (.d test)), some (.fr (.d one)), some (.fr (.d two)), some s] cs1 := by
  simp [toldB, -ev_eqD]
end LW
end
section
set_option Elab.async false
set_option linter.all false
set_option maxRecDepth 100000
set_option autoImplicit false
namespace LW
open PySem PySem.Spec PyProof.Rows L2 DL
def sumE : SE := eCall sumB (bCons (eFz (oLc (pSeq (eVar 1)) (gNm 3) (tTrue) (eIx (eVar 3) (eC (.int 0))) [3])) (aNil))
def maxE : SE := eCall maxB (bCons (eFz (oLc (pSeq (eVar 1)) (gNm 3) (tTrue) (eIx (eVar 3) (eC (.int 1))) [3])) (aNil))
def rowE (G : Fn → FS) : SO := oLc (pSeq (eIx (eVar 0) (eC (.int 1)))) (gNm 2) (tTrue) (eFz (oDef (G ._law_many) [] (aCons (eVar 2) (aNil)))) [2]
def row2E (G : Fn → FS) : SO := oLc (pSeq (eSl (eVar 0) (iSome (eC (.int 2))) (iNone))) (gNm 2) (tTrue) (eFz (oDef (G ._law_many) [] (aCons (eVar 2) (aNil)))) [2]
theorem many_split (G : Fn → FS) : s__law_many G = sSeq (sIf (tBool (eOp eqD (eIx (eVar 0) (eC (.int 0))) (eC (.str "seq")))) (sSeq (sSet 1 (rowE G)) (sSeq (sFz 1) (sRet (oFr (eTup (aCons (sumE) (aCons (maxE) (aNil)))))))) (sNil)) (sSeq (sSet 1 (oFr (eIf (tBool (eOp inD (eIx (eVar 0) (eC (.int 0))) (eTup (aCons (eC (.str "if")) (aCons (eC (.str "while")) (aNil)))))) (eFz (row2E G)) (eLst (aCons (eTup (aCons (eC (.int 0)) (aCons (eC (.int 0)) (aNil)))) (aNil)))))) (sRet (oFr (eTup (aCons (eOp addD (eC (.int 1)) (sumE)) (aCons (eOp addD (eC (.int 1)) (maxE)) (aNil))))))) := rfl
def prD (p : Nat × Nat) : PyData := .tuple [.int (p.1 : Int), .int (p.2 : Int)]
def maxN (l : List Nat) : Nat := l.foldr max 0
theorem fold_max : ∀ (l : List Nat) (a : Nat), (l.map fun n : Nat => (n : Int)).foldl max (a : Int) = ((max a (maxN l) : Nat) : Int)
  | [], a => by simp [maxN]
  | x :: l, a => by
    have : max (a : Int) (x : Int) = ((max a x : Nat) : Int) := by omega
    rw [List.map_cons, List.foldl_cons, this, fold_max l (max a x)]
    simp only [maxN, List.foldr_cons]
    omega
theorem maxOf_nat {l : List Nat} (h : l ≠ []) : maxOf (l.map fun n : Nat => (n : Int)) = some ((maxN l : Nat) : Int) := by
  cases l with
  | nil => exact absurd rfl h
  | cons x l =>
    show some ((l.map fun n : Nat => (n : Int)).foldl max (x : Int)) = _
    rw [fold_max l x]
    rfl
theorem sum_nat : ∀ l : List Nat, (l.map fun n : Nat => (n : Int)).sum = ((l.sum : Nat) : Int)
  | [] => rfl
  | x :: l => by
    rw [List.map_cons, List.sum_cons, sum_nat l, List.sum_cons]
    omega
theorem ints_map {α : Type} (f : α → Int) : ∀ l : List α, intsOf (l.map fun a => PyData.int (f a)) = some (l.map f)
  | [] => rfl
  | a :: l => by simp [intsOf, ints_map f l]
theorem lc_pr {g : Nat × Nat → Int} {k : Int} {sl : Sl} {cs : Cs} (h3 : 3 < sl.length) (hg : ∀ p : Nat × Nat, atI [PyData.int (p.1 : Int), .int (p.2 : Int)] k = some (.int (g p))) (ps : List (Nat × Nat)) :
    lcL (gNm 3) tTrue (eIx (eVar 3) (eC (.int k))) sl ((ps.map prD).map Val.d) cs = .ok (ps.map fun p => .int (g p)) cs := by
  have e := lcL_all (g := gNm 3) (tt := tTrue) (te := eIx (eVar 3) (eC (.int k))) (slB := sl) (cs := cs) (f := fun v => match v with
    | .d (.tuple xs) => (atI xs k).getD .none
    | _ => .none) (xs := (ps.map prD).map Val.d) fun x hx => by
      simp only [List.mem_map] at hx
      obtain ⟨_, ⟨p, _, rfl⟩, rfl⟩ := hx
      refine ⟨_, rfl, rfl, ?_⟩
      have e3 : eVar 3 (sl.set 3 (some (.fr (.d (prD p))))) cs = .ok (.d (prD p)) cs := ev_var (List.getElem?_set_self h3)
      rw [ev_ix, e3]
      simp [prD, hg p]
  rw [e, List.map_map, List.map_map]
  congr 1
  refine List.map_congr_left fun p _ => ?_
  simp [prD, hg p]
theorem sum_ev {t u v : Option DL.Slot} {cs : Cs} {ps : List (Nat × Nat)} (hl : ps.length ≤ 1000) : sumE [t, some (.fr (.d (.list (ps.map prD)))), u, v] cs = .ok (.d (.int (((ps.map (·.1)).sum : Nat) : Int))) cs := by
  have f := lc_ev (it := pSeq (eVar 1)) (g := gNm 3) (tt := tTrue) (te := eIx (eVar 3) (eC (.int 0))) (vs := [3]) (sl := [t, some (.fr (.d (.list (ps.map prD)))), u, v]) (cs := cs) (cs1 := cs) (by simp) (by simp; omega) (lc_pr (g := fun p => (p.1 : Int)) (k := 0) (sl := blkSl [t, some (.fr (.d (.list (ps.map prD)))), u, v] [3]) (cs := cs) (by simp [blkSl, wipeS]) (fun p => ev_atI0) ps)
  unfold sumE
  simp only [ev_call, ev_bCons, ev_fz, f, R.bind_ok, ev_fzO, ev_aNil]
  unfold DL.sumB DL.intsL
  simp only [seqL, Option.bind_some]
  have := ints_map (fun p : Nat × Nat => (p.1 : Int)) ps
  rw [this]
  have e := sum_nat (ps.map (·.1))
  rw [List.map_map] at e
  rw [← e]
  rfl
theorem max_ev {t u v : Option DL.Slot} {cs : Cs} {ps : List (Nat × Nat)} (hl : ps.length ≤ 1000) (h0 : ps ≠ []) : maxE [t, some (.fr (.d (.list (ps.map prD)))), u, v] cs = .ok (.d (.int ((maxN (ps.map (·.2)) : Nat) : Int))) cs := by
  have f := lc_ev (it := pSeq (eVar 1)) (g := gNm 3) (tt := tTrue) (te := eIx (eVar 3) (eC (.int 1))) (vs := [3]) (sl := [t, some (.fr (.d (.list (ps.map prD)))), u, v]) (cs := cs) (cs1 := cs) (by simp) (by simp; omega) (lc_pr (g := fun p => (p.2 : Int)) (k := 1) (sl := blkSl [t, some (.fr (.d (.list (ps.map prD)))), u, v] [3]) (cs := cs) (by simp [blkSl, wipeS]) (fun p => ev_atI1) ps)
  unfold maxE
  simp only [ev_call, ev_bCons, ev_fz, f, R.bind_ok, ev_fzO, ev_aNil]
  have e := maxOf_nat (l := ps.map (·.2)) (by simpa using h0)
  rw [List.map_map] at e
  show R.of (((intsL [Val.d (.list (ps.map fun p => .int (p.2 : Int)))]).bind maxOf).map fun n => Val.d (.int n)) cs = _
  have := ints_map (fun p : Nat × Nat => (p.2 : Int)) ps
  unfold DL.intsL
  simp only [seqL, Option.bind_some]
  rw [this]
  simp only [Option.bind_some]
  have e2 : maxOf (ps.map fun p : Nat × Nat => (p.2 : Int)) = some ((maxN (ps.map (·.2)) : Nat) : Int) := e
  rw [e2]
  rfl
theorem cut3 {a b c : PyData} : cut [a, b, c] (some 2) none = [c] := rfl
theorem cut4 {a b c d : PyData} : cut [a, b, c, d] (some 2) none = [c, d] := rfl
def ManyOk (b : Bool) (s : PyData) (l : List PyData) (d : Nat) (r : List PyData) : Prop :=
  (b = false → ∀ (N : Nat) (cs : Cs), 3 * d + 20 ≤ N → sem N ._law_many [.d s] cs = .ok (.fr (.d (prD (cnt r, d)))) cs) ∧
  (b = true → ∃ ps : List (Nat × Nat), ps.length = l.length ∧ (ps.map (·.1)).sum = cnt r ∧ maxN (ps.map (·.2)) = d ∧ ∀ (N : Nat) (cs : Cs) (sl : Sl), 3 * d + 20 ≤ N → 2 < sl.length → lcL (gNm 2) tTrue (eFz (oDef (sem N ._law_many) [] (aCons (eVar 2) (aNil)))) sl (l.map Val.d) cs = .ok (ps.map prD) cs)
theorem many_row {N : Nat} {sl : Sl} {cs : Cs} {y : PyData} {p : Nat × Nat} (h : sem N ._law_many [.d y] cs = .ok (.fr (.d (prD p))) cs) (h2 : 2 < sl.length) : eFz (oDef (sem N ._law_many) [] (aCons (eVar 2) (aNil))) (sl.set 2 (some (.fr (.d y)))) cs = .ok (.d (prD p)) cs := by
  have e : eVar 2 (sl.set 2 (some (.fr (.d y)))) cs = .ok (.d y) cs := ev_var (List.getElem?_set_self h2)
  simp [e, h]
theorem many_full {b : Bool} {s : PyData} {l : List PyData} {d : Nat} {r : List PyData} (W : ManyOk b s l d r) (eq : b = true → s = .tuple [.str "seq", .tuple l]) (ok : b = true → 2 ≤ l.length) (hl : l.length ≤ 1000) (N : Nat) (cs : Cs) (hN : 3 * d + 22 ≤ N) :
    sem N ._law_many [.d s] cs = .ok (.fr (.d (prD (cnt r, d)))) cs := by
  cases b with
  | false => exact W.1 rfl N cs (by omega)
  | true =>
    cases eq rfl
    have h2 := ok rfl
    obtain ⟨ps, pl, p1, p2, pe⟩ := W.2 rfl
    obtain ⟨n, rfl, hn⟩ := succ_of (show 3 * d + 21 + 1 ≤ N by omega)
    have h0 : ps ≠ [] := fun z => by subst z; simp at pl; omega
    have f : rowE (sem n) [some (.fr (.d (.tuple [.str "seq", .tuple l]))), none, none, none] cs = .ok (.ow (.list (ps.map prD))) cs := lc_ev (by simp) (by simp; omega) (pe n cs _ (by omega) (by simp [blkSl, wipeS]))
    have s1 := sum_ev (t := some (.fr (.d (.tuple [.str "seq", .tuple l])))) (u := none) (v := none) (cs := cs) (ps := ps) (by omega)
    have s2 := max_ev (t := some (.fr (.d (.tuple [.str "seq", .tuple l])))) (u := none) (v := none) (cs := cs) (ps := ps) (by omega) h0
    rw [e__law_many, many_split]
    simp [-ev_eqD, f, s1, s2, p1, p2, prD]
theorem many_ok {ns : List PySem.Str} {b : Bool} {s : PyData} {l : List PyData} {d : Nat} {r : List PyData} (h : StOk ns b s l d r) (hr : r.length ≤ 900) : ManyOk b s l d r ∧ l.length ≤ r.length := by
  have tail : ∀ (n : Nat) (cs : Cs) (t : PyData) (ps : List (Nat × Nat)) (w : PySem.Str) (rest : List PyData), t = .tuple (.str w :: rest) → eqD (.str w) (.str "seq") = some (.bool false) → ps.length ≤ 1000 → ps ≠ [] →
      (eIf (tBool (eOp inD (eIx (eVar 0) (eC (.int 0))) (eTup (aCons (eC (.str "if")) (aCons (eC (.str "while")) (aNil)))))) (eFz (row2E (sem n))) (eLst (aCons (eTup (aCons (eC (.int 0)) (aCons (eC (.int 0)) (aNil)))) (aNil)))) [some (.fr (.d t)), none, none, none] cs = .ok (.d (.list (ps.map prD))) cs →
      sem (n + 1) ._law_many [.d t] cs = .ok (.fr (.d (prD (1 + (ps.map (·.1)).sum, 1 + maxN (ps.map (·.2)))))) cs := fun n cs t ps w rest et q hl h0 f => by
    subst et
    have s1 := sum_ev (t := some (.fr (.d (.tuple (.str w :: rest))))) (u := none) (v := none) (cs := cs) (ps := ps) hl
    have s2 := max_ev (t := some (.fr (.d (.tuple (.str w :: rest))))) (u := none) (v := none) (cs := cs) (ps := ps) hl h0
    rw [e__law_many, many_split]
    generalize (eIf (tBool (eOp inD (eIx (eVar 0) (eC (.int 0))) (eTup (aCons (eC (.str "if")) (aCons (eC (.str "while")) (aNil)))))) (eFz (row2E (sem n))) (eLst (aCons (eTup (aCons (eC (.int 0)) (aCons (eC (.int 0)) (aNil)))) (aNil)))) = F at f
    simp [-ev_eqD, q, f, s1, s2, prD]
  induction h with
  | @leaf s h =>
    refine ⟨⟨fun _ N cs hN => ?_, fun z => by cases z⟩, by simp⟩
    obtain ⟨n, rfl, hn⟩ := succ_of (show 1 + 1 ≤ N by omega)
    have c1 : cnt [s] = 1 := by
      have := (StOk.leaf h).rlen
      simp only [List.length_singleton] at this
      have c2 : cnt [s] ≤ 1 := by
        have := List.length_filter_le nsq [s]
        simpa [cnt] using this
      omega
    obtain ⟨w, rest, es, q1, q2⟩ := ((StOk.leaf h).noseq rfl).ex
    rw [c1]
    refine tail n cs s [(0, 0)] w rest es q1 (by simp) (by simp) ?_
    cases h <;> simp [prD]
  | @whl b c s l d r hc hd h ok ih =>
    refine ⟨⟨fun _ N cs hN => ?_, fun z => by cases z⟩, by simp⟩
    have hr2 : r.length ≤ 900 := by
      simp only [List.length_cons, full] at hr
      cases b <;> simp at hr <;> omega
    obtain ⟨W, hl⟩ := ih hr2
    obtain ⟨n, rfl, hn⟩ := succ_of (show 3 * d + 22 + 1 ≤ N by omega)
    have m := many_full W h.seq_eq ok (by omega) n cs (by omega)
    have hq : nsq (.tuple [.str "while", c.toD, s]) = true := by show (!(("while" : PySem.Str) == "seq")) = true; decide +kernel
    have hct : cnt (.tuple [.str "while", c.toD, s] :: full b s r) = 1 + cnt r := by rw [← cnt_full h]; simp [cnt, hq]; omega
    have T := tail n cs (.tuple [.str "while", c.toD, s]) [(cnt r, d)] "while" _ rfl (by simp) (by simp) (by simp) (by
      have f : row2E (sem n) [some (.fr (.d (.tuple [.str "while", c.toD, s]))), none, none, none] cs = .ok (.ow (.list [prD (cnt r, d)])) cs := by
        refine lc_ev (xs := [.d s]) (cs1 := cs) (by simp [sliceV, cut3]) (by simp) ?_
        unfold lcL
        simp only [ev_gNm, tTrue, noEx, R.bind_ok, if_true]
        rw [many_row m (sl := blkSl _ [2]) (by simp [blkSl, wipeS])]
        simp [noEx, lcL]
      simp [f])
    rw [hct]
    simpa [maxN, Nat.add_comm] using T
  | @ite b b' c s t l l' d e r r' hc hd h ok h' ok' ih ih' =>
    refine ⟨⟨fun _ N cs hN => ?_, fun z => by cases z⟩, by simp⟩
    have hr2 : r.length ≤ 900 ∧ r'.length ≤ 900 := by
      simp only [List.length_cons, List.length_append, full] at hr
      cases b <;> cases b' <;> simp at hr <;> omega
    obtain ⟨W, hl⟩ := ih hr2.1
    obtain ⟨W', hl'⟩ := ih' hr2.2
    obtain ⟨n, rfl, hn⟩ := succ_of (show 3 * max d e + 22 + 1 ≤ N by omega)
    have m := many_full W h.seq_eq ok (by omega) n cs (by omega)
    have m' := many_full W' h'.seq_eq ok' (by omega) n cs (by omega)
    have hq : nsq (.tuple [.str "if", c.toD, s, t]) = true := by show (!(("if" : PySem.Str) == "seq")) = true; decide +kernel
    have hct : cnt (.tuple [.str "if", c.toD, s, t] :: (full b s r ++ full b' t r')) = 1 + (cnt r + cnt r') := by
      rw [← cnt_full h, ← cnt_full h', ← cnt_app]
      simp [cnt, hq]
      omega
    have T := tail n cs (.tuple [.str "if", c.toD, s, t]) [(cnt r, d), (cnt r', e)] "if" _ rfl (by simp) (by simp) (by simp) (by
      have f : row2E (sem n) [some (.fr (.d (.tuple [.str "if", c.toD, s, t]))), none, none, none] cs = .ok (.ow (.list [prD (cnt r, d), prD (cnt r', e)])) cs := by
        refine lc_ev (xs := [.d s, .d t]) (cs1 := cs) (by simp [sliceV, cut4]) (by simp) ?_
        unfold lcL
        simp only [ev_gNm, tTrue, noEx, R.bind_ok, if_true]
        rw [many_row m (sl := blkSl _ [2]) (by simp [blkSl, wipeS])]
        unfold lcL
        simp only [ev_gNm, tTrue, noEx, R.bind_ok, if_true]
        rw [many_row m' (sl := blkSl _ [2]) (by simp [blkSl, wipeS])]
        simp [noEx, lcL]
      simp [f])
    rw [hct]
    have e1 : maxN ([(cnt r, d), (cnt r', e)].map (·.2)) = max d e := by simp [maxN]
    rw [e1] at T
    simpa [Nat.add_comm] using T
  | nil => exact ⟨⟨fun z => by (cases z), fun _ => ⟨[], rfl, rfl, rfl, fun N cs sl _ _ => rfl⟩⟩, by simp⟩
  | @cons s l l' d e r r' h t ih ih' =>
    have hr2 : r.length ≤ 900 ∧ r'.length ≤ 900 := by
      simp only [List.length_append] at hr
      omega
    obtain ⟨W, hl⟩ := ih hr2.1
    obtain ⟨W', hl'⟩ := ih' hr2.2
    have hr1 : 1 ≤ r.length := by cases h <;> simp
    obtain ⟨ps, pl, p1, p2, pe⟩ := W'.2 rfl
    refine ⟨⟨fun z => by (cases z), fun _ => ⟨(cnt r, d) :: ps, by simp [pl], by simp [cnt_app, p1], by simp only [List.map_cons, maxN, List.foldr_cons]; rw [← p2]; rfl, fun N cs sl hN h2 => ?_⟩⟩, by simp; omega⟩
    have m := W.1 rfl N cs (by omega)
    have q := pe N cs sl (by omega) h2
    rw [List.map_cons]
    unfold lcL
    simp only [ev_gNm, tTrue, noEx, R.bind_ok, if_true]
    rw [many_row m h2]
    have q' : lcL (gNm 2) (fun _ cs => .ok true cs) (eFz (oDef (sem N ._law_many) [] (aCons (eVar 2) (aNil)))) sl (l.map Val.d) cs = .ok (ps.map prD) cs := q
    simp [noEx]
    exact (by rw [q]; rfl)
end LW
end
section
set_option Elab.async false
set_option linter.all false
set_option maxRecDepth 100000
set_option autoImplicit false
namespace LW
open PySem PySem.Spec PyProof.Rows L2 DL
def oth1 : SE := eIf (tAndD (tBool (eOp eqD (eCall lenB (bCons (eIx (eVar 1) (eC (.int 0))) (aNil))) (eC (.int 1)))) (tBool (eOp ltD (eVar 3) (eC (.int 6))))) (eTup (aCons (eOp addD (eIx (eVar 1) (eC (.int 0))) (eTup (aCons (eTup (aCons (eC (.str "qq")) (aCons (eC (.int 2)) (aNil)))) (aNil)))) (aCons (eIx (eVar 1) (eC (.int 1))) (aNil)))) (eTup (aCons (eSl (eIx (eVar 1) (eC (.int 0))) (iNone) (iSome (eC (.int 1)))) (aCons (eTup (aCons (eC (.str "skip")) (aNil))) (aNil))))
def oth2 : SE := eIf (tBool (eOp gtD (eVar 3) (eC (.int 2)))) (eTup (aCons (eOp addD (eTup (aCons (eTup (aCons (eVar 2) (aCons (eC (.int 2)) (aNil)))) (aNil))) (eSl (eIx (eVar 1) (eC (.int 0))) (iSome (eC (.int 1))) (iNone))) (aCons (eIx (eVar 1) (eC (.int 1))) (aNil)))) (eTup (aCons (eRev (eIx (eVar 1) (eC (.int 0)))) (aCons (eTup (aCons (eC (.str "skip")) (aNil))) (aNil))))
def oth3 : SE := eTup (aCons (eRev (eIx (eVar 1) (eC (.int 0)))) (aCons (eIx (eVar 1) (eC (.int 1))) (aNil)))
def oth4 : SE := eTup (aCons (eTup (aCons (eTup (aCons (eC (.str "qq")) (aCons (eC (.int 2)) (aNil)))) (aNil))) (aCons (eTup (aCons (eC (.str "skip")) (aNil))) (aNil)))
theorem other_split (G : Fn → FS) : s__law_other G = sSeq (sAsg (gTp (gsCons (gNm 2) (gsCons (gNm 3) (gsNil)))) (eIx (eIx (eVar 1) (eC (.int 0))) (eC (.int 0)))) (sRet (oDef (G ._law_pick) [] (aCons (eVar 0) (aCons (eLst (aCons oth1 (aCons oth2 (aCons oth3 (aCons oth4 (aNil)))))) (aNil))))) := rfl
theorem Ex5.mono {ns ns' : List PySem.Str} (h : ∀ x ∈ ns, x ∈ ns') : ∀ {e : Ex5}, e.ok ns → e.ok ns'
  | .num _, q => q
  | .var x, q => h x q
  | .op _ _ _, q => ⟨Ex5.mono h q.1, Ex5.mono h q.2⟩
theorem Cn5.mono {ns ns' : List PySem.Str} (h : ∀ x ∈ ns, x ∈ ns') : ∀ {e : Cn5}, e.ok ns → e.ok ns'
  | .tru, q => trivial
  | .cmp _ _ _, q => ⟨Ex5.mono h q.1, Ex5.mono h q.2⟩
  | .neg c, q => Cn5.mono (e := c) h q
  | .bin _ _ _, q => ⟨Cn5.mono h q.1, Cn5.mono h q.2⟩
theorem StOk.mono {ns ns' : List PySem.Str} (hs : ∀ x ∈ ns, x ∈ ns') {b : Bool} {s : PyData} {l : List PyData} {d : Nat} {r : List PyData} (h : StOk ns b s l d r) : StOk ns' b s l d r := by
  induction h with
  | leaf h =>
    refine .leaf ?_
    cases h with
    | skip => exact .skip
    | set hx he hd => exact .set (hs _ hx) (Ex5.mono hs he) hd
    | draw hx h1 h6 hp => exact .draw (hs _ hx) h1 h6 fun p hp' => ⟨Ex5.mono hs (hp p hp').1, (hp p hp').2⟩
    | choose hx h1 h6 hp => exact .choose (hs _ hx) h1 h6 fun p hp' => ⟨Ex5.mono hs (hp p hp').1, (hp p hp').2⟩
    | see hc hd => exact .see (Cn5.mono hs hc) hd
  | whl hc hd h ok ih => exact .whl (Cn5.mono hs hc) hd ih ok
  | ite hc hd h ok h' ok' ih ih' => exact .ite (Cn5.mono hs hc) hd ih ok ih' ok'
  | nil => exact .nil
  | cons h t ih ih' => exact .cons ih ih'
theorem fold_le : ∀ (l : List Int) (a b : Int), (∀ x ∈ l, 2 ≤ x) → 0 ≤ a → a ≤ b → l.foldl (· * ·) a ≤ l.foldl (· * ·) b
  | [], a, b, _, _, h => h
  | x :: l, a, b, hx, h0, h => by
    have h2 := hx x (by simp)
    exact fold_le l (a * x) (b * x) (fun y hy => hx y (by simp [hy])) (Int.mul_nonneg h0 (by omega)) (Int.mul_le_mul_of_nonneg_right h (by omega))
/-- a program that is one, its variables named out of the pool and qq -/
structure Good (p : List (PySem.Str × Int)) (s : PyData) : Prop where
  ex : ∃ b l d r, Prg p b s l d r ∧ okB d r = true ∧ d ≤ 12
  so : ∀ x ∈ p.map (·.1), PyData.strOk x = true
theorem skip_ok (ns : List PySem.Str) : StOk ns false (.tuple [.str "skip"]) [] 1 [.tuple [.str "skip"]] := .leaf .skip
theorem good_skip {p : List (PySem.Str × Int)} (P : PlanOk p) (so : ∀ x ∈ p.map (·.1), PyData.strOk x = true) : Good p (.tuple [.str "skip"]) :=
  ⟨⟨false, [], 1, _, ⟨P, skip_ok _, (fun z => by cases z), by simp⟩, by decide +kernel, by decide⟩, so⟩
theorem good_mono {p p' : List (PySem.Str × Int)} {s : PyData} (G : Good p s) (P : PlanOk p') (so : ∀ x ∈ p'.map (·.1), PyData.strOk x = true) (h : ∀ x ∈ p.map (·.1), x ∈ p'.map (·.1)) : Good p' s := by
  obtain ⟨⟨b, l, d, r, g, o, hd⟩, _⟩ := G
  exact ⟨⟨b, l, d, r, ⟨P, g.S.mono h, g.ok, g.len⟩, o, hd⟩, so⟩
theorem so_qq : PyData.strOk "qq" = true := w_ok _ (by simp)
theorem other_goods {x : PySem.Str} {z : Int} {rest : List (PySem.Str × Int)} {s : PyData} (P : Plan ((x, z) :: rest)) (G : Good ((x, z) :: rest) s) :
    (z < 6 → rest = [] → Good [(x, z), ("qq", 2)] s) ∧ Good [(x, z)] (.tuple [.str "skip"]) ∧ Good ((x, 2) :: rest) s ∧ Good ((x, z) :: rest).reverse s ∧ Good ((x, z) :: rest).reverse (.tuple [.str "skip"]) ∧ Good [("qq", 2)] (.tuple [.str "skip"]) := by
  have sz := P.P.sz (x, z) (by simp)
  have nx := P.P.nm (x, z) (by simp)
  have px := P.pl x (by simp)
  have qx : x ≠ "qq" := fun e => qq_pool (e ▸ px)
  have sox := P.so x (by simp)
  simp only at sz nx
  have R : PlanOk ((x, z) :: rest).reverse := by
    have Q := P.P
    refine ⟨fun p hp => Q.nm p (List.mem_reverse.mp hp), ?_, fun p hp => Q.sz p (List.mem_reverse.mp hp), by rw [List.length_reverse]; exact Q.len, ?_⟩
    · rw [List.map_reverse]
      exact List.pairwise_reverse.mpr (Q.nd.imp fun h => Ne.symm h)
    · have m := Q.many
      have l4 := Q.len.2
      rw [List.map_reverse]
      match rest, m, l4 with
      | [], m, _ => exact m
      | [a], m, _ => simp only [List.map_cons, List.map_nil, List.foldl_cons, List.foldl_nil, List.reverse_cons, List.reverse_nil, List.nil_append, List.cons_append] at m ⊢; have e : 1 * a.2 * z = 1 * z * a.2 := by ac_rfl
                     omega
      | [a, b], m, _ => simp only [List.map_cons, List.map_nil, List.foldl_cons, List.foldl_nil, List.reverse_cons, List.reverse_nil, List.nil_append, List.cons_append] at m ⊢; have e : 1 * b.2 * a.2 * z = 1 * z * a.2 * b.2 := by ac_rfl
                        omega
      | [a, b, c], m, _ => simp only [List.map_cons, List.map_nil, List.foldl_cons, List.foldl_nil, List.reverse_cons, List.reverse_nil, List.nil_append, List.cons_append] at m ⊢; have e : 1 * c.2 * b.2 * a.2 * z = 1 * z * a.2 * b.2 * c.2 := by ac_rfl
                           omega
      | a :: b :: c :: d :: l, _, l4 => simp at l4
  have soR : ∀ y ∈ ((x, z) :: rest).reverse.map (·.1), PyData.strOk y = true := fun y hy => P.so y (by rw [List.map_reverse] at hy; exact List.mem_reverse.mp hy)
  have memR : ∀ y ∈ ((x, z) :: rest).map (·.1), y ∈ ((x, z) :: rest).reverse.map (·.1) := fun y hy => by rw [List.map_reverse]; exact List.mem_reverse.mpr hy
  refine ⟨fun z6 hr => ?_, ?_, ?_, good_mono G R soR memR, good_skip R soR, ?_⟩
  · subst hr
    refine good_mono G ⟨fun p hp => ?_, by simp [qx], fun p hp => ?_, by simp, by simp only [List.map_cons, List.map_nil, List.foldl_cons, List.foldl_nil]; omega⟩ (fun y hy => ?_) (fun y hy => List.mem_append_left [("qq" : PySem.Str)] hy)
    · simp only [List.mem_cons, List.not_mem_nil, or_false] at hp
      rcases hp with rfl | rfl
      · exact nx
      · exact name_qq
    · simp only [List.mem_cons, List.not_mem_nil, or_false] at hp
      rcases hp with rfl | rfl
      · exact sz
      · exact ⟨by decide, by decide⟩
    · simp only [List.map_cons, List.map_nil, List.mem_cons, List.not_mem_nil, or_false] at hy
      rcases hy with rfl | rfl
      · exact sox
      · exact so_qq
  · refine good_skip ⟨fun p hp => ?_, by simp, fun p hp => ?_, by simp, by simp only [List.map_cons, List.map_nil, List.foldl_cons, List.foldl_nil]; omega⟩ (fun y hy => ?_)
    · simp only [List.mem_cons, List.not_mem_nil, or_false] at hp
      subst hp; exact nx
    · simp only [List.mem_cons, List.not_mem_nil, or_false] at hp
      subst hp; exact sz
    · simp only [List.map_cons, List.map_nil, List.mem_cons, List.not_mem_nil, or_false] at hy
      subst hy; exact sox
  · have Q := P.P
    refine good_mono G ⟨fun p hp => ?_, by simpa using Q.nd, fun p hp => ?_, by simpa using Q.len, ?_⟩ (fun y hy => P.so y (by simpa using hy)) (fun y hy => by simpa using hy)
    · rcases List.mem_cons.mp hp with rfl | hp
      · exact nx
      · exact Q.nm p (by simp [hp])
    · rcases List.mem_cons.mp hp with rfl | hp
      · exact ⟨(by decide : (2 : Int) ≤ 2), (by decide : (2 : Int) ≤ 6)⟩
      · exact Q.sz p (by simp [hp])
    · have m := Q.many
      simp only [List.map_cons, List.foldl_cons] at m ⊢
      have := fold_le (rest.map (·.2)) (1 * 2) (1 * z) (fun y hy => by
        obtain ⟨q, hq, rfl⟩ := List.mem_map.mp hy
        exact (Q.sz q (by simp [hq])).1) (by decide) (by omega)
      omega
  · refine good_skip ⟨fun p hp => ?_, by simp, fun p hp => ?_, by simp, by decide⟩ (fun y hy => ?_)
    · simp only [List.mem_cons, List.not_mem_nil, or_false] at hp
      subst hp; exact name_qq
    · simp only [List.mem_cons, List.not_mem_nil, or_false] at hp
      subst hp; exact ⟨by decide, by decide⟩
    · simp only [List.map_cons, List.map_nil, List.mem_cons, List.not_mem_nil, or_false] at hy
      subst hy; exact so_qq
theorem planD_app (a b : List (PySem.Str × Int)) : addD (planD a) (planD b) = if a.length + b.length ≤ 16777216 then some (planD (a ++ b)) else none := by
  unfold planD addD gI gAddS gAddT gAddL
  simp only [List.length_map]
  by_cases h : a.length + b.length ≤ 16777216 <;> simp [h]
theorem other_ok {p : List (PySem.Str × Int)} {s : PyData} (P : Plan p) (G : Good p s) {N q : Nat} {cs : Cs} {Z : Int} (B : BagAt q cs Z) (hZ : Z < ZB) (hN : 3 ≤ N) :
    ∃ (p' : List (PySem.Str × Int)) (s' : PyData) (cs' : Cs), sem N ._law_other [.cel q, .d (progD p s)] cs = .ok (.fr (.d (progD p' s'))) cs' ∧ Good p' s' ∧ BagAt q cs' (Z + 1) ∧ Only [q] cs cs' := by
  obtain ⟨n, rfl, hn⟩ := succ_of (show 2 + 1 ≤ N by omega)
  have hl := P.P.len
  cases p with
  | nil => simp at hl
  | cons a rest =>
    obtain ⟨x, z⟩ := a
    obtain ⟨g1, g2, g3, g4, g5, g6⟩ := other_goods P G
    have e1 : ∃ p' s', (Good p' s') ∧ oth1 [some (.fr (.cel q)), some (.fr (.d (progD ((x, z) :: rest) s))), some (.fr (.d (.str x))), some (.fr (.d (.int z)))] cs = .ok (.d (progD p' s')) cs := by
      by_cases hr : rest = []
      · subst hr
        by_cases h6 : z < 6
        · refine ⟨_, s, g1 h6 rfl, ?_⟩
          have := planD_app [(x, z)] [("qq", 2)]
          simp only [planD, List.map_cons, List.map_nil] at this
          simp [oth1, -ev_eqD, progD, planD, ltD, cT, h6, this]
        · refine ⟨_, _, g2, ?_⟩
          simp [oth1, -ev_eqD, progD, planD, ltD, cT, h6, sliceV]
          rfl
      · refine ⟨_, _, g2, ?_⟩
        have hl2 : ((rest.length + 1 : Int) == 1) = false := by
          have : rest.length ≠ 0 := fun z => hr (List.length_eq_zero_iff.mp z)
          simp
          omega
        have c1 : cut (PyData.tuple [.str x, .int z] :: rest.map fun p => .tuple [.str p.1, .int p.2]) none (some 1) = [.tuple [.str x, .int z]] := by
          unfold cut HT.sIx
          simp
        simp [oth1, -ev_eqD, progD, planD, hl2, sliceV, c1]
    have e2 : ∃ p' s', (Good p' s') ∧ oth2 [some (.fr (.cel q)), some (.fr (.d (progD ((x, z) :: rest) s))), some (.fr (.d (.str x))), some (.fr (.d (.int z)))] cs = .ok (.d (progD p' s')) cs := by
      by_cases h2 : 2 < z
      · refine ⟨_, s, g3, ?_⟩
        have c1 : cut (PyData.tuple [.str x, .int z] :: rest.map fun p => .tuple [.str p.1, .int p.2]) (some 1) none = rest.map fun p => .tuple [.str p.1, .int p.2] := by
          unfold cut HT.sIx
          simp
          exact List.take_of_length_le (by simp)
        have := planD_app [(x, 2)] rest
        rw [if_pos (by simp at hl ⊢; omega)] at this
        simp only [planD, List.map_cons, List.map_nil, List.cons_append, List.nil_append] at this
        simp [oth2, progD, planD, gtD, cT, h2, sliceV, c1, this]
      · refine ⟨_, _, g5, ?_⟩
        simp [oth2, progD, planD, gtD, cT, h2, eRev, revV]
    have e3 : oth3 [some (.fr (.cel q)), some (.fr (.d (progD ((x, z) :: rest) s))), some (.fr (.d (.str x))), some (.fr (.d (.int z)))] cs = .ok (.d (progD ((x, z) :: rest).reverse s)) cs := by
      simp [oth3, progD, planD, eRev, revV]
    have e4 : oth4 [some (.fr (.cel q)), some (.fr (.d (progD ((x, z) :: rest) s))), some (.fr (.d (.str x))), some (.fr (.d (.int z)))] cs = .ok (.d (progD [("qq", 2)] (.tuple [.str "skip"]))) cs := by
      simp [oth4, progD, planD]
    obtain ⟨p1, s1, G1, e1⟩ := e1
    obtain ⟨p2, s2, G2, e2⟩ := e2
    obtain ⟨y, cs', ey, hy, B', O⟩ := pickN (xs := [progD p1 s1, progD p2 s2, progD ((x, z) :: rest).reverse s, progD [("qq", 2)] (.tuple [.str "skip"])]) B hZ (by simp) (by simp) (show 2 ≤ n by omega)
    have gy : ∃ p' s', y = progD p' s' ∧ Good p' s' := by
      simp only [List.mem_cons, List.not_mem_nil, or_false] at hy
      rcases hy with rfl | rfl | rfl | rfl
      · exact ⟨_, _, rfl, G1⟩
      · exact ⟨_, _, rfl, G2⟩
      · exact ⟨_, _, rfl, g4⟩
      · exact ⟨_, _, rfl, g6⟩
    obtain ⟨p', s', rfl, G'⟩ := gy
    refine ⟨p', s', cs', ?_, G', B', O⟩
    rw [e__law_other, other_split]
    have sa : sAsg (gTp (gsCons (gNm 2) (gsCons (gNm 3) (gsNil)))) (eIx (eIx (eVar 1) (eC (.int 0))) (eC (.int 0))) [some (.fr (.cel q)), some (.fr (.d (progD ((x, z) :: rest) s))), none, none] cs = .nx [some (.fr (.cel q)), some (.fr (.d (progD ((x, z) :: rest) s))), some (.fr (.d (.str x))), some (.fr (.d (.int z)))] cs := by
      simp [progD, planD]
    rw [ev_seq, sa, RS.seq_nx]
    clear hy
    generalize progD ((x, z) :: rest).reverse s = E3 at e3 ey
    simp [e1, e2, e3, e4, ey]
end LW
end
section
set_option Elab.async false
set_option linter.all false
set_option maxRecDepth 100000
set_option autoImplicit false
namespace LW
open PySem PySem.Spec PyProof.Rows L2 DL
def dA (G : Fn → FS) : SS := sSet 5 (oFr (eCel (oLst (aCons (eFz (oDef (G ._law_pick) [] (aCons (eVar 0) (aCons (eLst (aCons (eC (.int 1)) (aCons (eC (.int 4)) (aCons (eC (.int 12)) (aCons (eC (.int 30)) (aNil)))))) (aNil))))) (aNil)))))
def dB (G : Fn → FS) : SS := sMeth 3 appAt (eTup (aCons (eVar 1) (aCons (eFz (oDef (G ._law_statements) [] (aCons (eVar 0) (aCons (eVar 2) (aCons (eCel (oLst (aCons (eC (.int 50)) (aNil)))) (aCons (eVar 5) (aCons (eFz (oDef (G ._law_pick) [] (aCons (eVar 0) (aCons (eLst (aCons (eC (.int 2)) (aCons (eC (.int 5)) (aCons (eC (.int 12)) (aNil))))) (aNil))))) (aNil)))))))) (aNil))))
def hA (G : Fn → FS) : SS := sAsg (gTp (gsCons (gNm 11) (gsCons (gNm 12) (gsNil)))) (eFz (oDef (G ._law_many) [] (aCons (eIx (eVar 9) (eVar 10)) (aNil))))
def hB (G : Fn → FS) : SS := sSet 13 (oFr (eIf (tAndD (tBool (eOp leD (eVar 11) (eC (.int 60)))) (tBool (eOp leD (eVar 12) (eC (.int 12))))) (eTup (aCons (eVar 1) (aCons (eIx (eVar 9) (eVar 10)) (aNil)))) (eC (.str "program"))))
def hC1 (G : Fn → FS) : ST := tBool (eOp neD (eFz (oDef (G ._law_told) [] (aCons (eVar 10) (aCons (eVar 8) (aCons (eVar 6) (aCons (eVar 7) (aNil))))))) (eVar 13))
def hC2 (G : Fn → FS) : ST := tBool (eOp neD (eIx (eFz (oDef (G .then) [] (aCons (eTup (aCons (eVar 1) (aCons (eTup (aCons (eC (.str "skip")) (aNil))) (aNil)))) (aCons (eTup (aCons (eVar 1) (aCons (eTup (aCons (eC (.str "skip")) (aNil))) (aNil)))) (aNil))))) (eC (.int 1))) (eTup (aCons (eC (.str "seq")) (aCons (eOp mulT (eTup (aCons (eTup (aCons (eC (.str "skip")) (aNil))) (aNil))) (eC (.int 2))) (aNil)))))
def hC (G : Fn → FS) : SS := sIf (tOrD (hC1 G) (hC2 G)) (sRet (oFr (eC (.bool false)))) (sNil)
def R0 (G : Fn → FS) : SS := sSet 1 (oFr (eFz (oDef (G ._law_variables) [] (aCons (eVar 0) (aNil)))))
def R1 (G : Fn → FS) : SS := sSet 2 (oLc (pSeq (eVar 1)) (gTp (gsCons (gNm 16) (gsCons (gNm 17) (gsNil)))) (tTrue) (eVar 16) [16, 17])
def R2 (G : Fn → FS) : SS := sFz 2
def R3 (G : Fn → FS) : SS := sSet 3 (oLst (aNil))
def R4 (G : Fn → FS) : SS := sFor (pRange1 (bCons (eC (.int 2)) (aNil))) (gNm 4) (sSeq (dA G) (dB G))
def R5 (G : Fn → FS) : SS := sFz 3
def R6 (G : Fn → FS) : SS := sAsg (gTp (gsCons (gNm 6) (gsCons (gNm 7) (gsNil)))) (eVar 3)
def R7 (G : Fn → FS) : SS := sSet 8 (oFr (eFz (oDef (G ._law_condition) [] (aCons (eVar 0) (aCons (eVar 2) (aCons (eC (.int 5)) (aCons (eCel (oLst (aCons (eC (.int 9)) (aNil)))) (aNil))))))))
def R8 (G : Fn → FS) : SS := sSet 9 (oFr (eLst (aCons (eTup (aCons (eC (.str "seq")) (aCons (eOp addD (eFz (oDef (G ._law_parts) [] (aCons (eIx (eVar 6) (eC (.int 1))) (aNil)))) (eFz (oDef (G ._law_parts) [] (aCons (eIx (eVar 7) (eC (.int 1))) (aNil))))) (aNil)))) (aCons (eTup (aCons (eC (.str "if")) (aCons (eVar 8) (aCons (eIx (eVar 6) (eC (.int 1))) (aCons (eIx (eVar 7) (eC (.int 1))) (aNil)))))) (aCons (eTup (aCons (eC (.str "while")) (aCons (eVar 8) (aCons (eIx (eVar 6) (eC (.int 1))) (aNil))))) (aNil))))))
def R9 (G : Fn → FS) : SS := sFor (pRange1 (bCons (eC (.int 3)) (aNil))) (gNm 10) (sSeq (hA G) (sSeq (hB G) (hC G)))
def R10 (G : Fn → FS) : SS := sPar 14 15 (aCons (eFz (oDef (G ._law_other) [] (aCons (eVar 0) (aCons (eVar 6) (aNil))))) (aCons (eFz (oDef (G ._law_pick) [] (aCons (eVar 0) (aCons (eLst (aCons (eTup (aCons (eC (.str "is")) (aCons (eTup (aCons (eC (.str "var")) (aCons (eC (.str "zz")) (aNil)))) (aCons (eTup (aCons (eC (.str "num")) (aCons (eC (.int 0)) (aNil)))) (aNil))))) (aCons (eTup (aCons (eC (.str "not")) (aCons (eTup (aCons (eC (.str "below")) (aCons (eTup (aCons (eC (.str "num")) (aCons (eC (.int 1)) (aNil)))) (aCons (eTup (aCons (eC (.str "var")) (aCons (eC (.str "Z")) (aNil)))) (aNil))))) (aNil)))) (aNil)))) (aNil))))) (aNil)))
def R11 (G : Fn → FS) : SS := sIf (tAndD (tBool (eOp neD (eIx (eVar 14) (eC (.int 0))) (eVar 1))) (tBool (eOp neD (eLst (aCons (eFz (oDef (G ._law_told) [] (aCons (eC (.int 0)) (aCons (eVar 8) (aCons (eVar 6) (aCons (eVar 14) (aNil))))))) (aCons (eFz (oDef (G ._law_told) [] (aCons (eC (.int 1)) (aCons (eVar 8) (aCons (eVar 6) (aCons (eVar 14) (aNil))))))) (aNil)))) (eOp mulD (eLst (aCons (eC (.str "alike")) (aNil))) (eC (.int 2)))))) (sRet (oFr (eC (.bool false)))) (sNil)
def R12 (G : Fn → FS) : SS := sRet (oFr (eOp eqD (eLst (aCons (eFz (oDef (G ._law_told) [] (aCons (eC (.int 1)) (aCons (eVar 15) (aCons (eVar 6) (aCons (eVar 14) (aNil))))))) (aCons (eFz (oDef (G ._law_told) [] (aCons (eC (.int 2)) (aCons (eVar 15) (aCons (eVar 6) (aCons (eVar 7) (aNil))))))) (aNil)))) (eOp mulD (eLst (aCons (eC (.str "condition")) (aNil))) (eC (.int 2)))))
theorem right_split (G : Fn → FS) : s__law_right G = sSeq (R0 G) (sSeq (R1 G) (sSeq (R2 G) (sSeq (R3 G) (sSeq (R4 G) (sSeq (R5 G) (sSeq (R6 G) (sSeq (R7 G) (sSeq (R8 G) (sSeq (R9 G) (sSeq (R10 G) (sSeq (R11 G) (R12 G)))))))))))) := rfl
/-- a drawn program -/
structure Made (p : List (PySem.Str × Int)) (s : PyData) (b : Bool) (l : List PyData) (d : Nat) (r : List PyData) : Prop where
  G : Prg p b s l d r
  hd : d ≤ 12
  hc : cnt r ≤ 60
  hr : r.length ≤ 200
theorem Made.okB {p : List (PySem.Str × Int)} {s : PyData} {b : Bool} {l : List PyData} {d : Nat} {r : List PyData} (M : Made p s b l d r) : LW.okB d r = true := by
  have h1 := M.hd
  have h2 := M.hc
  simp [LW.okB, h1, h2]
theorem left_lim {x : PyData} (h : x ∈ [PyData.int 1, .int 4, .int 12, .int 30]) : ∃ i : Int, x = .int i ∧ 0 < i ∧ i ≤ 30 := by
  simp only [List.mem_cons, List.not_mem_nil, or_false] at h
  rcases h with rfl | rfl | rfl | rfl <;> exact ⟨_, rfl, by decide, by decide⟩
theorem deep_lim {x : PyData} (h : x ∈ [PyData.int 2, .int 5, .int 12]) : ∃ i : Nat, x = .int ((i + 1 : Nat) : Int) ∧ i ≤ 11 := by
  simp only [List.mem_cons, List.not_mem_nil, or_false] at h
  rcases h with rfl | rfl | rfl
  · exact ⟨1, rfl, by decide⟩
  · exact ⟨4, rfl, by decide⟩
  · exact ⟨11, rfl, by decide⟩
theorem BagAt.app {b : Nat} {cs : Cs} {Z : Int} {ys : Cs} (B : BagAt b cs Z) : BagAt b (cs ++ ys) Z := by
  obtain ⟨x, y, z, e, r⟩ := B
  exact ⟨x, y, z, by rw [List.getElem?_append_left (List.getElem?_eq_some_iff.mp e).1]; exact e, r⟩
theorem only_app (S : List Nat) (cs ys : Cs) : Only S cs (cs ++ ys) := ⟨by simp, fun i hi _ => by rw [List.getElem?_append_left hi]⟩
theorem BagAt.lt {b : Nat} {cs : Cs} {Z : Int} (B : BagAt b cs Z) : b < cs.length := by
  obtain ⟨x, y, z, e, r⟩ := B
  exact (List.getElem?_eq_some_iff.mp e).1
theorem turnD {p : List (PySem.Str × Int)} (P : Plan p) {L : List PyData} (hL : L = (p.map (·.1)).map PyData.str) {N : Nat} (hN : 45 ≤ N) {b : Nat} {cs : Cs} {Z : Int} (B : BagAt b cs Z) (hZ : Z ≤ 900000000) {acc : List PyData} (ha : acc.length ≤ 1000) (t4 t5 t6 t7 t8 t9 t10 t11 t12 t13 t14 t15 t16 t17 : Option DL.Slot) :
    ∃ (s : PyData) (bb : Bool) (l : List PyData) (d : Nat) (r : List PyData) (cs' : Cs) (t5' : Option DL.Slot), sSeq (dA (sem N)) (dB (sem N)) [some (.fr (.cel b)), some (.fr (.d (planD p))), some (.fr (.d (.list L))), some (.ow (.list acc)), t4, t5, t6, t7, t8, t9, t10, t11, t12, t13, t14, t15, t16, t17] cs
      = .nx [some (.fr (.cel b)), some (.fr (.d (planD p))), some (.fr (.d (.list L))), some (.ow (.list (acc ++ [progD p s]))), t4, t5', t6, t7, t8, t9, t10, t11, t12, t13, t14, t15, t16, t17] cs' ∧ Made p s bb l d r ∧ BagAt b cs' (Z + 200000) := by
  have zb := zb_big
  have hl := P.P.len
  obtain ⟨k, cs1, e1, hk, B1, O1⟩ := pickN (xs := [.int 1, .int 4, .int 12, .int 30]) B (by omega) (by decide) (by decide) (show 2 ≤ N by omega)
  obtain ⟨K, rfl, K0, K1⟩ := left_lim hk
  -- the cells
  have b1 := B1.lt
  have B2 : BagAt b (cs1 ++ [.lst [.d (.int K)]] ++ [.lst [.d (.int 50)]]) (Z + 1) := B1.app.app
  obtain ⟨D, cs3, e3, hD, B3, O3⟩ := pickN (xs := [.int 2, .int 5, .int 12]) B2 (by omega) (by decide) (by decide) (show 2 ≤ N by omega)
  obtain ⟨dd, rfl, hdd⟩ := deep_lim hD
  have hle : (cs1 ++ [Cell.lst [.d (.int K)]] ++ [.lst [.d (.int 50)]])[cs1.length]? = some (.lst [.d (.int K)]) := by simp
  have hq : (cs1 ++ [Cell.lst [.d (.int K)]] ++ [.lst [.d (.int 50)]])[cs1.length + 1]? = some (.lst [.d (.int 50)]) := by simp
  have Lf3 : LeftAt cs1.length cs3 K := LeftAt.only (show LeftAt cs1.length _ K from hle) O3 (by simp; omega)
  have R3 : RoomAt (cs1.length + 1) cs3 := RoomAt.only ⟨50, hq⟩ O3 (by simp; omega)
  obtain ⟨bb, s, l, d, r, cs4, K', e4, h4, ok4, hd4, hc4, hm4, hk4, B4, R4, Lf4, O4⟩ := ss_gen (b := b) (q := cs1.length + 1) (le := cs1.length) hL (by rw [List.length_map]; omega) (by rw [List.length_map]; omega) (by omega) (by omega) (by omega) dd (by omega) N cs3 _ K (by omega) B3 R3 Lf3 (by omega) (by omega)
  have rl := h4.rlen
  refine ⟨s, bb, l, d, r, cs4, some (.fr (.cel cs1.length)), ?_, ⟨⟨P.P, h4, ok4, by omega⟩, by omega, by omega, by omega⟩, B4.mono (by omega)⟩
  have s1 : dA (sem N) [some (.fr (.cel b)), some (.fr (.d (planD p))), some (.fr (.d (.list L))), some (.ow (.list acc)), t4, t5, t6, t7, t8, t9, t10, t11, t12, t13, t14, t15, t16, t17] cs
      = .nx [some (.fr (.cel b)), some (.fr (.d (planD p))), some (.fr (.d (.list L))), some (.ow (.list acc)), t4, some (.fr (.cel cs1.length)), t6, t7, t8, t9, t10, t11, t12, t13, t14, t15, t16, t17] (cs1 ++ [.lst [.d (.int K)]]) := by
    simp [dA, e1]
  have m := meth_ownC (i := 3) (f := eTup (aCons (eVar 1) (aCons (eFz (oDef (sem N ._law_statements) [] (aCons (eVar 0) (aCons (eVar 2) (aCons (eCel (oLst (aCons (eC (.int 50)) (aNil)))) (aCons (eVar 5) (aCons (eFz (oDef (sem N ._law_pick) [] (aCons (eVar 0) (aCons (eLst (aCons (eC (.int 2)) (aCons (eC (.int 5)) (aCons (eC (.int 12)) (aNil))))) (aNil))))) (aNil)))))))) (aNil))))
    (sl := [some (.fr (.cel b)), some (.fr (.d (planD p))), some (.fr (.d (.list L))), some (.ow (.list acc)), t4, some (.fr (.cel cs1.length)), t6, t7, t8, t9, t10, t11, t12, t13, t14, t15, t16, t17]) (cs := cs1 ++ [.lst [.d (.int K)]]) (cs' := cs4) (ds := acc) (v := progD p s) rfl (by
      have hlen : (cs1 ++ [Cell.lst [.d (.int K)]]).length = cs1.length + 1 := by simp
      rw [List.append_assoc] at e3
      simp only [List.cons_append, List.nil_append] at e3
      generalize ((dd + 1 : Nat) : Int) = DD at e3 e4
      simp [e3, e4, progD]) (by omega)
  rw [ev_seq, s1, RS.seq_nx]
  exact m
end LW
end
section
set_option Elab.async false
set_option linter.all false
set_option maxRecDepth 100000
set_option autoImplicit false
namespace LW
open PySem PySem.Spec PyProof.Rows L2 DL
theorem plan_fit {p : List (PySem.Str × Int)} (so : ∀ x ∈ p.map (·.1), PyData.strOk x = true) : Fit (planD p) 2 :=
  FitL.tup (k := 1) (FitL.map fun q hq => FitL.tup (k := 0) (FitL.cons (Fit.str (so _ (List.mem_map_of_mem hq))) (FitL.cons Fit.int FitL.nil)))
theorem prog_fit {p : List (PySem.Str × Int)} (so : ∀ x ∈ p.map (·.1), PyData.strOk x = true) {b : Bool} {s : PyData} {l : List PyData} {d : Nat} {r : List PyData} (h : StOk (p.map (·.1)) b s l d r) (hd : d ≤ 14) : Fit (progD p s) 70 :=
  FitL.tup (k := 69) (FitL.cons ((plan_fit so).mono (by omega)) (FitL.cons ((StOk.fit so h).2.2.mono (by omega)) FitL.nil))
def sk : PyData := .tuple [.str "skip"]
theorem skip2 {p : List (PySem.Str × Int)} (P : Plan p) {N : Nat} (hN : 90 ≤ N) (cs : Cs) : sem N .then [.d (progD p sk), .d (progD p sk)] cs = .ok (.fr (.d (progD p (.tuple [.str "seq", .tuple [sk, sk]])))) cs := by
  have g : Prg p false sk [] 1 [sk] := ⟨P.P, skip_ok _, (fun z => by cases z), by simp⟩
  have o : okB 1 [sk] = true := by decide +kernel
  have t := then_ev hN g o (by decide) g o (by decide) (ne_self (plan_fit P.so) (by decide)) cs
  rw [if_neg (by decide)] at t
  have g2 : Prg p true (.tuple [.str "seq", .tuple [sk, sk]]) [sk, sk] 1 [sk, sk] := ⟨P.P, .cons (skip_ok _) (.cons (skip_ok _) .nil), (fun _ => by simp), by simp⟩
  have w := whole_ev g2 (N := N - 1) (by omega) cs
  rw [if_pos (by decide +kernel)] at w
  exact t.trans w
def dueD (p : List (PySem.Str × Int)) (x : PyData) (d : Nat) (r : List PyData) : PyData := if okB d r = true then progD p x else .str "program"
theorem turnH {p : List (PySem.Str × Int)} (P : Plan p) {N : Nat} (hN : 90 ≤ N) {cs : Cs} {w : Int} {dues : List PyData} {x one two test : PyData} {b : Bool} {l : List PyData} {d : Nat} {r : List PyData} (hx : atI dues w = some x) (G : Prg p b x l d r) (hd : d ≤ 13)
    (T : sem N ._law_told [.d (.int w), .d test, .d one, .d two] cs = .ok (.fr (.d (dueD p x d r))) cs) (t0 t2 t3 t4 t5 t11 t12 t13 t14 t15 t16 t17 : Option DL.Slot) :
    ∃ (t11' t12' t13' : Option DL.Slot), sSeq (hA (sem N)) (sSeq (hB (sem N)) (hC (sem N))) [t0, some (.fr (.d (planD p))), t2, t3, t4, t5, some (.fr (.d one)), some (.fr (.d two)), some (.fr (.d test)), some (.fr (.d (.list dues))), some (.fr (.d (.int w))), t11, t12, t13, t14, t15, t16, t17] cs
      = .nx [t0, some (.fr (.d (planD p))), t2, t3, t4, t5, some (.fr (.d one)), some (.fr (.d two)), some (.fr (.d test)), some (.fr (.d (.list dues))), some (.fr (.d (.int w))), t11', t12', t13', t14, t15, t16, t17] cs := by
  obtain ⟨W, hl⟩ := many_ok G.S G.len
  have m := many_full W G.S.seq_eq G.ok (by have := G.len; omega) N cs (by omega)
  refine ⟨some (.fr (.d (.int (cnt r : Int)))), some (.fr (.d (.int (d : Int)))), some (.fr (.d (dueD p x d r))), ?_⟩
  have s1 : hA (sem N) [t0, some (.fr (.d (planD p))), t2, t3, t4, t5, some (.fr (.d one)), some (.fr (.d two)), some (.fr (.d test)), some (.fr (.d (.list dues))), some (.fr (.d (.int w))), t11, t12, t13, t14, t15, t16, t17] cs
      = .nx [t0, some (.fr (.d (planD p))), t2, t3, t4, t5, some (.fr (.d one)), some (.fr (.d two)), some (.fr (.d test)), some (.fr (.d (.list dues))), some (.fr (.d (.int w))), some (.fr (.d (.int (cnt r : Int)))), some (.fr (.d (.int (d : Int)))), t13, t14, t15, t16, t17] cs := by
    simp [hA, hx, m, prD]
  have s2 : hB (sem N) [t0, some (.fr (.d (planD p))), t2, t3, t4, t5, some (.fr (.d one)), some (.fr (.d two)), some (.fr (.d test)), some (.fr (.d (.list dues))), some (.fr (.d (.int w))), some (.fr (.d (.int (cnt r : Int)))), some (.fr (.d (.int (d : Int)))), t13, t14, t15, t16, t17] cs
      = .nx [t0, some (.fr (.d (planD p))), t2, t3, t4, t5, some (.fr (.d one)), some (.fr (.d two)), some (.fr (.d test)), some (.fr (.d (.list dues))), some (.fr (.d (.int w))), some (.fr (.d (.int (cnt r : Int)))), some (.fr (.d (.int (d : Int)))), some (.fr (.d (dueD p x d r))), t14, t15, t16, t17] cs := by
    by_cases h1 : cnt r ≤ 60
    · by_cases h2 : d ≤ 12
      · have i1 : ((cnt r : Nat) : Int) ≤ 60 := by omega
        have i2 : (d : Int) ≤ 12 := by omega
        simp [hB, leD, cT, i1, i2, hx, dueD, LW.okB, h1, h2, progD]
      · have i1 : ((cnt r : Nat) : Int) ≤ 60 := by omega
        have i2 : ¬ (d : Int) ≤ 12 := by omega
        simp [hB, leD, cT, i1, i2, dueD, LW.okB, h2]
    · have i1 : ¬ ((cnt r : Nat) : Int) ≤ 60 := by omega
      simp [hB, leD, cT, i1, dueD, LW.okB, h1]
  have ft : Fit (dueD p x d r) 70 := by
    unfold dueD
    split
    · exact prog_fit P.so G.S (by omega)
    · exact Fit.str (w_ok _ (by simp))
  have s3 : hC1 (sem N) [t0, some (.fr (.d (planD p))), t2, t3, t4, t5, some (.fr (.d one)), some (.fr (.d two)), some (.fr (.d test)), some (.fr (.d (.list dues))), some (.fr (.d (.int w))), some (.fr (.d (.int (cnt r : Int)))), some (.fr (.d (.int (d : Int)))), some (.fr (.d (dueD p x d r))), t14, t15, t16, t17] cs = .ok false cs := by
    have := ne_self ft (by decide)
    simp [hC1, T, -ev_neD, -ev_eqD, this]
  have s4 : hC2 (sem N) [t0, some (.fr (.d (planD p))), t2, t3, t4, t5, some (.fr (.d one)), some (.fr (.d two)), some (.fr (.d test)), some (.fr (.d (.list dues))), some (.fr (.d (.int w))), some (.fr (.d (.int (cnt r : Int)))), some (.fr (.d (.int (d : Int)))), some (.fr (.d (dueD p x d r))), t14, t15, t16, t17] cs = .ok false cs := by
    have a := skip2 P hN cs
    unfold progD sk at a
    have f : neD (.tuple [.str "seq", .tuple [.tuple [.str "skip"], .tuple [.str "skip"]]]) (.tuple [.str "seq", .tuple [.tuple [.str "skip"], .tuple [.str "skip"]]]) = some (.bool false) := by kernel_rfl
    have g : mulT (.tuple [.tuple [.str "skip"]]) (.int 2) = some (.tuple [.tuple [.str "skip"], .tuple [.str "skip"]]) := by kernel_rfl
    simp [hC2, a, -ev_neD, -ev_eqD, f, g]
  rw [ev_seq, s1, RS.seq_nx, ev_seq, s2, RS.seq_nx]
  unfold hC
  rw [ev_sIf, ev_tOr, s3]
  simp only [R.bind_ok]
  rw [if_neg (by decide), s4]
  rfl
end LW
end
section
set_option Elab.async false
set_option linter.all false
set_option maxRecDepth 100000
set_option autoImplicit false
namespace LW
open PySem PySem.Spec PyProof.Rows L2 DL
theorem outc_exc (w : PySem.Str) (cs : Cs) : outc (exc w cs) = .ok (.fr (.d (.str (msg w)))) cs := rfl
theorem outc_whole {p : List (PySem.Str × Int)} {x : PyData} {d : Nat} {r : List PyData} (cs : Cs) : outc (if okB d r = true then .ok (.fr (.d (progD p x))) cs else exc "BadProgram" cs) = .ok (.fr (.d (dueD p x d r))) cs := by
  unfold dueD
  split
  · rfl
  · rw [outc_exc, msg_p]
theorem whole_cases {p : List (PySem.Str × Int)} {x : PyData} {d : Nat} {r : List PyData} (cs : Cs) : (∃ y, (if okB d r = true then (.ok (.fr (.d (progD p x))) cs : R DL.Slot) else exc "BadProgram" cs) = .ok (.fr (.d y)) cs) ∨ (if okB d r = true then (.ok (.fr (.d (progD p x))) cs : R DL.Slot) else exc "BadProgram" cs) = exc "BadProgram" cs := by
  split
  · exact .inl ⟨_, rfl⟩
  · exact .inr rfl
section
variable {p : List (PySem.Str × Int)} {b b' : Bool} {s s' : PyData} {l l' : List PyData} {d d' : Nat} {r r' : List PyData}
/-- the three programs that are due -/
theorem due0 (M : Made p s b l d r) (M' : Made p s' b' l' d' r') : Prg p true (.tuple [.str "seq", .tuple (partL b s l ++ partL b' s' l')]) (partL b s l ++ partL b' s' l') (max d d') (r ++ r') := by
  have h1 := partL_len (s := s) M.G.ok
  have h2 := partL_len (s := s') M'.G.ok
  have h3 := M.hr
  have h4 := M'.hr
  exact ⟨M.G.P, M.G.S.part.app M'.G.S.part, fun _ => by rw [List.length_append]; omega, by rw [List.length_append]; omega⟩
theorem fullLen (b : Bool) (s : PyData) (r : List PyData) : (full b s r).length ≤ r.length + 1 := by cases b <;> simp [full]
theorem due1 (M : Made p s b l d r) (M' : Made p s' b' l' d' r') {c : Cn5} (hc : c.ok (p.map (·.1))) (hd : c.dep ≤ 10) : Prg p false (.tuple [.str "if", c.toD, s, s']) [] (max d d' + 1) (.tuple [.str "if", c.toD, s, s'] :: (full b s r ++ full b' s' r')) := by
  have h1 := fullLen b s r
  have h2 := fullLen b' s' r'
  have h3 := M.hr
  have h4 := M'.hr
  exact ⟨M.G.P, .ite hc hd M.G.S M.G.ok M'.G.S M'.G.ok, (fun z => by cases z), by rw [List.length_cons, List.length_append]; omega⟩
theorem due2 (M : Made p s b l d r) {c : Cn5} (hc : c.ok (p.map (·.1))) (hd : c.dep ≤ 10) : Prg p false (.tuple [.str "while", c.toD, s]) [] (d + 1) (.tuple [.str "while", c.toD, s] :: full b s r) := by
  have h1 := fullLen b s r
  have h3 := M.hr
  exact ⟨M.G.P, .whl hc hd M.G.S M.G.ok, (fun z => by cases z), by rw [List.length_cons]; omega⟩
theorem told0_due (P : Plan p) (M : Made p s b l d r) (M' : Made p s' b' l' d' r') {N : Nat} (hN : 91 ≤ N) (c : PyData) (cs : Cs) :
    sem N ._law_told [.d (.int 0), .d c, .d (progD p s), .d (progD p s')] cs = .ok (.fr (.d (dueD p (.tuple [.str "seq", .tuple (partL b s l ++ partL b' s' l')]) (max d d') (r ++ r')))) cs := by
  obtain ⟨n, rfl, hn⟩ := succ_of (show 90 + 1 ≤ N by omega)
  have h1 := M.hd
  have h2 := M'.hd
  have t := then_ev hn M.G M.okB M.hd M'.G M'.okB M'.hd (ne_self (plan_fit P.so) (by decide)) cs
  rw [if_neg (by decide), whole_ev (due0 M M') (N := n - 1) (by omega) cs] at t
  have q := told_of (test := c) (told0 (N := n)) (by
    rw [t]
    rcases whole_cases (p := p) (x := .tuple [.str "seq", .tuple (partL b s l ++ partL b' s' l')]) (d := max d d') (r := r ++ r') cs with h | h
    · exact .inl h
    · exact .inr (.inl h))
  rw [q, t]
  exact outc_whole cs
theorem cn_form {c : Cn5} (P : PlanOk p) (hc : c.ok (p.map (·.1))) (hd : c.dep ≤ 10) (N : Nat) (cs : Cs) (h : 14 ≤ N) : sem N .need_condition [.d c.toD] cs = nul cs :=
  needc (fun x hx => by obtain ⟨q, hq, rfl⟩ := List.mem_map.mp hx; exact P.nm q hq) hc hd h cs
theorem told1_due (P : Plan p) (M : Made p s b l d r) (M' : Made p s' b' l' d' r') {c : Cn5} (hc : c.ok (p.map (·.1))) (hd : c.dep ≤ 10) {N : Nat} (hN : 91 ≤ N) (cs : Cs) :
    sem N ._law_told [.d (.int 1), .d c.toD, .d (progD p s), .d (progD p s')] cs = .ok (.fr (.d (dueD p (.tuple [.str "if", c.toD, s, s']) (max d d' + 1) (.tuple [.str "if", c.toD, s, s'] :: (full b s r ++ full b' s' r'))))) cs := by
  obtain ⟨n, rfl, hn⟩ := succ_of (show 90 + 1 ≤ N by omega)
  have h1 := M.hd
  have h2 := M'.hd
  have t := either_ev hn (fun N cs h => cn_form P.P hc hd N cs h) (vc := false) (fun N cs h => needco P.P hc hd h cs) M.G M.okB M.hd M'.G M'.okB M'.hd (ne_self (plan_fit P.so) (by decide)) cs
  rw [if_neg (by decide), if_neg (by decide), whole_ev (due1 M M' hc hd) (N := n - 1) (by omega) cs] at t
  have q := told_of (told1 (N := n)) (by
    rw [t]
    rcases whole_cases (p := p) (x := .tuple [.str "if", c.toD, s, s']) (d := max d d' + 1) (r := .tuple [.str "if", c.toD, s, s'] :: (full b s r ++ full b' s' r')) cs with h | h
    · exact .inl h
    · exact .inr (.inl h))
  rw [q, t]
  exact outc_whole cs
theorem told2_due (P : Plan p) (M : Made p s b l d r) {c : Cn5} (hc : c.ok (p.map (·.1))) (hd : c.dep ≤ 10) {N : Nat} (hN : 91 ≤ N) (two : PyData) (cs : Cs) :
    sem N ._law_told [.d (.int 2), .d c.toD, .d (progD p s), .d two] cs = .ok (.fr (.d (dueD p (.tuple [.str "while", c.toD, s]) (d + 1) (.tuple [.str "while", c.toD, s] :: full b s r)))) cs := by
  obtain ⟨n, rfl, hn⟩ := succ_of (show 90 + 1 ≤ N by omega)
  have h1 := M.hd
  have t := around_ev hn (fun N cs h => cn_form P.P hc hd N cs h) (vc := false) (fun N cs h => needco P.P hc hd h cs) M.G M.okB M.hd cs
  rw [if_neg (by decide), whole_ev (due2 M hc hd) (N := n - 1) (by omega) cs] at t
  have q := told_of (two := two) (told2 (N := n)) (by
    rw [t]
    rcases whole_cases (p := p) (x := .tuple [.str "while", c.toD, s]) (d := d + 1) (r := .tuple [.str "while", c.toD, s] :: full b s r) cs with h | h
    · exact .inl h
    · exact .inr (.inl h))
  rw [q, t]
  exact outc_whole cs
/-! another program, of other variables -/
theorem plans_ne {p' : List (PySem.Str × Int)} (P : Plan p) (so : ∀ x ∈ p'.map (·.1), PyData.strOk x = true) : neD (planD p') (planD p) = some (.bool (!PyData.eqv (planD p') (planD p))) ∧ neD (planD p) (planD p') = some (.bool (!PyData.eqv (planD p') (planD p))) := by
  refine ⟨ne_of (plan_fit so) (plan_fit P.so).lay (by decide), ?_⟩
  rw [ne_of (plan_fit P.so) (plan_fit so).lay (by decide), PySem.W.eqv_comm]
theorem told_alike {p' : List (PySem.Str × Int)} {s3 : PyData} (P : Plan p) (M : Made p s b l d r) (Q : Good p' s3) (ne : neD (planD p) (planD p') = some (.bool true)) {c : Cn5} (hc : c.ok (p.map (·.1))) (hd : c.dep ≤ 10) {N : Nat} (hN : 91 ≤ N) (cs : Cs) :
    sem N ._law_told [.d (.int 0), .d c.toD, .d (progD p s), .d (progD p' s3)] cs = .ok (.fr (.d (.str "alike"))) cs ∧ sem N ._law_told [.d (.int 1), .d c.toD, .d (progD p s), .d (progD p' s3)] cs = .ok (.fr (.d (.str "alike"))) cs := by
  obtain ⟨n, rfl, hn⟩ := succ_of (show 90 + 1 ≤ N by omega)
  obtain ⟨⟨b3, l3, d3, r3, G3, o3, hd3⟩, so3⟩ := Q
  have t := then_ev hn M.G M.okB M.hd G3 o3 hd3 ne cs
  rw [if_pos rfl] at t
  have u := either_ev hn (fun N cs h => cn_form P.P hc hd N cs h) (vc := false) (fun N cs h => needco P.P hc hd h cs) M.G M.okB M.hd G3 o3 hd3 ne cs
  rw [if_neg (by decide), if_pos rfl] at u
  refine ⟨?_, ?_⟩
  · rw [told_of (told0 (N := n)) (by rw [t]; exact .inr (.inr (.inr rfl))), t, outc_exc, msg_a]
  · rw [told_of (told1 (N := n)) (by rw [u]; exact .inr (.inr (.inr rfl))), u, outc_exc, msg_a]
theorem told_bad {p' : List (PySem.Str × Int)} {s3 : PyData} (P : Plan p) (M : Made p s b l d r) (M' : Made p s' b' l' d' r') (Q : Good p' s3) {c : PyData} (hc : c ∈ [bad1, bad2]) {N : Nat} (hN : 91 ≤ N) (cs : Cs) :
    sem N ._law_told [.d (.int 1), .d c, .d (progD p s), .d (progD p' s3)] cs = .ok (.fr (.d (.str "condition"))) cs ∧ sem N ._law_told [.d (.int 2), .d c, .d (progD p s), .d (progD p s')] cs = .ok (.fr (.d (.str "condition"))) cs := by
  obtain ⟨n, rfl, hn⟩ := succ_of (show 90 + 1 ≤ N by omega)
  have tu : sem n .either [.d c, .d (progD p s), .d (progD p' s3)] cs = exc "BadCondition" cs ∧ sem n .around [.d c, .d (progD p s)] cs = exc "BadCondition" cs := by
    simp only [List.mem_cons, List.not_mem_nil, or_false] at hc
    rcases hc with rfl | rfl
    · obtain ⟨⟨b3, l3, d3, r3, G3, o3, hd3⟩, so3⟩ := Q
      have f : ∀ (N : Nat) (cs : Cs), 12 ≤ N → sem N .need_condition_of [.d (planD p), .d bad1] cs = if true = true then exc "BadCondition" cs else nul cs := fun N cs h => by
        rw [if_pos rfl]
        exact bad1_of P.P P.pl h cs
      have t := either_ev hn (fun N cs h => bad1_form h cs) f M.G M.okB M.hd G3 o3 hd3 (plans_ne P so3).2 cs
      have u := around_ev hn (fun N cs h => bad1_form h cs) f M.G M.okB M.hd cs
      rw [if_pos rfl] at t u
      exact ⟨t, u⟩
    · exact ⟨either_bad hn _ _ cs, around_bad hn _ cs⟩
  obtain ⟨t, u⟩ := tu
  refine ⟨?_, ?_⟩
  · rw [told_of (told1 (N := n)) (by rw [t]; exact .inr (.inr (.inl rfl))), t, outc_exc, msg_c]
  · rw [told_of (told2 (N := n)) (by rw [u]; exact .inr (.inr (.inl rfl))), u, outc_exc, msg_c]
end
end LW
end
section
set_option Elab.async false
set_option linter.all false
set_option maxRecDepth 100000
set_option autoImplicit false
namespace LW
open PySem PySem.Spec PyProof.Rows L2 DL
theorem forL_cons {g : Val → Sl → Option Sl} {body : SS} {x : Val} {xs : List Val} {sl sl1 sl2 : Sl} {cs cs2 : Cs} (h1 : g x sl = some sl1) (h2 : body sl1 cs = .nx sl2 cs2) : forL g body (x :: xs) sl cs = forL g body xs sl2 cs2 := by
  rw [forL.eq_2]
  simp only [h1, h2]
theorem forL_nil {g : Val → Sl → Option Sl} {body : SS} {sl : Sl} {cs : Cs} : forL g body [] sl cs = .nx sl cs := rfl
theorem rangeL2 : rangeL 0 2 = [.d (.int 0), .d (.int 1)] := rfl
theorem rangeL3 : rangeL 0 3 = [.d (.int 0), .d (.int 1), .d (.int 2)] := rfl
section
variable {p : List (PySem.Str × Int)} {b : Nat} {cs : Cs}
theorem r1 (hp : p.length ≤ 16777216) (N : Nat) : R1 (sem N) [some (.fr (.cel b)), some (.fr (.d (planD p))), none, none, none, none, none, none, none, none, none, none, none, none, none, none, none, none] cs = .nx [some (.fr (.cel b)), some (.fr (.d (planD p))), some (.ow (.list ((p.map (·.1)).map PyData.str))), none, none, none, none, none, none, none, none, none, none, none, none, none, none, none] cs := by
  have lc : lcL (gTp (gsCons (gNm 16) (gsCons (gNm 17) (gsNil)))) (tTrue) (eVar 16) (blkSl [some (.fr (.cel b)), some (.fr (.d (planD p))), none, none, none, none, none, none, none, none, none, none, none, none, none, none, none, none] [16, 17]) (p.map fun p => Val.d (PyData.tuple [.str p.1, .int p.2])) cs = .ok ((p.map fun p => Val.d (PyData.tuple [.str p.1, .int p.2])).map fun v => match v with
      | .d (.tuple (x :: _)) => x
      | _ => .none) cs := by
    refine lcL_all fun x hx => ?_
    simp only [List.mem_map] at hx
    obtain ⟨z, hz, rfl⟩ := hx
    exact ⟨_, rfl, rfl, rfl⟩
  have e : (p.map fun p => Val.d (PyData.tuple [.str p.1, .int p.2])).map (fun v => match v with
      | .d (.tuple (x :: _)) => x
      | _ => .none) = (p.map (·.1)).map PyData.str := by
    rw [List.map_map, List.map_map]
    rfl
  rw [e] at lc
  have it : pSeq (eVar 1) [some (.fr (.cel b)), some (.fr (.d (planD p))), none, none, none, none, none, none, none, none, none, none, none, none, none, none, none, none] cs = .ok (p.map fun p => Val.d (PyData.tuple [.str p.1, .int p.2])) cs := by
    simp
  unfold R1
  rw [ev_set, lc_ev it (by rw [List.length_map]; exact hp) lc]
  rfl
theorem r2 (N : Nat) : R2 (sem N) [some (.fr (.cel b)), some (.fr (.d (planD p))), some (.ow (.list ((p.map (·.1)).map PyData.str))), none, none, none, none, none, none, none, none, none, none, none, none, none, none, none] cs = .nx [some (.fr (.cel b)), some (.fr (.d (planD p))), some (.fr (.d (.list ((p.map (·.1)).map PyData.str)))), none, none, none, none, none, none, none, none, none, none, none, none, none, none, none] cs := rfl
theorem r3 (N : Nat) : R3 (sem N) [some (.fr (.cel b)), some (.fr (.d (planD p))), some (.fr (.d (.list ((p.map (·.1)).map PyData.str)))), none, none, none, none, none, none, none, none, none, none, none, none, none, none, none] cs = .nx [some (.fr (.cel b)), some (.fr (.d (planD p))), some (.fr (.d (.list ((p.map (·.1)).map PyData.str)))), some (.ow (.list [])), none, none, none, none, none, none, none, none, none, none, none, none, none, none] cs := rfl
theorem r4 (P : Plan p) {N : Nat} (hN : 45 ≤ N) {Z : Int} (B : BagAt b cs Z) (hZ : Z ≤ 1000) :
    ∃ (s1 s2 : PyData) (b1 b2 : Bool) (l1 l2 : List PyData) (d1 d2 : Nat) (r1 r2 : List PyData) (cs' : Cs) (t4 t5 : Option DL.Slot), R4 (sem N) [some (.fr (.cel b)), some (.fr (.d (planD p))), some (.fr (.d (.list ((p.map (·.1)).map PyData.str)))), some (.ow (.list [])), none, none, none, none, none, none, none, none, none, none, none, none, none, none] cs = .nx [some (.fr (.cel b)), some (.fr (.d (planD p))), some (.fr (.d (.list ((p.map (·.1)).map PyData.str)))), some (.ow (.list [progD p s1, progD p s2])), t4, t5, none, none, none, none, none, none, none, none, none, none, none, none] cs' ∧ Made p s1 b1 l1 d1 r1 ∧ Made p s2 b2 l2 d2 r2 ∧ BagAt b cs' 500000 := by
  obtain ⟨s1, b1, l1, d1, r1, cs1, t5, e1, M1, B1⟩ := turnD P rfl hN B (by omega) (acc := []) (by simp) (some (.fr (.d (.int 0)))) none none none none none none none none none none none none none
  obtain ⟨s2, b2, l2, d2, r2, cs2, t5', e2, M2, B2⟩ := turnD P rfl hN B1 (by omega) (acc := [progD p s1]) (by simp) (some (.fr (.d (.int 1)))) t5 none none none none none none none none none none none none
  refine ⟨s1, s2, b1, b2, l1, l2, d1, d2, r1, r2, cs2, some (.fr (.d (.int 1))), t5', ?_, M1, M2, B2.mono (by omega)⟩
  unfold R4
  rw [ev_sFor]
  have rg : ∀ sl cs, pRange1 (bCons (eC (.int 2)) (aNil)) sl cs = .ok [.d (.int 0), .d (.int 1)] cs := fun sl cs => (range_ev (n := 2) rfl (by decide)).trans (congrArg (fun z => R.ok z cs) rangeL2)
  rw [rg, R.go_ok, forL_cons rfl e1, forL_cons rfl e2, forL_nil]
  rfl
theorem r5 {x y : PyData} (N : Nat) (t4 t5 : Option DL.Slot) : R5 (sem N) [some (.fr (.cel b)), some (.fr (.d (planD p))), some (.fr (.d (.list ((p.map (·.1)).map PyData.str)))), some (.ow (.list [x, y])), t4, t5, none, none, none, none, none, none, none, none, none, none, none, none] cs = .nx [some (.fr (.cel b)), some (.fr (.d (planD p))), some (.fr (.d (.list ((p.map (·.1)).map PyData.str)))), some (.fr (.d (.list [x, y]))), t4, t5, none, none, none, none, none, none, none, none, none, none, none, none] cs := rfl
theorem r6 {one two : PyData} (N : Nat) (t4 t5 : Option DL.Slot) : R6 (sem N) [some (.fr (.cel b)), some (.fr (.d (planD p))), some (.fr (.d (.list ((p.map (·.1)).map PyData.str)))), some (.fr (.d (.list [one, two]))), t4, t5, none, none, none, none, none, none, none, none, none, none, none, none] cs = .nx [some (.fr (.cel b)), some (.fr (.d (planD p))), some (.fr (.d (.list ((p.map (·.1)).map PyData.str)))), some (.fr (.d (.list [one, two]))), t4, t5, some (.fr (.d (one))), some (.fr (.d (two))), none, none, none, none, none, none, none, none, none, none] cs := rfl
theorem r7 {one two : PyData} (P : Plan p) {N : Nat} (hN : 45 ≤ N) (B : BagAt b cs 500000) (t3 t4 t5 : Option DL.Slot) : ∃ (c : Cn5) (cs' : Cs), R7 (sem N) [some (.fr (.cel b)), some (.fr (.d (planD p))), some (.fr (.d (.list ((p.map (·.1)).map PyData.str)))), t3, t4, t5, some (.fr (.d (one))), some (.fr (.d (two))), none, none, none, none, none, none, none, none, none, none] cs = .nx [some (.fr (.cel b)), some (.fr (.d (planD p))), some (.fr (.d (.list ((p.map (·.1)).map PyData.str)))), t3, t4, t5, some (.fr (.d (one))), some (.fr (.d (two))), some (.fr (.d (c.toD))), none, none, none, none, none, none, none, none, none] cs' ∧ c.ok (p.map (·.1)) ∧ c.dep ≤ 10 ∧ BagAt b cs' 600000 := by
  have zb := zb_big
  have hl := P.P.len
  have b1 := B.lt
  have hq : (cs ++ [Cell.lst [.d (.int 9)]])[cs.length]? = some (.lst [.d (.int 9)]) := by simp
  have cc : cC 3 = 2047 := by decide
  obtain ⟨c, cs', e, ok, hd, B', R', O'⟩ := condN (ns := p.map (·.1)) (L := (p.map (·.1)).map PyData.str) rfl (by rw [List.length_map]; omega) (by rw [List.length_map]; omega) (b := b) (q := cs.length) (by omega) 3 (N := N) (cs := cs ++ [Cell.lst [.d (.int 9)]]) (Z := 500000) B.app ⟨9, hq⟩ (by rw [cc]; omega) (by omega)
  have e : sem N ._law_condition [.cel b, .d (.list ((p.map (·.1)).map PyData.str)), .d (.int 5), .cel cs.length] (cs ++ [Cell.lst [.d (.int 9)]]) = .ok (.fr (.d c.toD)) cs' := e
  refine ⟨c, cs', ?_, ok, by omega, B'.mono (by rw [cc]; decide)⟩
  generalize (p.map (·.1)).map PyData.str = L at e ⊢
  simp [R7, e]
section
variable {s1 s2 : PyData} {b1 b2 : Bool} {l1 l2 : List PyData} {d1 d2 : Nat} {r1 r2 : List PyData} {c : Cn5}
theorem part_len {b : Bool} {s : PyData} {l : List PyData} {d : Nat} {r : List PyData} (P : Plan p) (M : Made p s b l d r) : (partL b s l).length ≤ 1000 := by
  have h1 := (stmt_within (fun x hx => by obtain ⟨q, hq, rfl⟩ := List.mem_map.mp hx; exact P.P.nm q hq) M.G.S (by have := M.G.len; omega)).2
  have := M.hr
  unfold partL
  cases b <;> simp <;> omega
theorem r8 (P : Plan p) {N : Nat} (hN : 45 ≤ N) (M1 : Made p s1 b1 l1 d1 r1) (M2 : Made p s2 b2 l2 d2 r2) (t3 t4 t5 : Option DL.Slot) : R8 (sem N) [some (.fr (.cel b)), some (.fr (.d (planD p))), some (.fr (.d (.list ((p.map (·.1)).map PyData.str)))), t3, t4, t5, some (.fr (.d (progD p s1))), some (.fr (.d (progD p s2))), some (.fr (.d (c.toD))), none, none, none, none, none, none, none, none, none] cs = .nx [some (.fr (.cel b)), some (.fr (.d (planD p))), some (.fr (.d (.list ((p.map (·.1)).map PyData.str)))), t3, t4, t5, some (.fr (.d (progD p s1))), some (.fr (.d (progD p s2))), some (.fr (.d (c.toD))), some (.fr (.d (.list [.tuple [.str "seq", .tuple (partL b1 s1 l1 ++ partL b2 s2 l2)], .tuple [.str "if", c.toD, s1, s2], .tuple [.str "while", c.toD, s1]]))), none, none, none, none, none, none, none, none] cs := by
  have a1 := (partsN M1.G.S (N := N) (by omega) cs).2
  have a2 := (partsN M2.G.S (N := N) (by omega) cs).2
  have h1 := part_len P M1
  have h2 := part_len P M2
  have q := add_tups (a := partL b1 s1 l1) (b := partL b2 s2 l2) (by omega)
  generalize (p.map (·.1)).map PyData.str = L
  generalize planD p = pl
  simp [R8, progD, a1, a2, q]
theorem r9 (P : Plan p) {N : Nat} (hN : 91 ≤ N) (M1 : Made p s1 b1 l1 d1 r1) (M2 : Made p s2 b2 l2 d2 r2) (hc : c.ok (p.map (·.1))) (hd : c.dep ≤ 10) (t3 t4 t5 : Option DL.Slot) : ∃ (t10 t11 t12 t13 : Option DL.Slot), R9 (sem N) [some (.fr (.cel b)), some (.fr (.d (planD p))), some (.fr (.d (.list ((p.map (·.1)).map PyData.str)))), t3, t4, t5, some (.fr (.d (progD p s1))), some (.fr (.d (progD p s2))), some (.fr (.d (c.toD))), some (.fr (.d (.list [.tuple [.str "seq", .tuple (partL b1 s1 l1 ++ partL b2 s2 l2)], .tuple [.str "if", c.toD, s1, s2], .tuple [.str "while", c.toD, s1]]))), none, none, none, none, none, none, none, none] cs = .nx [some (.fr (.cel b)), some (.fr (.d (planD p))), some (.fr (.d (.list ((p.map (·.1)).map PyData.str)))), t3, t4, t5, some (.fr (.d (progD p s1))), some (.fr (.d (progD p s2))), some (.fr (.d (c.toD))), some (.fr (.d (.list [.tuple [.str "seq", .tuple (partL b1 s1 l1 ++ partL b2 s2 l2)], .tuple [.str "if", c.toD, s1, s2], .tuple [.str "while", c.toD, s1]]))), t10, t11, t12, t13, none, none, none, none] cs := by
  have h1 := M1.hd
  have h2 := M2.hd
  obtain ⟨u11, u12, u13, e0⟩ := turnH P (N := N) (by omega) (cs := cs) (w := 0) (dues := [.tuple [.str "seq", .tuple (partL b1 s1 l1 ++ partL b2 s2 l2)], .tuple [.str "if", c.toD, s1, s2], .tuple [.str "while", c.toD, s1]]) (x := .tuple [.str "seq", .tuple (partL b1 s1 l1 ++ partL b2 s2 l2)]) rfl (due0 M1 M2) (by omega) (told0_due P M1 M2 hN c.toD cs) (some (.fr (.cel b))) (some (.fr (.d (.list ((p.map (·.1)).map PyData.str))))) t3 t4 t5 none none none none none none none
  obtain ⟨v11, v12, v13, e1⟩ := turnH P (N := N) (by omega) (cs := cs) (w := 1) (dues := [.tuple [.str "seq", .tuple (partL b1 s1 l1 ++ partL b2 s2 l2)], .tuple [.str "if", c.toD, s1, s2], .tuple [.str "while", c.toD, s1]]) (x := .tuple [.str "if", c.toD, s1, s2]) rfl (due1 M1 M2 hc hd) (by omega) (told1_due P M1 M2 hc hd hN cs) (some (.fr (.cel b))) (some (.fr (.d (.list ((p.map (·.1)).map PyData.str))))) t3 t4 t5 u11 u12 u13 none none none none
  obtain ⟨w11, w12, w13, e2⟩ := turnH P (N := N) (by omega) (cs := cs) (w := 2) (dues := [.tuple [.str "seq", .tuple (partL b1 s1 l1 ++ partL b2 s2 l2)], .tuple [.str "if", c.toD, s1, s2], .tuple [.str "while", c.toD, s1]]) (x := .tuple [.str "while", c.toD, s1]) rfl (due2 M1 hc hd) (by omega) (told2_due P M1 hc hd hN (progD p s2) cs) (some (.fr (.cel b))) (some (.fr (.d (.list ((p.map (·.1)).map PyData.str))))) t3 t4 t5 v11 v12 v13 none none none none
  refine ⟨some (.fr (.d (.int 2))), w11, w12, w13, ?_⟩
  unfold R9
  rw [ev_sFor]
  have rg : ∀ sl cs, pRange1 (bCons (eC (.int 3)) (aNil)) sl cs = .ok [.d (.int 0), .d (.int 1), .d (.int 2)] cs := fun sl cs => (range_ev (n := 3) rfl (by decide)).trans (congrArg (fun z => R.ok z cs) rangeL3)
  rw [rg, R.go_ok, forL_cons rfl e0, forL_cons rfl e1, forL_cons rfl e2, forL_nil]
end
section
variable {one two three test bad : PyData}
theorem r10 {N : Nat} {cs1 cs2 : Cs} (e1 : sem N ._law_other [.cel b, .d one] cs = .ok (.fr (.d three)) cs1) (e2 : sem N ._law_pick [.cel b, .d (.list [bad1, bad2])] cs1 = .ok (.fr (.d bad)) cs2) (t2 t3 t4 t5 t9 t10 t11 t12 t13 : Option DL.Slot) : R10 (sem N) [some (.fr (.cel b)), some (.fr (.d (planD p))), t2, t3, t4, t5, some (.fr (.d (one))), some (.fr (.d (two))), some (.fr (.d (test))), t9, t10, t11, t12, t13, none, none, none, none] cs = .nx [some (.fr (.cel b)), some (.fr (.d (planD p))), t2, t3, t4, t5, some (.fr (.d (one))), some (.fr (.d (two))), some (.fr (.d (test))), t9, t10, t11, t12, t13, some (.fr (.d (three))), some (.fr (.d (bad))), none, none] cs2 := by
  unfold bad1 bad2 at e2
  simp [R10, sPar, e1, e2]
theorem r11 {N : Nat} {p' : List (PySem.Str × Int)} {s3 : PyData} {v : Bool} (ne : neD (planD p') (planD p) = some (.bool v)) (h : v = true → sem N ._law_told [.d (.int 0), .d test, .d one, .d (progD p' s3)] cs = .ok (.fr (.d (.str "alike"))) cs ∧ sem N ._law_told [.d (.int 1), .d test, .d one, .d (progD p' s3)] cs = .ok (.fr (.d (.str "alike"))) cs) (t2 t3 t4 t5 t9 t10 t11 t12 t13 : Option DL.Slot) : R11 (sem N) [some (.fr (.cel b)), some (.fr (.d (planD p))), t2, t3, t4, t5, some (.fr (.d (one))), some (.fr (.d (two))), some (.fr (.d (test))), t9, t10, t11, t12, t13, some (.fr (.d (progD p' s3))), some (.fr (.d (bad))), none, none] cs = .nx [some (.fr (.cel b)), some (.fr (.d (planD p))), t2, t3, t4, t5, some (.fr (.d (one))), some (.fr (.d (two))), some (.fr (.d (test))), t9, t10, t11, t12, t13, some (.fr (.d (progD p' s3))), some (.fr (.d (bad))), none, none] cs := by
  have f : neD (.list [.str "alike", .str "alike"]) (.list [.str "alike", .str "alike"]) = some (.bool false) := by kernel_rfl
  have g : mulD (.list [.str "alike"]) (.int 2) = some (.list [.str "alike", .str "alike"]) := by kernel_rfl
  unfold progD at h ⊢
  cases v with
  | false => simp [R11, ne, -ev_neD, -ev_eqD]
  | true =>
    obtain ⟨h0, h1⟩ := h rfl
    simp [R11, ne, h0, h1, f, g, -ev_neD, -ev_eqD]
theorem r12 {N : Nat} (h1 : sem N ._law_told [.d (.int 1), .d bad, .d one, .d three] cs = .ok (.fr (.d (.str "condition"))) cs) (h2 : sem N ._law_told [.d (.int 2), .d bad, .d one, .d two] cs = .ok (.fr (.d (.str "condition"))) cs) (t2 t3 t4 t5 t9 t10 t11 t12 t13 : Option DL.Slot) : R12 (sem N) [some (.fr (.cel b)), some (.fr (.d (planD p))), t2, t3, t4, t5, some (.fr (.d (one))), some (.fr (.d (two))), some (.fr (.d (test))), t9, t10, t11, t12, t13, some (.fr (.d (three))), some (.fr (.d (bad))), none, none] cs = .rt (.fr (.d (.bool true))) cs := by
  have f : eqD (.list [.str "condition", .str "condition"]) (.list [.str "condition", .str "condition"]) = some (.bool true) := by kernel_rfl
  have g : mulD (.list [.str "condition"]) (.int 2) = some (.list [.str "condition", .str "condition"]) := by kernel_rfl
  simp [R12, h1, h2, f, g, -ev_neD, -ev_eqD]
end
theorem seq_step {p q : SS} {sl sl1 : Sl} {cs cs1 : Cs} (h : p sl cs = .nx sl1 cs1) : sSeq p q sl cs = q sl1 cs1 := by
  rw [ev_seq, h, RS.seq_nx]
theorem right_ok {N : Nat} (hN : 91 ≤ N) {Z : Int} (B : BagAt b cs Z) (hZ : Z ≤ 900) : ∃ cs', sem (N + 1) ._law_right [.cel b] cs = .ok (.fr (.d (.bool true))) cs' := by
  have zb := zb_big
  obtain ⟨n, rfl⟩ : ∃ n, N = n + 3 := ⟨N - 3, by omega⟩
  obtain ⟨p, cs1, e1, P, B1, O1⟩ := variables_ok n b cs Z B (by omega)
  have hl := P.P.len
  generalize n + 3 = N at *
  have f0 : R0 (sem N) [some (.fr (.cel b)), none, none, none, none, none, none, none, none, none, none, none, none, none, none, none, none, none] cs = .nx [some (.fr (.cel b)), some (.fr (.d (planD p))), none, none, none, none, none, none, none, none, none, none, none, none, none, none, none, none] cs1 := by
    simp [R0, e1]
  have f1 := r1 (p := p) (b := b) (cs := cs1) (by omega) N
  have f2 := r2 (p := p) (b := b) (cs := cs1) N
  have f3 := r3 (p := p) (b := b) (cs := cs1) N
  obtain ⟨s1, s2, b1, b2, l1, l2, d1, d2, r1, r2, cs2, t4, t5, f4, M1, M2, B2⟩ := r4 P (N := N) (by omega) B1 (by omega)
  have f5 := r5 (p := p) (b := b) (cs := cs2) (x := progD p s1) (y := progD p s2) N t4 t5
  have f6 := r6 (p := p) (b := b) (cs := cs2) (one := progD p s1) (two := progD p s2) N t4 t5
  obtain ⟨c, cs3, f7, hc, hd, B3⟩ := r7 (one := progD p s1) (two := progD p s2) P (N := N) (by omega) B2 (some (.fr (.d (.list [progD p s1, progD p s2])))) t4 t5
  have f8 := r8 (b := b) (cs := cs3) (c := c) P (N := N) (by omega) M1 M2 (some (.fr (.d (.list [progD p s1, progD p s2])))) t4 t5
  obtain ⟨t10, t11, t12, t13, f9⟩ := r9 (b := b) (cs := cs3) P hN M1 M2 hc hd (some (.fr (.d (.list [progD p s1, progD p s2])))) t4 t5
  obtain ⟨p', s3, cs4, e4, Q, B4, O4⟩ := other_ok P ⟨⟨b1, l1, d1, r1, M1.G, M1.okB, M1.hd⟩, P.so⟩ (N := N) B3 (by omega) (by omega)
  obtain ⟨bad, cs5, e5, hb, B5, O5⟩ := pickN (xs := [bad1, bad2]) B4 (by omega) (by decide) (by decide) (show 2 ≤ N by omega)
  have f10 := r10 (p := p) (two := progD p s2) (test := c.toD) e4 e5 (some (.fr (.d (.list ((p.map (·.1)).map PyData.str))))) (some (.fr (.d (.list [progD p s1, progD p s2])))) t4 t5 (some (.fr (.d (.list [.tuple [.str "seq", .tuple (partL b1 s1 l1 ++ partL b2 s2 l2)], .tuple [.str "if", c.toD, s1, s2], .tuple [.str "while", c.toD, s1]])))) t10 t11 t12 t13
  have ne := plans_ne P Q.so
  have f11 := r11 (b := b) (cs := cs5) (one := progD p s1) (two := progD p s2) (test := c.toD) (bad := bad) (s3 := s3) (N := N) ne.1 (fun hv => told_alike P M1 Q (by rw [ne.2, hv]) hc hd hN cs5) (some (.fr (.d (.list ((p.map (·.1)).map PyData.str))))) (some (.fr (.d (.list [progD p s1, progD p s2])))) t4 t5 (some (.fr (.d (.list [.tuple [.str "seq", .tuple (partL b1 s1 l1 ++ partL b2 s2 l2)], .tuple [.str "if", c.toD, s1, s2], .tuple [.str "while", c.toD, s1]])))) t10 t11 t12 t13
  obtain ⟨h1, h2⟩ := told_bad P M1 M2 Q hb hN cs5
  have f12 := r12 (p := p) (b := b) (test := c.toD) h1 h2 (some (.fr (.d (.list ((p.map (·.1)).map PyData.str))))) (some (.fr (.d (.list [progD p s1, progD p s2])))) t4 t5 (some (.fr (.d (.list [.tuple [.str "seq", .tuple (partL b1 s1 l1 ++ partL b2 s2 l2)], .tuple [.str "if", c.toD, s1, s2], .tuple [.str "while", c.toD, s1]])))) t10 t11 t12 t13
  refine ⟨cs5, ?_⟩
  rw [e__law_right, right_split]
  rw [seq_step f0, seq_step f1, seq_step f2, seq_step f3, seq_step f4, seq_step f5, seq_step f6, seq_step f7, seq_step f8, seq_step f9, seq_step f10, seq_step f11, f12]
  rfl
end
end LW
end
section
set_option Elab.async false
set_option linter.all false
set_option maxRecDepth 100000
set_option autoImplicit false
namespace LW
open PySem PySem.Spec PyProof.Rows L2 DL
def turnB (G : Fn → FS) : SS := sIf (tNotD (tTru (eFz (oDef (G ._law_right) [] (aCons (eCel (oDef (G ._law_bag) [] (aCons (eVar 0) (aCons (eVar 1) (aNil))))) (aNil)))))) (sRet (oFr (eC (.bool false)))) (sNil)
theorem turn_ok (ns : List Int) (k : Nat) (cs : Cs) (hk : k < 4) : ∃ cs' : Cs, turnB (sem 99) [some (.fr (.lk (ns.map .int))), some (.fr (.d (.int (k : Int))))] cs = .nx [some (.fr (.lk (ns.map .int))), some (.fr (.d (.int (k : Int))))] cs' := by
  obtain ⟨x, y, e1, y0, y1⟩ := bag_ok 98 ns k cs hk
  obtain ⟨cs', e2⟩ := right_ok (N := 98) (by decide) (b := cs.length) (cs := cs ++ [.lst [.d (.int x), .d (.int y), .d (.int (61 * (k : Int)))]]) (Z := 183) ⟨x, y, 61 * (k : Int), by simp, y0, y1, by omega, by omega⟩ (by decide)
  refine ⟨cs', ?_⟩
  have e2 : sem 99 ._law_right [.cel cs.length] (cs ++ [.lst [.d (.int x), .d (.int y), .d (.int (61 * (k : Int)))]]) = .ok (.fr (.d (.bool true))) cs' := e2
  have e1 : sem 99 ._law_bag [.lk (ns.map .int), .d (.int (k : Int))] cs = .ok (.ow (.list [.int x, .int y, .int (61 * (k : Int))])) cs := e1
  simp [turnB, e1, e2]
theorem loop_ok (ns : List Int) : ∀ (l : List Nat) (s : Option DL.Slot) (cs : Cs), (∀ k ∈ l, k < 4) → ∃ (s' : Option DL.Slot) (cs' : Cs), forL (gNm 1) (turnB (sem 99)) (l.map fun k : Nat => Val.d (PyData.int (k : Int))) [some (.fr (.lk (ns.map .int))), s] cs = .nx [some (.fr (.lk (ns.map .int))), s'] cs'
  | [], s, cs, _ => ⟨s, cs, rfl⟩
  | k :: l, s, cs, h => by
    obtain ⟨cs1, e1⟩ := turn_ok ns k cs (h k (by simp))
    obtain ⟨s2, cs2, e2⟩ := loop_ok ns l (some (.fr (.d (.int (k : Int))))) cs1 fun q hq => h q (by simp [hq])
    exact ⟨s2, cs2, (forL_cons rfl e1).trans e2⟩
def fuel : Nat := 100
theorem law_all (ns : List Int) (h : ns.length ≤ 63) : ∃ cs, sem fuel .law [.lk (ns.map PyData.int)] [] = .ok (.fr (.d (.bool true))) cs := by
  obtain ⟨m, hm, hm4⟩ : ∃ m : Nat, max 1 (min 3 (ns.length : Int)) = (m : Int) ∧ m ≤ 4 := ⟨(max 1 (min 3 (ns.length : Int))).toNat, by omega, by omega⟩
  obtain ⟨s', cs', e⟩ := loop_ok ns (List.range m) none [] (fun k hk => by have := List.mem_range.mp hk; omega)
  have q : bCons (eCall maxB (bCons (eC (.int 1)) (bCons (eCall minB (bCons (eC (.int 3)) (bCons (eCall lenB (bCons (eVar 0) (aNil))) (aNil)))) (aNil)))) (aNil) [some (.fr (.lk (ns.map .int))), none] [] = .ok [.d (.int (m : Int))] [] := by
    simp [hm]
  have r := range_ev q (by omega)
  have er : rangeL 0 m = (List.range m).map fun k : Nat => Val.d (PyData.int (k : Int)) := by
    unfold rangeL
    simp
  rw [er] at r
  refine ⟨cs', ?_⟩
  show sem (99 + 1) .law [.lk (ns.map PyData.int)] [] = _
  rw [e_law]
  have f1 : sFor (pRange1 (bCons (eCall maxB (bCons (eC (.int 1)) (bCons (eCall minB (bCons (eC (.int 3)) (bCons (eCall lenB (bCons (eVar 0) (aNil))) (aNil)))) (aNil)))) (aNil))) (gNm 1) (turnB (sem 99)) [some (.fr (.lk (ns.map .int))), none] [] = .nx [some (.fr (.lk (ns.map .int))), s'] cs' := by
    rw [ev_sFor, r, R.go_ok]
    exact e
  show bodyR (sSeq (sFor (pRange1 _) (gNm 1) (turnB (sem 99))) (sRet (oFr (eC (.bool true)))) [some (.fr (.lk (ns.map .int))), none] []) = _
  rw [ev_seq, f1, RS.seq_nx]
  rfl
end LW
end
set_option Elab.async false
set_option linter.all false
set_option maxRecDepth 100000
set_option maxHeartbeats 0
set_option autoImplicit false
open PySem PySem.W PySem.Calls PyProof.Rows
theorem PySem.Challenge.cw_alikechances_k07_programs_put_together_holds : PySem.Challenge.rw_alikechances_k07_programs_put_together.Holds := by
  w_on; o_law
  refine HandSHeadRun.head_any (r := OpenLaw.row PySem.Challenge.rw_alikechances_k07_programs_put_together) (q := view (OpenLaw.row PySem.Challenge.rw_alikechances_k07_programs_put_together).prog [73]) (H := LW.hk) (ob := LW.ob) (M := 20000) (loose := LW.loose) (d := HandSHeadRun.topDef (OpenLaw.row PySem.Challenge.rw_alikechances_k07_programs_put_together).prog 73) (kwd := []) LW.ob_eq
    (by kernel_rfl) (fun s => by kernel_rfl) LW.run (by kernel_rfl) (by kernel_rfl) (by kernel_rfl) (by rfl) (by first | assumption | decide +kernel) (by decide +kernel) ⟨rfl, rfl, rfl, rfl, rfl, by decide +kernel⟩ ?hw ?hc
  case hw => w_witness2
  case hc =>
    refine DL.walk_G (l := PySem.Challenge.rw_alikechances_k07_programs_put_together) (n := 63) (k := LW.fuel) (x := "_law_script") (CX := L2.CX0) rfl (by decide) (by kernel_rfl) ⟨⟨rfl, by decide, by decide⟩, rfl⟩ ?F (fun _ _ _ _ z => z)
    intro w mg fa h Y G hmg0
    obtain ⟨K, KX, c, t⟩ := Y
    have hmg : mg ("law" : PySem.Str) = some (.ref fa) := by
      have e : (HandSHeadRun.topDef (OpenLaw.row PySem.Challenge.rw_alikechances_k07_programs_put_together).prog 73).name = ("law" : PySem.Str) := by kernel_rfl
      rw [← e]
      exact hmg0
    have X := LW.xs_of KX G c t
    have D := LW.ds_of KX G c
    obtain ⟨a, fd, gm, F⟩ := D.f_law
    cases hmg.symm.trans gm
    have b := L2.FunD.bindsA (ps := ["_law_script"]) F fun _ _ _ _ _ _ us hl => match us, hl with | [_], _ => rfl
    exact ⟨K, fd, fun vs H Q _ => DL.spOf K mg 1 (LW.sem LW.fuel .law) vs H Q fun _ _ _ => False, KX, fun s v => b s [v] rfl, fun H a ns hl _ hS => DL.law_sp (n := 63) (LW.law_all ns hl) hS, fun base _ _ => DL.fn_closed (LW.all_ok X D LW.fuel .law fa fd F)⟩
