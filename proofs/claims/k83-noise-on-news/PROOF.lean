import PyProof.Rows.All
import Wide.All
import OpenK.AllK
import Wide.FinOn
import HandS.ForMost
import HandS.ForExc
import HandS.Wide
import HandS.Strs
import HandS.SetFor
import HandS.SetKeys
import KE.GoesNew
import KE.GoesMore
import HandS.Iter
import HandS.CallSlots
import HandS.Defaults
import HandS.HeadEnd
import HandS.Flow
import HandS.Style
import HandS.TupAny
import HandS.Deep
import HandS.IsInst
import HandS.Base
import HandS.Zip
import KE.KStateDown
import HandS.Head0
import HandS.Head1
import HandS.Head2
import HandS.HeadHook1
import HandS.HeadHook2
import HandS.Dict
import HandS.DictComp
import HandS.SortInts
import HandS.RaiseMore
import HandS.FStr
import HandS.TryMany
import KE.KRevSl
import HandS.TupMul
import HandS.More
import HandS.BoundList
import PyProof.ListMulRoad
import PyProof.FactsAll.tuple_2
import PyProof.StrOps2
import HandS.ExcIs
import HandS.Star
import HandS.Call
import PyProof.Rows.RuleB_pow
import KE.DataCmp
import PyProof.P3Eq
import PySem.Challenge.RW_alikechances_k83_noise_on_news
section
set_option Elab.async false
set_option linter.all false
set_option maxRecDepth 100000
/-! A data layer: expressions and statements as plain functions over data (PyData), by-reference cells, and slots that own a fresh list or dict. -/
namespace DL
open PySem PySem.Spec PyProof.Rows L2

/-! ### values -/
/-- d: data (nothing in it changes any more); br: what an owning slot holds, lent; lk: a list that is read alone (the script); cel: a cell; fn: a module's object -/
inductive Val where
  | d (x : PyData)
  | br (x : PyData)
  | lk (xs : List PyData)
  | cel (n : Nat)
  | fn (x : Str)
def keyD : Key → PyData
  | .inl i => .int i
  | .inr x => .str x
mutual
def AtD (K : PySem.W.Frag) (G : Hp) : PyData → V → Prop
  | .none, v => v = .non
  | .bool b, v => v = .bl b
  | .int i, v => v = .int i
  | .str x, v => v = .str x
  | .list xs, v => ∃ a vs, v = .ref a ∧ G a = some (.lst vs) ∧ AtL K G xs vs
  | .tuple xs, v => ∃ a vs, v = .ref a ∧ SqT K G a vs ∧ AtL K G xs vs
  | .dict kvs, v => ∃ a, v = .ref a ∧ ((∃ kv, G a = some (.dK kv) ∧ AtP K G kvs kv) ∨ ∃ kv, kvs ≠ [] ∧ G a = some (.dT kv) ∧ AtQ K G kvs kv)
def AtL (K : PySem.W.Frag) (G : Hp) : List PyData → List V → Prop
  | [], vs => vs = []
  | x :: xs, vs => ∃ v r, vs = v :: r ∧ AtD K G x v ∧ AtL K G xs r
def AtP (K : PySem.W.Frag) (G : Hp) : List (PyData × PyData) → List (Key × V) → Prop
  | [], vs => vs = []
  | (k, x) :: xs, vs => ∃ key v r, vs = (key, v) :: r ∧ k = keyD key ∧ AtD K G x v ∧ AtP K G xs r
def AtQ (K : PySem.W.Frag) (G : Hp) : List (PyData × PyData) → List (List Key × V) → Prop
  | [], vs => vs = []
  | (k, x) :: xs, vs => ∃ keys v r, vs = (keys, v) :: r ∧ k = .tuple (keys.map keyD) ∧ AtD K G x v ∧ AtQ K G xs r
end
/-- what stood stands -/
abbrev Sub (G G' : Hp) : Prop := ∀ a o, G a = some o → G' a = some o
theorem rd_sub {G G' : Hp} (h : Sub G G') {a : Addr} {u : HO} (r : Rd G a u) : Rd G' a u := by
  rcases r with r | ⟨o, r⟩
  · exact .inl (h _ _ r)
  · exact .inr ⟨o, h _ _ r⟩
theorem sqL_sub {K : PySem.W.Frag} {G G' : Hp} (h : Sub G G') {a : Addr} {xs : List V} (r : SqL K G a xs) : SqL K G' a xs := by
  rcases r with r | r
  · exact .inl (rd_sub h r)
  · exact .inr r
theorem sqT_sub {K : PySem.W.Frag} {G G' : Hp} (h : Sub G G') {a : Addr} {xs : List V} (r : SqT K G a xs) : SqT K G' a xs := by
  rcases r with r | r
  · exact .inl (rd_sub h r)
  · exact .inr r
mutual
theorem AtD.mono {K : PySem.W.Frag} {G G' : Hp} (h : Sub G G') : ∀ (x : PyData) (v : V), AtD K G x v → AtD K G' x v
  | .none, v, q => by simpa only [AtD] using q
  | .bool b, v, q => by simpa only [AtD] using q
  | .int i, v, q => by simpa only [AtD] using q
  | .str x, v, q => by simpa only [AtD] using q
  | .list xs, v, q => by
    simp only [AtD] at q ⊢
    obtain ⟨a, vs, e, s, l⟩ := q
    exact ⟨a, vs, e, h _ _ s, AtL.mono h xs vs l⟩
  | .tuple xs, v, q => by
    simp only [AtD] at q ⊢
    obtain ⟨a, vs, e, s, l⟩ := q
    exact ⟨a, vs, e, sqT_sub h s, AtL.mono h xs vs l⟩
  | .dict kvs, v, q => by
    simp only [AtD] at q ⊢
    obtain ⟨a, e, q⟩ := q
    refine ⟨a, e, ?_⟩
    rcases q with ⟨kv, s, l⟩ | ⟨kv, ne, s, l⟩
    · exact .inl ⟨kv, h _ _ s, AtP.mono h kvs kv l⟩
    · exact .inr ⟨kv, ne, h _ _ s, AtQ.mono h kvs kv l⟩
theorem AtL.mono {K : PySem.W.Frag} {G G' : Hp} (h : Sub G G') : ∀ (xs : List PyData) (vs : List V), AtL K G xs vs → AtL K G' xs vs
  | [], vs, q => by simpa only [AtL] using q
  | x :: xs, vs, q => by
    simp only [AtL] at q ⊢
    obtain ⟨v, r, e, q1, q2⟩ := q
    exact ⟨v, r, e, AtD.mono h x v q1, AtL.mono h xs r q2⟩
theorem AtP.mono {K : PySem.W.Frag} {G G' : Hp} (h : Sub G G') : ∀ (xs : List (PyData × PyData)) (vs : List (Key × V)), AtP K G xs vs → AtP K G' xs vs
  | [], vs, q => by simpa only [AtP] using q
  | (k, x) :: xs, vs, q => by
    simp only [AtP] at q ⊢
    obtain ⟨key, v, r, e, e2, q1, q2⟩ := q
    exact ⟨key, v, r, e, e2, AtD.mono h x v q1, AtP.mono h xs r q2⟩
theorem AtQ.mono {K : PySem.W.Frag} {G G' : Hp} (h : Sub G G') : ∀ (xs : List (PyData × PyData)) (vs : List (List Key × V)), AtQ K G xs vs → AtQ K G' xs vs
  | [], vs, q => by simpa only [AtQ] using q
  | (k, x) :: xs, vs, q => by
    simp only [AtQ] at q ⊢
    obtain ⟨key, v, r, e, e2, q1, q2⟩ := q
    exact ⟨key, v, r, e, e2, AtD.mono h x v q1, AtQ.mono h xs r q2⟩
end
/-! the words of AtD by kind -/
section
variable {K : PySem.W.Frag} {G : Hp} {v : V}
theorem at_int {i : Int} : AtD K G (.int i) (.int i) := by simp only [AtD]
theorem at_bl {i : Bool} : AtD K G (.bool i) (.bl i) := by simp only [AtD]
theorem at_str {i : Str} : AtD K G (.str i) (.str i) := by simp only [AtD]
theorem at_non : AtD K G .none .non := by simp only [AtD]
theorem at_int_iff {i : Int} : AtD K G (.int i) v ↔ v = .int i := by simp only [AtD]
theorem at_bl_iff {i : Bool} : AtD K G (.bool i) v ↔ v = .bl i := by simp only [AtD]
theorem at_str_iff {i : Str} : AtD K G (.str i) v ↔ v = .str i := by simp only [AtD]
theorem at_non_iff : AtD K G .none v ↔ v = .non := by simp only [AtD]
theorem at_list_iff {xs : List PyData} : AtD K G (.list xs) v ↔ ∃ a vs, v = .ref a ∧ G a = some (.lst vs) ∧ AtL K G xs vs := by simp only [AtD]
theorem at_tup_iff {xs : List PyData} : AtD K G (.tuple xs) v ↔ ∃ a vs, v = .ref a ∧ SqT K G a vs ∧ AtL K G xs vs := by simp only [AtD]
theorem at_dict_iff {kvs : List (PyData × PyData)} : AtD K G (.dict kvs) v ↔ ∃ a, v = .ref a ∧ ((∃ kv, G a = some (.dK kv) ∧ AtP K G kvs kv) ∨ ∃ kv, kvs ≠ [] ∧ G a = some (.dT kv) ∧ AtQ K G kvs kv) := by simp only [AtD]
theorem AtL.length : ∀ {xs : List PyData} {vs : List V}, AtL K G xs vs → xs.length = vs.length
  | [], vs, q => by simp only [AtL] at q; subst q; rfl
  | x :: xs, vs, q => by
    simp only [AtL] at q
    obtain ⟨v, r, rfl, _, q2⟩ := q
    simp only [List.length_cons, AtL.length q2]
theorem AtL.get : ∀ {xs : List PyData} {vs : List V} {i : Nat} {x : PyData}, AtL K G xs vs → xs[i]? = some x → ∃ v, vs[i]? = some v ∧ AtD K G x v
  | [], _, _, _, _, e => by simp at e
  | y :: xs, vs, i, x, q, e => by
    simp only [AtL] at q
    obtain ⟨v, r, rfl, q1, q2⟩ := q
    cases i with
    | zero => simp at e; subst e; exact ⟨v, rfl, q1⟩
    | succ i => simpa using AtL.get q2 (by simpa using e)
theorem AtL.get' : ∀ {xs : List PyData} {vs : List V} {i : Nat} {v : V}, AtL K G xs vs → vs[i]? = some v → ∃ x, xs[i]? = some x ∧ AtD K G x v
  | [], vs, _, _, q, e => by simp only [AtL] at q; subst q; simp at e
  | y :: xs, vs, i, x, q, e => by
    simp only [AtL] at q
    obtain ⟨v, r, rfl, q1, q2⟩ := q
    cases i with
    | zero => simp at e; subst e; exact ⟨y, rfl, q1⟩
    | succ i => simpa using AtL.get' q2 (by simpa using e)
theorem AtL.nil : AtL K G [] [] := by simp only [AtL]
theorem AtL.cons {x : PyData} {xs : List PyData} {vs : List V} (h : AtD K G x v) (t : AtL K G xs vs) : AtL K G (x :: xs) (v :: vs) := by
  simp only [AtL]; exact ⟨v, vs, rfl, h, t⟩
theorem AtL.append : ∀ {xs ys : List PyData} {vs ws : List V}, AtL K G xs vs → AtL K G ys ws → AtL K G (xs ++ ys) (vs ++ ws)
  | [], _, vs, _, q, r => by simp only [AtL] at q; subst q; exact r
  | x :: xs, _, vs, _, q, r => by
    simp only [AtL] at q
    obtain ⟨v, t, rfl, q1, q2⟩ := q
    exact AtL.cons q1 (AtL.append q2 r)
theorem AtL.drop : ∀ {xs : List PyData} {vs : List V} (n : Nat), AtL K G xs vs → AtL K G (xs.drop n) (vs.drop n)
  | _, _, 0, q => q
  | [], vs, n + 1, q => by simp only [AtL] at q; subst q; exact AtL.nil
  | x :: xs, vs, n + 1, q => by
    simp only [AtL] at q
    obtain ⟨v, t, rfl, q1, q2⟩ := q
    exact AtL.drop n q2
theorem AtL.take : ∀ {xs : List PyData} {vs : List V} (n : Nat), AtL K G xs vs → AtL K G (xs.take n) (vs.take n)
  | _, _, 0, q => AtL.nil
  | [], vs, n + 1, q => by simp only [AtL] at q; subst q; exact AtL.nil
  | x :: xs, vs, n + 1, q => by
    simp only [AtL] at q
    obtain ⟨v, t, rfl, q1, q2⟩ := q
    exact AtL.cons q1 (AtL.take n q2)
theorem AtL.set : ∀ {xs : List PyData} {vs : List V} (n : Nat) {x : PyData}, AtL K G xs vs → AtD K G x v → AtL K G (xs.set n x) (vs.set n v)
  | [], vs, n, x, q, _ => by simp only [AtL] at q; subst q; exact AtL.nil
  | y :: xs, vs, 0, x, q, h => by
    simp only [AtL] at q
    obtain ⟨w, t, rfl, q1, q2⟩ := q
    exact AtL.cons h q2
  | y :: xs, vs, n + 1, x, q, h => by
    simp only [AtL] at q
    obtain ⟨w, t, rfl, q1, q2⟩ := q
    exact AtL.cons q1 (AtL.set n q2 h)
end
mutual
/-- for the library's == -/
theorem AtD.dp {K : PySem.W.Frag} {G H : Hp} (hs : Sub G H) : ∀ (x : PyData) (v : V), x.canLay0 = true → AtD K G x v → Dp K H v x
  | .none, v, _, q => by simp only [AtD] at q; subst q; exact .non
  | .bool b, v, _, q => by simp only [AtD] at q; subst q; exact .bl b
  | .int i, v, _, q => by simp only [AtD] at q; subst q; exact .int i
  | .str x, v, _, q => by simp only [AtD] at q; subst q; exact .str x
  | .list xs, v, c, q => by
    simp only [AtD] at q
    obtain ⟨a, vs, rfl, s, l⟩ := q
    simp only [PyData.canLay0] at c
    exact .lst (SqL.of (hs _ _ s)) (AtL.dp hs xs vs c l)
  | .tuple xs, v, c, q => by
    simp only [AtD] at q
    obtain ⟨a, vs, rfl, s, l⟩ := q
    simp only [PyData.canLay0] at c
    exact .tup (sqT_sub hs s) (AtL.dp hs xs vs c l)
  | .dict kvs, v, c, q => by simp [PyData.canLay0] at c
theorem AtL.dp {K : PySem.W.Frag} {G H : Hp} (hs : Sub G H) : ∀ (xs : List PyData) (vs : List V), PyData.canLayAll0 xs = true → AtL K G xs vs → DpAll K H vs xs
  | [], vs, _, q => by simp only [AtL] at q; subst q; exact .nil
  | x :: xs, vs, c, q => by
    simp only [AtL] at q
    obtain ⟨v, t, rfl, q1, q2⟩ := q
    simp only [PyData.canLayAll0, Bool.and_eq_true] at c
    exact .cons (AtD.dp hs x v c.1 q1) (AtL.dp hs xs t c.2 q2)
end
end DL
end
section
set_option Elab.async false
set_option linter.all false
set_option maxRecDepth 100000
set_option autoImplicit false
namespace DL
open PySem PySem.Spec PyProof.Rows L2
/-! ### set(t) of a tuple of texts, any number of them -/
def cntS : List Str → Nat → List Str → Nat
  | [], n, _ => n
  | x :: r, n, seen => cntS r (if seen.any (· == x) then n else n + 1) (seen ++ [x])
section
variable {P : Program} {w : World} {A : Around} {E : Value → Shared → Prop} {s : Shared}
abbrev SetT (P : Program) (w : World) (h : Heap) (a : Addr) (ks : List Str) (n : Nat) : Prop := h.SetOf (strKind P w) a (fun k => ks.any (· == k)) n
theorem SetT.keep {h h' : Heap} {a : Addr} {ks : List Str} {n : Nat} (R : SetT P w h a ks n) (k : ∀ o, h.get? a = some o → h'.get? a = some o) : SetT P w h' a ks n := by
  obtain ⟨o, es, ep, t, ho, r⟩ := R
  exact ⟨o, es, ep, t, k o ho, r⟩
theorem set_turn {It : Addr} {fp wr : List Addr} {G : Array GenState → Array GenState → Prop} {n : Nat} {Pv : Nat → Value → Prop} {St : Nat → Shared → Prop} {R : Result → Shared → Prop}
    (Wk : WalksS P w A.in1 It fp wr G n Pv St) (D : Addr) (nD : D ∉ fp) (all : List Str) (hlen : all.length = n) (hbig : n + 1 < scanBound) (vals : ∀ i v, Pv i v → ∃ x t, all[i]? = some x ∧ v = .str x t) :
    ∀ (rest done_ : List Str) (c i : Nat) (s : Shared), all = done_ ++ rest → i = done_.length → c ≤ i → St i s → SetT P w s.heap D done_ c →
      (∀ s', Moved (D :: wr) G s s' → SetT P w s'.heap D all (cntS rest c done_) → R (.ok (.ret .none)) s') → codeAny (model P w) A (.builtin "set.update.loop" ⟨[.ref D, .ref It], []⟩) R s := by
  have nw : D ∉ wr := fun z => nD (Wk.sub _ z)
  have up : ∀ b ∈ wr, b ∈ D :: wr := fun b z => List.mem_cons_of_mem _ z
  intro rest
  induction rest with
  | nil =>
    intro done_ c i s ea ei hc st hS hR
    rw [List.append_nil] at ea
    subst ea
    have e2 : i = n := by omega
    subst e2
    refine codeAny_builtin F.entry_set_update_loop ?_
    rw [Around.under_plainId F.plain_set_update_loop _]
    show wpAny _ A.in1 (pyNext (.ref It) >>= _) _ _ s
    refine wpAny_bind (Wk.done s _ _ st fun s' mv => ?_)
    show wpAny _ A.in1 (ret Value.none) _ _ s'
    exact wpAny_pure (hR s' (mv.mono up) (hS.keep fun o e => mv.heap D o nw e))
  | cons x rest ih =>
    intro done_ c i s ea ei hc st hS hR
    have hl2 : done_.length + (rest.length + 1) = n := by rw [← hlen, ea, List.length_append, List.length_cons]
    refine codeAny_builtin F.entry_set_update_loop ?_
    rw [Around.under_plainId F.plain_set_update_loop _]
    show wpAny _ A.in1 (pyNext (.ref It) >>= _) _ _ s
    refine wpAny_bind (Wk.item i s _ _ (by omega) st fun v s' pv st' mv => ?_)
    obtain ⟨x', t, ex, rfl⟩ := vals i v pv
    have ex2 : x' = x := by
      rw [ea, ei, List.getElem?_append_right (Nat.le_refl _), Nat.sub_self] at ex
      exact (Option.some.inj ex).symm
    subst ex2
    have hS' := hS.keep fun o e => mv.heap D o nw e
    show wpAny _ A.in1 (holding [Value.str x' t] (setAdd D (.str x' t)) >>= _) _ _ s'
    refine wpAny_bind (wpAny_holding ?_)
    unfold setAdd
    refine wpAny_holding ?_
    refine wpAny_bind ((strKind P w).pyHash (k := x') (strKind_is _ _ _ _) ?_)
    refine wpAny_setAddHashed_of (knd := strKind P w) (k := x') (s := { s' with toks := s'.toks + 1 }) (strKind_is _ _ _ _) rfl hS' (by omega) fun h' sb new => ?_
    have new2 : SetT P w h' D (done_ ++ [x']) (if done_.any (· == x') then c else c + 1) := SetOf_congr new (fun k => by
      rw [List.any_append]
      congr 1
      by_cases e : k = x'
      · subst e; simp
      · have : (x' == k) = false := by simpa [beq_iff_eq] using fun z : x' = k => e z.symm
        simp [this, e]) rfl
    refine wpAny_pure ⟨plainId_quiet F.plain_set_update_loop _, ih (done_ ++ [x']) _ (i + 1) _ (by rw [ea]; simp) (by rw [List.length_append, ei]; rfl) (by split <;> omega) (Wk.frame _ s' _ _ st' (Nat.le_succ _) fun b hb o e => ?_) new2 fun s'' mv2 fin => ?_⟩
    · rw [sb.2 b (fun z : b = D => nD (by rw [← z]; exact hb))]; exact e
    · refine hR s'' (Moved.trans Wk.gtrans ((mv.mono up).then_heap (Nat.le_succ _) fun b o hb e => ?_) mv2) fin
      rw [sb.2 b (fun z : b = D => hb (by rw [z]; exact List.mem_cons_self))]; exact e
/-- the address of the new set and what the heap is told of it -/
abbrev newSet (w : World) (h : Heap) : Heap := h.push { cls := .type "set", dict := none, data := .set #[] 0 (.fresh 0 0 (!w.params.followText "set-order")) }
theorem newSet_get (w : World) (h : Heap) : (newSet w h).get? h.objs.size = some { cls := .type "set", dict := none, data := .set #[] 0 (.fresh 0 0 (!w.params.followText "set-order")) } := Heap.get?_push_size _ rfl
theorem setT_nil {P : Program} {w : World} {h : Heap} {a : Addr} (ho : h.get? a = some { cls := .type "set", dict := none, data := .set #[] 0 (.fresh 0 0 (!w.params.followText "set-order")) }) : SetT P w h a [] 0 :=
  ⟨_, #[], 0, _, ho, ⟨rfl, rfl, rfl⟩, rfl, (fun e he => by simp at he), (fun k => by simp), (by decide), (by rfl), rfl⟩
set_option maxHeartbeats 3200000 in
/-- the set's own start: the tuple's items one by one -/
theorem set_start {l : Addr} {its : Array Value} {xs : List Str} (hh : A.handled = none) (hl : s.heap.IsTuple l its) (hx : StrsAre its.toList xs) (hb : xs.length + 1 < scanBound)
    {Q2 : Value → Shared → Prop} (q : ∀ h' tk, SetT P w h' s.heap.objs.size xs (cntS xs 0 []) → (∀ b o, s.heap.get? b = some o → h'.get? b = some o) → Q2 .none { s with heap := h', toks := tk }) :
    codeAny (model P w) A (.call (.builtin "set.__init__") ⟨[.ref s.heap.objs.size, .ref l], []⟩) (wants Q2 E) { s with heap := newSet w s.heap } := by
  have hT : Shared.TypeIs { s with heap := newSet w s.heap } (.ref s.heap.objs.size) "set" := ⟨_, newSet_get w s.heap, rfl⟩
  have hlen : xs.length = its.size := by rw [← Array.length_toList, StrsAre.len_eq hx]
  refine codeAny_call_builtin F.called_set.init.plain F.entry_set_init (check_set_init_1 hT ?_)
  obtain ⟨⟨c0, d0, e0, f0⟩, ho, hc, n0, hd⟩ := hl
  simp only at hc hd
  subst hc hd
  have ho1 : (newSet w s.heap).get? l = some { cls := .type "tuple", dict := d0, data := .seq its n0, slots := f0 } := Heap.get?_push_of_some _ ho
  have k1 := F.sub_tuple_set
  have k2 := F.sub_tuple_frozenset
  have k3 : (Value.type "tuple" == Value.type "dict") = false := by decide
  have tup1 : (newSet w s.heap).IsTuple l its := ⟨_, ho1, rfl, n0, rfl⟩
  have lt : l < s.heap.objs.size := Heap.lt_size ho
  unfold Builtin.«set.__init__» noKeywords Builtin.Frozenset.updateFrom
  generalize hPI : pyIter = PI
  wp_walk
  subst hPI
  refine wpAny_pyIter_tuple tup1 (wpAny_bind (wpAny_runValue ?_))
  have sz : (newSet w s.heap).objs.size = s.heap.objs.size + 1 := Heap.size_push ..
  have n1 : l ≠ (newSet w s.heap).objs.size := fun z => by
    rw [sz] at z
    exact absurd lt (by rw [z]; exact Nat.not_lt.mpr (Nat.le_succ _))
  have n2 : s.heap.objs.size ∉ [(newSet w s.heap).objs.size, l] := by
    rw [sz]
    intro z
    rcases List.mem_cons.mp z with z | z
    · exact absurd z (Nat.ne_of_lt (Nat.lt_succ_self _))
    · rw [← List.mem_singleton.mp z] at lt
      exact Nat.lt_irrefl _ lt
  have vals : ∀ (i : Nat) (v : Value), its[i]? = some v → ∃ x t, xs[i]? = some x ∧ v = .str x t := fun i v hv => by
    have hi : i < xs.length := by rw [hlen]; exact (Array.getElem?_eq_some_iff.mp hv).1
    obtain ⟨t, e⟩ := SS.strs_at hx i v (by rw [Array.getElem?_toList]; exact hv)
    refine ⟨xs[i], t, List.getElem?_eq_getElem hi, ?_⟩
    rw [e, List.getD_eq_getElem?_getD, List.getElem?_eq_getElem hi]
    rfl
  have h3 : A.in1.in1.handled = none := by simp [hh]
  refine set_turn ((Walks.tuple h3 _ l n1 its).toS) s.heap.objs.size n2 xs hlen (by omega) vals xs [] 0 0 _ rfl rfl (Nat.le_refl _) ?hst ?hS0 ?hR
  case hst => exact ⟨⟨_, Heap.get?_push_size _ rfl, rfl, rfl⟩, tup1.push _⟩
  case hS0 => exact setT_nil (w := w) (Heap.get?_push_of_some _ (newSet_get w s.heap))
  intro s' mv fin
  obtain ⟨h', g', d', tk', os'⟩ := s'
  obtain rfl : g' = s.gens := mv.gens
  obtain rfl : d' = s.drawn := mv.drawn
  obtain rfl : os' = s.os := mv.os
  show wpAny _ _ _ _ _ _
  refine wpAny_pure ?_
  show wpAny _ _ (ret Value.none) _ _ _
  refine wpAny_pure (q h' tk' fin fun b o e => ?_)
  have hb0 : b < s.heap.objs.size := Heap.lt_size e
  exact mv.heap b o (by
    rw [sz]
    intro z
    rcases List.mem_cons.mp z with z | z
    · exact Nat.ne_of_lt hb0 z
    · exact Nat.ne_of_lt (Nat.lt_succ_of_lt hb0) (List.mem_singleton.mp z)) (Heap.get?_push_of_some _ (Heap.get?_push_of_some _ e))
set_option maxHeartbeats 3200000 in
theorem call_setT {l : Addr} {its : Array Value} {xs : List Str} {Q : Value → Shared → Prop} (hh : A.handled = none) (hl : s.heap.IsTuple l its) (hx : StrsAre its.toList xs) (hb : xs.length + 1 < scanBound)
    (q : ∀ h' tk, SetT P w h' s.heap.objs.size xs (cntS xs 0 []) → (∀ b o, s.heap.get? b = some o → h'.get? b = some o) → Q (.ref s.heap.objs.size) { s with heap := h', toks := tk }) : wpAny (model P w) A (call (.type "set") [.ref l]) Q E s := by
  obtain ⟨c, tl, m0⟩ := F.called_set.mro
  have m1 := F.called_set.made
  have m2 := F.called_set.sub
  refine wpAny_call (codeAny_of_tree ?_)
  show wpAny _ _ (callAny (.type "set") _) _ _ _
  refine wpAny_pure ⟨Code.quiet_builtin _ (by decide +kernel), codeAny_builtin F.entry_type_call ?_⟩
  rw [Around.under_plain (weight_type_call_type "set" [.ref l] []) rfl]
  have m3 := F.called_set.notType
  have m4 := F.called_set.canCreate
  have m5 := F.typeCall_set_1 (.ref l)
  repeat (any_goals (first | assumption | wp_step))
  refine codeAny_mono (code_set_led1 (.ref l) (E := E) (Q₁ := fun obj s₁ => obj = .ref s.heap.objs.size ∧ s₁ = { s with heap := newSet w s.heap }) ⟨rfl, rfl⟩) fun r s₁ hr => ?_
  cases r with
  | error e => exact hr
  | ok fl =>
    cases fl with
    | ret obj =>
      obtain ⟨rfl, rfl⟩ := hr
      have m6 : Shared.TypeIs { s with heap := newSet w s.heap } (.ref s.heap.objs.size) "set" := ⟨_, newSet_get w s.heap, rfl⟩
      have m7 := F.called_set.init.lookup
      have m8 := F.called_set.init.bind (.ref s.heap.objs.size)
      repeat (any_goals (first | assumption | wp_step))
      refine codeAny_mono (set_start (E := E) (P := P) (w := w) (s := s) (xs := xs) (Q2 := fun r s₂ => r = .none ∧ ∃ h' tk, s₂ = { s with heap := h', toks := tk } ∧ SetT P w h' s.heap.objs.size xs (cntS xs 0 []) ∧ (∀ b o, s.heap.get? b = some o → h'.get? b = some o)) (by simp [hh]) hl hx hb fun h' tk a b => ⟨rfl, h', tk, rfl, a, b⟩) fun r₂ s₂ hr₂ => ?_
      cases r₂ with
      | error e => exact hr₂
      | ok fl₂ =>
        cases fl₂ with
        | ret r =>
          obtain ⟨rfl, h', tk, rfl, fin, keep⟩ := hr₂
          repeat (any_goals (first | assumption | wp_step))
          exact q _ _ fin keep
        | _ => exact hr₂.elim
    | _ => exact hr.elim
end
end DL
end
section
set_option Elab.async false
set_option linter.all false
set_option maxRecDepth 100000
set_option autoImplicit false
namespace DL
open PySem PySem.Spec PyProof.Rows L2
/-! ### enumerate(t), t a tuple -/
theorem enum_newT (l : Addr) (its : Array Value) (n : Nat) (dct : Option Addr) (slt : Array (Option Value)) :
    Meets (Builtin.«enumerate.__new__» ⟨[.type "enumerate", .ref l], []⟩) (fun _ R s => s.heap.get? l = some { cls := .type "tuple", dict := dct, data := .seq its n, slots := slt } ∧
      R (.ok (.ret (.ref (s.heap.push { cls := .type "tuple_iterator", data := .fields #[.ref l, .int 0 0] }).objs.size)))
        { s with heap := (s.heap.push { cls := .type "tuple_iterator", data := .fields #[.ref l, .int 0 0] }).push { cls := .type "enumerate", data := .fields #[.none, .bool false, .ref s.heap.objs.size, rawInt 0, .none, .none] } }) :=
  .of_wp fun prog w A R s h => by
    obtain ⟨hp, g, d, tk, os⟩ := s
    obtain ⟨ho, h⟩ := h
    have k1 := sub_enumerate
    have tp : Heap.IsTuple (Shared.heap ⟨hp, g, d, tk, os⟩) l its := ⟨_, ho, rfl, n, rfl⟩
    wp_walk using AutoSeq1.wpAny_loadPart' ho
    refine wpAny_stack_any fun st => wpAny_pure ?_
    split
    · rename_i c _ _ _ _ _
      cases (c == Value.type "enumerate") <;> (wp_walk using AutoSeq1.wpAny_loadPart' ho, wpAny_pyIter_tuple tp; exact ⟨_, rfl, h⟩)
    · wp_walk using AutoSeq1.wpAny_loadPart' ho, wpAny_pyIter_tuple tp
      exact ⟨_, rfl, h⟩
section
variable {prog : Program} {w : World} {A : Around} {E : Value → Shared → Prop} {s : Shared}
theorem call_enumT {l : Addr} {its : Array Value} {Q : Value → Shared → Prop} (hL : s.heap.IsTuple l its)
    (q : ∀ h', IsEnum h' (s.heap.objs.size + 1) s.heap.objs.size 0 .none → h'.IsTupleIter s.heap.objs.size l 0 → (∀ b o, s.heap.get? b = some o → h'.get? b = some o) → Q (.ref (s.heap.objs.size + 1)) { s with heap := h' }) :
    wpAny (model prog w) A (call (.type "enumerate") [.ref l]) Q E s := by
  obtain ⟨⟨c, dct, dt, slt⟩, ho, hc, n, hd⟩ := hL
  simp only at hc hd
  subst hc hd
  refine callType_new F.called_enumerate (by decide) (F.typeCall_enumerate_1 _) (F.newCall_enumerate_1 _) (fun obj => F.args_object_init_2 obj _) F.entry_enumerate_new (enum_newT l its n dct slt) ⟨ho, ?_⟩
  have sz : (s.heap.push { cls := .type "tuple_iterator", data := .fields #[.ref l, .int 0 0] }).objs.size = s.heap.objs.size + 1 := Heap.size_push ..
  show _ ∧ _
  rw [sz]
  have en : IsEnum ((s.heap.push { cls := .type "tuple_iterator", data := .fields #[.ref l, .int 0 0] }).push { cls := .type "enumerate", data := .fields #[.none, .bool false, .ref s.heap.objs.size, rawInt 0, .none, .none] }) (s.heap.objs.size + 1) s.heap.objs.size 0 .none := by
    have z := Heap.get?_push_size (s.heap.push { cls := .type "tuple_iterator", data := .fields #[.ref l, .int 0 0] }) (o := { cls := .type "enumerate", data := .fields #[.none, .bool false, .ref s.heap.objs.size, rawInt 0, .none, .none] }) rfl
    rw [sz] at z
    exact z
  exact ⟨⟨_, en, rfl⟩, q _ en ⟨_, Heap.get?_push_of_some _ (Heap.get?_push_size _ rfl), rfl, rfl⟩ fun b o x => Heap.get?_push_of_some _ (Heap.get?_push_of_some _ x)⟩
end
/-- the tuple at a, each item in a new pair with its place -/
def ItE (K : PySem.W.Frag) (a : Addr) (n : Nat) : It :=
  ⟨fun i H => ∃ (xs : List V) (x : V), SqT K H a xs ∧ xs.length = n ∧ xs[i]? = some x, fun i H v H' => ∃ T x, v = .ref T ∧ H T = none ∧ H' = upd H T (.tup [.int (i : Nat), x]) ∧ ∀ xs, SqT K H a xs → xs[i]? = some x, fun i H => ∃ xs : List V, SqT K H a xs ∧ xs.length = n ∧ n ≤ i⟩
theorem turn_enT {P : Program} {w : World} {K : PySem.W.Frag} {elts : List Expr} {kk : Nat} {tpos : Pos} (a e it : Addr) (n : Nat) :
    Turn P w K (.Tuple elts kk tpos) (ItE K a n) [e, it] e (fun i h => (∃ old, IsEnum h e it ((i : Nat) : Int) old) ∧ h.IsTupleIter it a i ∧ e ≠ it ∧ a ≠ it ∧ e ≠ a ∧ i ≤ n) where
  mem := by simp
  obj := fun i h st b hb => by
    obtain ⟨⟨old, he⟩, ⟨o, ho, hc, hd⟩, _⟩ := st
    have e' : b = e ∨ b = it := by simpa using hb
    rcases e' with z | z
    · subst z; exact ⟨_, he, fun v q => nomatch q⟩
    · subst z; exact ⟨o, ho, fun v q => by rw [hd] at q; cases q⟩
  keep := fun i h h' st k => let ⟨⟨old, he⟩, hi, hne⟩ := st; ⟨⟨old, k e (by simp) _ he⟩, hi.at fun o q => k it (by simp) o q, hne⟩
  item := by
    intro X hP hw hK hc i pins s σ H E I hf st hg
    subst hP hw hK
    obtain ⟨⟨old, he⟩, hit, hne, ha, hea, hin⟩ := st
    obtain ⟨xs, x, hq, hxn, hx⟩ := hg
    obtain ⟨its, rv, p, hz⟩ := I.tuple hq
    obtain ⟨u, hu, ru⟩ := rv.get hx
    have hel : e < s.heap.objs.size := Heap.lt_size he
    have hil : it < s.heap.objs.size := by obtain ⟨_, q, _⟩ := hit; exact Heap.lt_size q
    have hln : i < its.toArray.size := by simpa using (List.getElem?_eq_some_iff.mp hu).1
    have hix : i < xs.length := (List.getElem?_eq_some_iff.mp hx).1
    have D := Draws.tuple (prog := X.prog) (w := X.w) (A := X.A.in1) (by simp [I.ok.hd hc]) it a ha its.toArray
    refine wpAny_pyNext_enum_itemC D he ⟨hit, p⟩ hln hne (by simp [hne, hea]) fun y h' tk hy ho hit' hT hsz hk => ?_
    obtain rfl : y = u := by
      have z : its[i]? = some y := by simpa using hy
      rw [hu] at z
      exact (Option.some.inj z).symm
    refine ⟨_, rfl, wpAny_letOwnedTupleGo_enum (s := { s with heap := h', toks := tk + 1 }) ho fun h'' he' sb => ?_⟩
    have hT2 : h''.get? s.heap.objs.size = some { cls := .type "tuple", data := .seq #[.int (i : Nat) tk, y] } := (sb.2 _ (Nat.ne_of_gt hel)).trans hT
    have hlay : ObjOk X.prog X.w (upd H s.heap.objs.size (.tup [.int (i : Nat), x])) h'' s.heap.objs.size (.tup [.int (i : Nat), x]) :=
      ⟨by show 2 ≤ sizeLine; decide, [.int (i : Nat) tk, y], .cons ⟨_, rfl⟩ (.cons ru .nil), ⟨_, hT2, rfl, _, rfl⟩⟩
    have I1 : Inv X pins σ (upd H s.heap.objs.size (.tup [.int (i : Nat), x])) { s with heap := h'', toks := tk + 1 } :=
      I.turnedNew (ch := [e, it]) (fun b ob hb q => (sb.2 b (fun z => hb (by simp [z]))).trans (hk b ob (fun z => hb (by simp [z])) (fun z => hb (by simp [z])) q)) hf (Nat.le_refl _) hlay
    refine ⟨.ref s.heap.objs.size, _, I1, rfl, ⟨_, x, rfl, I.hok.fresh (Nat.le_refl _), rfl, fun ys hy => by rw [I.tuple_inj hy hq]; exact hx⟩, ⟨⟨y, ?_⟩, hit'.1.at fun o q => (sb.2 it (Ne.symm hne)).trans q, hne, ha, hea, by omega⟩, fun b hb => ?_⟩
    · rw [show ((i + 1 : Nat) : Int) = (i : Int) + 1 by omega]
      exact he'
    · have hb' : b < s.heap.objs.size := by
        rcases (by simpa using hb : b = e ∨ b = it) with z | z
        · subst z; exact hel
        · subst z; exact hil
      rw [upd_ne (Nat.ne_of_lt hb')]
      exact (hf b hb).1
  done := by
    intro X hP hw hK hc i pins s σ H E I hf st hg
    subst hP hw hK
    obtain ⟨⟨old, he⟩, hit, hne, ha, hea, hin⟩ := st
    obtain ⟨xs, hq, hxn, hx⟩ := hg
    obtain ⟨its, rv, p, hz⟩ := I.tuple hq
    obtain ⟨f0, f1, f2, f3, f4, f5⟩ := hf it (by simp)
    have hl := rv.length
    have D := Draws.tuple (prog := X.prog) (w := X.w) (A := X.A.in1) (by simp [I.ok.hd hc]) it a ha its.toArray
    have ei : i = its.toArray.size := by rw [List.size_toArray]; omega
    rw [ei] at hit
    exact wpAny_pyNext_enum_endD D he ⟨hit, p⟩ fun h' eb => ⟨rfl, I.turned (t' := s.toks) (fun b o hb q => eb b o hb q) f0 f1 f3 f4 f5⟩
  self := fun A i s Q E st h => let ⟨⟨_, he⟩, _⟩ := st; wpAny_pyIter_enum he h
def iEnT (K : PySem.W.Frag) (ta : TA) : TI := fun σ H R => ta σ H fun vs H1 => ∃ a xs, vs = [.ref a] ∧ SqT K H1 a xs ∧ R (ItE K a xs.length) H1
theorem pi_enT {X : Cx} {e : Expr} {ta : TA} {p pos tpos : Pos} {elts : List Expr} {kk : Nat} (hg : Gl X "enumerate") (hm : X.mg "enumerate" = none) (ha : PA X [e] ta) (hs : starEach [e] X.env = [(false, eval e X.env)] := by rfl) :
    PI X (.Tuple elts kk tpos) (.Call (.Name "enumerate" p) [e] [] pos) (iEnT X.K ta) := by
  refine ⟨fun pins s σ H R I h => ?_⟩
  refine Call_ (ld_blt I hg hm boot_enumerate (PyProof.Rows.callWith_type1 (thn (ha.run pos pins s σ H _ I h) fun us s1 ⟨vs, H1, I1, r1, a, xs, ex, hq, q⟩ => ?_) hs rfl))
  subst ex
  rw [Vals.ref1 r1]
  obtain ⟨its, rv, p', hz⟩ := I1.tuple hq
  have la : a < s1.heap.objs.size := by obtain ⟨_, z, _⟩ := p'; exact Heap.lt_size z
  refine call_enumT p' fun h' he hit hk => wpAny_pyIter_enum he ?_
  refine ⟨s1.heap.objs.size + 1, [s1.heap.objs.size + 1, s1.heap.objs.size], _, _, H1, rfl, I1.kept (t' := s1.toks) hk, turn_enT a (s1.heap.objs.size + 1) s1.heap.objs.size xs.length, ⟨⟨.none, he⟩, hit, Nat.succ_ne_self _, Nat.ne_of_lt la, Nat.ne_of_gt (Nat.lt_succ_of_lt la), Nat.zero_le _⟩, fun b hb => ?_, q⟩
  have hle : s1.heap.objs.size ≤ b := by
    rcases (by simpa using hb : b = s1.heap.objs.size + 1 ∨ b = s1.heap.objs.size) with z | z
    · rw [z]; exact Nat.le_succ _
    · rw [z]; exact Nat.le_refl _
  exact I1.fpOk hle (I1.hok.fresh hle)
end DL
end
section
set_option Elab.async false
set_option linter.all false
set_option maxRecDepth 100000
set_option autoImplicit false
/-! Room with no repr under way, and what a def promises there: repr of nested data may then be asked in a def's body. -/
namespace DL
open PySem PySem.Spec PyProof.Rows L2
structure RoomG (k : Nat) (A : Around) : Prop where
  rm : Room k A
  gd : A.guards = some []
theorem RoomG.deep {k : Nat} {A : Around} (r : RoomG (k + 1) A) (env : Env) : RoomG k (A.deeper env) := ⟨r.rm.deeper env, r.gd⟩
theorem RoomG.mono {j k : Nat} {A : Around} (r : RoomG k A) (h : j ≤ k) : RoomG j A := ⟨r.rm.mono h, r.gd⟩
structure FnG (P : Program) (w : World) (K : PySem.W.Frag) (mg : Str → Option Value) (base : Heap) (CX : CXT) (k : Nat) (f : Addr) (fd : FuncData) (ps : List Str) (sp : Sp) : Prop where
  ar : ∀ vs H Q E, sp vs H Q E → vs.length = ps.length
  go : ∀ (A : Around) (outer : List Env) (s : Shared) (H : Hp) (args : Args) (us : List Value) (vs : List V) (Q : VK) (E : XK), RoomG k A → Env0 P w K mg base A outer s H → BindsTo s fd args (ps.zip us) → Vals vs us → sp vs H Q E →
    codeAny (model P w) A (Code.call (.ref f) args) (CR CX outer P w H s Q E) s
section
variable {P : Program} {w : World} {K : PySem.W.Frag} {mg : Str → Option Value} {base : Heap} {x qual : Str} {params : Arguments} {body : List Stmt} {scope : Scope} {dvs : List V} {kws : List (Str × V)} {f : Addr} {fd : FuncData}
theorem FunD.okG {CX : CXT} {N ps : List Str} {k : Nat} {sp : Sp} (F : FunD K x qual params body scope dvs kws f fd) (S : FnScope N ps scope) (ar : ∀ vs H Q E, sp vs H Q E → vs.length = ps.length)
    (hB : ∀ (cdv : Value) (A : Around) (outer : List Env) (s : Shared) (H : Hp) (vs : List V) (Q : VK) (E : XK), RoomG k (A.deeper (envOfC qual scope s.heap.objs.size f cdv)) → sp vs H Q E →
      ∃ t, PSs (cxOf CX P w K mg base N qual scope f cdv A outer s H E) body t ∧ t { nx := fun _ H' => Q .non H', rt := Q } (start N vs) H) : FnG P w K mg base CX (k + 1) f fd ps sp := by
  obtain ⟨oc, od, dV, kV, doc, pm, an, cdv, ct, osl, rfl, at_, code, -, -⟩ := F.ex
  refine ⟨ar, ?_⟩
  intro A outer s H args us vs Q E room env0 bnd rel ask
  have stays : ∀ b o, base.get? b = some o → s.heap.get? b = some o := fun b o e => (env0.bs b o e).1
  have inK : K.In s.heap := env0.mod.kin.keeps stays
  have par : ∀ y ∈ ps.zip us, scope.names.lookup y.1 = some .local ∨ (scope.names.lookup y.1 = some .cell ∧ ((cellsFrom (s.heap.objs.size + 1) scope.names []).lookup y.1).isSome = true) := by
    rintro ⟨n, v⟩ hy
    exact (S.par n (List.of_mem_zip hy).1).imp id fun q => ⟨q, PySem.W.cellsFrom_some _ _ _ (.inl q)⟩
  refine codeAny_call_function room.rm.depth (inK _ _ at_) rfl S.co S.gen rfl (PySem.W.codeRec_of inK code) (bnd _ _ _ _ (wpAny_newFunctionEnv_cells S.kind par ?_))
  rintro env rfl s1 into
  refine ⟨(env0.mod.nolimit.keeps stays).keeps into.toInCall.keep, codeAny_func ?_⟩
  obtain ⟨t, reads, start_⟩ := hB cdv A outer s H vs Q E (room.deep _) ask
  have I1 := inv_start (CX := CX) (E := E) S room.rm.hd env0 (ar _ _ _ _ ask) rel into
  refine wpAny_mono (reads.run [] s1 (start N vs) H _ I1 start_) ?_ (fun _ _ z => z)
  have close : ∀ {σ' : L2.St} {H' : Hp} {v : V} {u : Value} {s' : Shared}, Inv (cxOf CX P w K mg base N qual scope f cdv A outer s H E) [] σ' H' s' → RelV v u → Q v H' → CE outer P w H s Q u s' := by
    intro σ' H' v u s' J rv q
    exact ⟨v, H', J.os, J.bare, J.base, J.hok, rv, q⟩
  rintro (_ | _ | _ | u) s' hs
  · obtain ⟨σ', H', J, q⟩ := hs; exact close (v := V.non) (u := Value.none) J rfl q
  · obtain ⟨_, _, _, q⟩ := hs; exact q.elim
  · obtain ⟨_, _, _, q⟩ := hs; exact q.elim
  · obtain ⟨v, σ', H', J, rv, q⟩ := hs; exact close J rv q
end
section
variable {X : Cx} {CX : CXT} {k : Nat} {f : Addr} {fd : FuncData} {ps : List Str} {sp : Sp} {dvs : List V} {ds : List Value} {E : L2.St → XK} {x : Str} {p pos : Pos} {e : Expr} {es : List Expr} {t : TA}
/-- behind the callee: its end, or what it lets out -/
theorem behind {pins : List (Addr × Obj)} {σ : L2.St} {H : Hp} {s : Shared} {Q : VK} {ws us : List Value} {kw : List (Str × Value)} {vs : List V} (F : FnG X.prog X.w X.K X.mg X.base CX k f fd ps sp) (hr : RoomG k X.A) (hx : PassesAt CX X σ (E σ))
    (I : Inv X pins σ H s) (hb : BindsTo s fd ⟨ws, kw⟩ (ps.zip us)) (r : Vals vs us) (h : sp vs H Q (E σ)) : wpAny (model X.prog X.w) X.A (call (.ref f) ws kw) (EP X pins σ Q) X.xe s := by
  refine wpAny_call (codeAny_mono (F.go X.A X.stack s H ⟨ws, kw⟩ us vs Q (E σ) hr I.env0 hb r h) ?_)
  intro r s' hq
  cases r with
  | ok fl => cases fl <;> first | exact I.after hq | exact False.elim hq
  | error e => exact hx pins H s e s' I hq
theorem pe_callG (F : FnG X.prog X.w X.K X.mg X.base CX k f fd ps sp) (hr : RoomG k X.A) (hg : Gl X x) (hm : X.mg x = some (.ref f)) (hk : PySem.W.keepIn X.K (.ref f) = true) (hb : Binds X.K fd ps ds) (hd : Vals dvs ds) (hx : ∀ σ, PassesAt CX X σ (E σ))
    (ha : PA X (e :: es) t) (hdb : (x == ("__debug__" : Str)) = false) (he : starEach (e :: es) X.env = (false, eval e X.env) :: starEach es X.env) (hpl : (backTo pos (starEach es X.env)).any (·.1) = false) :
    PE X (.Call (.Name x p) (e :: es) [] pos) (tCallSD sp dvs E t) := by
  constructor
  intro pins s σ H Q I h
  refine wpAny_Call_Name_kw (ld_glob I hg hm (PySem.W.callWith_K (h₀ := X.base) I.ok.mod.kin hk ?_ he hpl) hdb)
  refine thn (ha.run pos pins s σ H _ I h) ?_
  rintro us s1 ⟨vs, H1, I1, r, q⟩
  have r2 : Vals (vs ++ dvs) (us ++ ds) := r.append hd
  exact ⟨I1.kIn, behind (ws := us) (kw := []) F hr (hx σ) I1 (hb s1 us I1.kIn (by rw [← r2.length]; exact F.ar _ _ _ _ q)) r2 q⟩
end
/-! the law's call -/
section
variable {P : Program} {w : World} {K : PySem.W.Frag} {mg mb : Str → Option Value} {CX : CXT} {k : Nat} {fa a : Addr} {fd : FuncData} {x : Str} {sp : Sp} {s₁ : Shared} {vs : List Value} {ns : List Int}
/-- what is asked of the law's end -/
def LawEnd (s₁ : Shared) (r : Result) (s' : Shared) : Prop := r = .ok (.ret (.bool true)) ∧ OldK s₁.heap s'.heap ∧ s'.os = s₁.os ∧ AllBare s'.gens
theorem law_from {H : Hp} (KX : K.In s₁.heap) (hns : s₁.heap.Ns mainGlobals mg) (hb : s₁.heap.Ns builtinsNs mb) (hbb : ∀ x : Str, x ≠ "__name__" → mb x = bootBuiltins x) (hlim : s₁.heap.NoLimit) (hg : s₁.gens = #[])
    (ha : s₁.heap.get? a = some { cls := .type "list", data := .seq vs.toArray }) (hr : RoomG k callerA) (F : ∀ base : Heap, K.In base → base.Ns mainGlobals mg → FnG P w K mg base CX k fa fd [x] sp)
    (hbind : ∀ (s : Shared) (u : Value), BindsTo s fd ⟨[u], []⟩ [(x, u)]) (ask : sp [.ref a] H (fun v _ => v = .bl true) fun _ _ _ => False) (hCX : ∀ e s', CX [] H s₁ (fun _ _ _ => False) e s' → False)
    (only : Only H) (hok : HOk P w H s₁.heap) (at_ : ∀ b, H b ≠ none → b = a) (kn : H a ≠ none → K.lookup a = none) : codeAny (model P w) callerA (.call (.ref fa) ⟨[.ref a], []⟩) (LawEnd s₁) s₁ := by
  have some_ : ∀ {b : Addr} {u : HO}, H b = some u → b = a := fun {b u} q => at_ b (by rw [q]; exact Option.some_ne_none u)
  -- the names' dicts are not the script
  have ns_ : ∀ {b : Addr} {m : Str → Option Value}, s₁.heap.Ns b m → (hidT s₁.heap H).Ns b m := by
    rintro b m ⟨o, es, ep, e, d, r⟩
    refine ⟨o, es, ep, hidT_get e ?_, d, r⟩
    rcases q : H b with _ | u
    · rfl
    · cases some_ q; rw [ha] at e; cases e; exact Data.noConfusion (show Data.seq vs.toArray _ = Data.dict es ep from d)
  have kin : K.In (hidT s₁.heap H) := by
    intro b o e
    refine hidT_get (KX b o e) ?_
    rcases q : H b with _ | u
    · rfl
    · cases some_ q; rw [kn (by rw [q]; exact Option.some_ne_none u)] at e; cases e
  obtain ⟨mc, c1, c2⟩ := hlim
  have env0 : Env0 P w K mg (hidT s₁.heap H) callerA [] s₁ H :=
    { frames := rfl, mod := ⟨kin, ns_ hns, ⟨mb, ns_ hb, hbb⟩, mc, ns_ c1, c2⟩, bs := fun b o e => of_hidT e, bsz := Nat.le_of_eq (hidT_size s₁.heap H), funs := trivial, frf := fun b z => (List.not_mem_nil z).elim, hok := hok, bare := .of_eq hg }
  have run := (F _ kin (ns_ hns)).go callerA [] s₁ H ⟨[.ref a], []⟩ [.ref a] [.ref a] _ _ hr env0 (hbind s₁ (.ref a)) (.cons rfl .nil) ask
  refine codeAny_mono run ?_
  intro r s' h
  cases r with
  | error e => exact (hCX e s' h).elim
  | ok fl =>
    cases fl with
    | next => exact False.elim h
    | brk => exact False.elim h
    | cont => exact False.elim h
    | ret u =>
      obtain ⟨v, H', os, bare, un, hok', r', q⟩ := h
      cases (show v = V.bl true from q)
      cases (show u = Value.bool true from r')
      refine ⟨rfl, OldK.of_keep ?_, os, bare⟩
      intro b o e
      rcases only b with z | ⟨ob, xs, z⟩
      · exact un.keep b o e z (fun y => (List.not_mem_nil (show b ∈ ([] : List Addr) from y)).elim) List.not_mem_nil
      · obtain ⟨e1, -⟩ := hok b _ z
        obtain ⟨e2, -⟩ := hok' b _ (un.frzs b ob _ z)
        cases e.symm.trans e1
        exact e2
theorem law_goG (KX : K.In s₁.heap) (hns : s₁.heap.Ns mainGlobals mg) (hb : s₁.heap.Ns builtinsNs mb) (hbb : ∀ x : Str, x ≠ "__name__" → mb x = bootBuiltins x) (hlim : s₁.heap.NoLimit) (hg : s₁.gens = #[])
    (ha : s₁.heap.get? a = some { cls := .type "list", data := .seq vs.toArray }) (hi : IntsAre vs ns) (hl : ns.length ≤ sizeLine) (hr : RoomG k callerA) (F : ∀ base : Heap, K.In base → base.Ns mainGlobals mg → FnG P w K mg base CX k fa fd [x] sp)
    (hbind : ∀ (s : Shared) (u : Value), BindsTo s fd ⟨[u], []⟩ [(x, u)]) (ask : ∀ H : Hp, Only H → SqL K H a (ns.map V.int) → sp [.ref a] H (fun v _ => v = .bl true) fun _ _ _ => False)
    (hCX : ∀ H e s', CX [] H s₁ (fun _ _ _ => False) e s' → False) : codeAny (model P w) callerA (.call (.ref fa) ⟨[.ref a], []⟩) (LawEnd s₁) s₁ := by
  have rv : Vals (ns.map V.int) vs := vals_ints hi
  rcases hk : K.lookup a with _ | o
  · -- the script is tracked, frozen
    let ob : Obj := { cls := .type "list", data := .seq vs.toArray }
    let H : Hp := fun b => if b = a then some (.frz ob (.lst (ns.map V.int))) else none
    have Ha : H a = some (.frz ob (.lst (ns.map V.int))) := if_pos rfl
    have Hn : ∀ {b}, b ≠ a → H b = none := fun z => if_neg z
    have on : ∀ {b u}, H b = some u → b = a := fun {b u} z => Classical.byContradiction fun n => by rw [Hn n] at z; cases z
    have only : Only H := fun b => if z : b = a then .inr ⟨ob, _, z ▸ Ha⟩ else .inl (Hn z)
    have hok : HOk P w H s₁.heap := by
      intro b u z
      cases on z
      cases Ha.symm.trans z
      exact ⟨ha, by rw [List.length_map]; exact hl, vs, _, rv, ha⟩
    exact law_from (H := H) KX hns hb hbb hlim hg ha hr F hbind (ask H only (.inl (.inr ⟨ob, Ha⟩))) (hCX H) only hok (fun b z => by
      rcases q : H b with _ | u
      · exact (z q).elim
      · exact on q) fun _ => hk
  · -- the script is an object of the module
    have e := ha.symm.trans (KX a o hk)
    cases e
    have sq : SqL K (fun _ => none) a (ns.map V.int) := .inr ⟨_, vs.toArray, _, hk, rfl, rfl, rfl, by rw [List.size_toArray, hi.length]; exact hl, by simpa using rv⟩
    exact law_from (H := fun _ => none) KX hns hb hbb hlim hg ha hr F hbind (ask _ (fun _ => .inl rfl) sq) (hCX _) (fun _ => .inl rfl) (fun b u z => by cases (show (none : Option HO) = some u from z)) (fun b z => (z rfl).elim) fun z => (z rfl).elim
end
/-- the end of a law's row -/
theorem walk_G {l : PySem.W.OpenLaw} {n k : Nat} {q : Program} {loose : List Str} {XP : (Str → Option Value) → Heap → Prop} {YP : World → Heap → Prop} {d : DefRec} {CX : CXT} {x : Str} (hn : l.most = some n) (hn2 : n ≤ sizeLine) (hdf : d.params.defaults = []) (hr : RoomG k callerA)
    (F : ∀ (w : World) (mg : Str → Option Value) (fa : Addr) (h : Heap), YP w h → h.Ns mainGlobals mg → mg d.name = some (.ref fa) → ∃ (K : PySem.W.Frag) (fd : FuncData) (sp : Sp), K.In h ∧ (∀ (s : Shared) (u : Value), BindsTo s fd ⟨[u], []⟩ [(x, u)]) ∧
      (∀ (H : Hp) (a : Addr) (ns : List Int), ns.length ≤ n → Only H → SqL K H a (ns.map V.int) → sp [.ref a] H (fun v _ => v = .bl true) fun _ _ _ => False) ∧ ∀ base : Heap, K.In base → base.Ns mainGlobals mg → FnG l.prog w K mg base CX k fa fd [x] sp)
    (hCX : ∀ (H : Hp) (s : Shared) (e : Value) (s' : Shared), CX [] H s (fun _ _ _ => False) e s' → False) : PySem.W.WalkO q loose XP YP l.row.toRowW d [] (fun f vs => PySem.call f vs) := by
  refine Att.attach_call hn hdf ?_
  intro w s₀ s₁ mg mb fa o pm cd doc a vs ns G Y ho hd hcd hmg hobj hints hlen hg
  obtain ⟨K, fd, sp, KX, hb, hsp, hF⟩ := F w mg fa _ Y G.T.g hmg
  exact law_goG KX G.T.g G.T.b G.T.builtins G.T.nolimit hg hobj hints (Nat.le_trans hlen hn2) hr hF hb (fun H => hsp H a ns hlen) fun H => hCX H s₁
end DL
end
section
set_option Elab.async false
set_option linter.all false
set_option maxRecDepth 100000
set_option autoImplicit false
namespace DL
open PySem PySem.Spec PyProof.Rows L2

abbrev St := L2.St
/-! ### results -/
structure Ex where
  cls : Str
  flds : List (Str × PyData)
inductive Slot where
  | fr (v : Val)
  | ow (x : PyData)
inductive Cell where
  | lst (xs : List Val)
  | ins (C : Str) (fs : List (Str × Val))
abbrev Sl := List (Option Slot)
abbrev Cs := List Cell
inductive R (α : Type) where
  | ok (a : α) (cs : Cs)
  | ex (e : Ex) (cs : Cs)
  | bad
def R.bind {α β : Type} (r : R α) (k : α → Cs → R β) : R β := match r with
  | .ok a cs => k a cs
  | .ex e cs => .ex e cs
  | .bad => .bad
def R.of {α : Type} (o : Option α) (cs : Cs) : R α := match o with
  | some a => .ok a cs
  | none => .bad
section
variable {α β : Type}
@[simp] theorem R.bind_ok (a : α) (cs : Cs) (k : α → Cs → R β) : (R.ok a cs).bind k = k a cs := rfl
@[simp] theorem R.bind_ex (e : Ex) (cs : Cs) (k : α → Cs → R β) : (R.ex (α := α) e cs).bind k = .ex e cs := rfl
@[simp] theorem R.bind_bad (k : α → Cs → R β) : (R.bad (α := α)).bind k = .bad := rfl
@[simp] theorem R.of_some (a : α) (cs : Cs) : R.of (some a) cs = .ok a cs := rfl
@[simp] theorem R.of_none (cs : Cs) : R.of (α := α) none cs = .bad := rfl
end

/-! ### the abstract heap without what is hidden -/
open Classical in
noncomputable def hide (p : Addr → Prop) (H : Hp) : Hp := fun a => if p a then none else H a
theorem hide_iff {p : Addr → Prop} {H : Hp} {a : Addr} {o : HO} : hide p H a = some o ↔ ¬ p a ∧ H a = some o := by
  unfold hide
  by_cases h : p a
  · rw [if_pos h]; simp [h]
  · rw [if_neg h]; simp [h]
theorem hide_le {p : Addr → Prop} {H : Hp} : Sub (hide p H) H := fun _ _ h => (hide_iff.mp h).2
theorem hide_sub {p q : Addr → Prop} {H H' : Hp} (h : ∀ a o, ¬ p a → H a = some o → ¬ q a ∧ H' a = some o) : Sub (hide p H) (hide q H') := fun a o e => hide_iff.mpr (h a o (hide_iff.mp e).1 (hide_iff.mp e).2)

/-! ### values, cells, slots over heaps -/
section
variable (K : PySem.W.Frag) (mg : Str → Option Value)
def AtV (ρ : List Addr) (G : Hp) : Val → V → Prop
  | .d x, v => AtD K G x v
  | .br _, _ => False
  | .lk xs, v => ∃ a vs, v = .ref a ∧ SqL K G a vs ∧ AtL K G xs vs
  | .cel n, v => ∃ a, ρ[n]? = some a ∧ v = .ref a
  | .fn x, v => ∃ a, mg x = some (.ref a) ∧ v = .ref a
def OwnAt (H G : Hp) (x : PyData) (p : Addr) : Prop := match x with
  | .list xs => ∃ vs, H p = some (.lst vs) ∧ AtL K G xs vs
  | .dict kvs => (∃ kv, H p = some (.dK kv) ∧ AtP K G kvs kv) ∨ ∃ kv, kvs ≠ [] ∧ H p = some (.dT kv) ∧ AtQ K G kvs kv
  | _ => False
def CellAt (ρ : List Addr) (G H : Hp) : Cell → Addr → Prop
  | .lst xs, a => ∃ vs, H a = some (.lst vs) ∧ Paired (AtV K mg ρ G) xs vs
  | .ins C fs, a => ∃ c dx fv, mg C = some (.ref c) ∧ H a = some (.ins c dx fv) ∧ Paired (fun (p : Str × Val) (q : Str × V) => p.1 = q.1 ∧ AtV K mg ρ G p.2 q.2) fs fv
/-- .. or lent -/
def AtT (ρ : List Addr) (H G : Hp) : Val → V → Prop
  | .br x, v => ∃ a, v = .ref a ∧ a ∉ ρ ∧ OwnAt K H G x a
  | x, v => AtV K mg ρ G x v
structure CellsAt (ρ : List Addr) (G H : Hp) (cs : Cs) : Prop where
  len : ρ.length = cs.length
  at_ : ∀ (n : Nat) (c : Cell) (a : Addr), cs[n]? = some c → ρ[n]? = some a → CellAt K mg ρ G H c a
def SlotAt (ρ : List Addr) (G H : Hp) : Slot → V → Prop
  | .fr v, u => AtV K mg ρ G v u
  | .ow x, u => ∃ a, u = .ref a ∧ OwnAt K H G x a
end
/-- what is fixed at a def's entry: what its callers own, the heap, the cells -/
structure Fx where
  hx : Addr → Prop
  H0 : Hp
  ρ0 : List Addr
  hxt : ∀ a, hx a → ∃ o, H0 a = some o
def Own (sl : Sl) (σ : St) (a : Addr) : Prop := ∃ (i : Nat) (x : PyData), sl[i]? = some (some (.ow x)) ∧ σ[i]? = some (some (.ref a))
def Hid (F : Fx) (ρ : List Addr) (sl : Sl) (σ : St) (a : Addr) : Prop := F.hx a ∨ a ∈ ρ ∨ Own sl σ a
noncomputable def vis (F : Fx) (ρ : List Addr) (sl : Sl) (σ : St) (H : Hp) : Hp := hide (Hid F ρ sl σ) H
structure Rep (K : PySem.W.Frag) (mg : Str → Option Value) (F : Fx) (ρ : List Addr) (sl : Sl) (cs : Cs) (σ : St) (H : Hp) : Prop where
  len : sl.length = σ.length
  cells : CellsAt K mg ρ (vis F ρ sl σ H) H cs
  nd : ρ.Nodup
  pre : ∃ t, ρ = F.ρ0 ++ t ∧ ∀ a ∈ t, F.H0 a = none
  fr : ∀ a, Own sl σ a → F.H0 a = none ∧ a ∉ ρ
  inj : ∀ (i j : Nat) (x y : PyData) (a : Addr), sl[i]? = some (some (.ow x)) → sl[j]? = some (some (.ow y)) → σ[i]? = some (some (.ref a)) → σ[j]? = some (some (.ref a)) → i = j
  keep : ∀ a o, F.H0 a = some o → a ∉ F.ρ0 → H a = some o
  slot : ∀ (i : Nat) (s : Slot), sl[i]? = some (some s) → ∃ v, σ[i]? = some (some v) ∧ SlotAt K mg ρ (vis F ρ sl σ H) H s v
/-- behind an expression: cells may have changed, new ones come, else what stood stands -/
structure Grow (ρ : List Addr) (H : Hp) (ρ' : List Addr) (H' : Hp) : Prop where
  keep : ∀ a o, H a = some o → a ∉ ρ → H' a = some o
  ext : ∃ t, ρ' = ρ ++ t ∧ ∀ a ∈ t, H a = none

section
variable {K : PySem.W.Frag} {mg : Str → Option Value} {F : Fx} {ρ ρ' ρ1 ρ2 : List Addr} {sl sl' : Sl} {cs cs' : Cs} {σ σ' : St} {H H' H1 H2 G G' : Hp}
theorem prefix_get {t : List Addr} {n : Nat} {a : Addr} (h : ρ[n]? = some a) : (ρ ++ t)[n]? = some a := by
  obtain ⟨h1, h2⟩ := List.getElem?_eq_some_iff.mp h
  rw [List.getElem?_append_left h1]
  exact h
theorem AtV.mono (hs : Sub G G') (hp : ∀ (n : Nat) (a : Addr), ρ[n]? = some a → ρ'[n]? = some a) : ∀ {v : Val} {u : V}, AtV K mg ρ G v u → AtV K mg ρ' G' v u
  | .d x, _, q => AtD.mono hs x _ q
  | .br _, _, q => q.elim
  | .lk xs, _, ⟨a, vs, e, q, l⟩ => ⟨a, vs, e, sqL_sub hs q, AtL.mono hs _ _ l⟩
  | .cel n, _, ⟨a, e, q⟩ => ⟨a, hp n a e, q⟩
  | .fn x, _, q => q
theorem OwnAt.mono {x : PyData} {p : Addr} (hs : Sub G G') (hh : H' p = H p) (h : OwnAt K H G x p) : OwnAt K H' G' x p := by
  cases x with
  | list xs =>
    obtain ⟨vs, e, l⟩ := h
    exact ⟨vs, hh.trans e, AtL.mono hs _ _ l⟩
  | dict kvs =>
    rcases h with ⟨kv, e, l⟩ | ⟨kv, ne, e, l⟩
    · exact .inl ⟨kv, hh.trans e, AtP.mono hs _ _ l⟩
    · exact .inr ⟨kv, ne, hh.trans e, AtQ.mono hs _ _ l⟩
  | _ => exact h.elim
theorem OwnAt.there {x : PyData} {p : Addr} (h : OwnAt K H G x p) : ∃ o, H p = some o := by
  cases x with
  | list xs => obtain ⟨vs, e, l⟩ := h; exact ⟨_, e⟩
  | dict kvs =>
    rcases h with ⟨kv, e, l⟩ | ⟨kv, ne, e, l⟩
    · exact ⟨_, e⟩
    · exact ⟨_, e⟩
  | _ => exact h.elim
theorem CellAt.there {c : Cell} {a : Addr} (h : CellAt K mg ρ G H c a) : ∃ o, H a = some o := by
  cases c with
  | lst xs => obtain ⟨vs, e, _⟩ := h; exact ⟨_, e⟩
  | ins C fs => obtain ⟨c, dx, fv, _, e, _⟩ := h; exact ⟨_, e⟩
theorem CellAt.mono {c : Cell} {a : Addr} (hs : Sub G G') (hp : ∀ (n : Nat) (a : Addr), ρ[n]? = some a → ρ'[n]? = some a) (hh : H' a = H a) (h : CellAt K mg ρ G H c a) : CellAt K mg ρ' G' H' c a := by
  cases c with
  | lst xs =>
    obtain ⟨vs, e, l⟩ := h
    exact ⟨vs, hh.trans e, L2.Paired.mapP l fun _ _ q => q.mono hs hp⟩
  | ins C fs =>
    obtain ⟨c, dx, fv, e1, e, l⟩ := h
    exact ⟨c, dx, fv, e1, hh.trans e, L2.Paired.mapP l fun _ _ q => ⟨q.1, q.2.mono hs hp⟩⟩
theorem CellsAt.there (h : CellsAt K mg ρ G H cs) {a : Addr} (ha : a ∈ ρ) : ∃ o, H a = some o := by
  obtain ⟨n, hn⟩ := List.getElem?_of_mem ha
  have hl : n < cs.length := by rw [← h.len]; exact (List.getElem?_eq_some_iff.mp hn).1
  exact (h.at_ n _ a (List.getElem?_eq_getElem hl) hn).there
theorem Grow.refl : Grow ρ H ρ H := ⟨fun _ _ h _ => h, [], by simp, fun _ h => by simp at h⟩
theorem Grow.pre (g : Grow ρ H ρ' H') : ∀ (n : Nat) (a : Addr), ρ[n]? = some a → ρ'[n]? = some a := by
  obtain ⟨t, rfl, _⟩ := g.ext
  exact fun n a h => prefix_get h
theorem Grow.mem (g : Grow ρ H ρ' H') {a : Addr} (h : a ∈ ρ) : a ∈ ρ' := by
  obtain ⟨t, rfl, _⟩ := g.ext
  exact List.mem_append_left _ h
theorem Grow.not_mem (g : Grow ρ H ρ' H') {a : Addr} {o : HO} (h : a ∉ ρ) (e : H a = some o) : a ∉ ρ' := by
  obtain ⟨t, rfl, ht⟩ := g.ext
  intro z
  rcases List.mem_append.mp z with z | z
  · exact h z
  · rw [ht a z] at e; cases e
theorem Grow.trans (c : CellsAt K mg ρ1 G H1 cs) (a : Grow ρ H ρ1 H1) (b : Grow ρ1 H1 ρ2 H2) : Grow ρ H ρ2 H2 := by
  refine ⟨fun x o h hx => b.keep x o (a.keep x o h hx) (a.not_mem hx h), ?_⟩
  obtain ⟨t, rfl, ht⟩ := a.ext
  obtain ⟨u, rfl, hu⟩ := b.ext
  refine ⟨t ++ u, by simp, fun x hx => ?_⟩
  rcases List.mem_append.mp hx with z | z
  · exact ht x z
  · cases q : H x with
    | none => rfl
    | some o =>
      have e := hu x z
      by_cases hm : x ∈ ρ
      · obtain ⟨o', e'⟩ := c.there (List.mem_append_left t hm)
        rw [e] at e'; cases e'
      · rw [a.keep x o q hm] at e; cases e
theorem Rep.own_there (r : Rep K mg F ρ sl cs σ H) {a : Addr} (h : Own sl σ a) : ∃ o, H a = some o := by
  obtain ⟨i, x, e1, e2⟩ := h
  obtain ⟨v, e3, s⟩ := r.slot i _ e1
  rw [e2] at e3
  have e4 : V.ref a = v := Option.some.inj (Option.some.inj e3)
  obtain ⟨b, e5, q⟩ := s
  rw [← e4] at e5
  cases e5
  exact q.there
/-- a new address is no one's -/
theorem Rep.fresh (r : Rep K mg F ρ sl cs σ H) {p : Addr} (h : H p = none) : F.H0 p = none ∧ p ∉ ρ ∧ ¬ Own sl σ p := by
  have h2 : p ∉ ρ := fun z => by
    obtain ⟨o, e⟩ := r.cells.there z
    rw [h] at e; cases e
  refine ⟨?_, h2, fun z => ?_⟩
  · cases q : F.H0 p with
    | none => rfl
    | some o =>
      have hp : p ∉ F.ρ0 := fun z => by
        obtain ⟨t, e, _⟩ := r.pre
        exact h2 (by rw [e]; exact List.mem_append_left _ z)
      have := r.keep p o q hp
      rw [h] at this; cases this
  · obtain ⟨o, e⟩ := r.own_there z
    rw [h] at e; cases e
/-- what is seen stays seen behind an expression -/
theorem Grow.vis (r : Rep K mg F ρ sl cs σ H) (g : Grow ρ H ρ' H') : Sub (vis F ρ sl σ H) (vis F ρ' sl σ H') := hide_sub fun a o hn e => by
  have h1 : a ∉ ρ := fun z => hn (.inr (.inl z))
  refine ⟨fun z => ?_, g.keep a o e h1⟩
  rcases z with z | z | z
  · exact hn (.inl z)
  · exact g.not_mem h1 e z
  · exact hn (.inr (.inr z))
/-- the slots stand behind what only grows -/
theorem Rep.grow (r : Rep K mg F ρ sl cs σ H) (g : Grow ρ H ρ' H') (c : CellsAt K mg ρ' (DL.vis F ρ' sl σ H') H' cs') (nd : ρ'.Nodup) : Rep K mg F ρ' sl cs' σ H' := by
  have hv := g.vis r
  have own : ∀ a, Own sl σ a → a ∉ ρ' ∧ H' a = H a := fun a h => by
    obtain ⟨o, e⟩ := r.own_there h
    have n := (r.fr a h).2
    exact ⟨g.not_mem n e, (g.keep a o e n).trans e.symm⟩
  refine ⟨r.len, c, nd, ?_, fun a h => ⟨(r.fr a h).1, (own a h).1⟩, r.inj, fun a o h hn => ?_, fun i s e => ?_⟩
  · obtain ⟨t, e, ht⟩ := r.pre
    obtain ⟨u, e2, hu⟩ := g.ext
    refine ⟨t ++ u, by rw [e2, e]; simp, fun a ha => ?_⟩
    rcases List.mem_append.mp ha with z | z
    · exact ht a z
    · exact (r.fresh (hu a z)).1
  · have hr : a ∉ ρ := fun z => by
      obtain ⟨t, e, ht⟩ := r.pre
      rw [e] at z
      rcases List.mem_append.mp z with z | z
      · exact hn z
      · rw [ht a z] at h; cases h
    exact g.keep a o (r.keep a o h hn) hr
  · obtain ⟨v, e1, q⟩ := r.slot i s e
    refine ⟨v, e1, ?_⟩
    cases s with
    | fr x => exact AtV.mono hv g.pre q
    | ow x =>
      obtain ⟨a, rfl, q⟩ := q
      exact ⟨a, rfl, q.mono hv (own a ⟨i, x, e, e1⟩).2⟩
end

/-- lent or not, or what a cell holds just now -/
def AtW (K : PySem.W.Frag) (mg : Str → Option Value) (ρ : List Addr) (H G : Hp) : Val → V → Prop
  | .br x, v => ∃ a, v = .ref a ∧ OwnAt K H G x a
  | x, v => AtV K mg ρ G x v
theorem AtT.w {K : PySem.W.Frag} {mg : Str → Option Value} {ρ : List Addr} {H G : Hp} {x : Val} {v : V} (h : AtT K mg ρ H G x v) : AtW K mg ρ H G x v := by
  cases x with
  | br x => obtain ⟨a, e, _, q⟩ := h; exact ⟨a, e, q⟩
  | _ => exact h
theorem AtT.of {K : PySem.W.Frag} {mg : Str → Option Value} {ρ : List Addr} {H G : Hp} {x : Val} {v : V} (h : AtV K mg ρ G x v) : AtT K mg ρ H G x v := by
  cases x with
  | br x => exact h.elim
  | _ => exact h
def Val.solid : Val → Bool
  | .br _ => false
  | _ => true
theorem AtT.solid {K : PySem.W.Frag} {mg : Str → Option Value} {ρ : List Addr} {H G : Hp} {x : Val} {v : V} (h : AtT K mg ρ H G x v) (s : x.solid = true) : AtV K mg ρ G x v := by
  cases x with
  | br x => cases s
  | _ => exact h
/-- lent or not, it stays behind an expression -/
theorem AtT.grow {K : PySem.W.Frag} {mg : Str → Option Value} {F : Fx} {ρ ρ' : List Addr} {sl : Sl} {cs : Cs} {σ : St} {H H' : Hp} {x : Val} {v : V} (r : Rep K mg F ρ sl cs σ H) (g : Grow ρ H ρ' H')
    (h : AtT K mg ρ H (DL.vis F ρ sl σ H) x v) : AtT K mg ρ' H' (DL.vis F ρ' sl σ H') x v := by
  cases x with
  | br x =>
    obtain ⟨a, e, n, q⟩ := h
    obtain ⟨o, eo⟩ := q.there
    refine ⟨a, e, g.not_mem n eo, q.mono (g.vis r) ?_⟩
    exact (g.keep a o eo n).trans eo.symm
  | d x => exact AtT.of (AtV.mono (v := .d x) (g.vis r) g.pre h)
  | lk x => exact AtT.of (AtV.mono (v := .lk x) (g.vis r) g.pre h)
  | cel n => exact AtT.of (AtV.mono (v := .cel n) (g.vis r) g.pre h)
  | fn n => exact AtT.of (AtV.mono (v := .fn n) (g.vis r) g.pre h)

/-! ### the configuration: what all contexts of a def's body share -/
structure Cf where
  K : PySem.W.Frag
  mg : Str → Option Value
  P : Program
  w : World
  base : Heap
  N : List Str
  sc : Scope
  k : Nat
  cm : Bool
  tp : Bool
  st : Str → Bool
structure Cf.Ok (Γ : Cf) (X : Cx) : Prop where
  K : X.K = Γ.K
  mg : X.mg = Γ.mg
  P : X.prog = Γ.P
  w : X.w = Γ.w
  base : X.base = Γ.base
  N : X.N = Γ.N
  sc : X.env.scope = Γ.sc
  cm : Γ.cm = true → X.calm = true ∧ RoomG Γ.k X.A
  un : X.A.units + 16 * Γ.k + 200 < cLine
  tp : Γ.tp = true → X.stack = X.env :: X.outer ∧ X.env.frame = some X.env.locals
  fn : ∀ x, Γ.st x = true → X.fn x = true ∨ Γ.sc.names.lookup x = some .local
structure Good (X : Cx) (W : WX) : Prop where
  tk : Takes X W
  po : PassesOwn (model X.prog X.w) X.A X.env X.xe

/-! ### posts -/
/-- an error as it lies -/
def ExAt (K : PySem.W.Frag) (mg : Str → Option Value) (G H : Hp) (e : Ex) (c : Value) (d : Option Addr) : Prop :=
  (∃ C, mg e.cls = some (.ref C) ∧ c = .ref C) ∧ match e.flds with
    | [] => d = none
    | fs => ∃ a vs, d = some a ∧ H a = some (.xd vs) ∧ Paired (fun (p : Str × PyData) (q : Str × V) => p.1 = q.1 ∧ AtD K G p.2 q.2) fs vs
section
variable (Γ : Cf) (F : Fx)
def PostG {α β : Type} (ρ : List Addr) (sl : Sl) (σ : St) (H : Hp) (W : WX) (rel : List Addr → Hp → Cs → α → β → Prop) (r : R α) (Q : β → Hp → Prop) : Prop := match r with
  | .ok x cs' => ∀ u H' ρ', Rep Γ.K Γ.mg F ρ' sl cs' σ H' → Grow ρ H ρ' H' → rel ρ' H' cs' x u → Q u H'
  | .ex e cs' => ∀ c d H' ρ', Rep Γ.K Γ.mg F ρ' sl cs' σ H' → Grow ρ H ρ' H' → ExAt Γ.K Γ.mg (vis F ρ' sl σ H') H' e c d → W c d σ H'
  | .bad => False
/-- a value, seen -/
def relV (sl : Sl) (σ : St) (ρ : List Addr) (H : Hp) (_ : Cs) (x : Val) (u : V) : Prop := AtT Γ.K Γ.mg ρ H (vis F ρ sl σ H) x u
def relVs (sl : Sl) (σ : St) (ρ : List Addr) (H : Hp) (_ : Cs) (xs : List Val) (us : List V) : Prop := Paired (AtV Γ.K Γ.mg ρ (vis F ρ sl σ H)) xs us
def relB (ρ : List Addr) (H : Hp) (_ : Cs) (x y : Bool) : Prop := x = y
/-- a value that may be a fresh list of no one's -/
def relO (sl : Sl) (σ : St) (Hs : Hp) (ρ : List Addr) (H : Hp) (cs : Cs) (x : Slot) (u : V) : Prop := match x with
  | .fr v => AtV Γ.K Γ.mg ρ (vis F ρ sl σ H) v u
  | .ow x => ∃ p, u = .ref p ∧ Hs p = none ∧ Rep Γ.K Γ.mg F ρ sl cs σ (hide (· = p) H) ∧ OwnAt Γ.K H (vis F ρ sl σ (hide (· = p) H)) x p
end
section
variable {Γ : Cf} {F : Fx} {α β α' β' : Type} {ρ ρ1 : List Addr} {sl : Sl} {σ : St} {H H1 : Hp} {W : WX} {cs cs1 : Cs} {rel : List Addr → Hp → Cs → α → β → Prop} {rel' : List Addr → Hp → Cs → α' → β' → Prop}
theorem PostG.weak {r : R α} {Q : β → Hp → Prop} (h : PostG Γ F ρ sl σ H W rel r Q) (c : Rep Γ.K Γ.mg F ρ1 sl cs1 σ H1) (g : Grow ρ H ρ1 H1) : PostG Γ F ρ1 sl σ H1 W rel r Q := by
  cases r with
  | ok x cs' => exact fun u H' ρ' rp g' q => h u H' ρ' rp (g.trans c.cells g') q
  | ex e cs' => exact fun cl d H' ρ' rp g' q => h cl d H' ρ' rp (g.trans c.cells g') q
  | bad => exact h
theorem PostG.bind {r : R α} {k : α → Cs → R α'} {Q : β' → Hp → Prop} (h : PostG Γ F ρ sl σ H W rel' (r.bind k) Q) :
    PostG Γ F ρ sl σ H W rel r (fun u H1 => ∃ x cs1 ρ1, Rep Γ.K Γ.mg F ρ1 sl cs1 σ H1 ∧ Grow ρ H ρ1 H1 ∧ rel ρ1 H1 cs1 x u ∧ PostG Γ F ρ1 sl σ H1 W rel' (k x cs1) Q) := by
  cases r with
  | ok x cs' => exact fun u H' ρ' rp g q => ⟨x, cs', ρ', rp, g, q, PostG.weak h rp g⟩
  | ex e cs' => exact h
  | bad => exact h
theorem Grow.back {K : PySem.W.Frag} {mg : Str → Option Value} {p : Addr} (r : Rep K mg F ρ1 sl cs σ H1) (g : Grow ρ H ρ1 H1) (h : H1 p = none) : H p = none := by
  cases q : H p with
  | none => rfl
  | some o =>
    by_cases hp : p ∈ ρ
    · obtain ⟨o', e⟩ := r.cells.there (g.mem hp)
      rw [h] at e; cases e
    · rw [g.keep p o q hp] at h; cases h
theorem PostG.imp {r : R α} {Q : β → Hp → Prop} {rl : List Addr → Hp → Cs → α → β → Prop} (h : PostG Γ F ρ sl σ H W rel r Q) (hr : ∀ ρ' H' cs' x u, rl ρ' H' cs' x u → rel ρ' H' cs' x u) : PostG Γ F ρ sl σ H W rl r Q := by
  cases r with
  | ok x cs' => exact fun u H' ρ' rp g q => h u H' ρ' rp g (hr _ _ _ _ _ q)
  | ex e cs' => exact h
  | bad => exact h
theorem relO_back {Hs : Hp} (hb : ∀ p, H1 p = none → Hs p = none) : ∀ ρ' H' cs' x u, relO Γ F sl σ H1 ρ' H' cs' x u → relO Γ F sl σ Hs ρ' H' cs' x u := fun ρ' H' cs' x u q => by
  cases x with
  | fr v => exact q
  | ow x =>
    obtain ⟨p, e, e2, q⟩ := q
    exact ⟨p, e, hb p e2, q⟩
theorem PostG.mono {r : R α} {Q Q' : β → Hp → Prop} (h : PostG Γ F ρ sl σ H W rel r Q) (hq : ∀ u H', Q u H' → Q' u H') : PostG Γ F ρ sl σ H W rel r Q' := by
  cases r with
  | ok x cs' => exact fun u H' ρ' rp g q => hq _ _ (h u H' ρ' rp g q)
  | ex e cs' => exact h
  | bad => exact h
end

/-! ### judgements -/
abbrev SE := Sl → Cs → R Val
abbrev SO := Sl → Cs → R Slot
abbrev ST := Sl → Cs → R Bool
abbrev SA := Sl → Cs → R (List Val)
structure DE (Γ : Cf) (e : Expr) (f : SE) : Prop where
  ex : ∃ t : WX → TE, (∀ X W, Γ.Ok X → Good X W → PE X e (t W)) ∧ ∀ W F ρ sl cs σ H Q, Rep Γ.K Γ.mg F ρ sl cs σ H → PostG Γ F ρ sl σ H W (relV Γ F sl σ) (f sl cs) Q → t W σ H Q
structure DO (Γ : Cf) (e : Expr) (f : SO) : Prop where
  ex : ∃ t : WX → TE, (∀ X W, Γ.Ok X → Good X W → PE X e (t W)) ∧ ∀ W F ρ sl cs σ H Q, Rep Γ.K Γ.mg F ρ sl cs σ H → PostG Γ F ρ sl σ H W (relO Γ F sl σ H) (f sl cs) Q → t W σ H Q
structure DT (Γ : Cf) (e : Expr) (f : ST) : Prop where
  ex : ∃ t : WX → TT, (∀ X W, Γ.Ok X → Good X W → PT X e (t W)) ∧ ∀ W F ρ sl cs σ H Q, Rep Γ.K Γ.mg F ρ sl cs σ H → PostG Γ F ρ sl σ H W relB (f sl cs) Q → t W σ H Q
structure DA (Γ : Cf) (es : List Expr) (f : SA) : Prop where
  ex : ∃ t : WX → TA, (∀ X W, Γ.Ok X → Good X W → PA X es (t W)) ∧ ∀ W F ρ sl cs σ H Q, Rep Γ.K Γ.mg F ρ sl cs σ H → PostG Γ F ρ sl σ H W (relVs Γ F sl σ) (f sl cs) Q → t W σ H Q

/-! ### names and constants -/
section
variable {Γ : Cf} {pos : Pos}
def eVar (i : Nat) : SE := fun sl cs => match sl[i]? with
  | some (some (.fr v)) => .ok v cs
  | some (some (.ow x)) => .ok (.br x) cs
  | _ => .bad
def eC (x : PyData) : SE := fun _ cs => .ok (.d x) cs
theorem de_var (i : Nat) {x : Str} (hN : Γ.N[i]? = some x := by rfl) (hv : Vis Γ.sc x := by first | exact Or.inl rfl | exact Or.inr (Or.inl rfl) | exact Or.inr (Or.inr rfl)) (hd : (x == ("__debug__" : Str)) = false := by decide)
    (hcd : (x == ("__classdict__" : Str)) = false := by decide) : DE Γ (.Name x pos) (eVar i) := by
  refine ⟨fun _ => tVar i, fun X W ok _ => pe_var (by rw [ok.N]; exact hN) (by rw [ok.sc]; exact hv) hd hcd, fun W F ρ sl cs σ H Q r h => ?_⟩
  unfold eVar at h
  split at h
  · rename_i v e
    obtain ⟨u, e2, q⟩ := r.slot i _ e
    exact ⟨u, e2, h u H ρ r Grow.refl (AtT.of q)⟩
  · rename_i x e
    obtain ⟨u, e2, a, rfl, q⟩ := r.slot i _ e
    exact ⟨_, e2, h _ H ρ r Grow.refl ⟨a, rfl, (r.fr a ⟨i, x, e, e2⟩).2, q⟩⟩
  · exact h.elim
theorem de_const {e : Expr} {x : PyData} {v : V} (hp : ∀ X, PE X e (tC v)) (ha : ∀ K G, AtD K G x v) : DE Γ e (eC x) :=
  ⟨fun _ => tC v, fun X W _ _ => hp X, fun W F ρ sl cs σ H Q r h => h v H ρ r Grow.refl (AtT.of (ha _ _))⟩
theorem de_int {i j} : DE Γ (.Constant (.int i) j pos) (eC (.int i)) := de_const (fun X => pe_int) fun _ _ => at_int
theorem de_bl {i j} : DE Γ (.Constant (.bool i) j pos) (eC (.bool i)) := de_const (fun X => pe_bl) fun _ _ => at_bl
theorem de_non {j} : DE Γ (.Constant .none j pos) (eC .none) := de_const (fun X => pe_non) fun _ _ => at_non
theorem de_str {x j} : DE Γ (.Constant (.str x) j pos) (eC (.str x)) := de_const (fun X => pe_str) fun _ _ => at_str
/-- a constant of the module -/
structure GlobD (K : PySem.W.Frag) (mg : Str → Option Value) (x : Str) (d : PyData) : Prop where
  ex : ∃ u v, mg x = some u ∧ RelV v u ∧ ∀ G, AtD K G d v
def Gls (sc : Scope) (x : Str) : Prop := sc.names.lookup x = some .globalImplicit
theorem gl_of {X : Cx} (ok : Γ.Ok X) {x : Str} (h : Gls Γ.sc x) : Gl X x := by
  show X.env.scope.names.lookup x = _
  rw [ok.sc]
  exact h
theorem de_glob {x : Str} {d : PyData} (g : GlobD Γ.K Γ.mg x d) (hg : Gls Γ.sc x := by rfl) (hd : (x == ("__debug__" : Str)) = false := by decide) : DE Γ (.Name x pos) (eC d) := by
  obtain ⟨u, v, hm, r, ha⟩ := g.ex
  exact ⟨fun _ => tC v, fun X W ok _ => pe_glob (gl_of ok hg) (by rw [ok.mg]; exact hm) r hd, fun W F ρ sl cs σ H Q r h => h v H ρ r Grow.refl (AtT.of (ha _))⟩
end

/-! ### argument lists -/
section
variable {Γ : Cf} {e : Expr} {es : List Expr}
def aNil : SA := fun _ cs => .ok [] cs
def aCons (f : SE) (g : SA) : SA := fun sl cs => (f sl cs).bind fun x cs1 => if x.solid = true then (g sl cs1).bind fun xs cs2 => .ok (x :: xs) cs2 else .bad
theorem da_nil : DA Γ [] aNil := ⟨fun _ => tNil, fun X W _ _ => pa_nil, fun W F ρ sl cs σ H Q r h => h [] H ρ r Grow.refl .nil⟩
theorem Paired.monoV {K : PySem.W.Frag} {mg : Str → Option Value} {ρ ρ' : List Addr} {G G' : Hp} (hs : Sub G G') (hp : ∀ (n : Nat) (a : Addr), ρ[n]? = some a → ρ'[n]? = some a) {xs : List Val} {us : List V} (h : Paired (AtV K mg ρ G) xs us) : Paired (AtV K mg ρ' G') xs us :=
  L2.Paired.mapP h fun _ _ q => q.mono hs hp
theorem da_cons {f : SE} {g : SA} (h1 : DE Γ e f) (h2 : DA Γ es g) (hs : ∀ env, starEach (e :: es) env = (false, eval e env) :: starEach es env := by intro _; rfl) : DA Γ (e :: es) (aCons f g) := by
  obtain ⟨t, p1, q1⟩ := h1.ex
  obtain ⟨u, p2, q2⟩ := h2.ex
  refine ⟨fun W => tCons (t W) (u W), fun X W ok gd => pa_cons (p1 X W ok gd) (p2 X W ok gd) (hs _), fun W F ρ sl cs σ H Q r h => ?_⟩
  refine q1 W F ρ sl cs σ H _ r (PostG.mono (PostG.bind (rel := relV Γ F sl σ) h) fun v H1 ⟨x, cs1, ρ1, r1, g1, a1, h1⟩ => ?_)
  by_cases hsd : x.solid = true
  · rw [if_pos hsd] at h1
    refine q2 W F ρ1 sl cs1 σ H1 _ r1 (PostG.mono (PostG.bind (rel := relVs Γ F sl σ) h1) fun vs H2 ⟨xs, cs2, ρ2, r2, g2, a2, h2⟩ => ?_)
    exact h2 (v :: vs) H2 ρ2 r2 Grow.refl (.cons (AtV.mono (g2.vis r1) g2.pre (a1.solid hsd)) a2)
  · rw [if_neg hsd] at h1
    exact h1.elim
end
end DL
end
section
set_option Elab.async false
set_option linter.all false
set_option maxRecDepth 100000
set_option autoImplicit false
namespace DL
open PySem PySem.Spec PyProof.Rows L2

section
variable {K : PySem.W.Frag} {mg : Str → Option Value} {F : Fx} {ρ ρ' ρ1 ρ2 : List Addr} {sl sl' : Sl} {cs cs' : Cs} {σ σ' : St} {H H' H1 H2 G G' : Hp}
theorem vis_le : Sub (vis F ρ sl σ H) H := hide_le
theorem Rep.free (r : Rep K mg F ρ sl cs σ H) {p : Addr} (h : H p = none) : ¬ Hid F ρ sl σ p := fun z => by
  obtain ⟨h1, h2, h3⟩ := r.fresh h
  rcases z with z | z | z
  · obtain ⟨o, e⟩ := F.hxt p z
    rw [h1] at e; cases e
  · exact h2 z
  · exact h3 z
theorem Grow.upd {p : Addr} {o : HO} (h : H p = none) : Grow ρ H ρ (upd H p o) :=
  ⟨fun a u e _ => by rw [upd_ne (ne_of_none e h)]; exact e, [], by simp, fun _ z => by simp at z⟩
/-- a new object, seen -/
theorem Rep.alloc (r : Rep K mg F ρ sl cs σ H) {p : Addr} (h : H p = none) (o : HO) : Rep K mg F ρ sl cs σ (upd H p o) ∧ vis F ρ sl σ (upd H p o) p = some o := by
  have g : Grow ρ H ρ (upd H p o) := Grow.upd h
  have hv := g.vis r
  refine ⟨r.grow g ⟨r.cells.len, fun n c a e1 e2 => ?_⟩ r.nd, hide_iff.mpr ⟨r.free h, upd_same⟩⟩
  have q := r.cells.at_ n c a e1 e2
  obtain ⟨o', eo⟩ := q.there
  exact q.mono hv (fun _ _ z => z) (upd_ne (ne_of_none eo h))
/-- .. and one that no one sees yet -/
theorem Rep.own_new (r : Rep K mg F ρ sl cs σ H) {p : Addr} (h : H p = none) : F.H0 p = none ∧ p ∉ ρ ∧ ¬ Own sl σ p := r.fresh h
theorem AtT.bl {b : Bool} {v : V} (h : AtT K mg ρ H G (.d (.bool b)) v) : v = .bl b := at_bl_iff (K := K) (G := G) |>.mp h
theorem AtT.int {i : Int} {v : V} (h : AtT K mg ρ H G (.d (.int i)) v) : v = .int i := at_int_iff (K := K) (G := G) |>.mp h
theorem AtT.str {i : Str} {v : V} (h : AtT K mg ρ H G (.d (.str i)) v) : v = .str i := at_str_iff (K := K) (G := G) |>.mp h
theorem AtT.non {v : V} (h : AtT K mg ρ H G (.d .none) v) : v = .non := at_non_iff (K := K) (G := G) |>.mp h
theorem AtT.tup {xs : List PyData} {v : V} (h : AtT K mg ρ H G (.d (.tuple xs)) v) : ∃ a vs, v = .ref a ∧ SqT K G a vs ∧ AtL K G xs vs := at_tup_iff (K := K) (G := G) |>.mp h
theorem AtT.d {x : PyData} {v : V} (h : AtT K mg ρ H G (.d x) v) : AtD K G x v := h
theorem AtT.mk {x : PyData} {v : V} (h : AtD K G x v) : AtT K mg ρ H G (.d x) v := h
theorem AtT.mkB {b : Bool} : AtT K mg ρ H G (.d (.bool b)) (.bl b) := at_bl (K := K) (G := G)
theorem AtT.mkI {i : Int} : AtT K mg ρ H G (.d (.int i)) (.int i) := at_int (K := K) (G := G)
theorem AtT.mkS {i : Str} : AtT K mg ρ H G (.d (.str i)) (.str i) := at_str (K := K) (G := G)
theorem AtT.mkN : AtT K mg ρ H G (.d .none) .non := at_non (K := K) (G := G)
/-- top views -/
theorem AtT.list {x : Val} {xs : List PyData} {v : V} (h : AtT K mg ρ H (DL.vis F ρ sl σ H) x v) (e : x = .d (.list xs) ∨ x = .br (.list xs)) : ∃ a vs, v = .ref a ∧ H a = some (.lst vs) ∧ AtL K (DL.vis F ρ sl σ H) xs vs := by
  rcases e with rfl | rfl
  · obtain ⟨a, vs, e, q, l⟩ := at_list_iff.mp (show AtD K _ (.list xs) v from h)
    exact ⟨a, vs, e, vis_le _ _ q, l⟩
  · obtain ⟨a, e, _, vs, q, l⟩ := h
    exact ⟨a, vs, e, q, l⟩
end

/-! ### operations on two values -/
def Val.dat : Val → Option PyData
  | .d x => some x
  | .br x => some x
  | _ => none
def datsL : List Val → Option (List PyData)
  | [] => some []
  | .d x :: r => (datsL r).map (x :: ·)
  | _ :: _ => none
/-- a cell of data as what it holds -/
def Val.cv (cs : Cs) : Val → Val
  | .cel n => match cs[n]? with
    | some (.lst xs) => (match datsL xs with
      | some ds => .br (.list ds)
      | none => .cel n)
    | _ => .cel n
  | x => x
theorem datsL_at {mg : Str → Option Value} {K : PySem.W.Frag} {ρ : List Addr} {G : Hp} : ∀ {xs : List Val} {vs : List V} {ds : List PyData}, datsL xs = some ds → Paired (AtV K mg ρ G) xs vs → AtL K G ds vs
  | [], _, _, e, .nil => by cases e; exact AtL.nil
  | .d x :: r, _, ds, e, .cons q t => by
    simp only [datsL] at e
    cases er : datsL r with
    | none => rw [er] at e; cases e
    | some l =>
      rw [er] at e
      cases e
      exact AtL.cons q (datsL_at er t)
  | .br _ :: _, _, _, e, _ => by cases e
  | .lk _ :: _, _, _, e, _ => by cases e
  | .cel _ :: _, _, _, e, _ => by cases e
  | .fn _ :: _, _, _, e, _ => by cases e
theorem AtT.cv {K : PySem.W.Frag} {mg : Str → Option Value} {F : Fx} {ρ : List Addr} {sl : Sl} {cs : Cs} {σ : St} {H : Hp} {x : Val} {v : V} (rp : Rep K mg F ρ sl cs σ H) (h : AtT K mg ρ H (DL.vis F ρ sl σ H) x v) : AtW K mg ρ H (DL.vis F ρ sl σ H) (x.cv cs) v := by
  cases x with
  | cel n =>
    unfold Val.cv
    dsimp only
    split
    · rename_i xs en
      split
      · rename_i ds ed
        obtain ⟨p, ep, rfl⟩ : ∃ p, ρ[n]? = some p ∧ v = .ref p := h
        obtain ⟨vs, q, l⟩ := rp.cells.at_ n _ p en ep
        exact ⟨p, rfl, vs, q, datsL_at ed l⟩
      · exact h
    · exact h
  | _ => exact h.w
def op2 (g : PyData → PyData → Option PyData) (x y : Val) (cs : Cs) : R Val := match (x.cv cs).dat, (y.cv cs).dat with
  | some a, some b => R.of ((g a b).map Val.d) cs
  | _, _ => .bad
def eOp (g : PyData → PyData → Option PyData) (fa fb : SE) : SE := fun sl cs => (fa sl cs).bind fun x cs1 => (fb sl cs1).bind fun y cs2 => op2 g x y cs2
/-- a two-place operation by data -/
structure OpD (Γ : Cf) (f : Value → Value → Sem Value) (g : PyData → PyData → Option PyData) : Prop where
  ex : ∃ r : R2, (∀ X, Γ.Ok X → OpR X f r) ∧ ∀ W F ρ sl cs σ H Q x y a b u v, Rep Γ.K Γ.mg F ρ sl cs σ H → x.dat = some a → y.dat = some b → AtW Γ.K Γ.mg ρ H (vis F ρ sl σ H) x u → AtW Γ.K Γ.mg ρ H (vis F ρ sl σ H) y v →
    PostG Γ F ρ sl σ H W (relV Γ F sl σ) (R.of ((g a b).map Val.d) cs) Q → r u v H Q
section
variable {Γ : Cf} {pos : Pos} {a b c : Expr} {fa fb fc : SE}
theorem OpD.or {f : Value → Value → Sem Value} {g g' : PyData → PyData → Option PyData} (h : OpD Γ f g) (h' : OpD Γ f g') : OpD Γ f (fun x y => (g x y).or (g' x y)) := by
  obtain ⟨r, p, q⟩ := h.ex
  obtain ⟨r', p', q'⟩ := h'.ex
  refine ⟨fun x y H Q => r x y H Q ∨ r' x y H Q, fun X ok => OpR.or (p X ok) (p' X ok), fun W F ρ sl cs σ H Q x y a b u v rp e1 e2 h1 h2 hp => ?_⟩
  cases e : g a b with
  | some z => exact .inl (q W F ρ sl cs σ H Q x y a b u v rp e1 e2 h1 h2 (by rw [e] at hp ⊢; exact hp))
  | none => exact .inr (q' W F ρ sl cs σ H Q x y a b u v rp e1 e2 h1 h2 (by rw [e] at hp; exact hp))
theorem bin2 {ta tb : WX → TE} {r : R2} {g : PyData → PyData → Option PyData}
    (q1 : ∀ W F ρ sl cs σ H Q, Rep Γ.K Γ.mg F ρ sl cs σ H → PostG Γ F ρ sl σ H W (relV Γ F sl σ) (fa sl cs) Q → ta W σ H Q) (q2 : ∀ W F ρ sl cs σ H Q, Rep Γ.K Γ.mg F ρ sl cs σ H → PostG Γ F ρ sl σ H W (relV Γ F sl σ) (fb sl cs) Q → tb W σ H Q)
    (q3 : ∀ W F ρ sl cs σ H Q x y a b u v, Rep Γ.K Γ.mg F ρ sl cs σ H → x.dat = some a → y.dat = some b → AtW Γ.K Γ.mg ρ H (vis F ρ sl σ H) x u → AtW Γ.K Γ.mg ρ H (vis F ρ sl σ H) y v →
      PostG Γ F ρ sl σ H W (relV Γ F sl σ) (R.of ((g a b).map Val.d) cs) Q → r u v H Q) {W : WX} {F : Fx} {ρ : List Addr} {sl : Sl} {cs : Cs} {σ : St} {H : Hp} {Q : VK} (rp : Rep Γ.K Γ.mg F ρ sl cs σ H)
    (h : PostG Γ F ρ sl σ H W (relV Γ F sl σ) (eOp g fa fb sl cs) Q) : tOp r (ta W) (tb W) σ H Q := by
  refine q1 W F ρ sl cs σ H _ rp (PostG.mono (PostG.bind (rel := relV Γ F sl σ) h) fun u H1 ⟨x, cs1, ρ1, r1, g1, a1, h1⟩ => ?_)
  refine q2 W F ρ1 sl cs1 σ H1 _ r1 (PostG.mono (PostG.bind (rel := relV Γ F sl σ) h1) fun v H2 ⟨y, cs2, ρ2, r2, g2, a2, h2⟩ => ?_)
  have a1' := AtT.grow r1 g2 a1
  unfold op2 at h2
  cases e1 : (x.cv cs2).dat with
  | none => rw [e1] at h2; exact h2.elim
  | some d1 =>
    cases e2 : (y.cv cs2).dat with
    | none => rw [e1, e2] at h2; exact h2.elim
    | some d2 =>
      rw [e1, e2] at h2
      exact q3 W F ρ2 sl cs2 σ H2 Q (x.cv cs2) (y.cv cs2) d1 d2 u v r2 e1 e2 (AtT.cv r2 a1') (AtT.cv r2 a2) h2
theorem de_op {op : Operator} {g : PyData → PyData → Option PyData} (ho : OpD Γ (binaryOp op) g) (ha : DE Γ a fa) (hb : DE Γ b fb) : DE Γ (.BinOp a op b pos) (eOp g fa fb) := by
  obtain ⟨r, p, q⟩ := ho.ex
  obtain ⟨ta, p1, q1⟩ := ha.ex
  obtain ⟨tb, p2, q2⟩ := hb.ex
  exact ⟨fun W => tOp r (ta W) (tb W), fun X W ok gd => pe_op (p X ok) (p1 X W ok gd) (p2 X W ok gd), fun W F ρ sl cs σ H Q rp h => bin2 q1 q2 q rp h⟩
theorem de_cmp {op : CmpOp} {g : PyData → PyData → Option PyData} (ho : OpD Γ (compareOp op) g) (ha : DE Γ a fa) (hb : DE Γ b fb) (hm : behindInMarks op b = false := by first | exact nomark _ | with_unfolding_all rfl) : DE Γ (.Compare a [op] [b] pos) (eOp g fa fb) := by
  obtain ⟨r, p, q⟩ := ho.ex
  obtain ⟨ta, p1, q1⟩ := ha.ex
  obtain ⟨tb, p2, q2⟩ := hb.ex
  exact ⟨fun W => tOp r (ta W) (tb W), fun X W ok gd => pe_cmpR (p X ok) (p1 X W ok gd) (p2 X W ok gd) hm, fun W F ρ sl cs σ H Q rp h => bin2 q1 q2 q rp h⟩
/-- a bool's test -/
def asB (x : Val) (cs : Cs) : R Bool := match x with
  | .d (.bool b) => .ok b cs
  | _ => .bad
def tBool (f : SE) : ST := fun sl cs => (f sl cs).bind asB
theorem post_bool {F : Fx} {ρ : List Addr} {sl : Sl} {cs : Cs} {σ : St} {H : Hp} {W : WX} {Q : Bool → Hp → Prop} {f : SE} (h : PostG Γ F ρ sl σ H W relB (tBool f sl cs) Q) :
    PostG Γ F ρ sl σ H W (relV Γ F sl σ) (f sl cs) (fun x H' => ∃ k, x = .bl k ∧ Q k H') := by
  refine PostG.mono (PostG.bind (rel := relV Γ F sl σ) h) fun u H1 ⟨x, cs1, ρ1, r1, g1, a1, h1⟩ => ?_
  unfold asB at h1
  split at h1
  · rename_i k
    exact ⟨k, AtT.bl a1, h1 k H1 ρ1 r1 Grow.refl rfl⟩
  · exact h1.elim
theorem dt_cmp {op : CmpOp} {g : PyData → PyData → Option PyData} (ho : OpD Γ (compareOp op) g) (ha : DE Γ a fa) (hb : DE Γ b fb) (hm : behindInMarks op b = false := by first | exact nomark _ | with_unfolding_all rfl) : DT Γ (.Compare a [op] [b] pos) (tBool (eOp g fa fb)) := by
  obtain ⟨r, p, q⟩ := ho.ex
  obtain ⟨ta, p1, q1⟩ := ha.ex
  obtain ⟨tb, p2, q2⟩ := hb.ex
  exact ⟨fun W => tTest (tOp r (ta W) (tb W)), fun X W ok gd => pt_cmpR (p X ok) (p1 X W ok gd) (p2 X W ok gd) hm, fun W F ρ sl cs σ H Q rp h => bin2 q1 q2 q rp (post_bool h)⟩
/-- a op b op' c -/
def eChain (g g' : PyData → PyData → Option PyData) (fa fb fc : SE) : SE := fun sl cs => (fa sl cs).bind fun x cs1 => (fb sl cs1).bind fun y cs2 => (op2 g x y cs2).bind fun z cs3 => (asB z cs3).bind fun k cs4 =>
  if k = true then (fc sl cs4).bind fun w cs5 => op2 g' y w cs5 else .ok (.d (.bool false)) cs4
theorem chain2 {ta tb tc : WX → TE} {r r' : R2} {g g' : PyData → PyData → Option PyData}
    (q1 : ∀ W F ρ sl cs σ H Q, Rep Γ.K Γ.mg F ρ sl cs σ H → PostG Γ F ρ sl σ H W (relV Γ F sl σ) (fa sl cs) Q → ta W σ H Q) (q2 : ∀ W F ρ sl cs σ H Q, Rep Γ.K Γ.mg F ρ sl cs σ H → PostG Γ F ρ sl σ H W (relV Γ F sl σ) (fb sl cs) Q → tb W σ H Q)
    (q4 : ∀ W F ρ sl cs σ H Q, Rep Γ.K Γ.mg F ρ sl cs σ H → PostG Γ F ρ sl σ H W (relV Γ F sl σ) (fc sl cs) Q → tc W σ H Q)
    (q3 : ∀ W F ρ sl cs σ H Q x y a b u v, Rep Γ.K Γ.mg F ρ sl cs σ H → x.dat = some a → y.dat = some b → AtW Γ.K Γ.mg ρ H (vis F ρ sl σ H) x u → AtW Γ.K Γ.mg ρ H (vis F ρ sl σ H) y v →
      PostG Γ F ρ sl σ H W (relV Γ F sl σ) (R.of ((g a b).map Val.d) cs) Q → r u v H Q)
    (q5 : ∀ W F ρ sl cs σ H Q x y a b u v, Rep Γ.K Γ.mg F ρ sl cs σ H → x.dat = some a → y.dat = some b → AtW Γ.K Γ.mg ρ H (vis F ρ sl σ H) x u → AtW Γ.K Γ.mg ρ H (vis F ρ sl σ H) y v →
      PostG Γ F ρ sl σ H W (relV Γ F sl σ) (R.of ((g' a b).map Val.d) cs) Q → r' u v H Q) {W : WX} {F : Fx} {ρ : List Addr} {sl : Sl} {cs : Cs} {σ : St} {H : Hp} {Q : VK} (rp : Rep Γ.K Γ.mg F ρ sl cs σ H)
    (h : PostG Γ F ρ sl σ H W (relV Γ F sl σ) (eChain g g' fa fb fc sl cs) Q) : tChain r r' (ta W) (tb W) (tc W) σ H Q := by
  refine q1 W F ρ sl cs σ H _ rp (PostG.mono (PostG.bind (rel := relV Γ F sl σ) h) fun u H1 ⟨x, cs1, ρ1, r1, g1, a1, h1⟩ => ?_)
  refine q2 W F ρ1 sl cs1 σ H1 _ r1 (PostG.mono (PostG.bind (rel := relV Γ F sl σ) h1) fun v H2 ⟨y, cs2, ρ2, r2, g2, a2, h2⟩ => ?_)
  have a1' := AtT.grow r1 g2 a1
  unfold op2 at h2
  cases e1 : (x.cv cs2).dat with
  | none => rw [e1] at h2; exact h2.elim
  | some d1 =>
    cases e2 : (y.cv cs2).dat with
    | none => rw [e1, e2] at h2; exact h2.elim
    | some d2 =>
      rw [e1, e2] at h2
      refine q3 W F ρ2 sl cs2 σ H2 _ (x.cv cs2) (y.cv cs2) d1 d2 u v r2 e1 e2 (AtT.cv r2 a1') (AtT.cv r2 a2) (PostG.mono (PostG.bind (rel := relV Γ F sl σ) h2) fun w H3 ⟨z, cs3, ρ3, r3, g3, a3, h3⟩ => ?_)
      have a2' := AtT.grow r2 g3 a2
      unfold asB at h3
      split at h3
      · rename_i k
        refine ⟨k, AtT.bl a3, ?_⟩
        rw [R.bind_ok] at h3
        cases k with
        | false =>
          rw [if_neg (by decide)] at h3 ⊢
          exact h3 _ H3 ρ3 r3 Grow.refl AtT.mkB
        | true =>
          rw [if_pos rfl] at h3 ⊢
          refine q4 W F ρ3 sl cs3 σ H3 _ r3 (PostG.mono (PostG.bind (rel := relV Γ F sl σ) h3) fun w' H4 ⟨z4, cs4, ρ4, r4, g4, a4, h4⟩ => ?_)
          have a2'' := AtT.grow r3 g4 a2'
          cases e5 : (y.cv cs4).dat with
          | none => rw [e5] at h4; exact h4.elim
          | some d5 =>
            cases e4 : (z4.cv cs4).dat with
            | none => rw [e5, e4] at h4; exact h4.elim
            | some d4 =>
              rw [e5, e4] at h4
              exact q5 W F ρ4 sl cs4 σ H4 Q (y.cv cs4) (z4.cv cs4) d5 d4 v w' r4 e5 e4 (AtT.cv r4 a2'') (AtT.cv r4 a4) h4
      · exact h3.elim
theorem de_chain {op op' : CmpOp} {g g' : PyData → PyData → Option PyData} (ho : OpD Γ (compareOp op) g) (ho' : OpD Γ (compareOp op') g') (ha : DE Γ a fa) (hb : DE Γ b fb) (hc : DE Γ c fc)
    (hm : lastMarks [op, op'] [b, c] = false := by with_unfolding_all rfl) : DE Γ (.Compare a [op, op'] [b, c] pos) (eChain g g' fa fb fc) := by
  obtain ⟨r, p, q⟩ := ho.ex
  obtain ⟨r', p', q'⟩ := ho'.ex
  obtain ⟨ta, p1, q1⟩ := ha.ex
  obtain ⟨tb, p2, q2⟩ := hb.ex
  obtain ⟨tc, p3, q3⟩ := hc.ex
  exact ⟨fun W => tChain r r' (ta W) (tb W) (tc W), fun X W ok gd => pe_chain (p X ok) (p' X ok) (p1 X W ok gd) (p2 X W ok gd) (p3 X W ok gd) hm, fun W F ρ sl cs σ H Q rp h => chain2 q1 q2 q3 q q' rp h⟩
theorem dt_chain {op op' : CmpOp} {g g' : PyData → PyData → Option PyData} (ho : OpD Γ (compareOp op) g) (ho' : OpD Γ (compareOp op') g') (ha : DE Γ a fa) (hb : DE Γ b fb) (hc : DE Γ c fc)
    (hm : lastMarks [op, op'] [b, c] = false := by with_unfolding_all rfl) : DT Γ (.Compare a [op, op'] [b, c] pos) (tBool (eChain g g' fa fb fc)) := by
  obtain ⟨r, p, q⟩ := ho.ex
  obtain ⟨r', p', q'⟩ := ho'.ex
  obtain ⟨ta, p1, q1⟩ := ha.ex
  obtain ⟨tb, p2, q2⟩ := hb.ex
  obtain ⟨tc, p3, q3⟩ := hc.ex
  exact ⟨fun W => tTest (tChain r r' (ta W) (tb W) (tc W)), fun X W ok gd => pt_chain (p X ok) (p' X ok) (p1 X W ok gd) (p2 X W ok gd) (p3 X W ok gd) hm, fun W F ρ sl cs σ H Q rp h => chain2 q1 q2 q3 q q' rp (post_bool h)⟩

/-! ### truth -/
def truV : Val → Cs → Option Bool
  | .d .none, _ => some false
  | .d (.bool b), _ => some b
  | .d (.int i), _ => some (i != 0)
  | .d (.str y), _ => if y.length ≤ 16777216 then some ((y.length : Int) != 0) else none
  | .d (.list xs), _ => some (!xs.isEmpty)
  | .d (.tuple xs), _ => some (!xs.isEmpty)
  | .br (.list xs), _ => some (!xs.isEmpty)
  | _, _ => none
theorem AtL.isEmpty {K : PySem.W.Frag} {G : Hp} {xs : List PyData} {vs : List V} (h : AtL K G xs vs) : (!xs.isEmpty) = !vs.isEmpty := by
  have := h.length
  cases xs <;> cases vs <;> simp_all
theorem tru_of {F : Fx} {ρ : List Addr} {sl : Sl} {cs : Cs} {σ : St} {H : Hp} {x : Val} {u : V} {k : Bool} (h : AtT Γ.K Γ.mg ρ H (vis F ρ sl σ H) x u) (e : truV x cs = some k) : TruV Γ.K u H k := by
  unfold truV at e
  split at e
  · cases e
    rw [AtT.non h]
    rfl
  · cases e
    rename_i b
    rw [AtT.bl h]
    rfl
  · cases e
    rename_i i
    rw [AtT.int h]
    rfl
  · rename_i y
    split at e
    · rename_i hl
      cases e
      rw [AtT.str h]
      exact ⟨by rw [sizeLine_eq]; exact hl, rfl⟩
    · cases e
  · cases e
    rename_i xs
    obtain ⟨a, vs, rfl, q, l⟩ := AtT.list h (.inl rfl)
    exact .inl ⟨vs, SqL.of q, l.isEmpty⟩
  · cases e
    rename_i xs
    obtain ⟨a, vs, rfl, q, l⟩ := AtT.tup h
    exact .inr (.inl ⟨vs, sqT_sub vis_le q, l.isEmpty⟩)
  · cases e
    rename_i xs
    obtain ⟨a, vs, rfl, q, l⟩ := AtT.list h (.inr rfl)
    exact .inl ⟨vs, SqL.of q, l.isEmpty⟩
  · cases e
def tTru (f : SE) : ST := fun sl cs => (f sl cs).bind fun x cs1 => R.of (truV x cs1) cs1
theorem dt_truth {e : Expr} {f : SE} (he : DE Γ e f) (hi : ∀ env whole, isTrue e env whole = (do let v ← whole; standAt e.pos; holding [v] (truthy v)) := by intro _ _; rfl) : DT Γ e (tTru f) := by
  obtain ⟨t, p, q⟩ := he.ex
  refine ⟨fun W σ H Q => t W σ H fun x H' => ∃ k, TruV Γ.K x H' k ∧ Q k H', fun X W ok gd => ?_, fun W F ρ sl cs σ H Q rp h => ?_⟩
  · rw [← ok.K]
    exact pt_truth (p X W ok gd) (hi _)
  · refine q W F ρ sl cs σ H _ rp (PostG.mono (PostG.bind (rel := relV Γ F sl σ) h) fun u H1 ⟨x, cs1, ρ1, r1, g1, a1, h1⟩ => ?_)
    cases e : truV x cs1 with
    | none => rw [e] at h1; exact h1.elim
    | some k =>
      rw [e] at h1
      exact ⟨k, tru_of a1 e, h1 k H1 ρ1 r1 Grow.refl rfl⟩
/-- and, or, not as tests -/
structure DW (Γ : Cf) (e : Expr) (f : ST) : Prop where
  ex : ∃ t : WX → TT, (∀ X W, Γ.Ok X → Good X W → PW X e (t W)) ∧ ∀ W F ρ sl cs σ H Q, Rep Γ.K Γ.mg F ρ sl cs σ H → PostG Γ F ρ sl σ H W relB (f sl cs) Q → t W σ H Q
theorem DW.dt {e : Expr} {f : ST} (h : DW Γ e f) : DT Γ e f := by
  obtain ⟨t, p, q⟩ := h.ex
  exact ⟨t, fun X W ok gd => (p X W ok gd).pt, q⟩
def tAndD (f g : ST) : ST := fun sl cs => (f sl cs).bind fun k cs1 => if k = true then g sl cs1 else .ok false cs1
def tOrD (f g : ST) : ST := fun sl cs => (f sl cs).bind fun k cs1 => if k = true then .ok true cs1 else g sl cs1
def tNotD (f : ST) : ST := fun sl cs => (f sl cs).bind fun k cs1 => .ok (!k) cs1
variable {f g : ST} {rest : List Expr}
theorem dw_and1 (h : DT Γ a f) : DW Γ (.BoolOp .And [a] pos) f := by
  obtain ⟨t, p, q⟩ := h.ex
  exact ⟨t, fun X W ok gd => pw_and1 (p X W ok gd), q⟩
theorem dw_or1 (h : DT Γ a f) : DW Γ (.BoolOp .Or [a] pos) f := by
  obtain ⟨t, p, q⟩ := h.ex
  exact ⟨t, fun X W ok gd => pw_or1 (p X W ok gd), q⟩
theorem dw_and (h1 : DT Γ a f) (h2 : DW Γ (.BoolOp .And (b :: rest) pos) g) : DW Γ (.BoolOp .And (a :: b :: rest) pos) (tAndD f g) := by
  obtain ⟨t, p, q⟩ := h1.ex
  obtain ⟨u, p2, q2⟩ := h2.ex
  refine ⟨fun W => tAnd (t W) (u W), fun X W ok gd => pw_and (p X W ok gd) (p2 X W ok gd), fun W F ρ sl cs σ H Q rp h => ?_⟩
  refine q W F ρ sl cs σ H _ rp (PostG.mono (PostG.bind (rel := relB) h) fun k H1 ⟨x, cs1, ρ1, r1, g1, a1, h1⟩ => ?_)
  have e : x = k := a1
  subst e
  cases x with
  | true => rw [if_pos rfl] at h1 ⊢; exact q2 W F ρ1 sl cs1 σ H1 Q r1 h1
  | false => rw [if_neg (by decide)] at h1 ⊢; exact h1 _ H1 ρ1 r1 Grow.refl rfl
theorem dw_or (h1 : DT Γ a f) (h2 : DW Γ (.BoolOp .Or (b :: rest) pos) g) : DW Γ (.BoolOp .Or (a :: b :: rest) pos) (tOrD f g) := by
  obtain ⟨t, p, q⟩ := h1.ex
  obtain ⟨u, p2, q2⟩ := h2.ex
  refine ⟨fun W => tOr (t W) (u W), fun X W ok gd => pw_or (p X W ok gd) (p2 X W ok gd), fun W F ρ sl cs σ H Q rp h => ?_⟩
  refine q W F ρ sl cs σ H _ rp (PostG.mono (PostG.bind (rel := relB) h) fun k H1 ⟨x, cs1, ρ1, r1, g1, a1, h1⟩ => ?_)
  have e : x = k := a1
  subst e
  cases x with
  | false => rw [if_neg (by decide)] at h1 ⊢; exact q2 W F ρ1 sl cs1 σ H1 Q r1 h1
  | true => rw [if_pos rfl] at h1 ⊢; exact h1 _ H1 ρ1 r1 Grow.refl rfl
theorem dt_not (h1 : DT Γ a f) : DT Γ (.UnaryOp .Not a pos) (tNotD f) := by
  obtain ⟨t, p, q⟩ := h1.ex
  refine ⟨fun W => tNot (t W), fun X W ok gd => pt_not (p X W ok gd), fun W F ρ sl cs σ H Q rp h => ?_⟩
  refine q W F ρ sl cs σ H _ rp (PostG.mono (PostG.bind (rel := relB) h) fun k H1 ⟨x, cs1, ρ1, r1, g1, a1, h1⟩ => ?_)
  have e : x = k := a1
  subst e
  exact h1 _ H1 ρ1 r1 Grow.refl rfl
/-- as values -/
def eAnd (f g : SE) : SE := fun sl cs => (f sl cs).bind fun x cs1 => (R.of (truV x cs1) cs1).bind fun k cs2 => if k = true then g sl cs2 else .ok x cs2
def eOr (f g : SE) : SE := fun sl cs => (f sl cs).bind fun x cs1 => (R.of (truV x cs1) cs1).bind fun k cs2 => if k = true then .ok x cs2 else g sl cs2
def eNot (f : SE) : SE := fun sl cs => (f sl cs).bind fun x cs1 => (R.of (truV x cs1) cs1).bind fun k cs2 => .ok (.d (.bool (!k))) cs2
theorem de_one {op} (h : DE Γ a fa) : DE Γ (.BoolOp op [a] pos) fa := by
  obtain ⟨t, p, q⟩ := h.ex
  exact ⟨t, fun X W ok gd => pe_one (p X W ok gd), q⟩
theorem de_and (h1 : DE Γ a fa) (h2 : DE Γ (.BoolOp .And (b :: rest) pos) fb) : DE Γ (.BoolOp .And (a :: b :: rest) pos) (eAnd fa fb) := by
  obtain ⟨t, p, q⟩ := h1.ex
  obtain ⟨u, p2, q2⟩ := h2.ex
  refine ⟨fun W => tAndT Γ.K (t W) (u W), fun X W ok gd => by rw [← ok.K]; exact pe_andT (p X W ok gd) (p2 X W ok gd), fun W F ρ sl cs σ H Q rp h => ?_⟩
  refine q W F ρ sl cs σ H _ rp (PostG.mono (PostG.bind (rel := relV Γ F sl σ) h) fun v H1 ⟨x, cs1, ρ1, r1, g1, a1, h1⟩ => ?_)
  cases e : truV x cs1 with
  | none => rw [e] at h1; exact h1.elim
  | some k =>
    rw [e] at h1
    refine ⟨k, tru_of a1 e, ?_⟩
    rw [R.of_some, R.bind_ok] at h1
    cases k with
    | true => rw [if_pos rfl] at h1 ⊢; exact q2 W F ρ1 sl cs1 σ H1 Q r1 h1
    | false => rw [if_neg (by decide)] at h1 ⊢; exact h1 _ H1 ρ1 r1 Grow.refl a1
theorem de_or (h1 : DE Γ a fa) (h2 : DE Γ (.BoolOp .Or (b :: rest) pos) fb) : DE Γ (.BoolOp .Or (a :: b :: rest) pos) (eOr fa fb) := by
  obtain ⟨t, p, q⟩ := h1.ex
  obtain ⟨u, p2, q2⟩ := h2.ex
  refine ⟨fun W => tOrT Γ.K (t W) (u W), fun X W ok gd => by rw [← ok.K]; exact pe_orT (p X W ok gd) (p2 X W ok gd), fun W F ρ sl cs σ H Q rp h => ?_⟩
  refine q W F ρ sl cs σ H _ rp (PostG.mono (PostG.bind (rel := relV Γ F sl σ) h) fun v H1 ⟨x, cs1, ρ1, r1, g1, a1, h1⟩ => ?_)
  cases e : truV x cs1 with
  | none => rw [e] at h1; exact h1.elim
  | some k =>
    rw [e] at h1
    refine ⟨k, tru_of a1 e, ?_⟩
    rw [R.of_some, R.bind_ok] at h1
    cases k with
    | false => rw [if_neg (by decide)] at h1 ⊢; exact q2 W F ρ1 sl cs1 σ H1 Q r1 h1
    | true => rw [if_pos rfl] at h1 ⊢; exact h1 _ H1 ρ1 r1 Grow.refl a1
theorem de_not (h1 : DE Γ a fa) : DE Γ (.UnaryOp .Not a pos) (eNot fa) := by
  obtain ⟨t, p, q⟩ := h1.ex
  refine ⟨fun W => tNotT Γ.K (t W), fun X W ok gd => by rw [← ok.K]; exact pe_notT (p X W ok gd), fun W F ρ sl cs σ H Q rp h => ?_⟩
  refine q W F ρ sl cs σ H _ rp (PostG.mono (PostG.bind (rel := relV Γ F sl σ) h) fun v H1 ⟨x, cs1, ρ1, r1, g1, a1, h1⟩ => ?_)
  cases e : truV x cs1 with
  | none => rw [e] at h1; exact h1.elim
  | some k =>
    rw [e] at h1
    exact ⟨k, tru_of a1 e, h1 _ H1 ρ1 r1 Grow.refl AtT.mkB⟩
/-- a if t else b -/
def eIf (t : ST) (f g : SE) : SE := fun sl cs => (t sl cs).bind fun k cs1 => if k = true then f sl cs1 else g sl cs1
theorem de_if {tt : ST} (hc : DT Γ c tt) (ha : DE Γ a fa) (hb : DE Γ b fb) : DE Γ (.IfExp c a b pos) (eIf tt fa fb) := by
  obtain ⟨t, p, q⟩ := hc.ex
  obtain ⟨u1, p1, q1⟩ := ha.ex
  obtain ⟨u2, p2, q2⟩ := hb.ex
  refine ⟨fun W => tIf (t W) (u1 W) (u2 W), fun X W ok gd => pe_ifExp (p X W ok gd) (p1 X W ok gd) (p2 X W ok gd), fun W F ρ sl cs σ H Q rp h => ?_⟩
  refine q W F ρ sl cs σ H _ rp (PostG.mono (PostG.bind (rel := relB) h) fun k H1 ⟨x, cs1, ρ1, r1, g1, a1, h1⟩ => ?_)
  have e : x = k := a1
  subst e
  cases x with
  | true => rw [if_pos rfl] at h1 ⊢; exact q1 W F ρ1 sl cs1 σ H1 Q r1 h1
  | false => rw [if_neg (by decide)] at h1 ⊢; exact q2 W F ρ1 sl cs1 σ H1 Q r1 h1
end
end DL
end
section
set_option Elab.async false
set_option linter.all false
set_option maxRecDepth 100000
set_option autoImplicit false
namespace DL
open PySem PySem.Spec PyProof.Rows L2

/-! ### rules of operations -/
def gI (c : Int → Int → Bool) (g : Int → Int → PyData) (x y : PyData) : Option PyData := match x, y with
  | .int i, .int j => if c i j = true then some (g i j) else none
  | _, _ => none
section
variable {Γ : Cf}
theorem dat_int {x : Val} {i : Int} (h : x.dat = some (.int i)) {K : PySem.W.Frag} {mg : Str → Option Value} {ρ : List Addr} {H G : Hp} {v : V} (a : AtW K mg ρ H G x v) : v = .int i := by
  cases x with
  | d x => cases h; exact AtT.int (H := H) a
  | br x => cases h; obtain ⟨_, _, z⟩ := a; exact z.elim
  | _ => cases h
theorem dat_str {x : Val} {i : Str} (h : x.dat = some (.str i)) {K : PySem.W.Frag} {mg : Str → Option Value} {ρ : List Addr} {H G : Hp} {v : V} (a : AtW K mg ρ H G x v) : v = .str i := by
  cases x with
  | d x => cases h; exact AtT.str (H := H) a
  | br x => cases h; obtain ⟨_, _, z⟩ := a; exact z.elim
  | _ => cases h
theorem dat_bl {x : Val} {i : Bool} (h : x.dat = some (.bool i)) {K : PySem.W.Frag} {mg : Str → Option Value} {ρ : List Addr} {H G : Hp} {v : V} (a : AtW K mg ρ H G x v) : v = .bl i := by
  cases x with
  | d x => cases h; exact AtT.bl (H := H) a
  | br x => cases h; obtain ⟨_, _, z⟩ := a; exact z.elim
  | _ => cases h
theorem dat_non {x : Val} (h : x.dat = some .none) {K : PySem.W.Frag} {mg : Str → Option Value} {ρ : List Addr} {H G : Hp} {v : V} (a : AtW K mg ρ H G x v) : v = .non := by
  cases x with
  | d x => cases h; exact AtT.non (H := H) a
  | br x => cases h; obtain ⟨_, _, z⟩ := a; exact z.elim
  | _ => cases h
theorem dat_tup {x : Val} {xs : List PyData} (h : x.dat = some (.tuple xs)) {K : PySem.W.Frag} {mg : Str → Option Value} {ρ : List Addr} {H G : Hp} {v : V} (a : AtW K mg ρ H G x v) : ∃ a vs, v = .ref a ∧ SqT K G a vs ∧ AtL K G xs vs := by
  cases x with
  | d x => cases h; exact AtT.tup (H := H) a
  | br x => cases h; obtain ⟨_, _, z⟩ := a; exact z.elim
  | _ => cases h
theorem dat_list {x : Val} {xs : List PyData} (h : x.dat = some (.list xs)) {K : PySem.W.Frag} {mg : Str → Option Value} {F : Fx} {ρ : List Addr} {sl : Sl} {σ : St} {H : Hp} {v : V} (a : AtW K mg ρ H (vis F ρ sl σ H) x v) :
    ∃ a vs, v = .ref a ∧ H a = some (.lst vs) ∧ AtL K (vis F ρ sl σ H) xs vs := by
  cases x with
  | d x => cases h; exact AtT.list (x := .d (.list xs)) (mg := mg) (ρ := ρ) a (.inl rfl)
  | br x =>
    cases h
    obtain ⟨p, e, vs, q, l⟩ := a
    exact ⟨p, vs, e, q, l⟩
  | _ => cases h
theorem dat_dp {x : Val} {d : PyData} (h : x.dat = some d) (c : d.canLay0 = true) {K : PySem.W.Frag} {mg : Str → Option Value} {F : Fx} {ρ : List Addr} {sl : Sl} {σ : St} {H : Hp} {v : V} (a : AtW K mg ρ H (vis F ρ sl σ H) x v) : Dp K H v d := by
  cases x with
  | d x => cases h; exact AtD.dp vis_le d v c a
  | br x =>
    cases h
    obtain ⟨p, rfl, q⟩ := a
    cases d with
    | list xs =>
      obtain ⟨vs, e, l⟩ := q
      simp only [PyData.canLay0] at c
      exact .lst (SqL.of e) (AtL.dp vis_le xs vs c l)
    | dict kvs => simp [PyData.canLay0] at c
    | _ => exact q.elim
  | _ => cases h
/-- ints to an int or a bool -/
theorem opD_int {f : Value → Value → Sem Value} {C : Int → Int → Prop} {c : Int → Int → Bool} {g : Int → Int → V} {gd : Int → Int → PyData} (h : ∀ X : Cx, OpR X f (rI C g)) (hc : ∀ i j, c i j = true → C i j) (hg : ∀ K G i j, AtD K G (gd i j) (g i j)) : OpD Γ f (gI c gd) := by
  refine ⟨rI C g, fun X _ => h X, fun W F ρ sl cs σ H Q x y a b u v rp e1 e2 h1 h2 hp => ?_⟩
  unfold gI at hp
  split at hp
  · rename_i i j
    split at hp
    · rename_i hcc
      exact ⟨i, j, dat_int e1 h1, dat_int e2 h2, hc _ _ hcc, hp _ H ρ rp Grow.refl (AtT.mk (hg _ _ _ _))⟩
    · exact hp.elim
  · exact hp.elim
theorem opR_of0 {X : Cx} {f : Value → Value → Sem Value} {g : Int → Int → V} (h : OpR X f (rI0 g)) : OpR X f (rI (fun _ _ => True) g) := by
  intro pins s σ H x y v u Q I rx ry q
  obtain ⟨i, j, e1, e2, _, q⟩ := q
  exact h pins s σ H x y v u Q I rx ry ⟨i, j, e1, e2, q⟩
abbrev cT : Int → Int → Bool := fun _ _ => true
theorem od_addI : OpD Γ (binaryOp .Add) (gI cT fun i j => .int (i + j)) := opD_int (fun X => opR_of0 op_add) (fun _ _ _ => trivial) fun _ _ _ _ => at_int
theorem od_subI : OpD Γ (binaryOp .Sub) (gI cT fun i j => .int (i - j)) := opD_int (fun X => opR_of0 op_sub) (fun _ _ _ => trivial) fun _ _ _ _ => at_int
def cMul (i j : Int) : Bool := decide (i.natAbs.log2 + j.natAbs.log2 < 1000000)
def cDiv (_ j : Int) : Bool := decide (0 < j) && decide (j.natAbs.log2 < 9000)
def cMod (_ j : Int) : Bool := decide (0 < j)
def cPow (i j : Int) : Bool := decide (0 ≤ j) && decide (j ≤ 1000000) && decide (i.natAbs < 2 ^ 64)
theorem od_mulI : OpD Γ (binaryOp .Mult) (gI cMul fun i j => .int (i * j)) := opD_int (fun X => op_mulW) (fun i j h => by unfold cMul at h; have h := of_decide_eq_true h; exact h) fun _ _ _ _ => at_int
theorem od_divI : OpD Γ (binaryOp .FloorDiv) (gI cDiv fun i j => .int (i / j)) := opD_int (fun X => op_fdivW) (fun i j h => by
  unfold cDiv at h
  simp only [Bool.and_eq_true, decide_eq_true_eq] at h
  exact ⟨h.1, h.2⟩) fun _ _ _ _ => at_int
theorem od_modI : OpD Γ (binaryOp .Mod) (gI cMod fun i j => .int (i % j)) := opD_int (fun X => op_mod) (fun i j h => by unfold cMod at h; exact of_decide_eq_true h) fun _ _ _ _ => at_int
theorem od_powI : OpD Γ (binaryOp .Pow) (gI cPow fun i j => .int (i ^ j.toNat)) := opD_int (fun X => op_pow) (fun i j h => by
  unfold cPow at h
  simp only [Bool.and_eq_true, decide_eq_true_eq] at h
  exact ⟨h.1.1, h.1.2, h.2⟩) fun _ _ _ _ => at_int
theorem od_ltI : OpD Γ (compareOp .Lt) (gI cT fun i j => .bool (decide (i < j))) := opD_int (fun X => opR_of0 op_lt) (fun _ _ _ => trivial) fun _ _ _ _ => at_bl
theorem od_leI : OpD Γ (compareOp .LtE) (gI cT fun i j => .bool (decide (i ≤ j))) := opD_int (fun X => opR_of0 op_le) (fun _ _ _ => trivial) fun _ _ _ _ => at_bl
theorem od_gtI : OpD Γ (compareOp .Gt) (gI cT fun i j => .bool (decide (j < i))) := opD_int (fun X => opR_of0 op_gt) (fun _ _ _ => trivial) fun _ _ _ _ => at_bl
theorem od_geI : OpD Γ (compareOp .GtE) (gI cT fun i j => .bool (decide (j ≤ i))) := opD_int (fun X => opR_of0 op_ge) (fun _ _ _ => trivial) fun _ _ _ _ => at_bl
def gAddS (x y : PyData) : Option PyData := match x, y with
  | .str i, .str j => if i.length + j.length ≤ 16777216 then some (.str (i ++ j)) else none
  | _, _ => none
theorem od_addS : OpD Γ (binaryOp .Add) gAddS := by
  refine ⟨_, fun X _ => op_add_str, fun W F ρ sl cs σ H Q x y a b u v rp e1 e2 h1 h2 hp => ?_⟩
  unfold gAddS at hp
  split at hp
  · rename_i i j
    split at hp
    · rename_i hcc
      exact ⟨i, j, dat_str e1 h1, dat_str e2 h2, by rw [sizeLine_eq]; exact hcc, hp _ H ρ rp Grow.refl AtT.mkS⟩
    · exact hp.elim
  · exact hp.elim
def gAddL (x y : PyData) : Option PyData := match x, y with
  | .list i, .list j => if i.length + j.length ≤ 16777216 then some (.list (i ++ j)) else none
  | _, _ => none
theorem od_addL : OpD Γ (binaryOp .Add) gAddL := by
  refine ⟨_, fun X _ => op_cat, fun W F ρ sl cs σ H Q x y a b u v rp e1 e2 h1 h2 hp => ?_⟩
  unfold gAddL at hp
  split at hp
  · rename_i i j
    split at hp
    · rename_i hcc
      obtain ⟨p, us, rfl, q1, l1⟩ := dat_list e1 h1
      obtain ⟨p2, us2, rfl, q2, l2⟩ := dat_list e2 h2
      refine ⟨p, p2, us, us2, rfl, rfl, q1, q2, by rw [sizeLine_eq, ← l1.length, ← l2.length]; exact hcc, fun t ht => ?_⟩
      obtain ⟨rp', hv⟩ := rp.alloc ht (.lst (us ++ us2))
      exact hp _ _ ρ rp' (Grow.upd ht) (AtT.mk (at_list_iff.mpr ⟨t, _, rfl, hv, AtL.mono ((Grow.upd ht).vis rp) _ _ (l1.append l2)⟩))
    · exact hp.elim
  · exact hp.elim
def gAddT (x y : PyData) : Option PyData := match x, y with
  | .tuple i, .tuple j => if i.length + j.length ≤ 16777216 then some (.tuple (i ++ j)) else none
  | _, _ => none
theorem od_addT : OpD Γ (binaryOp .Add) gAddT := by
  refine ⟨rCatA Γ.K, fun X ok => by rw [← ok.K]; exact op_catA, fun W F ρ sl cs σ H Q x y a b u v rp e1 e2 h1 h2 hp => ?_⟩
  unfold gAddT at hp
  split at hp
  · rename_i i j
    split at hp
    · rename_i hcc
      obtain ⟨p, us, rfl, q1, l1⟩ := dat_tup e1 h1
      obtain ⟨p2, us2, rfl, q2, l2⟩ := dat_tup e2 h2
      refine ⟨p, p2, us, us2, rfl, rfl, sqT_sub vis_le q1, sqT_sub vis_le q2, by rw [sizeLine_eq, ← l1.length, ← l2.length]; exact hcc, fun z => ?_, fun _ z => ?_, fun _ _ t ht => ?_⟩
      · have : i = [] := List.length_eq_zero_iff.mp (by rw [l1.length, z]; rfl)
        subst this
        exact hp _ H ρ rp Grow.refl (AtT.mk (at_tup_iff.mpr ⟨p2, us2, rfl, q2, by simpa using l2⟩))
      · have : j = [] := List.length_eq_zero_iff.mp (by rw [l2.length, z]; rfl)
        subst this
        exact hp _ H ρ rp Grow.refl (AtT.mk (at_tup_iff.mpr ⟨p, us, rfl, q1, by simpa using l1⟩))
      · obtain ⟨rp', hv⟩ := rp.alloc ht (.tup (us ++ us2))
        exact hp _ _ ρ rp' (Grow.upd ht) (AtT.mk (at_tup_iff.mpr ⟨t, _, rfl, SqT.of hv, AtL.mono ((Grow.upd ht).vis rp) _ _ (l1.append l2)⟩))
    · exact hp.elim
  · exact hp.elim
/-- [..] * n -/
def gRepL (x y : PyData) : Option PyData := match x, y with
  | .list i, .int n => if -(2 ^ 63) ≤ n ∧ n < 2 ^ 63 ∧ i.length * n.toNat ≤ 16777216 then some (.list (List.replicate n.toNat i).flatten) else none
  | _, _ => none
theorem AtL.rep {K : PySem.W.Frag} {G : Hp} {xs : List PyData} {vs : List V} (h : AtL K G xs vs) : ∀ n : Nat, AtL K G (List.replicate n xs).flatten (List.replicate n vs).flatten
  | 0 => AtL.nil
  | n + 1 => by
    rw [List.replicate_succ, List.replicate_succ, List.flatten_cons, List.flatten_cons]
    exact h.append (AtL.rep h n)
theorem od_repL : OpD Γ (binaryOp .Mult) gRepL := by
  refine ⟨_, fun X _ => op_rep, fun W F ρ sl cs σ H Q x y a b u v rp e1 e2 h1 h2 hp => ?_⟩
  unfold gRepL at hp
  split at hp
  · rename_i i n
    split at hp
    · rename_i hcc
      obtain ⟨p, us, rfl, q1, l1⟩ := dat_list e1 h1
      refine ⟨p, n, us, rfl, dat_int e2 h2, q1, hcc.1, hcc.2.1, by rw [sizeLine_eq, ← l1.length]; exact hcc.2.2, fun t ht => ?_⟩
      obtain ⟨rp', hv⟩ := rp.alloc ht (.lst (List.replicate n.toNat us).flatten)
      exact hp _ _ ρ rp' (Grow.upd ht) (AtT.mk (at_list_iff.mpr ⟨t, _, rfl, hv, AtL.mono ((Grow.upd ht).vis rp) _ _ (l1.rep n.toNat)⟩))
    · exact hp.elim
  · exact hp.elim
def addD (x y : PyData) : Option PyData := (gI cT (fun i j => .int (i + j)) x y).or ((gAddS x y).or ((gAddT x y).or (gAddL x y)))
theorem od_add : OpD Γ (binaryOp .Add) addD := od_addI.or (od_addS.or (od_addT.or od_addL))
def mulD (x y : PyData) : Option PyData := (gI cMul (fun i j => .int (i * j)) x y).or (gRepL x y)
theorem od_mul : OpD Γ (binaryOp .Mult) mulD := od_mulI.or od_repL

/-! ### == and in by data -/
def eqOk (x y : PyData) : Bool := x.canLay0 && y.canLay0 && decide (min x.depth y.depth ≤ 150)
def eqD (x y : PyData) : Option PyData := if eqOk x y = true then some (.bool (PyData.eqv x y)) else none
def neD (x y : PyData) : Option PyData := if eqOk x y = true then some (.bool (!PyData.eqv x y)) else none
def rEqX (K : PySem.W.Frag) (neg : Bool) : R2 := fun x y H Q => ∃ d e, Dp K H x d ∧ Dp K H y e ∧ eqOk d e = true ∧ Q (.bl (if neg then !PyData.eqv d e else PyData.eqv d e)) H
theorem eqOk_of {d e : PyData} (h : eqOk d e = true) : d.canLay0 = true ∧ e.canLay0 = true ∧ min d.depth e.depth ≤ 150 := by
  unfold eqOk at h
  simp only [Bool.and_eq_true, decide_eq_true_eq] at h
  exact ⟨h.1.1, h.1.2, h.2⟩
theorem op_eqX {X : Cx} (hu : X.A.units + 151 < cLine) : OpR X (compareOp .Eq) (rEqX X.K false) := by
  intro pins s σ H x y v u Q I rx ry h
  obtain ⟨d, e, hd, he, ok, q⟩ := h
  obtain ⟨c1, c2, c3⟩ := eqOk_of ok
  obtain ⟨as, r1⟩ := Dp.reads I d x v hd rx
  obtain ⟨bs, r2⟩ := Dp.reads I e y u he ry
  exact SeqAt.compareEq_reads r1 r2 c1 c2 (by omega) ⟨.bl _, H, I, rfl, q⟩
theorem op_neX {X : Cx} (hu : X.A.units + 151 < cLine) : OpR X (compareOp .NotEq) (rEqX X.K true) := by
  intro pins s σ H x y v u Q I rx ry h
  obtain ⟨d, e, hd, he, ok, q⟩ := h
  obtain ⟨c1, c2, c3⟩ := eqOk_of ok
  obtain ⟨as, r1⟩ := Dp.reads I d x v hd rx
  obtain ⟨bs, r2⟩ := Dp.reads I e y u he ry
  exact SeqAt.compareNe_reads r1 r2 c1 c2 (by omega) ⟨.bl _, H, I, rfl, q⟩
theorem od_eq : OpD Γ (compareOp .Eq) eqD := by
  refine ⟨rEqX Γ.K false, fun X ok => by rw [← ok.K]; exact op_eqX (by have := ok.un; omega), fun W F ρ sl cs σ H Q x y a b u v rp e1 e2 h1 h2 hp => ?_⟩
  unfold eqD at hp
  split at hp
  · rename_i hc
    obtain ⟨c1, c2, c3⟩ := eqOk_of hc
    exact ⟨a, b, dat_dp e1 c1 h1, dat_dp e2 c2 h2, hc, hp _ H ρ rp Grow.refl AtT.mkB⟩
  · exact hp.elim
theorem od_ne : OpD Γ (compareOp .NotEq) neD := by
  refine ⟨rEqX Γ.K true, fun X ok => by rw [← ok.K]; exact op_neX (by have := ok.un; omega), fun W F ρ sl cs σ H Q x y a b u v rp e1 e2 h1 h2 hp => ?_⟩
  unfold neD at hp
  split at hp
  · rename_i hc
    obtain ⟨c1, c2, c3⟩ := eqOk_of hc
    exact ⟨a, b, dat_dp e1 c1 h1, dat_dp e2 c2 h2, hc, hp _ H ρ rp Grow.refl AtT.mkB⟩
  · exact hp.elim
def isNone : PyData → Bool
  | .none => true
  | _ => false
/-- is: None, and bools -/
def isD (x y : PyData) : Option PyData := match y with
  | .none => some (.bool (isNone x))
  | .bool b => (match x with | .bool a => some (.bool (a == b)) | _ => none)
  | _ => none
def isNotD (x y : PyData) : Option PyData := match y with
  | .none => some (.bool (!isNone x))
  | .bool b => (match x with | .bool a => some (.bool (!(a == b))) | _ => none)
  | _ => none
theorem non_iff {x : Val} {a : PyData} (h : x.dat = some a) {K : PySem.W.Frag} {mg : Str → Option Value} {ρ : List Addr} {H G : Hp} {v : V} (q : AtW K mg ρ H G x v) : decide (v = V.non) = isNone a := by
  cases x with
  | d x =>
    cases h
    have q := AtT.d (H := H) q
    cases a with
    | none => rw [at_non_iff.mp q]; rfl
    | bool b => rw [at_bl_iff.mp q]; rfl
    | int b => rw [at_int_iff.mp q]; rfl
    | str b => rw [at_str_iff.mp q]; rfl
    | list xs => obtain ⟨p, vs, rfl, _⟩ := at_list_iff.mp q; rfl
    | tuple xs => obtain ⟨p, vs, rfl, _⟩ := at_tup_iff.mp q; rfl
    | dict xs => obtain ⟨p, rfl, _⟩ := at_dict_iff.mp q; rfl
  | br x =>
    cases h
    obtain ⟨p, rfl, z⟩ := q
    cases a with
    | none => exact z.elim
    | _ => rfl
  | _ => cases h
def rIsX (neg : Bool) : R2 := fun x y H Q => (y = .non ∧ Q (.bl (if neg then !decide (x = .non) else decide (x = .non))) H) ∨ ∃ a b : Bool, x = .bl a ∧ y = .bl b ∧ Q (.bl (if neg then !decide (a = b) else decide (a = b))) H
theorem od_is : OpD Γ (compareOp .Is) isD := by
  refine ⟨rIsX false, fun X ok => OpR.or op_isN op_isBl, fun W F ρ sl cs σ H Q x y a b u v rp e1 e2 h1 h2 hp => ?_⟩
  unfold isD at hp
  split at hp
  · refine .inl ⟨dat_non e2 h2, hp _ H ρ rp Grow.refl ?_⟩
    rw [if_neg (by decide), non_iff e1 h1]
    exact AtT.mkB
  · rename_i b
    split at hp
    · rename_i a
      refine .inr ⟨a, b, dat_bl e1 h1, dat_bl e2 h2, hp _ H ρ rp Grow.refl ?_⟩
      rw [show (if false = true then !decide (a = b) else decide (a = b)) = (a == b) by cases a <;> cases b <;> rfl]
      exact AtT.mkB
    · exact hp.elim
  · exact hp.elim
theorem od_isNot : OpD Γ (compareOp .IsNot) isNotD := by
  refine ⟨rIsX true, fun X ok => OpR.or op_notN op_notBl, fun W F ρ sl cs σ H Q x y a b u v rp e1 e2 h1 h2 hp => ?_⟩
  unfold isNotD at hp
  split at hp
  · refine .inl ⟨dat_non e2 h2, hp _ H ρ rp Grow.refl ?_⟩
    have e := non_iff e1 h1
    rw [if_pos rfl, e]
    exact AtT.mkB
  · rename_i b
    split at hp
    · rename_i a
      refine .inr ⟨a, b, dat_bl e1 h1, dat_bl e2 h2, hp _ H ρ rp Grow.refl ?_⟩
      rw [show (if true = true then !decide (a = b) else decide (a = b)) = (!(a == b)) by cases a <;> cases b <;> rfl]
      exact AtT.mkB
    · exact hp.elim
  · exact hp.elim
/-- in: a list or tuple of data, a text -/
def inSeqD (x y : PyData) : Option (List PyData) := match y with
  | .list ds => if x.canLay0 = true ∧ PyData.canLayAll0 ds = true ∧ x.depth ≤ 150 then some ds else none
  | .tuple ds => if x.canLay0 = true ∧ PyData.canLayAll0 ds = true ∧ x.depth ≤ 150 then some ds else none
  | _ => none
def inSD (x y : PyData) : Option PyData := (inSeqD x y).map fun ds => .bool (ds.any fun z => PyData.eqv z x)
def notInSD (x y : PyData) : Option PyData := (inSeqD x y).map fun ds => .bool (!ds.any fun z => PyData.eqv z x)
def rInX (K : PySem.W.Frag) (neg : Bool) : R2 := fun x y H Q => ∃ d ds, Dp K H x d ∧ (Dp K H y (.list ds) ∨ Dp K H y (.tuple ds)) ∧ d.canLay0 = true ∧ PyData.canLayAll0 ds = true ∧ d.depth ≤ 150 ∧ Q (.bl (if neg then !ds.any fun z => PyData.eqv z d else ds.any fun z => PyData.eqv z d)) H
theorem op_inX {X : Cx} (hu : X.A.units + 152 < cLine) : OpR X (compareOp .In) (rInX X.K false) := by
  intro pins s σ H x y v u Q I rx ry h
  obtain ⟨d, ds, hd, he, c1, c2, c3, q⟩ := h
  obtain ⟨as, r1⟩ := Dp.reads I d x v hd rx
  rcases he with he | he
  · obtain ⟨bs, r2⟩ := Dp.reads I (.list ds) y u he ry
    exact SeqAt.in_list_reads r2 r1 c2 c1 (by have := Nat.min_le_right (PyData.depthAll ds) d.depth; omega) ⟨.bl _, H, I, rfl, q⟩
  · obtain ⟨bs, r2⟩ := Dp.reads I (.tuple ds) y u he ry
    exact SeqAt.in_tuple_reads r2 r1 c2 c1 (by have := Nat.min_le_right (PyData.depthAll ds) d.depth; omega) ⟨.bl _, H, I, rfl, q⟩
theorem op_notInX {X : Cx} (hu : X.A.units + 152 < cLine) : OpR X (compareOp .NotIn) (rInX X.K true) := by
  intro pins s σ H x y v u Q I rx ry h
  obtain ⟨d, ds, hd, he, c1, c2, c3, q⟩ := h
  obtain ⟨as, r1⟩ := Dp.reads I d x v hd rx
  rcases he with he | he
  · obtain ⟨bs, r2⟩ := Dp.reads I (.list ds) y u he ry
    exact SeqAt.notIn_list_reads r2 r1 c2 c1 (by have := Nat.min_le_right (PyData.depthAll ds) d.depth; omega) ⟨.bl _, H, I, rfl, q⟩
  · obtain ⟨bs, r2⟩ := Dp.reads I (.tuple ds) y u he ry
    exact SeqAt.notIn_tuple_reads r2 r1 c2 c1 (by have := Nat.min_le_right (PyData.depthAll ds) d.depth; omega) ⟨.bl _, H, I, rfl, q⟩
theorem inSeq_of {x y : Val} {a b : PyData} {ds : List PyData} {K : PySem.W.Frag} {mg : Str → Option Value} {F : Fx} {ρ : List Addr} {sl : Sl} {σ : St} {H : Hp} {u v : V} (e1 : x.dat = some a) (e2 : y.dat = some b) (h : inSeqD a b = some ds)
    (h1 : AtW K mg ρ H (vis F ρ sl σ H) x u) (h2 : AtW K mg ρ H (vis F ρ sl σ H) y v) : Dp K H u a ∧ (Dp K H v (.list ds) ∨ Dp K H v (.tuple ds)) ∧ a.canLay0 = true ∧ PyData.canLayAll0 ds = true ∧ a.depth ≤ 150 := by
  unfold inSeqD at h
  split at h
  · split at h
    · rename_i hc
      cases h
      exact ⟨dat_dp e1 hc.1 h1, .inl (dat_dp e2 (by simp only [PyData.canLay0]; exact hc.2.1) h2), hc.1, hc.2.1, hc.2.2⟩
    · cases h
  · split at h
    · rename_i hc
      cases h
      exact ⟨dat_dp e1 hc.1 h1, .inr (dat_dp e2 (by simp only [PyData.canLay0]; exact hc.2.1) h2), hc.1, hc.2.1, hc.2.2⟩
    · cases h
  · cases h
theorem od_inS : OpD Γ (compareOp .In) inSD := by
  refine ⟨rInX Γ.K false, fun X ok => by rw [← ok.K]; exact op_inX (by have := ok.un; omega), fun W F ρ sl cs σ H Q x y a b u v rp e1 e2 h1 h2 hp => ?_⟩
  unfold inSD at hp
  cases e : inSeqD a b with
  | none => rw [e] at hp; exact hp.elim
  | some ds =>
    rw [e] at hp
    obtain ⟨q1, q2, c1, c2, c3⟩ := inSeq_of e1 e2 e h1 h2
    exact ⟨a, ds, q1, q2, c1, c2, c3, hp _ H ρ rp Grow.refl AtT.mkB⟩
theorem od_notInS : OpD Γ (compareOp .NotIn) notInSD := by
  refine ⟨rInX Γ.K true, fun X ok => by rw [← ok.K]; exact op_notInX (by have := ok.un; omega), fun W F ρ sl cs σ H Q x y a b u v rp e1 e2 h1 h2 hp => ?_⟩
  unfold notInSD at hp
  cases e : inSeqD a b with
  | none => rw [e] at hp; exact hp.elim
  | some ds =>
    rw [e] at hp
    obtain ⟨q1, q2, c1, c2, c3⟩ := inSeq_of e1 e2 e h1 h2
    exact ⟨a, ds, q1, q2, c1, c2, c3, hp _ H ρ rp Grow.refl AtT.mkB⟩
def inStrB (i j : Str) : Bool := !(Builtin.Str.occurrences j i 0 j.length 1).isEmpty
def inTD (x y : PyData) : Option PyData := match x, y with
  | .str i, .str j => some (.bool (inStrB i j))
  | _, _ => none
def notInTD (x y : PyData) : Option PyData := match x, y with
  | .str i, .str j => some (.bool (!inStrB i j))
  | _, _ => none
theorem od_inT : OpD Γ (compareOp .In) inTD := by
  refine ⟨_, fun X ok => op_in_str, fun W F ρ sl cs σ H Q x y a b u v rp e1 e2 h1 h2 hp => ?_⟩
  unfold inTD at hp
  split at hp
  · rename_i i j
    exact ⟨i, j, dat_str e1 h1, dat_str e2 h2, hp _ H ρ rp Grow.refl AtT.mkB⟩
  · exact hp.elim
theorem od_notInT : OpD Γ (compareOp .NotIn) notInTD := by
  refine ⟨_, fun X ok => L2.op_notIn_str, fun W F ρ sl cs σ H Q x y a b u v rp e1 e2 h1 h2 hp => ?_⟩
  unfold notInTD at hp
  split at hp
  · rename_i i j
    exact ⟨i, j, dat_str e1 h1, dat_str e2 h2, hp _ H ρ rp Grow.refl AtT.mkB⟩
  · exact hp.elim
/-- in: a dict -/
def dGet (kvs : List (PyData × PyData)) (k : PyData) : Option PyData := (kvs.find? fun p => PyData.eqv p.1 k).map (·.2)
end
end DL
end
section
set_option Elab.async false
set_option linter.all false
set_option maxRecDepth 100000
set_option autoImplicit false
namespace DL
open PySem PySem.Spec PyProof.Rows L2

/-! ### o[i] -/
def idxV (x y : Val) (cs : Cs) : R Val := match x, y with
  | .d (.list xs), .d (.int i) => R.of ((atI xs i).map Val.d) cs
  | .br (.list xs), .d (.int i) => R.of ((atI xs i).map Val.d) cs
  | .lk xs, .d (.int i) => R.of ((atI xs i).map Val.d) cs
  | .d (.tuple xs), .d (.int i) => R.of ((atI xs i).map Val.d) cs
  | .d (.str s), .d (.int i) => if s.length ≤ 16777216 then R.of ((atI s.cps.toList i).map fun c => .d (.str ⟨#[c]⟩)) cs else .bad
  | .cel n, .d (.int i) => match cs[n]? with
    | some (.lst xs) => (match atI xs i with
      | some v => if v.solid = true then .ok v cs else .bad
      | none => .bad)
    | _ => .bad
  | _, _ => .bad
def eIdx (fa fb : SE) : SE := fun sl cs => (fa sl cs).bind fun x cs1 => (fb sl cs1).bind fun y cs2 => idxV x y cs2
theorem atI_AtL {K : PySem.W.Frag} {G : Hp} {xs : List PyData} {vs : List V} {i : Int} {x : PyData} (h : AtL K G xs vs) (e : atI xs i = some x) : ∃ v, atI vs i = some v ∧ AtD K G x v := by
  unfold atI at e ⊢
  rw [← h.length]
  cases q : ixN xs.length i with
  | none => rw [q] at e; cases e
  | some j =>
    rw [q] at e
    exact h.get e
theorem Paired.get {α β : Type} {R : α → β → Prop} : ∀ {xs : List α} {ys : List β} {i : Nat} {x : α}, Paired R xs ys → xs[i]? = some x → ∃ y, ys[i]? = some y ∧ R x y
  | _, _, i, _, .nil, e => by simp at e
  | _, _, 0, _, .cons r _, e => by simp at e; subst e; exact ⟨_, rfl, r⟩
  | _, _, i + 1, _, .cons _ t, e => by simpa using Paired.get t (by simpa using e)
theorem Paired.len {α β : Type} {R : α → β → Prop} : ∀ {xs : List α} {ys : List β}, Paired R xs ys → xs.length = ys.length
  | _, _, .nil => rfl
  | _, _, .cons _ t => congrArg (· + 1) (Paired.len t)
section
variable {Γ : Cf} {pos : Pos} {a b c e : Expr} {fa fb fc f : SE}
theorem idx_ok {F : Fx} {ρ : List Addr} {sl : Sl} {cs : Cs} {σ : St} {H : Hp} {W : WX} {Q : VK} {x y : Val} {u v : V} (rp : Rep Γ.K Γ.mg F ρ sl cs σ H) (h1 : AtT Γ.K Γ.mg ρ H (vis F ρ sl σ H) x u) (h2 : AtT Γ.K Γ.mg ρ H (vis F ρ sl σ H) y v)
    (hp : PostG Γ F ρ sl σ H W (relV Γ F sl σ) (idxV x y cs) Q) : rIx Γ.K u v H Q := by
  unfold idxV at hp
  split at hp
  · rename_i xs i
    cases e : atI xs i with
    | none => rw [e] at hp; exact hp.elim
    | some z =>
      rw [e] at hp
      obtain ⟨p, vs, rfl, q, l⟩ := AtT.list h1 (.inl rfl)
      obtain ⟨w, ew, aw⟩ := atI_AtL l e
      exact .inl ⟨p, vs, i, w, rfl, AtT.int h2, SqL.of q, ew, hp w H ρ rp Grow.refl (AtT.mk aw)⟩
  · rename_i xs i
    cases e : atI xs i with
    | none => rw [e] at hp; exact hp.elim
    | some z =>
      rw [e] at hp
      obtain ⟨p, vs, rfl, q, l⟩ := AtT.list h1 (.inr rfl)
      obtain ⟨w, ew, aw⟩ := atI_AtL l e
      exact .inl ⟨p, vs, i, w, rfl, AtT.int h2, SqL.of q, ew, hp w H ρ rp Grow.refl (AtT.mk aw)⟩
  · rename_i xs i
    cases e : atI xs i with
    | none => rw [e] at hp; exact hp.elim
    | some z =>
      rw [e] at hp
      obtain ⟨p, vs, rfl, q, l⟩ : ∃ p vs, u = .ref p ∧ SqL Γ.K (vis F ρ sl σ H) p vs ∧ AtL Γ.K (vis F ρ sl σ H) xs vs := h1
      obtain ⟨w, ew, aw⟩ := atI_AtL l e
      exact .inl ⟨p, vs, i, w, rfl, AtT.int h2, sqL_sub vis_le q, ew, hp w H ρ rp Grow.refl (AtT.mk aw)⟩
  · rename_i xs i
    cases e : atI xs i with
    | none => rw [e] at hp; exact hp.elim
    | some z =>
      rw [e] at hp
      obtain ⟨p, vs, rfl, q, l⟩ := AtT.tup h1
      obtain ⟨w, ew, aw⟩ := atI_AtL l e
      exact .inr (.inl ⟨p, vs, i, w, rfl, AtT.int h2, sqT_sub vis_le q, ew, hp w H ρ rp Grow.refl (AtT.mk aw)⟩)
  · rename_i s i
    split at hp
    · rename_i hl
      cases e : atI s.cps.toList i with
      | none => rw [e] at hp; exact hp.elim
      | some z =>
        rw [e] at hp
        exact .inr (.inr ⟨s, i, z, AtT.str h1, AtT.int h2, by rw [sizeLine_eq]; exact hl, e, hp _ H ρ rp Grow.refl AtT.mkS⟩)
    · exact hp.elim
  · rename_i n i
    split at hp
    · rename_i xs en
      split at hp
      · rename_i z e
        split at hp
        · rename_i hs
          obtain ⟨p, ep, rfl⟩ : ∃ p, ρ[n]? = some p ∧ u = .ref p := h1
          obtain ⟨vs, q, l⟩ := rp.cells.at_ n _ p en ep
          unfold atI at e
          cases ej : ixN xs.length i with
          | none => rw [ej] at e; cases e
          | some j =>
            rw [ej] at e
            obtain ⟨w, ew, aw⟩ := Paired.get l e
            refine .inl ⟨p, vs, i, w, rfl, AtT.int h2, SqL.of q, ?_, hp w H ρ rp Grow.refl (AtT.of aw)⟩
            unfold atI
            rw [← Paired.len l, ej]
            exact ew
        · exact hp.elim
      · exact hp.elim
    · exact hp.elim
  · exact hp.elim
theorem de_idx (ha : DE Γ a fa) (hb : DE Γ b fb) (hs : PlainIx b := by intro _ _; rfl) : DE Γ (.Subscript a b pos) (eIdx fa fb) := by
  obtain ⟨ta, p1, q1⟩ := ha.ex
  obtain ⟨tb, p2, q2⟩ := hb.ex
  refine ⟨fun W => tOp (rIx Γ.K) (ta W) (tb W), fun X W ok gd => by rw [← ok.K]; exact pe_ix ix_seq (p1 X W ok gd) (p2 X W ok gd) hs, fun W F ρ sl cs σ H Q rp h => ?_⟩
  refine q1 W F ρ sl cs σ H _ rp (PostG.mono (PostG.bind (rel := relV Γ F sl σ) h) fun u H1 ⟨x, cs1, ρ1, r1, g1, a1, h1⟩ => ?_)
  refine q2 W F ρ1 sl cs1 σ H1 _ r1 (PostG.mono (PostG.bind (rel := relV Γ F sl σ) h1) fun v H2 ⟨y, cs2, ρ2, r2, g2, a2, h2⟩ => ?_)
  exact idx_ok r2 (AtT.grow r1 g2 a1) a2 h2

/-! ### o[a:b] -/
abbrev SI := Sl → Cs → R (Option Int)
structure DI (Γ : Cf) (e : Option Expr) (f : SI) : Prop where
  ex : ∃ t : WX → TO, (∀ X W, Γ.Ok X → Good X W → PO X e (t W)) ∧ ∀ W F ρ sl cs σ H Q, Rep Γ.K Γ.mg F ρ sl cs σ H → PostG Γ F ρ sl σ H W (fun _ _ _ (x y : Option Int) => x = y) (f sl cs) Q → t W σ H Q
def iNone : SI := fun _ cs => .ok none cs
def iSome (f : SE) : SI := fun sl cs => (f sl cs).bind fun x cs1 => match x with
  | .d (.int i) => .ok (some i) cs1
  | _ => .bad
theorem di_none : DI Γ none iNone := ⟨fun _ => tNoPart, fun X W _ _ => po_none, fun W F ρ sl cs σ H Q rp h => h none H ρ rp Grow.refl rfl⟩
theorem di_some (h : DE Γ e f) : DI Γ (some e) (iSome f) := by
  obtain ⟨t, p, q⟩ := h.ex
  refine ⟨fun W => tPart (t W), fun X W ok gd => po_some (p X W ok gd), fun W F ρ sl cs σ H Q rp h => ?_⟩
  refine q W F ρ sl cs σ H _ rp (PostG.mono (PostG.bind (rel := relV Γ F sl σ) h) fun u H1 ⟨x, cs1, ρ1, r1, g1, a1, h1⟩ => ?_)
  split at h1
  · rename_i i
    exact ⟨i, AtT.int a1, h1 _ H1 ρ1 r1 Grow.refl rfl⟩
  · exact h1.elim
def cut {α : Type} (xs : List α) (lo hi : Option Int) : List α := (xs.drop (HT.sIx xs.length 0 lo)).take (HT.sIx xs.length xs.length hi - HT.sIx xs.length 0 lo)
theorem AtL.cut {K : PySem.W.Frag} {G : Hp} {xs : List PyData} {vs : List V} (h : AtL K G xs vs) (lo hi : Option Int) : AtL K G (DL.cut xs lo hi) (cutV vs lo hi) := by
  unfold DL.cut cutV
  rw [← h.length]
  exact (h.drop _).take _
def sliceV (x : Val) (lo hi : Option Int) (cs : Cs) : R Val := match x with
  | .d (.list xs) => .ok (.d (.list (cut xs lo hi))) cs
  | .br (.list xs) => .ok (.d (.list (cut xs lo hi))) cs
  | .lk xs => .ok (.d (.list (cut xs lo hi))) cs
  | .d (.tuple xs) => .ok (.d (.tuple (cut xs lo hi))) cs
  | .d (.str z) => if z.length ≤ 16777216 then .ok (.d (.str (cutS z lo hi))) cs else .bad
  | _ => .bad
def eSl (f : SE) (l h : SI) : SE := fun sl cs => (f sl cs).bind fun x cs1 => (l sl cs1).bind fun lo cs2 => (h sl cs2).bind fun hi cs3 => sliceV x lo hi cs3
theorem slice_ok {F : Fx} {ρ : List Addr} {sl : Sl} {cs : Cs} {σ : St} {H : Hp} {W : WX} {Q : VK} {x : Val} {u : V} {lo hi : Option Int} (rp : Rep Γ.K Γ.mg F ρ sl cs σ H) (h1 : AtT Γ.K Γ.mg ρ H (vis F ρ sl σ H) x u)
    (hp : PostG Γ F ρ sl σ H W (relV Γ F sl σ) (sliceV x lo hi cs) Q) : rSlL Γ.K u lo hi H Q ∨ rSlA Γ.K u lo hi H Q ∨ rSlS u lo hi H Q := by
  unfold sliceV at hp
  split at hp
  · rename_i xs
    obtain ⟨p, vs, rfl, q, l⟩ := AtT.list h1 (.inl rfl)
    refine .inl ⟨p, vs, rfl, SqL.of q, fun t ht => ?_⟩
    obtain ⟨rp', hv⟩ := rp.alloc ht (.lst (cutV vs lo hi))
    exact hp _ _ ρ rp' (Grow.upd ht) (AtT.mk (at_list_iff.mpr ⟨t, _, rfl, hv, AtL.mono ((Grow.upd ht).vis rp) _ _ (l.cut lo hi)⟩))
  · rename_i xs
    obtain ⟨p, vs, rfl, q, l⟩ := AtT.list h1 (.inr rfl)
    refine .inl ⟨p, vs, rfl, SqL.of q, fun t ht => ?_⟩
    obtain ⟨rp', hv⟩ := rp.alloc ht (.lst (cutV vs lo hi))
    exact hp _ _ ρ rp' (Grow.upd ht) (AtT.mk (at_list_iff.mpr ⟨t, _, rfl, hv, AtL.mono ((Grow.upd ht).vis rp) _ _ (l.cut lo hi)⟩))
  · rename_i xs
    obtain ⟨p, vs, rfl, q, l⟩ : ∃ p vs, u = .ref p ∧ SqL Γ.K (vis F ρ sl σ H) p vs ∧ AtL Γ.K (vis F ρ sl σ H) xs vs := h1
    refine .inl ⟨p, vs, rfl, sqL_sub vis_le q, fun t ht => ?_⟩
    obtain ⟨rp', hv⟩ := rp.alloc ht (.lst (cutV vs lo hi))
    exact hp _ _ ρ rp' (Grow.upd ht) (AtT.mk (at_list_iff.mpr ⟨t, _, rfl, hv, AtL.mono ((Grow.upd ht).vis rp) _ _ (l.cut lo hi)⟩))
  · rename_i xs
    obtain ⟨p, vs, rfl, q, l⟩ := AtT.tup h1
    refine .inr (.inl ⟨p, vs, rfl, sqT_sub vis_le q, fun hw => ?_, fun _ t ht => ?_⟩)
    · have e : cutV vs lo hi = vs := by
        unfold cutV
        rw [hw.1, hw.2]
        simp
      have e2 : cut xs lo hi = xs := by
        have hl := l.length
        unfold cut
        rw [hl, hw.1, hw.2, ← hl]
        simp
      rw [e2] at hp
      exact hp _ H ρ rp Grow.refl (AtT.mk (at_tup_iff.mpr ⟨p, vs, rfl, q, l⟩))
    · obtain ⟨rp', hv⟩ := rp.alloc ht (.tup (cutV vs lo hi))
      exact hp _ _ ρ rp' (Grow.upd ht) (AtT.mk (at_tup_iff.mpr ⟨t, _, rfl, SqT.of hv, AtL.mono ((Grow.upd ht).vis rp) _ _ (l.cut lo hi)⟩))
  · rename_i z
    split at hp
    · rename_i hl
      exact .inr (.inr ⟨z, AtT.str h1, by rw [sizeLine_eq]; exact hl, hp _ H ρ rp Grow.refl AtT.mkS⟩)
    · exact hp.elim
  · exact hp.elim
theorem de_slice {lo hi : Option Expr} {l h : SI} {p2 : Pos} (he : DE Γ e f) (hl : DI Γ lo l) (hh : DI Γ hi h) : DE Γ (.Subscript e (.Slice lo hi none p2) pos) (eSl f l h) := by
  obtain ⟨t, p, q⟩ := he.ex
  obtain ⟨t1, p1, q1⟩ := hl.ex
  obtain ⟨t2, p2', q2⟩ := hh.ex
  refine ⟨fun W => tSl (fun x lo hi H Q => rSlL Γ.K x lo hi H Q ∨ rSlA Γ.K x lo hi H Q ∨ rSlS x lo hi H Q) (t W) (t1 W) (t2 W), fun X W ok gd => ?_, fun W F ρ sl cs σ H Q rp h => ?_⟩
  · rw [← ok.K]
    exact pe_slice (SlR.or sl_list (SlR.or sl_tupA sl_str)) (p X W ok gd) (p1 X W ok gd) (p2' X W ok gd)
  · refine q W F ρ sl cs σ H _ rp (PostG.mono (PostG.bind (rel := relV Γ F sl σ) h) fun u H1 ⟨x, cs1, ρ1, r1, g1, a1, h1⟩ => ?_)
    refine q1 W F ρ1 sl cs1 σ H1 _ r1 (PostG.mono (PostG.bind (rel := fun _ _ _ (x y : Option Int) => x = y) h1) fun lo' H2 ⟨lo, cs2, ρ2, r2, g2, a2, h2⟩ => ?_)
    refine q2 W F ρ2 sl cs2 σ H2 _ r2 (PostG.mono (PostG.bind (rel := fun _ _ _ (x y : Option Int) => x = y) h2) fun hi' H3 ⟨hi, cs3, ρ3, r3, g3, a3, h3⟩ => ?_)
    have e1 : lo = lo' := a2
    have e2 : hi = hi' := a3
    subst e1 e2
    exact slice_ok r3 (AtT.grow r2 g3 (AtT.grow r1 g2 a1)) h3

/-! ### displays -/
def datsOf : List Val → Option (List PyData)
  | [] => some []
  | .d x :: r => (datsOf r).map (x :: ·)
  | _ :: _ => none
theorem dats_at {mg : Str → Option Value} {K : PySem.W.Frag} {ρ : List Addr} {G : Hp} : ∀ {xs : List Val} {vs : List V} {ds : List PyData}, datsOf xs = some ds → Paired (AtV K mg ρ G) xs vs → AtL K G ds vs
  | [], _, _, e, .nil => by cases e; exact AtL.nil
  | .d x :: r, _, ds, e, .cons q t => by
    simp only [datsOf] at e
    cases er : datsOf r with
    | none => rw [er] at e; cases e
    | some l =>
      rw [er] at e
      cases e
      exact AtL.cons q (dats_at er t)
  | .br _ :: _, _, _, e, _ => by cases e
  | .lk _ :: _, _, _, e, _ => by cases e
  | .cel _ :: _, _, _, e, _ => by cases e
  | .fn _ :: _, _, _, e, _ => by cases e
def mkD (g : List PyData → PyData) (xs : List Val) (cs : Cs) : R Val := match datsOf xs with
  | some ds => if ds.length ≤ 16777216 then .ok (.d (g ds)) cs else .bad
  | none => .bad
def eTup (f : SA) : SE := fun sl cs => (f sl cs).bind fun xs cs1 => mkD .tuple xs cs1
def eLst (f : SA) : SE := fun sl cs => (f sl cs).bind fun xs cs1 => mkD .list xs cs1
def mkO (xs : List Val) (cs : Cs) : R Slot := match datsOf xs with
  | some ds => if ds.length ≤ 16777216 then .ok (.ow (.list ds)) cs else .bad
  | none => .bad
def oLst (f : SA) : SO := fun sl cs => (f sl cs).bind fun xs cs1 => mkO xs cs1
theorem de_tup {es : List Expr} {g : SA} {x1} (h : DA Γ es g) : DE Γ (.Tuple es x1 pos) (eTup g) := by
  obtain ⟨t, p, q⟩ := h.ex
  refine ⟨fun W => tTup (t W), fun X W ok gd => pe_tup (p X W ok gd), fun W F ρ sl cs σ H Q rp h => ?_⟩
  refine q W F ρ sl cs σ H _ rp (PostG.mono (PostG.bind (rel := relVs Γ F sl σ) h) fun us H1 ⟨xs, cs1, ρ1, r1, g1, a1, h1⟩ => ?_)
  unfold mkD at h1
  split at h1
  · rename_i ds e
    split at h1
    · rename_i hl
      have l := dats_at e a1
      refine ⟨by rw [sizeLine_eq, ← l.length]; exact hl, fun t ht => ?_⟩
      obtain ⟨rp', hv⟩ := r1.alloc ht (.tup us)
      exact h1 _ _ ρ1 rp' (Grow.upd ht) (AtT.mk (at_tup_iff.mpr ⟨t, _, rfl, SqT.of hv, AtL.mono ((Grow.upd ht).vis r1) _ _ l⟩))
    · exact h1.elim
  · exact h1.elim
theorem de_lst {es : List Expr} {g : SA} (h : DA Γ es g) : DE Γ (.List es pos) (eLst g) := by
  obtain ⟨t, p, q⟩ := h.ex
  refine ⟨fun W => tLst (t W), fun X W ok gd => pe_lst (p X W ok gd), fun W F ρ sl cs σ H Q rp h => ?_⟩
  refine q W F ρ sl cs σ H _ rp (PostG.mono (PostG.bind (rel := relVs Γ F sl σ) h) fun us H1 ⟨xs, cs1, ρ1, r1, g1, a1, h1⟩ => ?_)
  unfold mkD at h1
  split at h1
  · rename_i ds e
    split at h1
    · rename_i hl
      have l := dats_at e a1
      refine ⟨by rw [sizeLine_eq, ← l.length]; exact hl, fun t ht => ?_⟩
      obtain ⟨rp', hv⟩ := r1.alloc ht (.lst us)
      exact h1 _ _ ρ1 rp' (Grow.upd ht) (AtT.mk (at_list_iff.mpr ⟨t, _, rfl, hv, AtL.mono ((Grow.upd ht).vis r1) _ _ l⟩))
    · exact h1.elim
  · exact h1.elim
theorem hide_upd {H : Hp} {p : Addr} {o : HO} (hp : H p = none) : hide (· = p) (upd H p o) = H := by
  funext a
  unfold hide
  by_cases h : a = p
  · rw [if_pos h, h, hp]
  · rw [if_neg h, upd_ne h]
theorem do_lst {es : List Expr} {g : SA} (h : DA Γ es g) : DO Γ (.List es pos) (oLst g) := by
  obtain ⟨t, p, q⟩ := h.ex
  refine ⟨fun W => tLst (t W), fun X W ok gd => pe_lst (p X W ok gd), fun W F ρ sl cs σ H Q rp h => ?_⟩
  refine q W F ρ sl cs σ H _ rp (PostG.mono (PostG.bind (rel := relVs Γ F sl σ) h) fun us H1 ⟨xs, cs1, ρ1, r1, g1, a1, h1⟩ => ?_)
  unfold mkO at h1
  split at h1
  · rename_i ds e
    split at h1
    · rename_i hl
      have l := dats_at e a1
      refine ⟨by rw [sizeLine_eq, ← l.length]; exact hl, fun t ht => ?_⟩
      obtain ⟨rp', hv⟩ := r1.alloc ht (.lst us)
      exact h1 _ _ ρ1 rp' (Grow.upd ht) ⟨t, rfl, g1.back r1 ht, by rw [hide_upd ht]; exact r1, us, upd_same, by rw [hide_upd ht]; exact l⟩
    · exact h1.elim
  · exact h1.elim
/-- a frozen value as one to be stored -/
def oFr (f : SE) : SO := fun sl cs => (f sl cs).bind fun x cs1 => if x.solid = true then .ok (.fr x) cs1 else .bad
theorem do_of (h : DE Γ e f) : DO Γ e (oFr f) := by
  obtain ⟨t, p, q⟩ := h.ex
  refine ⟨t, p, fun W F ρ sl cs σ H Q rp h => ?_⟩
  refine q W F ρ sl cs σ H _ rp (PostG.mono (PostG.bind (rel := relV Γ F sl σ) h) fun u H1 ⟨x, cs1, ρ1, r1, g1, a1, h1⟩ => ?_)
  by_cases hs : x.solid = true
  · rw [if_pos hs] at h1
    exact h1 u H1 ρ1 r1 Grow.refl (a1.solid hs)
  · rw [if_neg hs] at h1
    exact h1.elim
/-- -a -/
def negV (x : Val) (cs : Cs) : R Val := match x with
  | .d (.int i) => .ok (.d (.int (-i))) cs
  | _ => .bad
def eNeg (f : SE) : SE := fun sl cs => (f sl cs).bind negV
theorem de_neg (h : DE Γ e f) : DE Γ (.UnaryOp .USub e pos) (eNeg f) := by
  obtain ⟨t, p, q⟩ := h.ex
  refine ⟨fun W => tUn (rU fun i => .int (-i)) (t W), fun X W ok gd => pe_un un_neg (p X W ok gd), fun W F ρ sl cs σ H Q rp h => ?_⟩
  refine q W F ρ sl cs σ H _ rp (PostG.mono (PostG.bind (rel := relV Γ F sl σ) h) fun u H1 ⟨x, cs1, ρ1, r1, g1, a1, h1⟩ => ?_)
  unfold negV at h1
  split at h1
  · rename_i i
    exact ⟨i, AtT.int a1, h1 _ H1 ρ1 r1 Grow.refl AtT.mkI⟩
  · exact h1.elim
end

/-! ### built-in calls -/
def relTs (Γ : Cf) (F : Fx) (sl : Sl) (σ : St) (ρ : List Addr) (H : Hp) (_ : Cs) (xs : List Val) (us : List V) : Prop := Paired (AtT Γ.K Γ.mg ρ H (vis F ρ sl σ H)) xs us
structure DB (Γ : Cf) (es : List Expr) (f : SA) : Prop where
  ex : ∃ t : WX → TA, (∀ X W, Γ.Ok X → Good X W → PA X es (t W)) ∧ ∀ W F ρ sl cs σ H Q, Rep Γ.K Γ.mg F ρ sl cs σ H → PostG Γ F ρ sl σ H W (relTs Γ F sl σ) (f sl cs) Q → t W σ H Q
def bCons (f : SE) (g : SA) : SA := fun sl cs => (f sl cs).bind fun x cs1 => (g sl cs1).bind fun xs cs2 => .ok (x :: xs) cs2
structure CallD (Γ : Cf) (v : Value) (g : List Val → Cs → R Val) : Prop where
  ex : ∃ r : List V → Hp → VK → Prop, (∀ X, Γ.Ok X → CallR X v r) ∧ ∀ W F ρ sl cs σ H Q xs us, Rep Γ.K Γ.mg F ρ sl cs σ H → relTs Γ F sl σ ρ H cs xs us → PostG Γ F ρ sl σ H W (relV Γ F sl σ) (g xs cs) Q → r us H Q
structure CallO (Γ : Cf) (v : Value) (g : List Val → Cs → R Slot) : Prop where
  ex : ∃ r : List V → Hp → VK → Prop, (∀ X, Γ.Ok X → CallR X v r) ∧ ∀ W F ρ sl cs σ H Q xs us, Rep Γ.K Γ.mg F ρ sl cs σ H → relTs Γ F sl σ ρ H cs xs us → PostG Γ F ρ sl σ H W (relO Γ F sl σ H) (g xs cs) Q → r us H Q
def eCall (g : List Val → Cs → R Val) (f : SA) : SE := fun sl cs => (f sl cs).bind g
def oCall (g : List Val → Cs → R Slot) (f : SA) : SO := fun sl cs => (f sl cs).bind g
section
variable {Γ : Cf} {pos p : Pos} {e : Expr} {es : List Expr} {f : SE} {g : SA} {x : Str}
theorem db_nil : DB Γ [] aNil := ⟨fun _ => tNil, fun X W _ _ => pa_nil, fun W F ρ sl cs σ H Q r h => h [] H ρ r Grow.refl .nil⟩
theorem db_cons (h1 : DE Γ e f) (h2 : DB Γ es g) (hs : ∀ env, starEach (e :: es) env = (false, eval e env) :: starEach es env := by intro _; rfl) : DB Γ (e :: es) (bCons f g) := by
  obtain ⟨t, p1, q1⟩ := h1.ex
  obtain ⟨u, p2, q2⟩ := h2.ex
  refine ⟨fun W => tCons (t W) (u W), fun X W ok gd => pa_cons (p1 X W ok gd) (p2 X W ok gd) (hs _), fun W F ρ sl cs σ H Q r h => ?_⟩
  refine q1 W F ρ sl cs σ H _ r (PostG.mono (PostG.bind (rel := relV Γ F sl σ) h) fun v H1 ⟨x, cs1, ρ1, r1, g1, a1, h1⟩ => ?_)
  refine q2 W F ρ1 sl cs1 σ H1 _ r1 (PostG.mono (PostG.bind (rel := relTs Γ F sl σ) h1) fun vs H2 ⟨xs, cs2, ρ2, r2, g2, a2, h2⟩ => ?_)
  exact h2 (v :: vs) H2 ρ2 r2 Grow.refl (.cons (AtT.grow r1 g2 a1) a2)
theorem de_callB {id : String} {gv : List Val → Cs → R Val} (hc : CallD Γ (.builtin id) gv) (hm : Γ.mg x = none) (ha : DB Γ (e :: es) g) (hv : bootBuiltins x = some (.builtin id) := by decide +kernel) (hg : Gls Γ.sc x := by rfl) (hn : x ≠ "__name__" := by decide) (hdb : (x == ("__debug__" : Str)) = false := by decide)
    (he : ∀ env, starEach (e :: es) env = (false, eval e env) :: starEach es env := by intro _; rfl) (hpl : ∀ env, (backTo pos (starEach es env)).any (·.1) = false := by intro _; rfl) : DE Γ (.Call (.Name x p) (e :: es) [] pos) (eCall gv g) := by
  obtain ⟨r, c1, c2⟩ := hc.ex
  obtain ⟨t, p1, q1⟩ := ha.ex
  refine ⟨fun W => tCB r (t W), fun X W ok gd => pe_callB (c1 X ok) (gl_of ok hg) (by rw [ok.mg]; exact hm) hv (p1 X W ok gd) hn hdb (he _) (hpl _), fun W F ρ sl cs σ H Q rp h => ?_⟩
  refine q1 W F ρ sl cs σ H _ rp (PostG.mono (PostG.bind (rel := relTs Γ F sl σ) h) fun us H1 ⟨xs, cs1, ρ1, r1, g1, a1, h1⟩ => ?_)
  exact c2 W F ρ1 sl cs1 σ H1 Q xs us r1 a1 h1
theorem do_callB {id : String} {gv : List Val → Cs → R Slot} (hc : CallO Γ (.builtin id) gv) (hm : Γ.mg x = none) (ha : DB Γ (e :: es) g) (hv : bootBuiltins x = some (.builtin id) := by decide +kernel) (hg : Gls Γ.sc x := by rfl) (hn : x ≠ "__name__" := by decide) (hdb : (x == ("__debug__" : Str)) = false := by decide)
    (he : ∀ env, starEach (e :: es) env = (false, eval e env) :: starEach es env := by intro _; rfl) (hpl : ∀ env, (backTo pos (starEach es env)).any (·.1) = false := by intro _; rfl) : DO Γ (.Call (.Name x p) (e :: es) [] pos) (oCall gv g) := by
  obtain ⟨r, c1, c2⟩ := hc.ex
  obtain ⟨t, p1, q1⟩ := ha.ex
  refine ⟨fun W => tCB r (t W), fun X W ok gd => pe_callB (c1 X ok) (gl_of ok hg) (by rw [ok.mg]; exact hm) hv (p1 X W ok gd) hn hdb (he _) (hpl _), fun W F ρ sl cs σ H Q rp h => ?_⟩
  refine q1 W F ρ sl cs σ H _ rp (PostG.mono (PostG.bind (rel := relTs Γ F sl σ) h) fun us H1 ⟨xs, cs1, ρ1, r1, g1, a1, h1⟩ => ?_)
  exact c2 W F ρ1 sl cs1 σ H1 Q xs us r1 a1 (h1.imp (relO_back fun p hp => g1.back r1 hp))
theorem de_callT {T : String} {gv : List Val → Cs → R Val} (hc : CallD Γ (.type T) gv) (hm : Γ.mg x = none) (ha : DB Γ (e :: es) g) (hv : bootBuiltins x = some (.type T) := by decide +kernel) (hg : Gls Γ.sc x := by rfl) (hn : x ≠ "__name__" := by decide) (hdb : (x == ("__debug__" : Str)) = false := by decide)
    (he : ∀ env, starEach (e :: es) env = (false, eval e env) :: starEach es env := by intro _; rfl) (hpl : ∀ env, (backTo pos (starEach es env)).any (·.1) = false := by intro _; rfl) : DE Γ (.Call (.Name x p) (e :: es) [] pos) (eCall gv g) := by
  obtain ⟨r, c1, c2⟩ := hc.ex
  obtain ⟨t, p1, q1⟩ := ha.ex
  refine ⟨fun W => tCB r (t W), fun X W ok gd => pe_callTy (c1 X ok) (gl_of ok hg) (by rw [ok.mg]; exact hm) hv (p1 X W ok gd) hn hdb (he _) (hpl _), fun W F ρ sl cs σ H Q rp h => ?_⟩
  refine q1 W F ρ sl cs σ H _ rp (PostG.mono (PostG.bind (rel := relTs Γ F sl σ) h) fun us H1 ⟨xs, cs1, ρ1, r1, g1, a1, h1⟩ => ?_)
  exact c2 W F ρ1 sl cs1 σ H1 Q xs us r1 a1 h1
theorem do_callT {T : String} {gv : List Val → Cs → R Slot} (hc : CallO Γ (.type T) gv) (hm : Γ.mg x = none) (ha : DB Γ (e :: es) g) (hv : bootBuiltins x = some (.type T) := by decide +kernel) (hg : Gls Γ.sc x := by rfl) (hn : x ≠ "__name__" := by decide) (hdb : (x == ("__debug__" : Str)) = false := by decide)
    (he : ∀ env, starEach (e :: es) env = (false, eval e env) :: starEach es env := by intro _; rfl) (hpl : ∀ env, (backTo pos (starEach es env)).any (·.1) = false := by intro _; rfl) : DO Γ (.Call (.Name x p) (e :: es) [] pos) (oCall gv g) := by
  obtain ⟨r, c1, c2⟩ := hc.ex
  obtain ⟨t, p1, q1⟩ := ha.ex
  refine ⟨fun W => tCB r (t W), fun X W ok gd => pe_callTy (c1 X ok) (gl_of ok hg) (by rw [ok.mg]; exact hm) hv (p1 X W ok gd) hn hdb (he _) (hpl _), fun W F ρ sl cs σ H Q rp h => ?_⟩
  refine q1 W F ρ sl cs σ H _ rp (PostG.mono (PostG.bind (rel := relTs Γ F sl σ) h) fun us H1 ⟨xs, cs1, ρ1, r1, g1, a1, h1⟩ => ?_)
  exact c2 W F ρ1 sl cs1 σ H1 Q xs us r1 a1 (h1.imp (relO_back fun p hp => g1.back r1 hp))

/-! the single built-ins -/
theorem one_of {R : Val → V → Prop} {x : Val} {us : List V} (h : Paired R [x] us) : ∃ u, us = [u] ∧ R x u := by
  cases h with
  | cons r t => cases t; exact ⟨_, rfl, r⟩
theorem two_of {R : Val → V → Prop} {x y : Val} {us : List V} (h : Paired R [x, y] us) : ∃ u v, us = [u, v] ∧ R x u ∧ R y v := by
  cases h with
  | cons r t =>
    cases t with
    | cons r2 t2 => cases t2; exact ⟨_, _, rfl, r, r2⟩
def lenB (xs : List Val) (cs : Cs) : R Val := match xs with
  | [.d (.str s)] => if s.length ≤ 16777216 then .ok (.d (.int s.length)) cs else .bad
  | [.d (.list l)] => .ok (.d (.int l.length)) cs
  | [.br (.list l)] => .ok (.d (.int l.length)) cs
  | [.lk l] => .ok (.d (.int l.length)) cs
  | [.d (.tuple l)] => .ok (.d (.int l.length)) cs
  | [.cel n] => match cs[n]? with
    | some (.lst l) => .ok (.d (.int l.length)) cs
    | _ => .bad
  | _ => .bad
theorem cd_len : CallD Γ (.builtin "len") lenB := by
  refine ⟨fun xs H Q => ∃ x n, xs = [x] ∧ LenV Γ.K x H n ∧ Q (.int n) H, fun X ok => by rw [← ok.K]; exact call_len, fun W F ρ sl cs σ H Q xs us rp ha hp => ?_⟩
  unfold lenB at hp
  split at hp
  · rename_i s
    obtain ⟨u, rfl, q⟩ := one_of ha
    split at hp
    · rename_i hl
      rw [AtT.str q]
      exact ⟨_, _, rfl, ⟨by rw [sizeLine_eq]; exact hl, rfl⟩, hp _ H ρ rp Grow.refl AtT.mkI⟩
    · exact hp.elim
  · rename_i l
    obtain ⟨u, rfl, q⟩ := one_of ha
    obtain ⟨a, vs, rfl, q, ll⟩ := AtT.list q (.inl rfl)
    exact ⟨_, l.length, rfl, .inl ⟨vs, SqL.of q, ll.length⟩, hp _ H ρ rp Grow.refl AtT.mkI⟩
  · rename_i l
    obtain ⟨u, rfl, q⟩ := one_of ha
    obtain ⟨a, vs, rfl, q, ll⟩ := AtT.list q (.inr rfl)
    exact ⟨_, l.length, rfl, .inl ⟨vs, SqL.of q, ll.length⟩, hp _ H ρ rp Grow.refl AtT.mkI⟩
  · rename_i l
    obtain ⟨u, rfl, q⟩ := one_of ha
    obtain ⟨a, vs, rfl, q, ll⟩ : ∃ p vs, u = .ref p ∧ SqL Γ.K (vis F ρ sl σ H) p vs ∧ AtL Γ.K (vis F ρ sl σ H) l vs := q
    exact ⟨_, l.length, rfl, .inl ⟨vs, sqL_sub vis_le q, ll.length⟩, hp _ H ρ rp Grow.refl AtT.mkI⟩
  · rename_i l
    obtain ⟨u, rfl, q⟩ := one_of ha
    obtain ⟨a, vs, rfl, q, ll⟩ := AtT.tup q
    exact ⟨_, l.length, rfl, .inr ⟨vs, sqT_sub vis_le q, ll.length⟩, hp _ H ρ rp Grow.refl AtT.mkI⟩
  · rename_i n
    split at hp
    · rename_i l en
      obtain ⟨u, rfl, q⟩ := one_of ha
      obtain ⟨a, ep, rfl⟩ : ∃ p, ρ[n]? = some p ∧ u = .ref p := q
      obtain ⟨vs, q, ll⟩ := rp.cells.at_ n _ a en ep
      exact ⟨_, l.length, rfl, .inl ⟨vs, SqL.of q, Paired.len ll⟩, hp _ H ρ rp Grow.refl AtT.mkI⟩
    · exact hp.elim
  · exact hp.elim
/-- f of one int, f of two -/
theorem cd_int1 {v : Value} {g : Int → Int} (h : ∀ X : Cx, CallR X v (fun xs H Q => ∃ i, xs = [.int i] ∧ Q (.int (g i)) H)) : CallD Γ v (fun xs cs => match xs with
    | [.d (.int i)] => .ok (.d (.int (g i))) cs
    | _ => .bad) := by
  refine ⟨_, fun X ok => h X, fun W F ρ sl cs σ H Q xs us rp ha hp => ?_⟩
  split at hp
  · rename_i i
    obtain ⟨u, rfl, q⟩ := one_of ha
    rw [AtT.int q]
    exact ⟨i, rfl, hp _ H ρ rp Grow.refl AtT.mkI⟩
  · exact hp.elim
def absB (xs : List Val) (cs : Cs) : R Val := match xs with
  | [.d (.int i)] => .ok (.d (.int (if i < 0 then -i else i))) cs
  | _ => .bad
theorem cd_abs : CallD Γ (.builtin "abs") absB := cd_int1 fun X => call_abs
def intB (xs : List Val) (cs : Cs) : R Val := match xs with
  | [.d (.int i)] => .ok (.d (.int i)) cs
  | [.d (.bool b)] => .ok (.d (.int (if b then 1 else 0))) cs
  | _ => .bad
theorem cd_int : CallD Γ (.type "int") intB := by
  refine ⟨_, fun X ok => call_int1, fun W F ρ sl cs σ H Q xs us rp ha hp => ?_⟩
  unfold intB at hp
  split at hp
  · rename_i i
    obtain ⟨u, rfl, q⟩ := one_of ha
    rw [AtT.int q]
    exact .inl ⟨i, rfl, hp _ H ρ rp Grow.refl AtT.mkI⟩
  · rename_i b
    obtain ⟨u, rfl, q⟩ := one_of ha
    rw [AtT.bl q]
    exact .inr ⟨b, rfl, hp _ H ρ rp Grow.refl AtT.mkI⟩
  · exact hp.elim
/-- lists of ints, of bools -/
def intsOf : List PyData → Option (List Int)
  | [] => some []
  | .int i :: r => (intsOf r).map (i :: ·)
  | _ :: _ => none
def blsOf : List PyData → Option (List Bool)
  | [] => some []
  | .bool i :: r => (blsOf r).map (i :: ·)
  | _ :: _ => none
theorem ints_at {K : PySem.W.Frag} {G : Hp} : ∀ {xs : List PyData} {vs : List V} {ns : List Int}, intsOf xs = some ns → AtL K G xs vs → vs = ns.map V.int
  | [], vs, _, e, q => by cases e; simp only [AtL] at q; exact q
  | .int i :: r, vs, ns, e, q => by
    simp only [intsOf] at e
    cases er : intsOf r with
    | none => rw [er] at e; cases e
    | some l =>
      rw [er] at e
      cases e
      simp only [AtL] at q
      obtain ⟨v, t, rfl, q1, q2⟩ := q
      rw [ints_at er q2, at_int_iff.mp q1]
      rfl
  | .none :: _, _, _, e, _ => by cases e
  | .bool _ :: _, _, _, e, _ => by cases e
  | .str _ :: _, _, _, e, _ => by cases e
  | .list _ :: _, _, _, e, _ => by cases e
  | .tuple _ :: _, _, _, e, _ => by cases e
  | .dict _ :: _, _, _, e, _ => by cases e
theorem bls_at {K : PySem.W.Frag} {G : Hp} : ∀ {xs : List PyData} {vs : List V} {ns : List Bool}, blsOf xs = some ns → AtL K G xs vs → vs = ns.map V.bl
  | [], vs, _, e, q => by cases e; simp only [AtL] at q; exact q
  | .bool i :: r, vs, ns, e, q => by
    simp only [blsOf] at e
    cases er : blsOf r with
    | none => rw [er] at e; cases e
    | some l =>
      rw [er] at e
      cases e
      simp only [AtL] at q
      obtain ⟨v, t, rfl, q1, q2⟩ := q
      rw [bls_at er q2, at_bl_iff.mp q1]
      rfl
  | .none :: _, _, _, e, _ => by cases e
  | .int _ :: _, _, _, e, _ => by cases e
  | .str _ :: _, _, _, e, _ => by cases e
  | .list _ :: _, _, _, e, _ => by cases e
  | .tuple _ :: _, _, _, e, _ => by cases e
  | .dict _ :: _, _, _, e, _ => by cases e
/-- a list by its items, lent or not, or locked -/
def seqL : Val → Option (List PyData)
  | .d (.list l) => some l
  | .br (.list l) => some l
  | .lk l => some l
  | _ => none
theorem seqL_at {F : Fx} {ρ : List Addr} {sl : Sl} {σ : St} {H : Hp} {x : Val} {l : List PyData} {u : V} (e : seqL x = some l) (q : AtT Γ.K Γ.mg ρ H (vis F ρ sl σ H) x u) : ∃ a vs, u = .ref a ∧ SqL Γ.K H a vs ∧ AtL Γ.K (vis F ρ sl σ H) l vs := by
  unfold seqL at e
  split at e
  · cases e
    obtain ⟨a, vs, rfl, q, ll⟩ := AtT.list q (.inl rfl)
    exact ⟨a, vs, rfl, SqL.of q, ll⟩
  · cases e
    obtain ⟨a, vs, rfl, q, ll⟩ := AtT.list q (.inr rfl)
    exact ⟨a, vs, rfl, SqL.of q, ll⟩
  · cases e
    obtain ⟨a, vs, rfl, q, ll⟩ : ∃ p vs, u = .ref p ∧ SqL Γ.K (vis F ρ sl σ H) p vs ∧ AtL Γ.K (vis F ρ sl σ H) l vs := q
    exact ⟨a, vs, rfl, sqL_sub vis_le q, ll⟩
  · cases e
def intsL (xs : List Val) : Option (List Int) := match xs with
  | [x] => (seqL x).bind intsOf
  | _ => none
def blsL (xs : List Val) : Option (List Bool) := match xs with
  | [x] => (seqL x).bind blsOf
  | _ => none
theorem intsL_at {F : Fx} {ρ : List Addr} {sl : Sl} {σ : St} {H : Hp} {cs : Cs} {xs : List Val} {ns : List Int} {us : List V} (e : intsL xs = some ns) (q0 : relTs Γ F sl σ ρ H cs xs us) : ∃ a, us = [.ref a] ∧ SqL Γ.K H a (ns.map V.int) := by
  unfold intsL at e
  split at e
  · rename_i x
    obtain ⟨u, rfl, q⟩ := one_of q0
    cases es : seqL x with
    | none => rw [es] at e; cases e
    | some l =>
      rw [es] at e
      obtain ⟨a, vs, rfl, s, ll⟩ := seqL_at es q
      rw [ints_at e ll] at s
      exact ⟨a, rfl, s⟩
  · cases e
theorem blsL_at {F : Fx} {ρ : List Addr} {sl : Sl} {σ : St} {H : Hp} {cs : Cs} {xs : List Val} {ns : List Bool} {us : List V} (e : blsL xs = some ns) (q0 : relTs Γ F sl σ ρ H cs xs us) : ∃ a, us = [.ref a] ∧ SqL Γ.K H a (ns.map V.bl) := by
  unfold blsL at e
  split at e
  · rename_i x
    obtain ⟨u, rfl, q⟩ := one_of q0
    cases es : seqL x with
    | none => rw [es] at e; cases e
    | some l =>
      rw [es] at e
      obtain ⟨a, vs, rfl, s, ll⟩ := seqL_at es q
      rw [bls_at e ll] at s
      exact ⟨a, rfl, s⟩
  · cases e
def sumB (xs : List Val) (cs : Cs) : R Val := R.of ((intsL xs).map fun ns => .d (.int ns.sum)) cs
def allB (xs : List Val) (cs : Cs) : R Val := R.of ((blsL xs).map fun ns => .d (.bool (ns.all id))) cs
def anyB (xs : List Val) (cs : Cs) : R Val := R.of ((blsL xs).map fun ns => .d (.bool (ns.any id))) cs
theorem cd_sum (hc : Γ.cm = true) : CallD Γ (.builtin "sum") sumB := by
  refine ⟨rSum Γ.K, fun X ok => by rw [← ok.K]; exact cr_sum (ok.cm hc).1, fun W F ρ sl cs σ H Q xs us rp ha hp => ?_⟩
  unfold sumB at hp
  cases e : intsL xs with
  | none => rw [e] at hp; exact hp.elim
  | some ns =>
    rw [e] at hp
    obtain ⟨a, rfl, s⟩ := intsL_at e ha
    exact ⟨a, ns, rfl, s, hp _ H ρ rp Grow.refl AtT.mkI⟩
theorem cd_all (hc : Γ.cm = true) : CallD Γ (.builtin "all") allB := by
  refine ⟨rAll Γ.K, fun X ok => by rw [← ok.K]; exact cr_all (ok.cm hc).1, fun W F ρ sl cs σ H Q xs us rp ha hp => ?_⟩
  unfold allB at hp
  cases e : blsL xs with
  | none => rw [e] at hp; exact hp.elim
  | some ns =>
    rw [e] at hp
    obtain ⟨a, rfl, s⟩ := blsL_at e ha
    exact ⟨a, ns, rfl, s, hp _ H ρ rp Grow.refl AtT.mkB⟩
theorem cd_any (hc : Γ.cm = true) : CallD Γ (.builtin "any") anyB := by
  refine ⟨rAny Γ.K, fun X ok => by rw [← ok.K]; exact cr_any (ok.cm hc).1, fun W F ρ sl cs σ H Q xs us rp ha hp => ?_⟩
  unfold anyB at hp
  cases e : blsL xs with
  | none => rw [e] at hp; exact hp.elim
  | some ns =>
    rw [e] at hp
    obtain ⟨a, rfl, s⟩ := blsL_at e ha
    exact ⟨a, ns, rfl, s, hp _ H ρ rp Grow.refl AtT.mkB⟩
/-- max, min: of two ints, of a list -/
def maxOf : List Int → Option Int
  | [] => none
  | x :: xs => some (xs.foldl max x)
def minOf : List Int → Option Int
  | [] => none
  | x :: xs => some (xs.foldl min x)
theorem foldl_max : ∀ (xs : List Int) (x m : Int), m ∈ x :: xs → (∀ y ∈ x :: xs, y ≤ m) → xs.foldl max x = m
  | [], x, m, h1, h2 => by simp at h1; exact h1.symm
  | y :: xs, x, m, h1, h2 => by
    show xs.foldl max (max x y) = m
    refine foldl_max xs (max x y) m ?_ fun z hz => ?_
    · rcases List.mem_cons.mp h1 with e | h1
      · subst e
        have := h2 y (by simp)
        rw [Int.max_eq_left this]
        exact List.mem_cons_self
      · rcases List.mem_cons.mp h1 with e | h1
        · subst e
          have := h2 x (by simp)
          rw [Int.max_eq_right this]
          exact List.mem_cons_self
        · exact List.mem_cons_of_mem _ h1
    · rcases List.mem_cons.mp hz with e | hz
      · subst e
        have a := h2 x (by simp)
        have b := h2 y (by simp)
        omega
      · exact h2 z (by simp [hz])
theorem foldl_min : ∀ (xs : List Int) (x m : Int), m ∈ x :: xs → (∀ y ∈ x :: xs, m ≤ y) → xs.foldl min x = m
  | [], x, m, h1, h2 => by simp at h1; exact h1.symm
  | y :: xs, x, m, h1, h2 => by
    show xs.foldl min (min x y) = m
    refine foldl_min xs (min x y) m ?_ fun z hz => ?_
    · rcases List.mem_cons.mp h1 with e | h1
      · subst e
        have := h2 y (by simp)
        rw [Int.min_eq_left this]
        exact List.mem_cons_self
      · rcases List.mem_cons.mp h1 with e | h1
        · subst e
          have := h2 x (by simp)
          rw [Int.min_eq_right this]
          exact List.mem_cons_self
        · exact List.mem_cons_of_mem _ h1
    · rcases List.mem_cons.mp hz with e | hz
      · subst e
        have a := h2 x (by simp)
        have b := h2 y (by simp)
        omega
      · exact h2 z (by simp [hz])
def maxB (xs : List Val) (cs : Cs) : R Val := match xs with
  | [.d (.int i), .d (.int j)] => .ok (.d (.int (max i j))) cs
  | xs => R.of (((intsL xs).bind maxOf).map fun n => .d (.int n)) cs
def minB (xs : List Val) (cs : Cs) : R Val := match xs with
  | [.d (.int i), .d (.int j)] => .ok (.d (.int (min i j))) cs
  | xs => R.of (((intsL xs).bind minOf).map fun n => .d (.int n)) cs
theorem CallR.or {X : Cx} {v : Value} {r r' : List V → Hp → VK → Prop} (h : CallR X v r) (h' : CallR X v r') : CallR X v (fun xs H Q => r xs H Q ∨ r' xs H Q) := by
  intro pins s σ H xs us Q I rx q
  rcases q with q | q
  · exact h pins s σ H xs us Q I rx q
  · exact h' pins s σ H xs us Q I rx q
theorem cd_max (hc : Γ.cm = true) : CallD Γ (.builtin "max") maxB := by
  refine ⟨fun xs H Q => (∃ i j, xs = [.int i, .int j] ∧ Q (.int (if j > i then j else i)) H) ∨ rMax Γ.K xs H Q, fun X ok => by rw [← ok.K]; exact CallR.or (call_max2 (ok.cm hc).1) (cr_max (ok.cm hc).1), fun W F ρ sl cs σ H Q xs us rp ha hp => ?_⟩
  unfold maxB at hp
  split at hp
  · rename_i i j
    obtain ⟨u, v, rfl, q1, q2⟩ := two_of ha
    rw [AtT.int q1, AtT.int q2]
    refine .inl ⟨i, j, rfl, ?_⟩
    rw [show (if j > i then j else i) = max i j by rw [Int.max_def]; split <;> split <;> omega]
    exact hp _ H ρ rp Grow.refl AtT.mkI
  · cases e : intsL xs with
    | none => rw [e] at hp; exact hp.elim
    | some ns =>
      rw [e] at hp
      obtain ⟨a, rfl, s⟩ := intsL_at e ha
      cases ns with
      | nil => exact hp.elim
      | cons n ns =>
        refine .inr ⟨a, _, rfl, s, by simp, fun m h1 h2 => ?_⟩
        rw [← foldl_max ns n m h1 h2]
        exact hp _ H ρ rp Grow.refl AtT.mkI
theorem cd_min (hc : Γ.cm = true) : CallD Γ (.builtin "min") minB := by
  refine ⟨fun xs H Q => (∃ i j, xs = [.int i, .int j] ∧ Q (.int (if j < i then j else i)) H) ∨ rMin Γ.K xs H Q, fun X ok => by rw [← ok.K]; exact CallR.or (call_min2 (ok.cm hc).1) (cr_min (ok.cm hc).1), fun W F ρ sl cs σ H Q xs us rp ha hp => ?_⟩
  unfold minB at hp
  split at hp
  · rename_i i j
    obtain ⟨u, v, rfl, q1, q2⟩ := two_of ha
    rw [AtT.int q1, AtT.int q2]
    refine .inl ⟨i, j, rfl, ?_⟩
    rw [show (if j < i then j else i) = min i j by rw [Int.min_def]; split <;> split <;> omega]
    exact hp _ H ρ rp Grow.refl AtT.mkI
  · cases e : intsL xs with
    | none => rw [e] at hp; exact hp.elim
    | some ns =>
      rw [e] at hp
      obtain ⟨a, rfl, s⟩ := intsL_at e ha
      cases ns with
      | nil => exact hp.elim
      | cons n ns =>
        refine .inr ⟨a, _, rfl, s, by simp, fun m h1 h2 => ?_⟩
        rw [← foldl_min ns n m h1 h2]
        exact hp _ H ρ rp Grow.refl AtT.mkI
/-- tuple(x), list(x) -/
def tupleB (xs : List Val) (cs : Cs) : R Val := match xs with
  | [.d (.tuple l)] => .ok (.d (.tuple l)) cs
  | [x] => R.of ((seqL x).map fun l => .d (.tuple l)) cs
  | _ => .bad
theorem cd_tuple : CallD Γ (.type "tuple") tupleB := by
  refine ⟨fun xs H Q => ∃ p ys, xs = [.ref p] ∧ ((SqL Γ.K H p ys ∧ ∀ l, H l = none → Q (.ref l) (upd H l (.tup ys))) ∨ (SqT Γ.K H p ys ∧ Q (.ref p) H)), fun X ok => by rw [← ok.K]; exact call_tuple_of, fun W F ρ sl cs σ H Q xs us rp ha hp => ?_⟩
  unfold tupleB at hp
  split at hp
  · rename_i l
    obtain ⟨u, rfl, q⟩ := one_of ha
    obtain ⟨p, vs, rfl, s, ll⟩ := AtT.tup q
    exact ⟨p, vs, rfl, .inr ⟨sqT_sub vis_le s, hp _ H ρ rp Grow.refl (AtT.mk (at_tup_iff.mpr ⟨p, vs, rfl, s, ll⟩))⟩⟩
  · rename_i x _
    obtain ⟨u, rfl, q⟩ := one_of ha
    cases es : seqL x with
    | none => rw [es] at hp; exact hp.elim
    | some l =>
      rw [es] at hp
      obtain ⟨a, vs, rfl, s, ll⟩ := seqL_at es q
      refine ⟨a, vs, rfl, .inl ⟨s, fun t ht => ?_⟩⟩
      obtain ⟨rp', hv⟩ := rp.alloc ht (.tup vs)
      exact hp _ _ ρ rp' (Grow.upd ht) (AtT.mk (at_tup_iff.mpr ⟨t, vs, rfl, SqT.of hv, AtL.mono ((Grow.upd ht).vis rp) _ _ ll⟩))
  · exact hp.elim
def listItems (xs : List Val) : Option (List PyData) := match xs with
  | [.d (.tuple l)] => some l
  | [x] => seqL x
  | _ => none
def listO (xs : List Val) (cs : Cs) : R Slot := R.of ((listItems xs).map fun l => .ow (.list l)) cs
def listB (xs : List Val) (cs : Cs) : R Val := R.of ((listItems xs).map fun l => .d (.list l)) cs
theorem listItems_at {F : Fx} {ρ : List Addr} {sl : Sl} {σ : St} {H : Hp} {cs : Cs} {xs : List Val} {l : List PyData} {us : List V} (e : listItems xs = some l) (q0 : relTs Γ F sl σ ρ H cs xs us) : ∃ p vs, us = [.ref p] ∧ (SqL Γ.K H p vs ∨ SqT Γ.K H p vs) ∧ AtL Γ.K (vis F ρ sl σ H) l vs := by
  unfold listItems at e
  split at e
  · cases e
    obtain ⟨u, rfl, q⟩ := one_of q0
    obtain ⟨p, vs, rfl, s, ll⟩ := AtT.tup q
    exact ⟨p, vs, rfl, .inr (sqT_sub vis_le s), ll⟩
  · obtain ⟨u, rfl, q⟩ := one_of q0
    obtain ⟨a, vs, rfl, s, ll⟩ := seqL_at e q
    exact ⟨a, vs, rfl, .inl s, ll⟩
  · cases e
theorem co_list : CallO Γ (.type "list") listO := by
  refine ⟨fun xs H Q => ∃ p ys, xs = [.ref p] ∧ (SqL Γ.K H p ys ∨ SqT Γ.K H p ys) ∧ ∀ l, H l = none → Q (.ref l) (upd H l (.lst ys)), fun X ok => by rw [← ok.K]; exact call_list_of, fun W F ρ sl cs σ H Q xs us rp ha hp => ?_⟩
  unfold listO at hp
  cases e : listItems xs with
  | none => rw [e] at hp; exact hp.elim
  | some l =>
    rw [e] at hp
    obtain ⟨p, vs, rfl, s, ll⟩ := listItems_at e ha
    refine ⟨p, vs, rfl, s, fun t ht => ?_⟩
    obtain ⟨rp', hv⟩ := rp.alloc ht (.lst vs)
    exact hp _ _ ρ rp' (Grow.upd ht) ⟨t, rfl, ht, by rw [hide_upd ht]; exact rp, vs, upd_same, by rw [hide_upd ht]; exact ll⟩
theorem cd_list : CallD Γ (.type "list") listB := by
  refine ⟨fun xs H Q => ∃ p ys, xs = [.ref p] ∧ (SqL Γ.K H p ys ∨ SqT Γ.K H p ys) ∧ ∀ l, H l = none → Q (.ref l) (upd H l (.lst ys)), fun X ok => by rw [← ok.K]; exact call_list_of, fun W F ρ sl cs σ H Q xs us rp ha hp => ?_⟩
  unfold listB at hp
  cases e : listItems xs with
  | none => rw [e] at hp; exact hp.elim
  | some l =>
    rw [e] at hp
    obtain ⟨p, vs, rfl, s, ll⟩ := listItems_at e ha
    refine ⟨p, vs, rfl, s, fun t ht => ?_⟩
    obtain ⟨rp', hv⟩ := rp.alloc ht (.lst vs)
    exact hp _ _ ρ rp' (Grow.upd ht) (AtT.mk (at_list_iff.mpr ⟨t, vs, rfl, hv, AtL.mono ((Grow.upd ht).vis rp) _ _ ll⟩))

/-! ### isinstance -/
inductive Ty where
  | int | bool | str | tuple | list | dict
def Ty.nm : Ty → String
  | .int => "int" | .bool => "bool" | .str => "str" | .tuple => "tuple" | .list => "list" | .dict => "dict"
def isiB : Ty → PyData → Bool
  | .int, .int _ => true | .int, .bool _ => true
  | .bool, .bool _ => true
  | .str, .str _ => true
  | .tuple, .tuple _ => true
  | .list, .list _ => true
  | .dict, .dict _ => true
  | _, _ => false
def tyNm : PyData → String
  | .none => "NoneType" | .bool _ => "bool" | .int _ => "int" | .str _ => "str" | .list _ => "list" | .tuple _ => "tuple" | .dict _ => "dict"
theorem kitB_all (t : Ty) (n : String) (h : n = "NoneType" ∨ n = "bool" ∨ n = "int" ∨ n = "str" ∨ n = "list" ∨ n = "tuple" ∨ n = "dict") : kitB n t.nm = some (decide (n = t.nm) || (decide (n = "bool") && decide (t.nm = "int"))) := by
  rcases h with rfl | rfl | rfl | rfl | rfl | rfl | rfl <;> cases t <;> decide +kernel
theorem kitB_isi (t : Ty) (x : PyData) : kitB (tyNm x) t.nm = some (isiB t x) := by
  rw [kitB_all t _ (by cases x <;> simp [tyNm])]
  cases x <;> cases t <;> simp [tyNm, Ty.nm, isiB]
def datT : Val → Option PyData
  | .d x => some x
  | .br x => some x
  | .lk l => some (.list l)
  | _ => none
theorem tyX_of {F : Fx} {ρ : List Addr} {sl : Sl} {σ : St} {H : Hp} {x : Val} {a : PyData} {u : V} (e : datT x = some a) (q : AtT Γ.K Γ.mg ρ H (vis F ρ sl σ H) x u) : TyX Γ.K H u (.type (tyNm a)) := by
  have fin : ∀ {p : Addr} {vs : List V}, SqT Γ.K H p vs → TyX Γ.K H (.ref p) (.type "tuple") := fun {p vs} s => by
    rcases s with (s | ⟨o, s⟩) | ⟨o, its, n, hk, hc, _⟩
    · exact .base (.tup s)
    · exact .fTuple s
    · exact .kTuple hk hc
  have finL : ∀ {p : Addr} {vs : List V}, SqL Γ.K H p vs → TyX Γ.K H (.ref p) (.type "list") := fun {p vs} s => by
    rcases s with (s | ⟨o, s⟩) | ⟨o, its, n, hk, hc, _⟩
    · exact .base (.lst s)
    · exact .base (.frz s)
    · exact .kList hk hc
  cases x with
  | d x =>
    cases e
    have q := AtT.d q
    cases a with
    | none => rw [at_non_iff.mp q]; exact .base .non
    | bool b => rw [at_bl_iff.mp q]; exact .base (.bl b)
    | int b => rw [at_int_iff.mp q]; exact .base (.int b)
    | str b => rw [at_str_iff.mp q]; exact .base (.str b)
    | list xs => obtain ⟨p, vs, rfl, s, _⟩ := at_list_iff.mp q; exact .base (.lst (vis_le _ _ s))
    | tuple xs => obtain ⟨p, vs, rfl, s, _⟩ := at_tup_iff.mp q; exact fin (sqT_sub vis_le s)
    | dict xs =>
      obtain ⟨p, rfl, s⟩ := at_dict_iff.mp q
      rcases s with ⟨kv, s, _⟩ | ⟨kv, _, s, _⟩
      · exact .base (.dK (vis_le _ _ s))
      · exact .base (.dT (vis_le _ _ s))
  | br x =>
    cases e
    obtain ⟨p, rfl, _, z⟩ := q
    cases a with
    | list xs => obtain ⟨vs, s, _⟩ := z; exact .base (.lst s)
    | dict xs =>
      rcases z with ⟨kv, s, _⟩ | ⟨kv, _, s, _⟩
      · exact .base (.dK s)
      · exact .base (.dT s)
    | _ => exact z.elim
  | lk l =>
    cases e
    obtain ⟨p, vs, rfl, s, _⟩ : ∃ p vs, u = .ref p ∧ SqL Γ.K (vis F ρ sl σ H) p vs ∧ AtL Γ.K (vis F ρ sl σ H) l vs := q
    exact finL (sqL_sub vis_le s)
  | _ => cases e
def isiV (t : Ty) (x : Val) (cs : Cs) : R Val := R.of ((datT x).map fun a => .d (.bool (isiB t a))) cs
def eIsi (t : Ty) (f : SE) : SE := fun sl cs => (f sl cs).bind (isiV t)
theorem de_isi (t : Ty) {a : Expr} {y : Str} {p2 : Pos} (hi : Γ.mg "isinstance" = none) (hy : Γ.mg y = none) (ha : DE Γ a f) (hyv : bootBuiltins y = some (.type t.nm) := by decide +kernel) (hg : Gls Γ.sc "isinstance" := by rfl) (hgy : Gls Γ.sc y := by rfl) (hny : y ≠ "__name__" := by decide) (hdy : (y == ("__debug__" : Str)) = false := by decide)
    (hs1 : ∀ env, starEach [a, .Name y p2] env = (false, eval a env) :: starEach [.Name y p2] env := by intro _; rfl) :
    DE Γ (.Call (.Name "isinstance" p) [a, .Name y p2] [] pos) (eIsi t f) := by
  obtain ⟨ta, p1, q1⟩ := ha.ex
  refine ⟨fun W => tCB (rIsi Γ.K) (tCons (ta W) (tCons (tC (.ty t.nm)) tNil)), fun X W ok gd => ?_, fun W F ρ sl cs σ H Q rp h => ?_⟩
  · rw [← ok.K]
    exact pe_callB call_isi (gl_of ok hg) (by rw [ok.mg]; exact hi) (by decide +kernel) (pa_cons (p1 X W ok gd) (pa_cons (pe_bltn (gl_of ok hgy) (by rw [ok.mg]; exact hy) hyv rfl hny hdy) pa_nil) (hs1 _)) (by decide) (by decide) (hs1 _)
  · refine q1 W F ρ sl cs σ H _ rp (PostG.mono (PostG.bind (rel := relV Γ F sl σ) h) fun u H1 ⟨x, cs1, ρ1, r1, g1, a1, h1⟩ => ?_)
    unfold isiV at h1
    cases e : datT x with
    | none => rw [e] at h1; exact h1.elim
    | some d =>
      rw [e] at h1
      exact ⟨u, .ty t.nm, _, .type t.nm, isiB t d, rfl, .ty _, tyX_of e a1, kit_ty (kitB_isi t d), h1 _ H1 ρ1 r1 Grow.refl AtT.mkB⟩
end
end DL
end
section
set_option Elab.async false
set_option linter.all false
set_option maxRecDepth 100000
set_option autoImplicit false
namespace DL
open PySem PySem.Spec PyProof.Rows L2

/-! ### moves of the state -/
section
variable {K : PySem.W.Frag} {mg : Str → Option Value} {F : Fx} {ρ ρ' : List Addr} {sl : Sl} {cs cs' : Cs} {σ : St} {H H' : Hp}
theorem hide_hide {p q : Addr → Prop} : hide p (hide q H) = hide (fun a => q a ∨ p a) H := by
  funext a
  unfold hide
  by_cases h : p a <;> by_cases h2 : q a <;> simp [h, h2]
theorem hide_congr {p q : Addr → Prop} (h : ∀ a, p a ↔ q a) : hide p H = hide q H := by
  have : p = q := funext fun a => propext (h a)
  rw [this]
theorem hide_ne {p a : Addr} (h : a ≠ p) : hide (· = p) H a = H a := by
  unfold hide
  rw [if_neg h]
theorem hide_self {p : Addr} : hide (· = p) H p = none := by
  unfold hide
  rw [if_pos rfl]
theorem ne_hid {p a : Addr} {o : HO} (h : hide (· = p) H a = some o) : a ≠ p := (hide_iff.mp h).1
theorem vis_mono_hid {p : Addr} : Sub (vis F ρ sl σ (hide (· = p) H)) (vis F ρ sl σ H) := hide_sub fun a o hn e => ⟨hn, hide_le _ _ e⟩
theorem CellsAt.unhide {G G' : Hp} {p : Addr} (hs : Sub G G') (c : CellsAt K mg ρ G (hide (· = p) H) cs) : CellsAt K mg ρ G' H cs := by
  refine ⟨c.len, fun n x a e1 e2 => ?_⟩
  have q := c.at_ n x a e1 e2
  obtain ⟨o, e⟩ := q.there
  exact q.mono hs (fun _ _ z => z) (hide_ne (ne_hid e)).symm
/-- an object that no one saw is seen -/
theorem Rep.unhide {p : Addr} (r : Rep K mg F ρ sl cs σ (hide (· = p) H)) : Rep K mg F ρ sl cs σ H := by
  refine ⟨r.len, r.cells.unhide vis_mono_hid, r.nd, r.pre, r.fr, r.inj, fun a o h hn => hide_le _ _ (r.keep a o h hn), fun i s e => ?_⟩
  obtain ⟨v, e1, q⟩ := r.slot i s e
  refine ⟨v, e1, ?_⟩
  cases s with
  | fr x => exact AtV.mono vis_mono_hid (fun _ _ z => z) q
  | ow x =>
    obtain ⟨a, rfl, q⟩ := q
    obtain ⟨o, eo⟩ := q.there
    exact ⟨a, rfl, q.mono vis_mono_hid (hide_ne (ne_hid eo)).symm⟩
theorem set_get {α : Type} {l : List α} {i j : Nat} {x y : α} (h : (l.set i x)[j]? = some y) : (j = i ∧ i < l.length ∧ y = x) ∨ (j ≠ i ∧ l[j]? = some y) := by
  by_cases e : i = j
  · subst e
    by_cases hl : i < l.length
    · rw [List.getElem?_set_self hl] at h
      exact .inl ⟨rfl, hl, (Option.some.inj h).symm⟩
    · rw [List.getElem?_eq_none (by simpa using hl)] at h
      cases h
  · rw [List.getElem?_set_ne e] at h
    exact .inr ⟨fun z => e z.symm, h⟩
theorem own_setFr {i : Nat} {v : Val} {u : Option V} {a : Addr} (h : Own (sl.set i (some (.fr v))) (σ.set i u) a) : Own sl σ a := by
  obtain ⟨j, x, e1, e2⟩ := h
  rcases set_get e1 with ⟨_, _, e⟩ | ⟨hj, e1⟩
  · cases e
  · rw [List.getElem?_set_ne (Ne.symm hj)] at e2
    exact ⟨j, x, e1, e2⟩
theorem own_setNone {i : Nat} {u : Option V} {a : Addr} (h : Own (sl.set i none) (σ.set i u) a) : Own sl σ a := by
  obtain ⟨j, x, e1, e2⟩ := h
  rcases set_get e1 with ⟨_, _, e⟩ | ⟨hj, e1⟩
  · cases e
  · rw [List.getElem?_set_ne (Ne.symm hj)] at e2
    exact ⟨j, x, e1, e2⟩
theorem Rep.setFr (r : Rep K mg F ρ sl cs σ H) {i : Nat} {v : Val} {u : V} (h : AtV K mg ρ (vis F ρ sl σ H) v u) :
    Rep K mg F ρ (sl.set i (some (.fr v))) cs (σ.set i (some u)) H ∧ Sub (vis F ρ sl σ H) (vis F ρ (sl.set i (some (.fr v))) (σ.set i (some u)) H) := by
  have hs : Sub (vis F ρ sl σ H) (vis F ρ (sl.set i (some (.fr v))) (σ.set i (some u)) H) := hide_sub fun a o hn e => ⟨fun z => hn (z.imp id (Or.imp id own_setFr)), e⟩
  refine ⟨⟨by simpa using r.len, ⟨r.cells.len, fun n c a e1 e2 => (r.cells.at_ n c a e1 e2).mono hs (fun _ _ z => z) rfl⟩, r.nd, r.pre, fun a z => r.fr a (own_setFr z), fun j k x y a e1 e2 e3 e4 => ?_, r.keep, fun j s e => ?_⟩, hs⟩
  · rcases set_get e1 with ⟨_, _, z⟩ | ⟨hj, e1⟩
    · cases z
    · rcases set_get e2 with ⟨_, _, z⟩ | ⟨hk, e2⟩
      · cases z
      · rw [List.getElem?_set_ne (Ne.symm hj)] at e3
        rw [List.getElem?_set_ne (Ne.symm hk)] at e4
        exact r.inj j k x y a e1 e2 e3 e4
  · rcases set_get e with ⟨rfl, hl, z⟩ | ⟨hj, e⟩
    · cases z
      exact ⟨u, List.getElem?_set_self (by rw [← r.len]; exact hl), AtV.mono hs (fun _ _ z => z) h⟩
    · obtain ⟨w, e1, q⟩ := r.slot j s e
      refine ⟨w, by rw [List.getElem?_set_ne (Ne.symm hj)]; exact e1, ?_⟩
      cases s with
      | fr x => exact AtV.mono hs (fun _ _ z => z) q
      | ow x => obtain ⟨a, rfl, q⟩ := q; exact ⟨a, rfl, q.mono hs rfl⟩
/-- a slot forgotten -/
theorem Rep.setNone (r : Rep K mg F ρ sl cs σ H) {i : Nat} {u : Option V} :
    Rep K mg F ρ (sl.set i none) cs (σ.set i u) H ∧ Sub (vis F ρ sl σ H) (vis F ρ (sl.set i none) (σ.set i u) H) := by
  have hs : Sub (vis F ρ sl σ H) (vis F ρ (sl.set i none) (σ.set i u) H) := hide_sub fun a o hn e => ⟨fun z => hn (z.imp id (Or.imp id own_setNone)), e⟩
  refine ⟨⟨by simpa using r.len, ⟨r.cells.len, fun n c a e1 e2 => (r.cells.at_ n c a e1 e2).mono hs (fun _ _ z => z) rfl⟩, r.nd, r.pre, fun a z => r.fr a (own_setNone z), fun j k x y a e1 e2 e3 e4 => ?_, r.keep, fun j s e => ?_⟩, hs⟩
  · rcases set_get e1 with ⟨_, _, z⟩ | ⟨hj, e1⟩
    · cases z
    · rcases set_get e2 with ⟨_, _, z⟩ | ⟨hk, e2⟩
      · cases z
      · rw [List.getElem?_set_ne (Ne.symm hj)] at e3
        rw [List.getElem?_set_ne (Ne.symm hk)] at e4
        exact r.inj j k x y a e1 e2 e3 e4
  · rcases set_get e with ⟨rfl, hl, z⟩ | ⟨hj, e⟩
    · cases z
    · obtain ⟨w, e1, q⟩ := r.slot j s e
      refine ⟨w, by rw [List.getElem?_set_ne (Ne.symm hj)]; exact e1, ?_⟩
      cases s with
      | fr x => exact AtV.mono hs (fun _ _ z => z) q
      | ow x => obtain ⟨a, rfl, q⟩ := q; exact ⟨a, rfl, q.mono hs rfl⟩
theorem own_setOw {i : Nat} {x : PyData} {p a : Addr} (h : Own (sl.set i (some (.ow x))) (σ.set i (some (.ref p))) a) : a = p ∨ Own sl σ a := by
  obtain ⟨j, y, e1, e2⟩ := h
  rcases set_get e1 with ⟨rfl, hl, e⟩ | ⟨hj, e1⟩
  · rcases set_get e2 with ⟨_, _, e⟩ | ⟨hj, _⟩
    · cases e; exact .inl rfl
    · exact absurd rfl hj
  · rw [List.getElem?_set_ne (Ne.symm hj)] at e2
    exact .inr ⟨j, y, e1, e2⟩
theorem Rep.setOw {p : Addr} (r : Rep K mg F ρ sl cs σ (hide (· = p) H)) {i : Nat} {x : PyData} (h : OwnAt K H (vis F ρ sl σ (hide (· = p) H)) x p) :
    Rep K mg F ρ (sl.set i (some (.ow x))) cs (σ.set i (some (.ref p))) H ∧ Sub (vis F ρ sl σ (hide (· = p) H)) (vis F ρ (sl.set i (some (.ow x))) (σ.set i (some (.ref p))) H) := by
  obtain ⟨f1, f2, f3⟩ := r.fresh hide_self
  have hs : Sub (vis F ρ sl σ (hide (· = p) H)) (vis F ρ (sl.set i (some (.ow x))) (σ.set i (some (.ref p))) H) := hide_sub fun a o hn e => by
    refine ⟨fun z => ?_, hide_le _ _ e⟩
    rcases z with z | z | z
    · exact hn (.inl z)
    · exact hn (.inr (.inl z))
    · rcases own_setOw z with z | z
      · exact ne_hid e z
      · exact hn (.inr (.inr z))
  have np : ∀ {j : Nat} {y : PyData} {a : Addr}, sl[j]? = some (some (.ow y)) → σ[j]? = some (some (.ref a)) → a ≠ p := fun {j y a} e1 e2 z => f3 ⟨j, y, e1, by rw [← z]; exact e2⟩
  refine ⟨⟨by simpa using r.len, r.cells.unhide hs, r.nd, r.pre, fun a z => ?_, fun j k y y' a e1 e2 e3 e4 => ?_, fun a o h hn => hide_le _ _ (r.keep a o h hn), fun j s e => ?_⟩, hs⟩
  · rcases own_setOw z with z | z
    · rw [z]; exact ⟨f1, f2⟩
    · exact r.fr a z
  · rcases set_get e1 with ⟨h1, _, z⟩ | ⟨hj, e1⟩
    · rcases set_get e2 with ⟨h2, _, z⟩ | ⟨hk, e2⟩
      · rw [h1, h2]
      · rw [List.getElem?_set_ne (Ne.symm hk)] at e4
        rcases set_get e3 with ⟨_, _, z3⟩ | ⟨z3, _⟩
        · cases z3; exact absurd rfl (np e2 e4)
        · exact absurd h1 z3
    · rw [List.getElem?_set_ne (Ne.symm hj)] at e3
      rcases set_get e2 with ⟨h2, _, z⟩ | ⟨hk, e2⟩
      · rcases set_get e4 with ⟨_, _, z4⟩ | ⟨z4, _⟩
        · cases z4; exact absurd rfl (np e1 e3)
        · exact absurd h2 z4
      · rw [List.getElem?_set_ne (Ne.symm hk)] at e4
        exact r.inj j k y y' a e1 e2 e3 e4
  · rcases set_get e with ⟨rfl, hl, z⟩ | ⟨hj, e⟩
    · cases z
      exact ⟨.ref p, List.getElem?_set_self (by rw [← r.len]; exact hl), p, rfl, h.mono hs rfl⟩
    · obtain ⟨w, e1, q⟩ := r.slot j s e
      refine ⟨w, by rw [List.getElem?_set_ne (Ne.symm hj)]; exact e1, ?_⟩
      cases s with
      | fr y => exact AtV.mono hs (fun _ _ z => z) q
      | ow y =>
        obtain ⟨a, rfl, q⟩ := q
        obtain ⟨o, eo⟩ := q.there
        exact ⟨a, rfl, q.mono hs (hide_ne (ne_hid eo)).symm⟩
/-- an own list is changed -/
theorem Rep.mut (r : Rep K mg F ρ sl cs σ H) {j : Nat} {x x' : PyData} {a : Addr} {o : HO} (e1 : sl[j]? = some (some (.ow x))) (e2 : σ[j]? = some (some (.ref a))) (h : OwnAt K (upd H a o) (vis F ρ sl σ H) x' a) :
    Rep K mg F ρ (sl.set j (some (.ow x'))) cs σ (upd H a o) ∧ Sub (vis F ρ sl σ H) (vis F ρ (sl.set j (some (.ow x'))) σ (upd H a o)) := by
  have hjl : j < sl.length := (List.getElem?_eq_some_iff.mp e1).1
  have own : ∀ b, Own (sl.set j (some (.ow x'))) σ b → Own sl σ b := fun b ⟨k, y, h1, h2⟩ => by
    rcases set_get h1 with ⟨rfl, _, _⟩ | ⟨hk, h1⟩
    · rw [e2] at h2
      cases h2
      exact ⟨k, x, e1, e2⟩
    · exact ⟨k, y, h1, h2⟩
  have oa : Own sl σ a := ⟨j, x, e1, e2⟩
  obtain ⟨n1, n2⟩ := r.fr a oa
  have hs : Sub (vis F ρ sl σ H) (vis F ρ (sl.set j (some (.ow x'))) σ (upd H a o)) := hide_sub fun b u hn e => by
    have ne : b ≠ a := fun z => hn (.inr (.inr (by rw [z]; exact oa)))
    exact ⟨fun z => hn (z.imp id (Or.imp id (own b))), by rw [upd_ne ne]; exact e⟩
  refine ⟨⟨by simpa using r.len, ⟨r.cells.len, fun n c b h1 h2 => (r.cells.at_ n c b h1 h2).mono hs (fun _ _ z => z) (upd_ne fun z => n2 (by rw [← z]; exact List.mem_of_getElem? h2))⟩, r.nd, r.pre, fun b z => r.fr b (own b z), fun i k y y' b h1 h2 h3 h4 => ?_, fun b u hb hn => ?_, fun i s e => ?_⟩, hs⟩
  · have f : ∀ {i : Nat} {y : PyData}, (sl.set j (some (.ow x')))[i]? = some (some (.ow y)) → ∃ z, sl[i]? = some (some (Slot.ow z)) := fun {i y} h => by
      rcases set_get h with ⟨rfl, _, _⟩ | ⟨_, h⟩
      · exact ⟨x, e1⟩
      · exact ⟨y, h⟩
    obtain ⟨z, h1⟩ := f h1
    obtain ⟨z', h2⟩ := f h2
    exact r.inj i k z z' b h1 h2 h3 h4
  · have ne : b ≠ a := fun z => by rw [z, n1] at hb; cases hb
    rw [upd_ne ne]
    exact r.keep b u hb hn
  · rcases set_get e with ⟨rfl, hl, z⟩ | ⟨hj, e⟩
    · cases z
      exact ⟨.ref a, e2, a, rfl, h.mono hs rfl⟩
    · obtain ⟨w, h1, q⟩ := r.slot i s e
      refine ⟨w, h1, ?_⟩
      cases s with
      | fr y => exact AtV.mono hs (fun _ _ z => z) q
      | ow y =>
        obtain ⟨b, rfl, q⟩ := q
        exact ⟨b, rfl, q.mono hs (upd_ne fun z => hj (r.inj i j y x a e e1 (by rw [← z]; exact h1) e2))⟩
/-- a cell is changed -/
theorem Rep.mutCell (r : Rep K mg F ρ sl cs σ H) {n : Nat} {c c' : Cell} {a : Addr} {o : HO} (e1 : cs[n]? = some c) (e2 : ρ[n]? = some a) (h : CellAt K mg ρ (vis F ρ sl σ H) (upd H a o) c' a) :
    Rep K mg F ρ sl (cs.set n c') σ (upd H a o) ∧ Grow ρ H ρ (upd H a o) ∧ Sub (vis F ρ sl σ H) (vis F ρ sl σ (upd H a o)) := by
  have ma : a ∈ ρ := List.mem_of_getElem? e2
  have g : Grow ρ H ρ (upd H a o) := ⟨fun b u e hn => by rw [upd_ne fun z => hn (by rw [z]; exact ma)]; exact e, [], by simp, fun _ z => by simp at z⟩
  have hs := g.vis r
  refine ⟨r.grow g ⟨by simpa using r.cells.len, fun m d b h1 h2 => ?_⟩ r.nd, g, hs⟩
  rcases set_get h1 with ⟨rfl, hl, z⟩ | ⟨hm, h1⟩
  · rw [e2] at h2
    cases h2
    rw [z]
    exact h.mono hs (fun _ _ z => z) rfl
  · refine (r.cells.at_ m d b h1 h2).mono hs (fun _ _ z => z) (upd_ne fun z => hm ?_)
    rw [z] at h2
    exact nodup_ix' r.nd h2 e2
where
  nodup_ix' {l : List Addr} (hN : l.Nodup) {i j : Nat} {x : Addr} (a : l[i]? = some x) (b : l[j]? = some x) : i = j := by
    obtain ⟨h1, e1⟩ := List.getElem?_eq_some_iff.mp a
    obtain ⟨h2, e2⟩ := List.getElem?_eq_some_iff.mp b
    exact (List.getElem_inj hN).mp (e1.trans e2.symm)
end

/-! ### what is fresh, frozen or made a cell -/
section
variable {Γ : Cf} {e : Expr} {f : SO}
def fz : Slot → Val
  | .fr v => v
  | .ow x => .d x
def eFz (f : SO) : SE := fun sl cs => (f sl cs).bind fun s cs1 => .ok (fz s) cs1
theorem own_atD {F : Fx} {ρ : List Addr} {sl : Sl} {σ : St} {cs : Cs} {H : Hp} {p : Addr} {x : PyData} (r : Rep Γ.K Γ.mg F ρ sl cs σ (hide (· = p) H)) (h : OwnAt Γ.K H (vis F ρ sl σ (hide (· = p) H)) x p) : AtD Γ.K (vis F ρ sl σ H) x (.ref p) := by
  have hf := r.free (p := p) hide_self
  have hv : ∀ o, H p = some o → vis F ρ sl σ H p = some o := fun o e => hide_iff.mpr ⟨hf, e⟩
  cases x with
  | list xs =>
    obtain ⟨vs, e, l⟩ := h
    exact at_list_iff.mpr ⟨p, vs, rfl, hv _ e, AtL.mono vis_mono_hid _ _ l⟩
  | dict kvs =>
    rcases h with ⟨kv, e, l⟩ | ⟨kv, ne, e, l⟩
    · exact at_dict_iff.mpr ⟨p, rfl, .inl ⟨kv, hv _ e, AtP.mono vis_mono_hid _ _ l⟩⟩
    · exact at_dict_iff.mpr ⟨p, rfl, .inr ⟨kv, ne, hv _ e, AtQ.mono vis_mono_hid _ _ l⟩⟩
  | _ => exact h.elim
theorem de_fz (h : DO Γ e f) : DE Γ e (eFz f) := by
  obtain ⟨t, p, q⟩ := h.ex
  refine ⟨t, p, fun W F ρ sl cs σ H Q rp h => ?_⟩
  refine q W F ρ sl cs σ H _ rp (PostG.mono (PostG.bind (rel := relO Γ F sl σ H) h) fun u H1 ⟨x, cs1, ρ1, r1, g1, a1, h1⟩ => ?_)
  cases x with
  | fr v => exact h1 u H1 ρ1 r1 Grow.refl (AtT.of a1)
  | ow x =>
    obtain ⟨p, rfl, _, r2, o⟩ := a1
    exact h1 _ H1 ρ1 r1 Grow.refl (AtT.mk (own_atD r2 o))
def celV (s : Slot) (cs : Cs) : R Val := match s with
  | .ow (.list xs) => .ok (.cel cs.length) (cs ++ [.lst (xs.map Val.d)])
  | _ => .bad
def eCel (f : SO) : SE := fun sl cs => (f sl cs).bind celV
theorem atL_paired {K : PySem.W.Frag} {mg : Str → Option Value} {ρ : List Addr} {G : Hp} : ∀ {xs : List PyData} {vs : List V}, AtL K G xs vs → Paired (AtV K mg ρ G) (xs.map Val.d) vs
  | [], vs, q => by simp only [AtL] at q; subst q; exact .nil
  | x :: xs, vs, q => by
    simp only [AtL] at q
    obtain ⟨v, t, rfl, q1, q2⟩ := q
    exact .cons q1 (atL_paired q2)
theorem de_cel (h : DO Γ e f) : DE Γ e (eCel f) := by
  obtain ⟨t, p, q⟩ := h.ex
  refine ⟨t, p, fun W F ρ sl cs σ H Q rp h => ?_⟩
  refine q W F ρ sl cs σ H _ rp ?_
  unfold eCel at h
  cases ef : f sl cs with
  | bad => rw [ef] at h; exact h.elim
  | ex x cs1 => rw [ef] at h; exact h
  | ok x cs1 =>
    rw [ef, R.bind_ok] at h
    intro u H1 ρ1 r1 g1 a1
    unfold celV at h
    split at h
    · rename_i xs
      obtain ⟨p, rfl, hp, r2, vs, e1, l⟩ := a1
      obtain ⟨f1, f2, f3⟩ := r2.fresh hide_self
      have hv : vis F (ρ1 ++ [p]) sl σ H1 = vis F ρ1 sl σ (hide (· = p) H1) := by
        unfold vis
        rw [hide_hide]
        refine hide_congr fun a => ?_
        unfold Hid
        simp only [List.mem_append, List.mem_singleton]
        constructor
        · rintro (z | (z | z) | z)
          · exact .inr (.inl z)
          · exact .inr (.inr (.inl z))
          · exact .inl z
          · exact .inr (.inr (.inr z))
        · rintro (z | z | z | z)
          · exact .inr (.inl (.inr z))
          · exact .inl z
          · exact .inr (.inl (.inl z))
          · exact .inr (.inr z)
      have g2 : Grow ρ H (ρ1 ++ [p]) H1 := by
        refine ⟨g1.keep, ?_⟩
        obtain ⟨t, rfl, ht⟩ := g1.ext
        refine ⟨t ++ [p], by simp, fun a ha => ?_⟩
        rcases List.mem_append.mp ha with z | z
        · exact ht a z
        · rw [List.mem_singleton.mp z]; exact hp
      have pre : ∀ (n : Nat) (a : Addr), ρ1[n]? = some a → (ρ1 ++ [p])[n]? = some a := fun n a z => prefix_get z
      have cl : CellsAt Γ.K Γ.mg (ρ1 ++ [p]) (vis F (ρ1 ++ [p]) sl σ H1) H1 (cs1 ++ [.lst (xs.map Val.d)]) := by
        rw [hv]
        refine ⟨by simp [r2.cells.len], fun n c a z1 z2 => ?_⟩
        by_cases hn : n < cs1.length
        · rw [List.getElem?_append_left hn] at z1
          rw [List.getElem?_append_left (by rw [r2.cells.len]; exact hn)] at z2
          have w := r2.cells.at_ n c a z1 z2
          obtain ⟨o, eo⟩ := w.there
          exact w.mono (fun _ _ z => z) pre (hide_ne (ne_hid eo)).symm
        · rw [List.getElem?_append_right (by omega)] at z1
          rw [List.getElem?_append_right (by rw [r2.cells.len]; omega)] at z2
          have e0 : n - cs1.length = 0 := by
            have := (List.getElem?_eq_some_iff.mp z1).1
            simp at this
            omega
          rw [r2.cells.len] at z2
          rw [e0] at z1 z2
          simp at z1 z2
          subst z1 z2
          exact ⟨vs, e1, atL_paired l⟩
      have nd : (ρ1 ++ [p]).Nodup := by
        rw [List.nodup_append]
        exact ⟨r2.nd, by simp, fun a ha b hb z => f2 (by rw [List.mem_singleton] at hb; rw [← hb, ← z]; exact ha)⟩
      exact h _ H1 (ρ1 ++ [p]) (rp.grow g2 cl nd) g2 ⟨p, by rw [List.getElem?_append_right (by rw [r2.cells.len]; exact Nat.le_refl _), r2.cells.len]; simp, rfl⟩
    · exact h.elim
end
end DL
end
section
set_option Elab.async false
set_option linter.all false
set_option maxRecDepth 100000
set_option autoImplicit false
namespace DL
open PySem PySem.Spec PyProof.Rows L2

/-! ### what a def promises -/
abbrev FS := List Val → Cs → R Slot
section
variable (K : PySem.W.Frag) (mg : Str → Option Value)
def relF (hx : Addr → Prop) (Hs : Hp) (ρ : List Addr) (H : Hp) (cs : Cs) (x : Slot) (u : V) : Prop := match x with
  | .fr v => AtV K mg ρ (hide (fun a => hx a ∨ a ∈ ρ) H) v u
  | .ow x => ∃ p, u = .ref p ∧ Hs p = none ∧ p ∉ ρ ∧ OwnAt K H (hide (fun a => a = p ∨ hx a ∨ a ∈ ρ) H) x p ∧ CellsAt K mg ρ (hide (fun a => a = p ∨ hx a ∨ a ∈ ρ) H) H cs
def PostF (hx : Addr → Prop) (ρ : List Addr) (H : Hp) (r : R Slot) (Q : VK) (E : XK) : Prop := match r with
  | .ok s cs' => ∀ u H' ρ', Grow ρ H ρ' H' → ρ'.Nodup → CellsAt K mg ρ' (hide (fun a => hx a ∨ a ∈ ρ') H') H' cs' → relF K mg hx H ρ' H' cs' s u → Q u H'
  | .ex e cs' => ∀ c d H' ρ', Grow ρ H ρ' H' → ρ'.Nodup → CellsAt K mg ρ' (hide (fun a => hx a ∨ a ∈ ρ') H') H' cs' → ExAt K mg (hide (fun a => hx a ∨ a ∈ ρ') H') H' e c d → E c d H'
  | .bad => False
def spOf (n : Nat) (f : FS) : Sp := fun vs H Q E => vs.length = n ∧ ∃ (args : List Val) (hx : Addr → Prop) (ρ : List Addr) (cs : Cs), (∀ a, hx a → ∃ o, H a = some o) ∧ Paired (AtV K mg ρ (hide (fun a => hx a ∨ a ∈ ρ) H)) args vs ∧
  CellsAt K mg ρ (hide (fun a => hx a ∨ a ∈ ρ) H) H cs ∧ ρ.Nodup ∧ PostF K mg hx ρ H (f args cs) Q E
end
/-- a def of the module: what it computes is f -/
structure FnD (K : PySem.W.Frag) (mg : Str → Option Value) (P : Program) (w : World) (base : Heap) (k : Nat) (x : Str) (n : Nat) (ds : List Val) (f : FS) : Prop where
  ex : ∃ (a : Addr) (fd : FuncData) (ps : List Str) (dvs : List V) (dus : List Value), mg x = some (.ref a) ∧ PySem.W.keepIn K (.ref a) = true ∧ ps.length = n ∧ Binds K fd ps dus ∧ Vals dvs dus ∧ (∀ ρ G, Paired (AtV K mg ρ G) ds dvs) ∧
    FnG P w K mg base (L2.CX P w) k a fd ps (spOf K mg n f)
def oDef (f : FS) (ds : List Val) (g : SA) : SO := fun sl cs => (g sl cs).bind fun xs cs1 => f (xs ++ ds) cs1
theorem Paired.app {α β : Type} {R : α → β → Prop} : ∀ {xs ys : List α} {us vs : List β}, Paired R xs us → Paired R ys vs → Paired R (xs ++ ys) (us ++ vs)
  | _, _, _, _, .nil, t => t
  | _, _, _, _, .cons r s, t => .cons r (Paired.app s t)
section
variable {Γ : Cf} {F : Fx} {ρ : List Addr} {sl : Sl} {cs : Cs} {σ : St} {H : Hp} {W : WX}
theorem hide_or {hx : Addr → Prop} : vis F ρ sl σ H = hide (fun a => (F.hx a ∨ Own sl σ a) ∨ a ∈ ρ) H := hide_congr fun a => by
  unfold Hid
  constructor
  · rintro (z | z | z)
    · exact .inl (.inl z)
    · exact .inr z
    · exact .inl (.inr z)
  · rintro ((z | z) | z)
    · exact .inl z
    · exact .inr (.inr z)
    · exact .inr (.inl z)
/-- the caller's question, asked of the callee -/
theorem call_post {r : R Slot} {Q : VK} (rp : Rep Γ.K Γ.mg F ρ sl cs σ H) (h : PostG Γ F ρ sl σ H W (relO Γ F sl σ H) r Q) : PostF Γ.K Γ.mg (fun a => F.hx a ∨ Own sl σ a) ρ H r Q (fun c d H' => W c d σ H') := by
  cases r with
  | ok s cs' =>
    intro u H' ρ' g nd c q
    rw [← hide_or (hx := F.hx) (F := F)] at c
    refine h u H' ρ' (rp.grow g c nd) g ?_
    cases s with
    | fr v =>
      show AtV Γ.K Γ.mg ρ' (vis F ρ' sl σ H') v u
      rw [hide_or (hx := F.hx)]
      exact q
    | ow x =>
      obtain ⟨p, rfl, hp, np, o, c2⟩ := q
      have hv : hide (fun a => a = p ∨ (F.hx a ∨ Own sl σ a) ∨ a ∈ ρ') H' = vis F ρ' sl σ (hide (· = p) H') := by
        rw [hide_or (hx := F.hx), hide_hide]
      have g2 : Grow ρ H ρ' (hide (· = p) H') := ⟨fun a u e hn => by rw [hide_ne (ne_of_none e hp)]; exact g.keep a u e hn, g.ext⟩
      rw [hv] at o c2
      refine ⟨p, rfl, hp, rp.grow g2 ⟨c2.len, fun n x a e1 e2 => ?_⟩ nd, o⟩
      exact (c2.at_ n x a e1 e2).mono (fun _ _ z => z) (fun _ _ z => z) (hide_ne fun z => np (by rw [← z]; exact List.mem_of_getElem? e2))
  | ex e cs' =>
    intro cl d H' ρ' g nd c q
    rw [← hide_or (hx := F.hx) (F := F)] at c q
    exact h cl d H' ρ' (rp.grow g c nd) g q
  | bad => exact h
theorem do_def {x : Str} {n : Nat} {ds : List Val} {f : FS} {g : SA} {e : Expr} {es : List Expr} {p pos : Pos} (F : FnD Γ.K Γ.mg Γ.P Γ.w Γ.base Γ.k x n ds f) (hcm : Γ.cm = true) (ha : DA Γ (e :: es) g) (hg : Gls Γ.sc x := by rfl) (hdb : (x == ("__debug__" : Str)) = false := by decide)
    (hn : ∀ xs cs r, f (xs ++ ds) cs = r → (∃ s c, r = .ok s c) ∨ (∃ e c, r = .ex e c) → xs.length + ds.length = n)
    (he : ∀ env, starEach (e :: es) env = (false, eval e env) :: starEach es env := by intro _; rfl) (hpl : ∀ env, (backTo pos (starEach es env)).any (·.1) = false := by intro _; rfl) : DO Γ (.Call (.Name x p) (e :: es) [] pos) (oDef f ds g) := by
  obtain ⟨a, fd, ps, dvs, dus, gm, kp, hl, hb, hv, hd, ok⟩ := F.ex
  obtain ⟨t, p1, q1⟩ := ha.ex
  refine ⟨fun W => tCallSD (spOf Γ.K Γ.mg n f) dvs (WE W) (t W), fun X W okX gd => ?_, fun W F ρ sl cs σ H Q rp h => ?_⟩
  · have ok' : FnG X.prog X.w X.K X.mg X.base (L2.CX X.prog X.w) Γ.k a fd ps (spOf Γ.K Γ.mg n f) := by rw [okX.P, okX.w, okX.K, okX.mg, okX.base]; exact ok
    exact pe_callG ok' (okX.cm hcm).2 (gl_of okX hg) (by rw [okX.mg]; exact gm) (by rw [okX.K]; exact kp) (by rw [okX.K]; exact hb) hv (fun σ => passAt gd.tk σ) (p1 X W okX gd) hdb (he _) (hpl _)
  · refine q1 W F ρ sl cs σ H _ rp (PostG.mono (PostG.bind (rel := relVs Γ F sl σ) h) fun us H1 ⟨xs, cs1, ρ1, r1, g1, a1, h1⟩ => ?_)
    have h1 := h1.imp (rl := relO Γ F sl σ H1) (relO_back fun p hp => g1.back r1 hp)
    have hlen : xs.length + ds.length = n := by
      refine hn xs cs1 _ rfl ?_
      cases er : f (xs ++ ds) cs1 with
      | ok s c => exact .inl ⟨s, c, rfl⟩
      | ex e c => exact .inr ⟨e, c, rfl⟩
      | bad => rw [er] at h1; exact h1.elim
    have la : Paired (AtV Γ.K Γ.mg ρ1 (vis F ρ1 sl σ H1)) (xs ++ ds) (us ++ dvs) := Paired.app a1 (hd _ _)
    refine ⟨by rw [← Paired.len la, List.length_append]; exact hlen, xs ++ ds, fun b => F.hx b ∨ Own sl σ b, ρ1, cs1, fun b hb => ?_, ?_, ?_, r1.nd, ?_⟩
    · rcases hb with z | z
      · obtain ⟨o, e⟩ := F.hxt b z
        by_cases hm : b ∈ F.ρ0
        · obtain ⟨t, e2, _⟩ := r1.pre
          exact r1.cells.there (by rw [e2]; exact List.mem_append_left _ hm)
        · exact ⟨o, r1.keep b o e hm⟩
      · exact r1.own_there z
    · rw [← hide_or (hx := F.hx)]
      exact la
    · rw [← hide_or (hx := F.hx)]
      exact r1.cells
    · exact call_post r1 h1
end

/-! ### statements -/
inductive RS where
  | nx (sl : Sl) (cs : Cs)
  | rt (s : Slot) (cs : Cs)
  | bk (sl : Sl) (cs : Cs)
  | ct (sl : Sl) (cs : Cs)
  | ex (e : Ex) (sl : Sl) (cs : Cs)
  | bad
abbrev SS := Sl → Cs → RS
/-- an expression's result within a statement -/
def R.go {α : Type} (r : R α) (sl : Sl) (k : α → Cs → RS) : RS := match r with
  | .ok a cs => k a cs
  | .ex e cs => .ex e sl cs
  | .bad => .bad
def RS.seq (r : RS) (k : SS) : RS := match r with
  | .nx sl cs => k sl cs
  | r => r
section
variable {α : Type}
@[simp] theorem R.go_ok (a : α) (cs : Cs) (sl : Sl) (k : α → Cs → RS) : (R.ok a cs).go sl k = k a cs := rfl
@[simp] theorem R.go_ex (e : Ex) (cs : Cs) (sl : Sl) (k : α → Cs → RS) : (R.ex (α := α) e cs).go sl k = .ex e sl cs := rfl
@[simp] theorem R.go_bad (sl : Sl) (k : α → Cs → RS) : (R.bad (α := α)).go sl k = .bad := rfl
@[simp] theorem RS.seq_nx (sl : Sl) (cs : Cs) (k : SS) : (RS.nx sl cs).seq k = k sl cs := rfl
@[simp] theorem RS.seq_rt (s : Slot) (cs : Cs) (k : SS) : (RS.rt s cs).seq k = .rt s cs := rfl
@[simp] theorem RS.seq_bk (sl : Sl) (cs : Cs) (k : SS) : (RS.bk sl cs).seq k = .bk sl cs := rfl
@[simp] theorem RS.seq_ct (sl : Sl) (cs : Cs) (k : SS) : (RS.ct sl cs).seq k = .ct sl cs := rfl
@[simp] theorem RS.seq_ex (e : Ex) (sl : Sl) (cs : Cs) (k : SS) : (RS.ex e sl cs).seq k = .ex e sl cs := rfl
@[simp] theorem RS.seq_bad (k : SS) : RS.bad.seq k = .bad := rfl
end
/-- the state as a def's end sees it -/
structure Out (K : PySem.W.Frag) (mg : Str → Option Value) (F : Fx) (ρ : List Addr) (cs : Cs) (H : Hp) : Prop where
  cells : CellsAt K mg ρ (hide (fun a => F.hx a ∨ a ∈ ρ) H) H cs
  nd : ρ.Nodup
  pre : ∃ t, ρ = F.ρ0 ++ t ∧ ∀ a ∈ t, F.H0 a = none
  keep : ∀ a o, F.H0 a = some o → a ∉ F.ρ0 → H a = some o
section
variable (Γ : Cf) (F : Fx)
def PostS (ρ : List Addr) (sl : Sl) (σ : St) (H : Hp) (W : WX) (r : RS) (D : Ends) : Prop := match r with
  | .nx sl' cs' => ∀ σ' H' ρ', Rep Γ.K Γ.mg F ρ' sl' cs' σ' H' → Sub (vis F ρ sl σ H) (vis F ρ' sl' σ' H') → D.nx σ' H'
  | .bk sl' cs' => ∀ σ' H' ρ', Rep Γ.K Γ.mg F ρ' sl' cs' σ' H' → Sub (vis F ρ sl σ H) (vis F ρ' sl' σ' H') → D.bk σ' H'
  | .ct sl' cs' => ∀ σ' H' ρ', Rep Γ.K Γ.mg F ρ' sl' cs' σ' H' → Sub (vis F ρ sl σ H) (vis F ρ' sl' σ' H') → D.ct σ' H'
  | .rt s cs' => ∀ u H' ρ', Out Γ.K Γ.mg F ρ' cs' H' → relF Γ.K Γ.mg F.hx F.H0 ρ' H' cs' s u → D.rt u H'
  | .ex e sl' cs' => ∀ c d σ' H' ρ', Rep Γ.K Γ.mg F ρ' sl' cs' σ' H' → Sub (vis F ρ sl σ H) (vis F ρ' sl' σ' H') → ExAt Γ.K Γ.mg (vis F ρ' sl' σ' H') H' e c d → W c d σ' H'
  | .bad => False
end
structure DS (Γ : Cf) (st : Stmt) (f : SS) : Prop where
  ex : ∃ t : WX → TS, (∀ X W, Γ.Ok X → Good X W → PS X st (t W)) ∧ ∀ W F ρ sl cs σ H D, Rep Γ.K Γ.mg F ρ sl cs σ H → PostS Γ F ρ sl σ H W (f sl cs) D → t W D σ H
structure DSs (Γ : Cf) (st : List Stmt) (f : SS) : Prop where
  ex : ∃ t : WX → TS, (∀ X W, Γ.Ok X → Good X W → PSs X st (t W)) ∧ ∀ W F ρ sl cs σ H D, Rep Γ.K Γ.mg F ρ sl cs σ H → PostS Γ F ρ sl σ H W (f sl cs) D → t W D σ H
section
variable {Γ : Cf} {F : Fx} {ρ ρ1 : List Addr} {sl sl1 : Sl} {cs cs1 : Cs} {σ σ1 : St} {H H1 : Hp} {W : WX} {D D' : Ends}
theorem PostS.weak {r : RS} (h : PostS Γ F ρ sl σ H W r D) (hs : Sub (vis F ρ sl σ H) (vis F ρ1 sl1 σ1 H1)) : PostS Γ F ρ1 sl1 σ1 H1 W r D := by
  cases r with
  | nx sl' cs' => exact fun σ' H' ρ' rp s => h σ' H' ρ' rp fun a o e => s a o (hs a o e)
  | bk sl' cs' => exact fun σ' H' ρ' rp s => h σ' H' ρ' rp fun a o e => s a o (hs a o e)
  | ct sl' cs' => exact fun σ' H' ρ' rp s => h σ' H' ρ' rp fun a o e => s a o (hs a o e)
  | ex e sl' cs' => exact fun c d σ' H' ρ' rp s => h c d σ' H' ρ' rp fun a o e => s a o (hs a o e)
  | rt s cs' => exact h
  | bad => exact h
theorem PostS.go {α β : Type} {rel : List Addr → Hp → Cs → α → β → Prop} {r : R α} {k : α → Cs → RS} (h : PostS Γ F ρ sl σ H W (r.go sl k) D) (rp : Rep Γ.K Γ.mg F ρ sl cs σ H) :
    PostG Γ F ρ sl σ H W rel r (fun u H1 => ∃ x cs1 ρ1, Rep Γ.K Γ.mg F ρ1 sl cs1 σ H1 ∧ Grow ρ H ρ1 H1 ∧ rel ρ1 H1 cs1 x u ∧ PostS Γ F ρ sl σ H W (k x cs1) D) := by
  cases r with
  | ok x cs' => exact fun u H' ρ' r1 g q => ⟨x, cs', ρ', r1, g, q, h⟩
  | ex e cs' => exact fun c d H' ρ' r1 g q => h c d σ H' ρ' r1 (g.vis rp) q
  | bad => exact h
theorem PostS.seq {r : RS} {k : SS} (h : PostS Γ F ρ sl σ H W (r.seq k) D) {N : St → Hp → Prop} (hN : ∀ sl1 cs1 σ1 H1 ρ1, Rep Γ.K Γ.mg F ρ1 sl1 cs1 σ1 H1 → PostS Γ F ρ1 sl1 σ1 H1 W (k sl1 cs1) D → N σ1 H1) : PostS Γ F ρ sl σ H W r { D with nx := N } := by
  cases r with
  | nx sl' cs' => exact fun σ' H' ρ' rp s => hN _ _ _ _ _ rp (PostS.weak h s)
  | bk sl' cs' => exact h
  | ct sl' cs' => exact h
  | ex e sl' cs' => exact h
  | rt s cs' => exact h
  | bad => exact h
/-- the end of the state behind a return -/
theorem Rep.out (r : Rep Γ.K Γ.mg F ρ sl cs σ H) : Out Γ.K Γ.mg F ρ cs H := by
  have hs : Sub (vis F ρ sl σ H) (hide (fun a => F.hx a ∨ a ∈ ρ) H) := hide_sub fun a o hn e => ⟨fun z => hn (z.imp id Or.inl), e⟩
  exact ⟨⟨r.cells.len, fun n c a e1 e2 => (r.cells.at_ n c a e1 e2).mono hs (fun _ _ z => z) rfl⟩, r.nd, r.pre, r.keep⟩
theorem relF_of {Hs : Hp} {s : Slot} {u : V} (r : Rep Γ.K Γ.mg F ρ sl cs σ H) (h : relO Γ F sl σ Hs ρ H cs s u) : relF Γ.K Γ.mg F.hx F.H0 ρ H cs s u := by
  cases s with
  | fr v => exact AtV.mono (hide_sub fun a o hn e => ⟨fun z => hn (z.imp id Or.inl), e⟩) (fun _ _ z => z) h
  | ow x =>
    obtain ⟨p, rfl, hp, r2, o⟩ := h
    obtain ⟨f1, f2, f3⟩ := r2.fresh hide_self
    have hs : Sub (vis F ρ sl σ (hide (· = p) H)) (hide (fun a => a = p ∨ F.hx a ∨ a ∈ ρ) H) := hide_sub fun a o hn e => ⟨fun z => z.elim (ne_hid e) fun z => hn (z.imp id Or.inl), hide_le _ _ e⟩
    refine ⟨p, rfl, f1, f2, o.mono hs rfl, r2.cells.len, fun n c a e1 e2 => ?_⟩
    have q := r2.cells.at_ n c a e1 e2
    obtain ⟨w, ew⟩ := q.there
    exact q.mono hs (fun _ _ z => z) (hide_ne (ne_hid ew)).symm
variable {st : Stmt} {rest : List Stmt} {f g : SS} {pos : Pos} {e : Expr}
def sNil : SS := fun sl cs => .nx sl cs
def sSeq (f g : SS) : SS := fun sl cs => (f sl cs).seq g
theorem dss_nil : DSs Γ [] sNil := ⟨fun _ => tNext, fun X W _ _ => pss_nil, fun W F ρ sl cs σ H D r h => h σ H ρ r fun _ _ z => z⟩
theorem dss_cons (h1 : DS Γ st f) (h2 : DSs Γ rest g) : DSs Γ (st :: rest) (sSeq f g) := by
  obtain ⟨t, p, q⟩ := h1.ex
  obtain ⟨u, p2, q2⟩ := h2.ex
  refine ⟨fun W => tSeq (t W) (u W), fun X W ok gd => pss_cons (p X W ok gd) (p2 X W ok gd), fun W F ρ sl cs σ H D r h => ?_⟩
  exact q W F ρ sl cs σ H _ r (PostS.seq h fun sl1 cs1 σ1 H1 ρ1 r1 h1 => q2 W F ρ1 sl1 cs1 σ1 H1 D r1 h1)
theorem dss_one (h1 : DS Γ st f) : DSs Γ [st] f := by
  obtain ⟨t, p, q⟩ := h1.ex
  exact ⟨t, fun X W ok gd => pss_one (p X W ok gd), q⟩
/-- pass, break, continue -/
theorem ds_pass : DS Γ (.Pass pos) sNil := ⟨fun _ => tNext, fun X W _ _ => ps_pass, fun W F ρ sl cs σ H D r h => h σ H ρ r fun _ _ z => z⟩
theorem ds_break : DS Γ (.Break pos) (fun sl cs => .bk sl cs) := ⟨fun _ => tBreak, fun X W _ _ => ps_break, fun W F ρ sl cs σ H D r h => h σ H ρ r fun _ _ z => z⟩
theorem ds_continue : DS Γ (.Continue pos) (fun sl cs => .ct sl cs) := ⟨fun _ => tCont, fun X W _ _ => ps_continue, fun W F ρ sl cs σ H D r h => h σ H ρ r fun _ _ z => z⟩
/-- return -/
def sRet (f : SO) : SS := fun sl cs => (f sl cs).go sl fun s cs1 => .rt s cs1
theorem ds_ret {f : SO} (h : DO Γ e f) : DS Γ (.Return (some e) pos) (sRet f) := by
  obtain ⟨t, p, q⟩ := h.ex
  refine ⟨fun W => tRet (t W), fun X W ok gd => ps_ret (p X W ok gd), fun W F ρ sl cs σ H D r h => ?_⟩
  refine q W F ρ sl cs σ H _ r (PostG.mono (PostS.go h r) fun u H1 ⟨x, cs1, ρ1, r1, g1, a1, h1⟩ => ?_)
  exact h1 u H1 ρ1 r1.out (relF_of r1 a1)
def sRetN : SS := fun _ cs => .rt (.fr (.d .none)) cs
theorem ds_retN : DS Γ (.Return none pos) sRetN := ⟨fun _ => tRetN, fun X W _ _ => ps_retN, fun W F ρ sl cs σ H D r h => h .non H ρ r.out (at_non (K := Γ.K) (G := hide (fun a => F.hx a ∨ a ∈ ρ) H))⟩
/-- return x, x a slot that owns -/
def sRetV (i : Nat) : SS := fun sl cs => match sl[i]? with
  | some (some s) => .rt s cs
  | _ => .bad
theorem ds_retV (i : Nat) {x : Str} {p : Pos} (hN : Γ.N[i]? = some x := by rfl) (hv : Vis Γ.sc x := by first | exact Or.inl rfl | exact Or.inr (Or.inl rfl) | exact Or.inr (Or.inr rfl)) (hd : (x == ("__debug__" : Str)) = false := by decide)
    (hcd : (x == ("__classdict__" : Str)) = false := by decide) : DS Γ (.Return (some (.Name x p)) pos) (sRetV i) := by
  refine ⟨fun _ => tRet (tVar i), fun X W ok _ => ps_ret (pe_var (by rw [ok.N]; exact hN) (by rw [ok.sc]; exact hv) hd hcd), fun W F ρ sl cs σ H D r h => ?_⟩
  unfold sRetV at h
  split at h
  · rename_i s e
    obtain ⟨u, e2, q⟩ := r.slot i _ e
    refine ⟨u, e2, h u H ρ r.out ?_⟩
    cases s with
    | fr v => exact AtV.mono (hide_sub fun a o hn e => ⟨fun z => hn (z.imp id Or.inl), e⟩) (fun _ _ z => z) q
    | ow x =>
      obtain ⟨a, rfl, q⟩ := q
      have ow : Own sl σ a := ⟨i, x, e, e2⟩
      obtain ⟨f1, f2⟩ := r.fr a ow
      have hs : Sub (vis F ρ sl σ H) (hide (fun b => b = a ∨ F.hx b ∨ b ∈ ρ) H) := hide_sub fun b o hn e => ⟨fun z => z.elim (fun z => hn (.inr (.inr (by rw [z]; exact ow)))) fun z => hn (z.imp id Or.inl), e⟩
      exact ⟨a, rfl, f1, f2, q.mono hs rfl, r.cells.len, fun n c b e1 e2 => (r.cells.at_ n c b e1 e2).mono hs (fun _ _ z => z) rfl⟩
  · exact h.elim
/-- an expression whose value is dropped -/
def sExpr (f : SE) : SS := fun sl cs => (f sl cs).go sl fun _ cs1 => .nx sl cs1
theorem ds_expr {f : SE} (h : DE Γ e f) (hs : ∀ env, swapsWith e none pos.line env = pure false := by intro _; rfl) : DS Γ (.Expr e pos) (sExpr f) := by
  obtain ⟨t, p, q⟩ := h.ex
  refine ⟨fun W => tDrop (t W), fun X W ok gd => ps_expr (p X W ok gd) (hs _), fun W F ρ sl cs σ H D r h => ?_⟩
  refine q W F ρ sl cs σ H _ r (PostG.mono (PostS.go h r) fun u H1 ⟨x, cs1, ρ1, r1, g1, a1, h1⟩ => ?_)
  exact h1 σ H1 ρ1 r1 (g1.vis r)
/-- x = e -/
def sSet (i : Nat) (f : SO) : SS := fun sl cs => (f sl cs).go sl fun s cs1 => .nx (sl.set i (some s)) cs1
theorem set_post {Hs : Hp} {i : Nat} {s : Slot} {u : V} (r : Rep Γ.K Γ.mg F ρ sl cs σ H) (r1 : Rep Γ.K Γ.mg F ρ1 sl cs1 σ H1) (g1 : Grow ρ H ρ1 H1) (a1 : relO Γ F sl σ H ρ1 H1 cs1 s u) (h : PostS Γ F ρ sl σ H W (.nx (sl.set i (some s)) cs1) D) : D.nx (σ.set i (some u)) H1 := by
  cases s with
  | fr v =>
    obtain ⟨r2, hs⟩ := r1.setFr (i := i) a1
    exact h _ _ ρ1 r2 fun a o e => hs a o (g1.vis r a o e)
  | ow x =>
    obtain ⟨p, rfl, hp, r2, o⟩ := a1
    obtain ⟨r3, hs⟩ := r2.setOw (i := i) o
    have g2 : Grow ρ H ρ1 (hide (· = p) H1) := ⟨fun a u e hn => by rw [hide_ne (ne_of_none e hp)]; exact g1.keep a u e hn, g1.ext⟩
    exact h _ _ ρ1 r3 fun a o e => hs a o (g2.vis r a o e)
theorem ds_set (i : Nat) {x : Str} {p : Pos} {f : SO} (h : DO Γ e f) (hnd : Γ.N.Nodup) (hN : Γ.N[i]? = some x := by rfl) (hx : Loc Γ.sc x := by first | exact Or.inl rfl | exact Or.inr rfl) (hst : Γ.st x = true := by rfl) (hs : ∀ env, swapsWith e (some (.Name x p)) pos.line env = pure false := by intro _; rfl) :
    DS Γ (.Assign [.Name x p] e pos) (sSet i f) := by
  obtain ⟨t, p1, q⟩ := h.ex
  refine ⟨fun W => tAsg (t W) (gName i), fun X W ok gd => ps_set (by rw [ok.N]; exact hnd) (by rw [ok.N]; exact hN) (by rw [ok.sc]; exact hx) (p1 X W ok gd) (hs _) (by rw [ok.sc]; exact ok.fn x hst), fun W F ρ sl cs σ H D r h => ?_⟩
  refine q W F ρ sl cs σ H _ r (PostG.mono (PostS.go h r) fun u H1 ⟨x, cs1, ρ1, r1, g1, a1, h1⟩ => ?_)
  exact set_post (Hs := H) r r1 g1 a1 h1
/-- if -/
def sIf (t : ST) (f g : SS) : SS := fun sl cs => (t sl cs).go sl fun k cs1 => if k = true then f sl cs1 else g sl cs1
theorem ds_if {c : Expr} {a b : List Stmt} {tt : ST} (hc : DT Γ c tt) (ha : DSs Γ a f) (hb : DSs Γ b g) : DS Γ (.If c a b pos) (sIf tt f g) := by
  obtain ⟨t, p, q⟩ := hc.ex
  obtain ⟨u1, p1, q1⟩ := ha.ex
  obtain ⟨u2, p2, q2⟩ := hb.ex
  refine ⟨fun W => tIfS (t W) (u1 W) (u2 W), fun X W ok gd => ps_if (p X W ok gd) (p1 X W ok gd) (p2 X W ok gd), fun W F ρ sl cs σ H D r h => ?_⟩
  refine q W F ρ sl cs σ H _ r (PostG.mono (PostS.go h r) fun k H1 ⟨x, cs1, ρ1, r1, g1, a1, h1⟩ => ?_)
  have e : x = k := a1
  subst e
  have h1 := h1.weak (g1.vis r)
  cases x with
  | true => rw [if_pos rfl] at h1 ⊢; exact q1 W F ρ1 sl cs1 σ H1 D r1 h1
  | false => rw [if_neg (by decide)] at h1 ⊢; exact q2 W F ρ1 sl cs1 σ H1 D r1 h1
/-- a slot that owns is frozen: nothing is done -/
def sFz (i : Nat) : SS := fun sl cs => match sl[i]? with
  | some (some s) => .nx (sl.set i (some (.fr (fz s)))) cs
  | _ => .bad
theorem Rep.freeze {i : Nat} {x : PyData} (r : Rep Γ.K Γ.mg F ρ sl cs σ H) (e : sl[i]? = some (some (.ow x))) : Rep Γ.K Γ.mg F ρ (sl.set i (some (.fr (.d x)))) cs σ H ∧ Sub (vis F ρ sl σ H) (vis F ρ (sl.set i (some (.fr (.d x)))) σ H) := by
  obtain ⟨u, e2, a, rfl, q⟩ := r.slot i _ e
  have hσ : σ.set i (some (.ref a)) = σ := by
    obtain ⟨hl, e3⟩ := List.getElem?_eq_some_iff.mp e2
    apply List.ext_getElem?
    intro j
    by_cases hj : i = j
    · subst hj
      rw [List.getElem?_set_self hl, e2]
    · rw [List.getElem?_set_ne hj]
  have ow : Own sl σ a := ⟨i, x, e, e2⟩
  have back : ∀ b, Own (sl.set i (some (.fr (.d x)))) σ b → Own sl σ b := fun b z => own_setFr (v := .d x) (u := some (.ref a)) (by rw [hσ]; exact z)
  have hs : Sub (vis F ρ sl σ H) (vis F ρ (sl.set i (some (.fr (.d x)))) σ H) := hide_sub fun b o hn e => ⟨fun z => hn (z.imp id (Or.imp id (back b))), e⟩
  have nh : ¬ Hid F ρ (sl.set i (some (.fr (.d x)))) σ a := fun z => by
    obtain ⟨f1, f2⟩ := r.fr a ow
    rcases z with z | z | ⟨j, y, z1, z2⟩
    · obtain ⟨o, eo⟩ := F.hxt a z
      rw [f1] at eo; cases eo
    · exact f2 z
    · rcases set_get z1 with ⟨_, _, w⟩ | ⟨hj, z1⟩
      · cases w
      · exact hj (r.inj j i y x a z1 e z2 e2)
  refine ⟨⟨by simpa using r.len, ⟨r.cells.len, fun n c b e1 e2 => (r.cells.at_ n c b e1 e2).mono hs (fun _ _ z => z) rfl⟩, r.nd, r.pre, fun b z => r.fr b (back b z), fun j k y y' b e1 e2 e3 e4 => ?_, r.keep, fun j s e1 => ?_⟩, hs⟩
  · rcases set_get e1 with ⟨_, _, z⟩ | ⟨hj, e1⟩
    · cases z
    · rcases set_get e2 with ⟨_, _, z⟩ | ⟨hk, e2⟩
      · cases z
      · exact r.inj j k y y' b e1 e2 e3 e4
  · rcases set_get e1 with ⟨rfl, _, z⟩ | ⟨hj, e1⟩
    · cases z
      refine ⟨.ref a, e2, ?_⟩
      show AtD Γ.K _ x (.ref a)
      cases x with
      | list xs =>
        obtain ⟨vs, e, l⟩ := q
        exact at_list_iff.mpr ⟨a, vs, rfl, hide_iff.mpr ⟨nh, e⟩, AtL.mono hs _ _ l⟩
      | dict kvs =>
        rcases q with ⟨kv, e, l⟩ | ⟨kv, ne, e, l⟩
        · exact at_dict_iff.mpr ⟨a, rfl, .inl ⟨kv, hide_iff.mpr ⟨nh, e⟩, AtP.mono hs _ _ l⟩⟩
        · exact at_dict_iff.mpr ⟨a, rfl, .inr ⟨kv, ne, hide_iff.mpr ⟨nh, e⟩, AtQ.mono hs _ _ l⟩⟩
      | _ => exact q.elim
    · obtain ⟨w, e3, q⟩ := r.slot j s e1
      refine ⟨w, e3, ?_⟩
      cases s with
      | fr y => exact AtV.mono hs (fun _ _ z => z) q
      | ow y => obtain ⟨b, rfl, q⟩ := q; exact ⟨b, rfl, q.mono hs rfl⟩
theorem set_self {i : Nat} {s : Slot} (e : sl[i]? = some (some s)) : sl.set i (some s) = sl := by
  obtain ⟨hl, e3⟩ := List.getElem?_eq_some_iff.mp e
  apply List.ext_getElem?
  intro j
  by_cases hj : i = j
  · subst hj
    rw [List.getElem?_set_self hl, e]
  · rw [List.getElem?_set_ne hj]
/-- ahead of statements -/
theorem dss_fz (i : Nat) {sts : List Stmt} (h : DSs Γ sts f) : DSs Γ sts (sSeq (sFz i) f) := by
  obtain ⟨t, p, q⟩ := h.ex
  refine ⟨t, p, fun W F ρ sl cs σ H D r h => ?_⟩
  unfold sSeq sFz at h
  split at h
  · rename_i s e
    rw [RS.seq_nx] at h
    cases s with
    | fr v =>
      rw [show (some (Slot.fr (fz (.fr v))) : Option Slot) = some (.fr v) from rfl, set_self e] at h
      exact q W F ρ sl cs σ H D r h
    | ow x =>
      obtain ⟨r2, hs⟩ := r.freeze e
      exact q W F ρ _ cs σ H D r2 (h.weak hs)
  · exact h.elim
end
end DL
end
section
set_option Elab.async false
set_option linter.all false
set_option maxRecDepth 100000
set_option autoImplicit false
namespace DL
open PySem PySem.Spec PyProof.Rows L2
/-! ### a, b = a list -/
section
variable {prog : Program} {w : World} {A : Around} {E : Value → Shared → Prop} {s : Shared}
theorem draw_list {it t : Addr} {items : Array Value} (hne : t ≠ it) : ∀ (n i : Nat) (s : Shared) (Q : List Value → Shared → Prop), s.heap.IsListIter it t i → s.heap.IsList t items → i + n ≤ items.size →
    (∀ h' : Heap, h'.IsListIter it t (i + n) → Heap.SameBut it s.heap h' → Q ((items.toList.drop i).take n) { s with heap := h' }) → wpAny (model prog w) A (draw (.ref it) n) Q E s
  | 0, i, s, Q, hit, _, _, hQ => by
    show wpAny _ _ (pure []) Q E s
    exact wpAny_pure (by simpa using hQ s.heap hit (Heap.SameBut.refl ..))
  | n + 1, i, s, Q, hit, ht, hle, hQ => by
    have hlt : i < items.size := by omega
    show wpAny _ _ (pyNext (.ref it) >>= _) Q E s
    refine wpAny_bind (wpAny_pyNext_list_item hit ht (x := items[i]) (by simp [hlt]) fun h₁ hit₁ hs₁ => ?_)
    refine wpAny_bind (wpAny_holding (draw_list hne n (i + 1) _ _ hit₁ (ht.extBut hs₁.extBut hne) (by omega) fun h₂ hit₂ hs₂ => wpAny_pure ?_))
    have hd : items.toList.drop i = items[i] :: items.toList.drop (i + 1) := by simp [List.drop_eq_getElem_cons, hlt]
    have := hQ h₂ (by rw [show i + (n + 1) = i + 1 + n by omega]; exact hit₂) (hs₁.trans hs₂)
    rw [hd, List.take_succ_cons] at this
    exact this
theorem unpackItems_list {t : Addr} {items : Array Value} {Q : List Value → Shared → Prop} (hh : A.handled = none) (ht : s.heap.IsList t items)
    (hQ : ∀ h', Heap.ExtBut s.heap.objs.size s.heap h' → Q items.toList { s with heap := h' }) : wpAny (model prog w) A (unpackItems (.ref t) items.size none) Q E s := by
  have hlt : t ≠ s.heap.objs.size := by obtain ⟨o, ho, _⟩ := ht; exact Nat.ne_of_lt (Heap.lt_size ho)
  unfold unpackItems
  refine wpAny_bind ?_
  unfold notIterableAtAll
  refine wpAny_bind (wpAny_specialOf ht.typeIs slot_list_iter.lookup ?_)
  refine wpAny_pure ?_
  simp only [Bool.false_eq_true, if_false]
  refine wpAny_bind (wpAny_holding (wpAny_pyIter_list ht ?_))
  refine wpAny_bind (wpAny_holding (draw_list hlt items.size 0 _ _ ⟨_, Heap.get?_push_size _ rfl, rfl, rfl⟩ (ht.push _) (by omega) fun h₁ hit₁ hs₁ => ?_))
  have hall : List.take items.size (List.drop 0 items.toList) = items.toList := by
    rw [List.drop_zero]; exact List.take_of_length_le (by simp)
  rw [hall]
  rw [if_neg (by simp)]
  have ht₁ : Heap.IsList h₁ t items := (ht.push _).extBut hs₁.extBut hlt
  refine wpAny_bind (wpAny_holding (wpAny_pyNext_list_end hh hit₁ ht₁ (by simp) fun h₂ he₂ => ?_))
  simp only [Option.isSome_none, Bool.false_eq_true, if_false]
  refine wpAny_pure (hQ h₂ fun b o hb e => he₂ b o hb (hs₁.extBut b o hb (Heap.get?_push_of_some _ e)))
theorem unpack_list {t : Addr} {items : Array Value} {targets : List (Bool × (Value → Sem Unit))} {Q : Unit → Shared → Prop} (hh : A.handled = none) (ht : s.heap.IsList t items)
    (hn : targets.length = items.size) (hstar : targets.findIdx? (·.1) = none)
    (h : ∀ h', Heap.ExtBut s.heap.objs.size s.heap h' → wpAny (model prog w) A (assignInOrder (targets.map (·.2)) items.toList) Q E { s with heap := h' }) :
    wpAny (model prog w) A (unpack (.ref t) targets) Q E s := by
  unfold unpack
  rw [hn, hstar]
  exact wpAny_bind (wpAny_holding (unpackItems_list hh ht h))
theorem assign_Tuple_list {env : Env} {elts : List Expr} {x1} {pos : Pos} {t : Addr} {items : Array Value} {Q : Unit → Shared → Prop} (hh : A.handled = none) (ht : s.heap.IsList t items)
    (hn : (assignEach elts env).length = items.size) (hstar : (assignEach elts env).findIdx? (·.1) = none)
    (h : ∀ h', Heap.ExtBut s.heap.objs.size s.heap h' → wpAny (model prog w) A (assignInOrder ((assignEach elts env).map (·.2)) items.toList) Q E { s with heap := h' }) :
    wpAny (model prog w) A (assign (.Tuple elts x1 pos) env (.ref t)) Q E s := by
  rw [assign_Tuple]
  exact wpAny_bind (wpAny_standAt (unpack_list hh ht hn hstar h))
end
section
variable {X : Cx} {pos : Pos}
def gLs (K : PySem.W.Frag) (n : Nat) (t : TGs) : TG := fun v σ H Q => ∃ a xs, v = .ref a ∧ SqL K H a xs ∧ xs.length = n ∧ t xs σ H Q
theorem pg_lst {es : List Expr} {k : Nat} {t : TGs} {n : Nat} (hc : X.calm = true) (h : PGs X es t)
    (hn : (assignEach es X.env).length = n := by rfl) (hst : (assignEach es X.env).findIdx? (·.1) = none := by rfl) : PG X (.Tuple es k pos) (gLs X.K n t) := by
  refine ⟨fun pins s σ H v u Q I r hw => ?_⟩
  obtain ⟨a, xs, e1, hq, hl, hw⟩ := hw
  subst e1
  cases r
  obtain ⟨its, rv, ht, hz⟩ := I.list hq
  refine assign_Tuple_list (I.ok.hd hc) ht.isList (by simp [hn, ← hl, rv.length]) hst fun h' hx => ?_
  have I1 : Inv X pins σ H { s with heap := h' } := I.kept (t' := s.toks) fun b o e => hx b o (Nat.ne_of_lt (Heap.lt_size e)) e
  exact h.run pins _ σ H xs _ Q I1 (by simpa using rv) hw
theorem pg_or {tg : Expr} {t u : TG} (h : PG X tg t) (k : PG X tg u) : PG X tg fun v σ H Q => t v σ H Q ∨ u v σ H Q :=
  ⟨fun pins s σ H v w Q I r hw => hw.elim (h.run pins s σ H v w Q I r) (k.run pins s σ H v w Q I r)⟩
end
end DL
end
section
set_option Elab.async false
set_option linter.all false
set_option maxRecDepth 100000
set_option autoImplicit false
namespace DL
open PySem PySem.Spec PyProof.Rows L2

/-! ### targets -/
/-- what a target does to the slots: only those of ix change -/
structure DG (Γ : Cf) (tg : Expr) (ix : List Nat) (g : Val → Sl → Option Sl) : Prop where
  ex : ∃ t : TG, (∀ X, Γ.Ok X → PG X tg t) ∧ ∀ F ρ sl cs σ H x u Q sl', Rep Γ.K Γ.mg F ρ sl cs σ H → AtV Γ.K Γ.mg ρ (vis F ρ sl σ H) x u → g x sl = some sl' →
    (∀ σ', Rep Γ.K Γ.mg F ρ sl' cs σ' H → Sub (vis F ρ sl σ H) (vis F ρ sl' σ' H) → (∀ vs : List Nat, (∀ i ∈ ix, i ∈ vs) → wipe σ' vs = wipe σ vs) → Q σ' H) → t u σ H Q
def gNm (i : Nat) (x : Val) (sl : Sl) : Option Sl := some (sl.set i (some (.fr x)))
theorem wipe_set {σ : St} {u : Option V} : ∀ {vs : List Nat} {i : Nat}, i ∈ vs → wipe (σ.set i u) vs = wipe σ vs
  | [], _, h => by simp at h
  | v :: vs, i, h => by
    unfold wipe
    by_cases e : i ∈ vs
    · rw [wipe_set e]
    · have hv : i = v := by
        rcases List.mem_cons.mp h with z | z
        · exact z
        · exact absurd z e
      subst hv
      have hcomm : ∀ (ws : List Nat), i ∉ ws → wipe (σ.set i u) ws = (wipe σ ws).set i u := by
        intro ws
        induction ws with
        | nil => intro _; rfl
        | cons w ws ih =>
          intro hw
          unfold wipe
          rw [ih fun z => hw (List.mem_cons_of_mem _ z), List.set_comm _ _ (fun z => hw (by rw [z]; exact List.mem_cons_self))]
      rw [hcomm vs e, List.set_set]
section
variable {Γ : Cf} {pos : Pos}
theorem dg_name (i : Nat) {x : Str} (hnd : Γ.N.Nodup) (hN : Γ.N[i]? = some x := by rfl) (hx : Loc Γ.sc x := by first | exact Or.inl rfl | exact Or.inr rfl) (hst : Γ.st x = true := by rfl) : DG Γ (.Name x pos) [i] (gNm i) := by
  refine ⟨gName i, fun X ok => pg_name (by rw [ok.N]; exact hnd) (by rw [ok.N]; exact hN) (by rw [ok.sc]; exact hx) (by rw [ok.sc]; exact ok.fn x hst), fun F ρ sl cs σ H x u Q sl' r a e h => ?_⟩
  cases e
  obtain ⟨r2, hs⟩ := r.setFr (i := i) a
  exact h _ r2 hs fun vs hv => wipe_set (hv i (by simp))
/-- several -/
structure DGs (Γ : Cf) (tgs : List Expr) (ix : List Nat) (g : List PyData → Sl → Option Sl) : Prop where
  ex : ∃ t : TGs, (∀ X, Γ.Ok X → PGs X tgs t) ∧ ∀ F ρ sl cs σ H xs us Q sl', Rep Γ.K Γ.mg F ρ sl cs σ H → AtL Γ.K (vis F ρ sl σ H) xs us → g xs sl = some sl' →
    (∀ σ', Rep Γ.K Γ.mg F ρ sl' cs σ' H → Sub (vis F ρ sl σ H) (vis F ρ sl' σ' H) → (∀ vs : List Nat, (∀ i ∈ ix, i ∈ vs) → wipe σ' vs = wipe σ vs) → Q σ' H) → t us σ H Q
def gsNil (xs : List PyData) (sl : Sl) : Option Sl := match xs with
  | [] => some sl
  | _ => none
def gsCons (g : Val → Sl → Option Sl) (gs : List PyData → Sl → Option Sl) (xs : List PyData) (sl : Sl) : Option Sl := match xs with
  | x :: r => (g (.d x) sl).bind (gs r)
  | [] => none
theorem dgs_nil : DGs Γ [] [] gsNil := by
  refine ⟨gNil, fun X _ => pgs_nil, fun F ρ sl cs σ H xs us Q sl' r a e h => ?_⟩
  unfold gsNil at e
  split at e
  · cases e
    simp only [AtL] at a
    exact ⟨a, h σ r (fun _ _ z => z) fun _ _ => rfl⟩
  · cases e
theorem dgs_cons {e : Expr} {es : List Expr} {ix ixs : List Nat} {g : Val → Sl → Option Sl} {gs : List PyData → Sl → Option Sl} (h1 : DG Γ e ix g) (h2 : DGs Γ es ixs gs) (hs : ∀ env, (assignEach (e :: es) env).map (·.2) = assign e env :: (assignEach es env).map (·.2) := by intro _; rfl) :
    DGs Γ (e :: es) (ix ++ ixs) (gsCons g gs) := by
  obtain ⟨t, p, q⟩ := h1.ex
  obtain ⟨u, p2, q2⟩ := h2.ex
  refine ⟨gCons t u, fun X ok => pgs_cons (p X ok) (p2 X ok) (hs _), fun F ρ sl cs σ H xs us Q sl' r a e h => ?_⟩
  unfold gsCons at e
  split at e
  · rename_i x r'
    simp only [AtL] at a
    obtain ⟨v, t', rfl, a1, a2⟩ := a
    cases e1 : g (.d x) sl with
    | none => rw [e1] at e; cases e
    | some sl1 =>
      rw [e1] at e
      refine ⟨v, t', rfl, q F ρ sl cs σ H (.d x) v _ sl1 r a1 e1 fun σ1 r1 s1 w1 => ?_⟩
      refine q2 F ρ sl1 cs σ1 H r' t' Q sl' r1 (AtL.mono s1 _ _ a2) e fun σ2 r2 s2 w2 => h σ2 r2 (fun a o z => s2 a o (s1 a o z)) fun vs hv => ?_
      rw [w2 vs fun i hi => hv i (List.mem_append_right _ hi), w1 vs fun i hi => hv i (List.mem_append_left _ hi)]
  · cases e
def gTp (gs : List PyData → Sl → Option Sl) (x : Val) (sl : Sl) : Option Sl := match x with
  | .d (.tuple xs) => gs xs sl
  | .d (.list xs) => gs xs sl
  | _ => none
theorem dg_tup {es : List Expr} {k n : Nat} {ix : List Nat} {gs : List PyData → Sl → Option Sl} (hcm : Γ.cm = true) (h : DGs Γ es ix gs) (hl : ∀ xs sl sl', gs xs sl = some sl' → xs.length = n) (hn : ∀ env, (assignEach es env).length = n := by intro _; rfl)
    (hst : ∀ env, (assignEach es env).findIdx? (·.1) = none := by intro _; rfl) : DG Γ (.Tuple es k pos) ix (gTp gs) := by
  obtain ⟨t, p, q⟩ := h.ex
  refine ⟨fun v σ H Q => gTup Γ.K n t v σ H Q ∨ gLs Γ.K n t v σ H Q, fun X ok => by rw [← ok.K]; exact pg_or (pg_tup (ok.cm hcm).1 (p X ok) (hn _) (hst _)) (pg_lst (ok.cm hcm).1 (p X ok) (hn _) (hst _)), fun F ρ sl cs σ H x u Q sl' r a e h => ?_⟩
  unfold gTp at e
  split at e
  · rename_i xs
    obtain ⟨b, vs, rfl, s, l⟩ := at_tup_iff.mp (show AtD Γ.K (vis F ρ sl σ H) (.tuple xs) u from a)
    exact .inl ⟨b, vs, rfl, sqT_sub vis_le s, by rw [← l.length]; exact hl _ _ _ e, q F ρ sl cs σ H xs vs Q sl' r l e h⟩
  · rename_i xs
    obtain ⟨b, vs, rfl, s, l⟩ := at_list_iff.mp (show AtD Γ.K (vis F ρ sl σ H) (.list xs) u from a)
    exact .inr ⟨b, vs, rfl, SqL.of (vis_le _ _ s), by rw [← l.length]; exact hl _ _ _ e, q F ρ sl cs σ H xs vs Q sl' r l e h⟩
  · cases e
theorem gs_len0 : ∀ xs sl sl', gsNil xs sl = some sl' → xs.length = 0 := fun xs sl sl' e => by
  unfold gsNil at e
  split at e
  · rfl
  · cases e
theorem gs_lenS {n : Nat} {g : Val → Sl → Option Sl} {gs : List PyData → Sl → Option Sl} (h : ∀ xs sl sl', gs xs sl = some sl' → xs.length = n) : ∀ xs sl sl', gsCons g gs xs sl = some sl' → xs.length = n + 1 := fun xs sl sl' e => by
  unfold gsCons at e
  split at e
  · rename_i x r
    cases e1 : g (.d x) sl with
    | none => rw [e1] at e; cases e
    | some sl1 =>
      rw [e1] at e
      rw [List.length_cons, h _ _ _ e]
  · cases e
end

/-! ### what is walked -/
/-- J yields these items as long as what is seen stays seen -/
def relI (Γ : Cf) (F : Fx) (sl : Sl) (σ : St) (ρ : List Addr) (H : Hp) (_ : Cs) (xs : List Val) (J : It) : Prop :=
  ∀ (i : Nat) (F1 : Fx) (ρ1 : List Addr) (sl1 : Sl) (cs1 : Cs) (σ1 : St) (H1 H2 : Hp) (D : Addr → Prop), Rep Γ.K Γ.mg F1 ρ1 sl1 cs1 σ1 H1 → H1 = hide D H2 → (∀ a, D a → ∃ o, H2 a = some o) → Sub (vis F ρ sl σ H) (vis F1 ρ1 sl1 σ1 H1) →
    (xs.length ≤ i → J.stop i H2) ∧ ∀ x, xs[i]? = some x → J.go i H2 ∧ ∀ u H3, J.yld i H2 u H3 → ∃ H4, H4 = hide D H3 ∧ (∀ a, D a → H3 a = H2 a) ∧ Rep Γ.K Γ.mg F1 ρ1 sl1 cs1 σ1 H4 ∧ Grow ρ1 H1 ρ1 H4 ∧ AtV Γ.K Γ.mg ρ1 (vis F1 ρ1 sl1 σ1 H4) x u
structure DP (Γ : Cf) (tg iter : Expr) (f : SA) : Prop where
  ex : ∃ t : WX → TI, (∀ X W, Γ.Ok X → Good X W → PI X tg iter (t W)) ∧ ∀ W F ρ sl cs σ H R, Rep Γ.K Γ.mg F ρ sl cs σ H → PostG Γ F ρ sl σ H W (relI Γ F sl σ) (f sl cs) R → t W σ H R
section
variable {Γ : Cf} {pos p : Pos} {e e2 tg : Expr} {f g : SE}
theorem PI.or {X : Cx} {tg iter : Expr} {w1 w2 : TI} (h1 : PI X tg iter w1) (h2 : PI X tg iter w2) : PI X tg iter (fun σ H R => w1 σ H R ∨ w2 σ H R) :=
  ⟨fun pins s σ H R I h => h.elim (h1.run pins s σ H R I) (h2.run pins s σ H R I)⟩
def seqV (x : Val) (cs : Cs) : R (List Val) := match x with
  | .d (.list xs) => .ok (xs.map Val.d) cs
  | .d (.tuple xs) => .ok (xs.map Val.d) cs
  | .lk xs => .ok (xs.map Val.d) cs
  | .d (.str z) => .ok (z.cps.toList.map fun c => .d (.str ⟨#[c]⟩)) cs
  | _ => .bad
def pSeq (f : SE) : SA := fun sl cs => (f sl cs).bind seqV
theorem get_map {xs : List PyData} {i : Nat} {x : Val} (h : (xs.map Val.d)[i]? = some x) : ∃ y, x = .d y ∧ xs[i]? = some y := by
  rw [List.getElem?_map] at h
  cases e : xs[i]? with
  | none => rw [e] at h; cases h
  | some y => rw [e] at h; cases h; exact ⟨y, rfl, rfl⟩
theorem sqL_inj {K : PySem.W.Frag} {H : Hp} {a : Addr} {xs : List V} (h : H a = some (.lst xs)) {ys : List V} (h2 : Rd H a (.lst ys)) : xs = ys := by
  rcases h2 with q | ⟨o, q⟩
  · rw [h] at q; cases q; rfl
  · rw [h] at q; cases q
/-- the heap behind a turn that changes nothing -/
theorem rel_still {K : PySem.W.Frag} {mg : Str → Option Value} {F1 : Fx} {ρ1 : List Addr} {sl1 : Sl} {cs1 : Cs} {σ1 : St} {H1 H2 : Hp} {D : Addr → Prop} {x : Val} {u : V} (r : Rep K mg F1 ρ1 sl1 cs1 σ1 H1) (e : H1 = hide D H2) (h : AtV K mg ρ1 (vis F1 ρ1 sl1 σ1 H1) x u) :
    ∃ H4, H4 = hide D H2 ∧ (∀ a, D a → H2 a = H2 a) ∧ Rep K mg F1 ρ1 sl1 cs1 σ1 H4 ∧ Grow ρ1 H1 ρ1 H4 ∧ AtV K mg ρ1 (vis F1 ρ1 sl1 σ1 H4) x u := ⟨H1, e, fun _ _ => rfl, r, Grow.refl, h⟩
theorem hide_le' {D : Addr → Prop} {H1 H2 : Hp} (e : H1 = hide D H2) : Sub H1 H2 := by rw [e]; exact hide_le
theorem dp_seq (h : DE Γ e f) : DP Γ tg e (pSeq f) := by
  obtain ⟨t, p, q⟩ := h.ex
  refine ⟨fun W σ H R => iList Γ.K (t W) σ H R ∨ iTup Γ.K (t W) σ H R ∨ iStr (t W) σ H R, fun X W ok gd => ?_, fun W F ρ sl cs σ H R rp h => ?_⟩
  · rw [← ok.K]
    exact PI.or (pi_list (p X W ok gd)) (PI.or (pi_tup (p X W ok gd)) (pi_str (p X W ok gd)))
  · unfold pSeq at h
    cases ef : f sl cs with
    | bad => rw [ef] at h; exact h.elim
    | ex x cs1 =>
      rw [ef] at h
      exact .inl (q W F ρ sl cs σ H _ rp (by rw [ef]; exact h))
    | ok x cs1 =>
      rw [ef, DL.R.bind_ok] at h
      have go : ∀ {xs : List PyData} {Q : VK}, (∀ u H1 ρ1, Rep Γ.K Γ.mg F ρ1 sl cs1 σ H1 → Grow ρ H ρ1 H1 → AtT Γ.K Γ.mg ρ1 H1 (vis F ρ1 sl σ H1) x u → Q u H1) → t W σ H Q := fun {xs Q} k => q W F ρ sl cs σ H Q rp (by rw [ef]; exact fun u H1 ρ1 r1 g1 a1 => k u H1 ρ1 r1 g1 a1)
      have list : ∀ {xs : List PyData} {H1 : Hp} {ρ1 : List Addr} {a : Addr} {vs : List V}, SqL Γ.K (vis F ρ1 sl σ H1) a vs → AtL Γ.K (vis F ρ1 sl σ H1) xs vs → relI Γ F sl σ ρ1 H1 cs1 (xs.map Val.d) (Itl Γ.K a) := by
        intro xs H1 ρ1 a vs s l i F1 ρ2 sl1 cs2 σ1 H2 H3 D r1 eD hD sub
        have s2 : SqL Γ.K H3 a vs := sqL_sub (hide_le' eD) (sqL_sub vis_le (sqL_sub sub s))
        refine ⟨fun hi => ⟨vs, s2, by rw [← l.length]; simpa using hi⟩, fun y hy => ?_⟩
        obtain ⟨d, rfl, ed⟩ := get_map hy
        obtain ⟨v, ev, av⟩ := l.get ed
        refine ⟨⟨vs, v, s2, ev⟩, fun u H4 hu => ?_⟩
        obtain ⟨rfl, hu⟩ := hu
        have e2 := hu vs s2
        rw [ev] at e2
        cases e2
        exact rel_still (x := .d d) r1 eD (AtD.mono sub d v av)
      unfold seqV at h
      split at h
      · rename_i xs
        refine .inl (go (xs := xs) fun u H1 ρ1 r1 g1 a1 => ?_)
        obtain ⟨a, vs, rfl, s, l⟩ := at_list_iff.mp a1.d
        exact ⟨a, rfl, ⟨vs, SqL.of (vis_le _ _ s)⟩, h _ H1 ρ1 r1 g1 (list (SqL.of s) l)⟩
      · rename_i xs
        refine .inr (.inl (go (xs := xs) fun u H1 ρ1 r1 g1 a1 => ?_))
        obtain ⟨a, vs, rfl, s, l⟩ := AtT.tup a1
        refine ⟨a, rfl, ⟨vs, sqT_sub vis_le s⟩, h _ H1 ρ1 r1 g1 ?_⟩
        intro i F1 ρ2 sl1 cs2 σ1 H2 H3 D r2 eD hD sub
        have s2 : SqT Γ.K H3 a vs := sqT_sub (hide_le' eD) (sqT_sub vis_le (sqT_sub sub s))
        refine ⟨fun hi => ⟨vs, s2, by rw [← l.length]; simpa using hi⟩, fun y hy => ?_⟩
        obtain ⟨d, rfl, ed⟩ := get_map hy
        obtain ⟨v, ev, av⟩ := l.get ed
        refine ⟨⟨vs, v, s2, ev⟩, fun u H4 hu => ?_⟩
        obtain ⟨rfl, hu⟩ := hu
        have e2 := hu vs s2
        rw [ev] at e2
        cases e2
        exact rel_still (x := .d d) r2 eD (AtD.mono sub d v av)
      · rename_i xs
        refine .inl (go (xs := xs) fun u H1 ρ1 r1 g1 a1 => ?_)
        obtain ⟨a, vs, rfl, s, l⟩ : ∃ p vs, u = .ref p ∧ SqL Γ.K (vis F ρ1 sl σ H1) p vs ∧ AtL Γ.K (vis F ρ1 sl σ H1) xs vs := a1
        exact ⟨a, rfl, ⟨vs, sqL_sub vis_le s⟩, h _ H1 ρ1 r1 g1 (list s l)⟩
      · rename_i z
        refine .inr (.inr (go (xs := []) fun u H1 ρ1 r1 g1 a1 => ?_))
        refine ⟨z, AtT.str a1, h _ H1 ρ1 r1 g1 ?_⟩
        intro i F1 ρ2 sl1 cs2 σ1 H2 H3 D r2 eD hD sub
        refine ⟨fun hi => (by simpa using hi : z.cps.size ≤ i), fun y hy => ?_⟩
        rw [List.getElem?_map] at hy
        cases ec : z.cps.toList[i]? with
        | none => rw [ec] at hy; cases hy
        | some c =>
          rw [ec] at hy
          cases hy
          have ec' : z.cps[i]? = some c := by rw [← Array.getElem?_toList]; exact ec
          refine ⟨(Array.getElem?_eq_some_iff.mp ec').1, fun u H4 hu => ?_⟩
          obtain ⟨rfl, c2, e2, rfl⟩ := hu
          rw [ec'] at e2
          cases e2
          exact rel_still (x := .d (.str ⟨#[c]⟩)) r2 eD (at_str (K := Γ.K) (G := vis F1 ρ2 sl1 σ1 H2))
      · exact h.elim
/-- range -/
def rangeL (lo : Int) (n : Nat) : List Val := (List.range n).map fun i => .d (.int (lo + (i : Nat)))
theorem range_rel {F : Fx} {ρ : List Addr} {sl : Sl} {σ : St} {H : Hp} {cs : Cs} {lo : Int} {n : Nat} : relI Γ F sl σ ρ H cs (rangeL lo n) (Itr lo n) := by
  intro i F1 ρ2 sl1 cs2 σ1 H2 H3 D r1 eD hD sub
  refine ⟨fun hi => (by simpa [rangeL] using hi : n ≤ i), fun y hy => ?_⟩
  unfold rangeL at hy
  rw [List.getElem?_map] at hy
  by_cases hi : i < n
  · rw [List.getElem?_range hi] at hy
    cases hy
    refine ⟨hi, fun u H4 hu => ?_⟩
    obtain ⟨rfl, rfl⟩ := hu
    exact rel_still (x := .d _) r1 eD (at_int (K := Γ.K) (G := vis F1 ρ2 sl1 σ1 H2))
  · rw [List.getElem?_eq_none (by simpa using hi)] at hy
    cases hy
def inB (i : Int) : Bool := decide (-(2 ^ 62) ≤ i) && decide (i < 2 ^ 62)
theorem inB_of {i : Int} (h : inB i = true) : -(2 ^ 62) ≤ i ∧ i < 2 ^ 62 := by
  unfold inB at h
  simp only [Bool.and_eq_true, decide_eq_true_eq] at h
  exact h
def rangeV1 (xs : List Val) (cs : Cs) : R (List Val) := match xs with
  | [.d (.int n)] => if inB n = true then .ok (rangeL 0 n.toNat) cs else .bad
  | _ => .bad
def rangeV2 (xs : List Val) (cs : Cs) : R (List Val) := match xs with
  | [.d (.int a), .d (.int b)] => if inB a = true ∧ inB b = true then .ok (rangeL a (b - a).toNat) cs else .bad
  | _ => .bad
def pRange1 (g : SA) : SA := fun sl cs => (g sl cs).bind rangeV1
def pRange2 (g : SA) : SA := fun sl cs => (g sl cs).bind rangeV2
theorem dp_range1 {g : SA} (hm : Γ.mg "range" = none) (ha : DB Γ [e] g) (hg : Gls Γ.sc "range" := by rfl) (hs : ∀ env, starEach [e] env = [(false, eval e env)] := by intro _; rfl) : DP Γ tg (.Call (.Name "range" p) [e] [] pos) (pRange1 g) := by
  obtain ⟨t, p1, q⟩ := ha.ex
  refine ⟨fun W => iRng1 (t W), fun X W ok gd => pi_range1 (gl_of ok hg) (by rw [ok.mg]; exact hm) (p1 X W ok gd) (hs _), fun W F ρ sl cs σ H R rp h => ?_⟩
  refine q W F ρ sl cs σ H _ rp (PostG.mono (PostG.bind (rel := relTs Γ F sl σ) h) fun us H1 ⟨xs, cs1, ρ1, r1, g1, a1, h1⟩ => ?_)
  unfold rangeV1 at h1
  split at h1
  · rename_i n
    split at h1
    · rename_i hb
      obtain ⟨u, rfl, q1⟩ := one_of a1
      obtain ⟨b1, b2⟩ := inB_of hb
      exact ⟨n, by rw [AtT.int q1], b1, b2, h1 _ H1 ρ1 r1 Grow.refl range_rel⟩
    · exact h1.elim
  · exact h1.elim
theorem dp_range2 {g : SA} (hm : Γ.mg "range" = none) (ha : DB Γ [e, e2] g) (hg : Gls Γ.sc "range" := by rfl) (hs : ∀ env, starEach [e, e2] env = [(false, eval e env), (false, eval e2 env)] := by intro _; rfl) (hs2 : ∀ env, starEach [e2] env = [(false, eval e2 env)] := by intro _; rfl) :
    DP Γ tg (.Call (.Name "range" p) [e, e2] [] pos) (pRange2 g) := by
  obtain ⟨t, p1, q⟩ := ha.ex
  refine ⟨fun W => iRng2 (t W), fun X W ok gd => pi_range2 (gl_of ok hg) (by rw [ok.mg]; exact hm) (p1 X W ok gd) (hs _) (hs2 _), fun W F ρ sl cs σ H R rp h => ?_⟩
  refine q W F ρ sl cs σ H _ rp (PostG.mono (PostG.bind (rel := relTs Γ F sl σ) h) fun us H1 ⟨xs, cs1, ρ1, r1, g1, a1, h1⟩ => ?_)
  unfold rangeV2 at h1
  split at h1
  · rename_i a b
    split at h1
    · rename_i hb
      obtain ⟨u, v, rfl, q1, q2⟩ := two_of a1
      obtain ⟨b1, b2⟩ := inB_of hb.1
      obtain ⟨b3, b4⟩ := inB_of hb.2
      exact ⟨a, b, by rw [AtT.int q1, AtT.int q2], ⟨b1, b2, b3, b4⟩, h1 _ H1 ρ1 r1 Grow.refl range_rel⟩
    · exact h1.elim
  · exact h1.elim
/-- a turn that lays a pair -/
theorem rel_pair {K : PySem.W.Frag} {mg : Str → Option Value} {F1 : Fx} {ρ1 : List Addr} {sl1 : Sl} {cs1 : Cs} {σ1 : St} {H1 H2 : Hp} {D : Addr → Prop} {xs : List PyData} {us : List V} {T : Addr} (r : Rep K mg F1 ρ1 sl1 cs1 σ1 H1) (e : H1 = hide D H2) (hD : ∀ a, D a → ∃ o, H2 a = some o) (hT : H2 T = none)
    (h : AtL K (vis F1 ρ1 sl1 σ1 H1) xs us) : ∃ H4, H4 = hide D (upd H2 T (.tup us)) ∧ (∀ a, D a → upd H2 T (.tup us) a = H2 a) ∧ Rep K mg F1 ρ1 sl1 cs1 σ1 H4 ∧ Grow ρ1 H1 ρ1 H4 ∧ AtV K mg ρ1 (vis F1 ρ1 sl1 σ1 H4) (.d (.tuple xs)) (.ref T) := by
  have nD : ¬ D T := fun z => by
    obtain ⟨o, eo⟩ := hD T z
    rw [hT] at eo; cases eo
  have ne : ∀ a, D a → a ≠ T := fun a z q => nD (by rw [← q]; exact z)
  have e1 : H1 T = none := by
    rw [e]
    unfold hide
    rw [if_neg nD, hT]
  have e2 : upd H1 T (.tup us) = hide D (upd H2 T (.tup us)) := by
    funext a
    by_cases ha : a = T
    · subst ha
      unfold hide
      rw [upd_same, if_neg nD, upd_same]
    · rw [upd_ne ha, e]
      unfold hide
      by_cases hd : D a
      · rw [if_pos hd, if_pos hd]
      · rw [if_neg hd, if_neg hd, upd_ne ha]
  obtain ⟨r2, hv⟩ := r.alloc e1 (.tup us)
  refine ⟨_, e2, fun a z => upd_ne (ne a z), r2, Grow.upd e1, at_tup_iff.mpr ⟨T, us, rfl, SqT.of hv, AtL.mono ((Grow.upd e1).vis r) _ _ h⟩⟩
/-- enumerate(list) -/
def enumFrom (n : Nat) : List PyData → List Val
  | [] => []
  | x :: r => .d (.tuple [.int n, x]) :: enumFrom (n + 1) r
theorem enum_get : ∀ {xs : List PyData} {n i : Nat} {y : Val}, (enumFrom n xs)[i]? = some y → ∃ x, xs[i]? = some x ∧ y = .d (.tuple [.int ((n + i : Nat) : Int), x])
  | [], _, _, _, h => by simp [enumFrom] at h
  | x :: r, n, 0, y, h => by
    simp [enumFrom] at h
    exact ⟨x, rfl, h.symm⟩
  | x :: r, n, i + 1, y, h => by
    simp only [enumFrom, List.getElem?_cons_succ] at h
    obtain ⟨z, e1, e2⟩ := enum_get h
    refine ⟨z, by simpa using e1, ?_⟩
    rw [e2, show n + 1 + i = n + (i + 1) by omega]
theorem enum_len : ∀ {xs : List PyData} {n : Nat}, (enumFrom n xs).length = xs.length
  | [], _ => rfl
  | x :: r, n => by simp [enumFrom, enum_len (xs := r)]
def enumV (xs : List Val) (cs : Cs) : R (List Val) := match xs with
  | [.d (.list l)] => .ok (enumFrom 0 l) cs
  | _ => .bad
def pEnum (g : SA) : SA := fun sl cs => (g sl cs).bind enumV
theorem dp_enum {g : SA} {elts : List Expr} {kk : Nat} {tpos : Pos} (hm : Γ.mg "enumerate" = none) (ha : DB Γ [e] g) (hg : Gls Γ.sc "enumerate" := by rfl) (hs : ∀ env, starEach [e] env = [(false, eval e env)] := by intro _; rfl) :
    DP Γ (.Tuple elts kk tpos) (.Call (.Name "enumerate" p) [e] [] pos) (pEnum g) := by
  obtain ⟨t, p1, q⟩ := ha.ex
  refine ⟨fun W => iEnum Γ.K (t W), fun X W ok gd => by rw [← ok.K]; exact pi_enum (gl_of ok hg) (by rw [ok.mg]; exact hm) (p1 X W ok gd) (hs _), fun W F ρ sl cs σ H R rp h => ?_⟩
  refine q W F ρ sl cs σ H _ rp (PostG.mono (PostG.bind (rel := relTs Γ F sl σ) h) fun us H1 ⟨xs, cs1, ρ1, r1, g1, a1, h1⟩ => ?_)
  unfold enumV at h1
  split at h1
  · rename_i l
    obtain ⟨u, rfl, q1⟩ := one_of a1
    obtain ⟨a, vs, rfl, s, ll⟩ := at_list_iff.mp q1.d
    refine ⟨a, vs, rfl, SqL.of (vis_le _ _ s), h1 _ H1 ρ1 r1 Grow.refl ?_⟩
    intro i F1 ρ2 sl1 cs2 σ1 H2 H3 D r2 eD hD sub
    have s2 : SqL Γ.K H3 a vs := SqL.of (hide_le' eD _ _ (vis_le _ _ (sub _ _ s)))
    refine ⟨fun hi => ⟨vs, s2, by rw [← ll.length, ← enum_len (n := 0)]; exact hi⟩, fun y hy => ?_⟩
    obtain ⟨d, ed, rfl⟩ := enum_get hy
    obtain ⟨v, ev, av⟩ := ll.get ed
    refine ⟨⟨vs, v, s2, ev⟩, fun u H4 hu => ?_⟩
    obtain ⟨T, x, rfl, hT, rfl, hu⟩ := hu
    have e2 := hu vs s2
    rw [ev] at e2
    cases e2
    exact rel_pair r2 eD hD hT (AtL.cons (by rw [Nat.zero_add]; exact at_int) (AtL.cons (AtD.mono sub d v av) AtL.nil))
  · exact h1.elim
/-- zip of two lists, of two tuples -/
def zipL : List PyData → List PyData → List Val
  | x :: xs, y :: ys => .d (.tuple [x, y]) :: zipL xs ys
  | _, _ => []
theorem zip_get : ∀ {xs ys : List PyData} {i : Nat} {z : Val}, (zipL xs ys)[i]? = some z → ∃ x y, xs[i]? = some x ∧ ys[i]? = some y ∧ z = .d (.tuple [x, y])
  | [], _, _, _, h => by simp [zipL] at h
  | _ :: _, [], _, _, h => by simp [zipL] at h
  | x :: xs, y :: ys, 0, z, h => by simp [zipL] at h; exact ⟨x, y, rfl, rfl, h.symm⟩
  | x :: xs, y :: ys, i + 1, z, h => by
    simp only [zipL, List.getElem?_cons_succ] at h
    obtain ⟨a, b, e1, e2, e3⟩ := zip_get h
    exact ⟨a, b, by simpa using e1, by simpa using e2, e3⟩
theorem zip_len : ∀ {xs ys : List PyData}, (zipL xs ys).length = min xs.length ys.length
  | [], _ => by simp [zipL]
  | _ :: _, [] => by simp [zipL]
  | x :: xs, y :: ys => by simp only [zipL, List.length_cons, zip_len (xs := xs)]; omega
def zipV (xs : List Val) (cs : Cs) : R (List Val) := match xs with
  | [.d (.list a), .d (.list b)] => .ok (zipL a b) cs
  | [.d (.tuple a), .d (.tuple b)] => .ok (zipL a b) cs
  | _ => .bad
def pZip (g : SA) : SA := fun sl cs => (g sl cs).bind zipV
theorem dp_zip {g : SA} {elts : List Expr} {kk : Nat} {tpos : Pos} (hm : Γ.mg "zip" = none) (ha : DB Γ [e, e2] g) (hg : Gls Γ.sc "zip" := by rfl) (hs : ∀ env, starEach [e, e2] env = (false, eval e env) :: starEach [e2] env := by intro _; rfl) (hpl : ∀ env, (backTo pos (starEach [e2] env)).any (·.1) = false := by intro _; rfl) :
    DP Γ (.Tuple elts kk tpos) (.Call (.Name "zip" p) [e, e2] [] pos) (pZip g) := by
  obtain ⟨t, p1, q⟩ := ha.ex
  refine ⟨fun W => RZ.iZipA Γ.K (t W), fun X W ok gd => by rw [← ok.K]; exact RZ.pi_zipA (gl_of ok hg) (by rw [ok.mg]; exact hm) (p1 X W ok gd) (hs _) (hpl _), fun W F ρ sl cs σ H R rp h => ?_⟩
  refine q W F ρ sl cs σ H _ rp (PostG.mono (PostG.bind (rel := relTs Γ F sl σ) h) fun us H1 ⟨xs, cs1, ρ1, r1, g1, a1, h1⟩ => ?_)
  unfold zipV at h1
  split at h1
  · rename_i l m
    obtain ⟨u, u2, rfl, q1, q2⟩ := two_of a1
    obtain ⟨a, vs, rfl, s, ll⟩ := at_list_iff.mp q1.d
    obtain ⟨b, ws, rfl, s', mm⟩ := at_list_iff.mp q2.d
    refine ⟨a, b, vs, ws, rfl, .inl ⟨SqL.of (vis_le _ _ s), SqL.of (vis_le _ _ s'), h1 _ H1 ρ1 r1 Grow.refl ?_⟩⟩
    intro i F1 ρ2 sl1 cs2 σ1 H2 H3 D r2 eD hD sub
    have s2 : SqL Γ.K H3 a vs := SqL.of (hide_le' eD _ _ (vis_le _ _ (sub _ _ s)))
    have s3 : SqL Γ.K H3 b ws := SqL.of (hide_le' eD _ _ (vis_le _ _ (sub _ _ s')))
    refine ⟨fun hi => ⟨vs, ws, s2, s3, by rw [← ll.length, ← mm.length]; rw [zip_len] at hi; omega⟩, fun y hy => ?_⟩
    obtain ⟨d, d2, ed, ed2, rfl⟩ := zip_get hy
    obtain ⟨v, ev, av⟩ := ll.get ed
    obtain ⟨v2, ev2, av2⟩ := mm.get ed2
    refine ⟨⟨vs, ws, v, v2, s2, s3, ev, ev2⟩, fun u H4 hu => ?_⟩
    obtain ⟨T, x, x2, rfl, hT, rfl, hu, hu2⟩ := hu
    have e2 := hu vs s2
    have e3 := hu2 ws s3
    rw [ev] at e2
    rw [ev2] at e3
    cases e2
    cases e3
    exact rel_pair r2 eD hD hT (AtL.cons (AtD.mono sub d v av) (AtL.cons (AtD.mono sub d2 v2 av2) AtL.nil))
  · rename_i l m
    obtain ⟨u, u2, rfl, q1, q2⟩ := two_of a1
    obtain ⟨a, vs, rfl, s, ll⟩ := AtT.tup q1
    obtain ⟨b, ws, rfl, s', mm⟩ := AtT.tup q2
    refine ⟨a, b, vs, ws, rfl, .inr ⟨sqT_sub vis_le s, sqT_sub vis_le s', h1 _ H1 ρ1 r1 Grow.refl ?_⟩⟩
    intro i F1 ρ2 sl1 cs2 σ1 H2 H3 D r2 eD hD sub
    have s2 : SqT Γ.K H3 a vs := sqT_sub (hide_le' eD) (sqT_sub vis_le (sqT_sub sub s))
    have s3 : SqT Γ.K H3 b ws := sqT_sub (hide_le' eD) (sqT_sub vis_le (sqT_sub sub s'))
    refine ⟨fun hi => ⟨vs, ws, s2, s3, by rw [← ll.length, ← mm.length]; rw [zip_len] at hi; omega⟩, fun y hy => ?_⟩
    obtain ⟨d, d2, ed, ed2, rfl⟩ := zip_get hy
    obtain ⟨v, ev, av⟩ := ll.get ed
    obtain ⟨v2, ev2, av2⟩ := mm.get ed2
    refine ⟨⟨vs, ws, v, v2, s2, s3, ev, ev2⟩, fun u H4 hu => ?_⟩
    obtain ⟨T, x, x2, rfl, hT, rfl, hu, hu2⟩ := hu
    have e2 := hu vs s2
    have e3 := hu2 ws s3
    rw [ev] at e2
    rw [ev2] at e3
    cases e2
    cases e3
    exact rel_pair r2 eD hD hT (AtL.cons (AtD.mono sub d v av) (AtL.cons (AtD.mono sub d2 v2 av2) AtL.nil))
  · exact h1.elim
end

/-! ### loops -/
def forL (g : Val → Sl → Option Sl) (body : SS) : List Val → SS
  | [], sl, cs => .nx sl cs
  | x :: xs, sl, cs => match g x sl with
    | none => .bad
    | some sl1 => match body sl1 cs with
      | .nx sl2 cs2 => forL g body xs sl2 cs2
      | .ct sl2 cs2 => forL g body xs sl2 cs2
      | .bk sl2 cs2 => .nx sl2 cs2
      | r => r
def sFor (it : SA) (g : Val → Sl → Option Sl) (body : SS) : SS := fun sl cs => (it sl cs).go sl fun xs cs1 => forL g body xs sl cs1
section
variable {Γ : Cf} {pos : Pos} {tg iter c : Expr} {body : List Stmt} {f : SS}
theorem ds_for {ix : List Nat} {it : SA} {g : Val → Sl → Option Sl} (hcm : Γ.cm = true) (hi : DP Γ tg iter it) (hg : DG Γ tg ix g) (hb : DSs Γ body f) (hs : ∀ env x, foldedSetIterable iter env x = pure x := by intro _ _; rfl) : DS Γ (.For tg iter body [] pos) (sFor it g f) := by
  obtain ⟨t, p, q⟩ := hi.ex
  obtain ⟨tg', pg, qg⟩ := hg.ex
  obtain ⟨tb, pb, qb⟩ := hb.ex
  refine ⟨fun W => tFor (t W) tg' (tb W), fun X W ok gd => ps_for gd.po (ok.cm hcm).1 (p X W ok gd) (pg X ok) (pb X W ok gd) (hs _), fun W F ρ sl cs σ H D r h => ?_⟩
  refine q W F ρ sl cs σ H _ r (PostG.mono (PostS.go h r) fun J H1 ⟨xs, cs1, ρ1, r1, g1, a1, h1⟩ => ?_)
  have h1 := h1.weak (g1.vis r)
  refine ⟨fun i m σ2 H2 => m = xs.length - i ∧ ∃ sl2 cs2 ρ2, Rep Γ.K Γ.mg F ρ2 sl2 cs2 σ2 H2 ∧ Sub (vis F ρ1 sl σ H1) (vis F ρ2 sl2 σ2 H2) ∧ PostS Γ F ρ2 sl2 σ2 H2 W (forL g f (xs.drop i) sl2 cs2) D, ⟨_, rfl, sl, cs1, ρ1, r1, fun _ _ z => z, h1⟩, ?_⟩
  rintro i m σ2 H2 ⟨rfl, sl2, cs2, ρ2, r2, sub2, h2⟩
  have hide0 : H2 = hide (fun _ => False) H2 := by funext a; unfold hide; rw [if_neg id]
  obtain ⟨st, it⟩ := a1 i F ρ2 sl2 cs2 σ2 H2 H2 (fun _ => False) r2 hide0 (fun _ z => z.elim) sub2
  by_cases hlt : i < xs.length
  · obtain ⟨go, yl⟩ := it xs[i] (List.getElem?_eq_getElem hlt)
    refine .inr ⟨go, fun σ' H' => ∃ sl2 cs2 ρ2, Rep Γ.K Γ.mg F ρ2 sl2 cs2 σ' H' ∧ Sub (vis F ρ1 sl σ H1) (vis F ρ2 sl2 σ' H') ∧ PostS Γ F ρ2 sl2 σ' H' W (forL g f (xs.drop (i + 1)) sl2 cs2) D, fun σ' H' hN => ⟨xs.length - (i + 1), by omega, rfl, hN⟩, fun u H3 hy => ?_⟩
    obtain ⟨H4, e4, _, r4, g4, a4⟩ := yl u H3 hy
    have e5 : H4 = H3 := by rw [e4]; funext a; unfold hide; rw [if_neg id]
    subst e5
    rw [List.drop_eq_getElem_cons hlt] at h2
    unfold forL at h2
    cases eg : g xs[i] sl2 with
    | none => rw [eg] at h2; exact h2.elim
    | some sl3 =>
      rw [eg] at h2
      dsimp only at h2
      have sub4 := g4.vis r2
      refine qg F ρ2 sl2 cs2 σ2 H4 xs[i] u _ sl3 r4 a4 eg fun σ5 r5 sub5 _ => ?_
      have sub6 : Sub (vis F ρ2 sl2 σ2 H2) (vis F ρ2 sl3 σ5 H4) := fun a o z => sub5 a o (sub4 a o z)
      refine qb W F ρ2 sl3 cs2 σ5 H4 _ r5 ?_
      have h2 := h2.weak sub6
      have hN : ∀ {sl' : Sl} {cs' : Cs}, PostS Γ F ρ2 sl3 σ5 H4 W (forL g f (xs.drop (i + 1)) sl' cs') D → ∀ σ' H' ρ', Rep Γ.K Γ.mg F ρ' sl' cs' σ' H' → Sub (vis F ρ2 sl3 σ5 H4) (vis F ρ' sl' σ' H') →
          ∃ sl2 cs2 ρ2, Rep Γ.K Γ.mg F ρ2 sl2 cs2 σ' H' ∧ Sub (vis F ρ1 sl σ H1) (vis F ρ2 sl2 σ' H') ∧ PostS Γ F ρ2 sl2 σ' H' W (forL g f (xs.drop (i + 1)) sl2 cs2) D :=
        fun {sl' cs'} hh σ' H' ρ' rp s => ⟨sl', cs', ρ', rp, fun a o z => s a o (sub6 a o (sub2 a o z)), hh.weak s⟩
      cases eb : f sl3 cs2 with
      | nx sl' cs' => rw [eb] at h2; exact hN h2
      | ct sl' cs' => rw [eb] at h2; exact hN h2
      | bk sl' cs' => rw [eb] at h2; exact h2
      | rt s cs' => rw [eb] at h2; exact h2
      | ex e sl' cs' => rw [eb] at h2; exact h2
      | bad => rw [eb] at h2; exact h2
  · rw [List.drop_eq_nil_of_le (by omega)] at h2
    exact .inl ⟨st (by omega), h2 σ2 H2 ρ2 r2 fun _ _ z => z⟩
/-- while, n turns at most -/
def whileN (t : ST) (body : SS) : Nat → SS
  | 0, _, _ => .bad
  | n + 1, sl, cs => (t sl cs).go sl fun k cs1 => if k = true then (match body sl cs1 with
      | .nx sl2 cs2 => whileN t body n sl2 cs2
      | .ct sl2 cs2 => whileN t body n sl2 cs2
      | .bk sl2 cs2 => .nx sl2 cs2
      | r => r) else .nx sl cs1
open Classical in
/-- the first number of turns that is enough -/
noncomputable def sWhile (t : ST) (body : SS) : SS := fun sl cs => if h : ∃ n, whileN t body n sl cs ≠ .bad then whileN t body (choose h) sl cs else .bad
theorem ds_while {tt : ST} (hc : DT Γ c tt) (hb : DSs Γ body f) : DS Γ (.While c body [] pos) (sWhile tt f) := by
  obtain ⟨tc, pc, qc⟩ := hc.ex
  obtain ⟨tb, pb, qb⟩ := hb.ex
  refine ⟨fun W => tWhile (tc W) (tb W), fun X W ok gd => ps_while gd.po (pc X W ok gd) (pb X W ok gd), fun W F ρ sl cs σ H D r h => ?_⟩
  obtain ⟨n, hn⟩ : ∃ n, PostS Γ F ρ sl σ H W (whileN tt f n sl cs) D := by
    unfold sWhile at h
    split at h
    · exact ⟨_, h⟩
    · exact h.elim
  refine ⟨fun m σ2 H2 => ∃ sl2 cs2 ρ2, Rep Γ.K Γ.mg F ρ2 sl2 cs2 σ2 H2 ∧ PostS Γ F ρ2 sl2 σ2 H2 W (whileN tt f m sl2 cs2) D, ⟨n, sl, cs, ρ, r, hn⟩, ?_⟩
  rintro m σ2 H2 ⟨sl2, cs2, ρ2, r2, h2⟩
  cases m with
  | zero => exact h2.elim
  | succ m =>
    unfold whileN at h2
    refine qc W F ρ2 sl2 cs2 σ2 H2 _ r2 (PostG.mono (PostS.go h2 r2) fun k H3 ⟨x, cs3, ρ3, r3, g3, a3, h3⟩ => ?_)
    have e : x = k := a3
    subst e
    have h3 := h3.weak (g3.vis r2)
    cases x with
    | false =>
      rw [if_neg (by decide)] at h3 ⊢
      exact h3 σ2 H3 ρ3 r3 fun _ _ z => z
    | true =>
      rw [if_pos rfl] at h3 ⊢
      refine ⟨fun σ' H' => ∃ sl2 cs2 ρ2, Rep Γ.K Γ.mg F ρ2 sl2 cs2 σ' H' ∧ PostS Γ F ρ2 sl2 σ' H' W (whileN tt f m sl2 cs2) D, fun σ' H' hN => ⟨m, Nat.lt_succ_self m, hN⟩, ?_⟩
      refine qb W F ρ3 sl2 cs3 σ2 H3 _ r3 ?_
      cases eb : f sl2 cs3 with
      | nx sl' cs' => rw [eb] at h3; exact fun σ' H' ρ' rp s => ⟨sl', cs', ρ', rp, h3.weak s⟩
      | ct sl' cs' => rw [eb] at h3; exact fun σ' H' ρ' rp s => ⟨sl', cs', ρ', rp, h3.weak s⟩
      | bk sl' cs' => rw [eb] at h3; exact h3
      | rt s cs' => rw [eb] at h3; exact h3
      | ex e sl' cs' => rw [eb] at h3; exact h3
      | bad => rw [eb] at h3; exact h3
/-- what a while comes to, by one turn -/
theorem whileN_mono {t : ST} {body : SS} : ∀ {n : Nat} {sl : Sl} {cs : Cs}, whileN t body n sl cs ≠ .bad → whileN t body (n + 1) sl cs = whileN t body n sl cs
  | 0, _, _, h => absurd rfl h
  | n + 1, sl, cs, h => by
    have ih := fun sl cs => whileN_mono (t := t) (body := body) (n := n) (sl := sl) (cs := cs)
    rw [whileN] at h ⊢
    rw [whileN]
    cases et : t sl cs with
    | bad => rfl
    | ex e c => rfl
    | ok k cs1 =>
      rw [et] at h
      simp only [R.go_ok] at h ⊢
      cases k with
      | false => rfl
      | true =>
        simp only [if_true] at h ⊢
        cases eb : body sl cs1 with
        | nx sl2 cs2 => rw [eb] at h; exact ih sl2 cs2 h
        | ct sl2 cs2 => rw [eb] at h; exact ih sl2 cs2 h
        | bk sl2 cs2 => rfl
        | rt s c => rfl
        | ex e s c => rfl
        | bad => rfl
theorem whileN_le {t : ST} {body : SS} {n : Nat} {sl : Sl} {cs : Cs} (h : whileN t body n sl cs ≠ .bad) : ∀ k, whileN t body (n + k) sl cs = whileN t body n sl cs
  | 0 => rfl
  | k + 1 => by
    have e := whileN_le h k
    rw [← Nat.add_assoc, whileN_mono (by rw [e]; exact h), e]
theorem sWhile_of {t : ST} {body : SS} {n : Nat} {sl : Sl} {cs : Cs} (h : whileN t body n sl cs ≠ .bad) : sWhile t body sl cs = whileN t body n sl cs := by
  have ex : ∃ n, whileN t body n sl cs ≠ .bad := ⟨n, h⟩
  unfold sWhile
  rw [dif_pos ex]
  have hc := Classical.choose_spec ex
  rcases Nat.le_total n (Classical.choose ex) with hl | hl
  · obtain ⟨k, e⟩ := Nat.le.dest hl
    rw [← e, whileN_le h k]
  · obtain ⟨k, e⟩ := Nat.le.dest hl
    rw [← e, whileN_le hc k]
end
end DL
end
section
set_option Elab.async false
set_option linter.all false
set_option maxRecDepth 100000
set_option autoImplicit false
namespace DL
open PySem PySem.Spec PyProof.Rows L2

/-! ### a comprehension's block -/
def Cf.blk (Γ : Cf) (scope : Scope) : Cf := { Γ with sc := relS scope Γ.sc, tp := false, st := fun x => match scope.names.lookup x with
  | some .local => true
  | some .cell => true
  | _ => false }
theorem blk_ok {Γ : Cf} {X : Cx} {scope : Scope} (ok : Γ.Ok X) (s : Shared) (H : Hp) (C : Addr) (cl : List (Str × Addr)) (fp : List Addr) : (Γ.blk scope).Ok (X.blk s H scope (compEnvC scope cl C X.env) fp) := by
  refine ⟨ok.K, ok.mg, ok.P, ok.w, ok.base, ok.N, ?_, ok.cm, ok.un, fun h => (by cases h), fun x hx => ?_⟩
  · show relS scope X.env.scope = relS scope Γ.sc
    rw [ok.sc]
  · unfold Cf.blk at hx
    dsimp only at hx
    split at hx
    · rename_i e
      exact .inr (lookup_relS_keep (by decide) e)
    · rename_i e
      refine .inl ?_
      show (scope.names.lookup x == some NameKind.cell) = true
      rw [e]
      rfl
    · cases hx
abbrev W0 : WX := fun _ _ _ _ => False
theorem blk_good {X : Cx} {scope : Scope} (s : Shared) (H : Hp) (C : Addr) (cl : List (Str × Addr)) (fp : List Addr) : Good (X.blk s H scope (compEnvC scope cl C X.env) fp) W0 := ⟨takes0, PassesOwn.never⟩
def wipeS (sl : Sl) : List Nat → Sl
  | [] => sl
  | v :: vs => (wipeS sl vs).set v none
def unOwn : Option Slot → Option Slot
  | some (.ow _) => none
  | s => s
def blkSl (sl : Sl) (vs : List Nat) : Sl := (wipeS sl vs).map unOwn
theorem wipeS_length (sl : Sl) : ∀ vs : List Nat, (wipeS sl vs).length = sl.length
  | [] => rfl
  | v :: vs => by unfold wipeS; rw [List.length_set, wipeS_length sl vs]
theorem wipeS_get {sl : Sl} {i : Nat} {s : Slot} : ∀ {vs : List Nat}, (wipeS sl vs)[i]? = some (some s) → sl[i]? = some (some s) ∧ i ∉ vs
  | [], h => ⟨h, by simp⟩
  | v :: vs, h => by
    unfold wipeS at h
    rcases set_get h with ⟨_, _, z⟩ | ⟨hi, h⟩
    · cases z
    · obtain ⟨h1, h2⟩ := wipeS_get h
      exact ⟨h1, fun z => (List.mem_cons.mp z).elim (fun e => hi e) h2⟩
theorem blkSl_get {sl : Sl} {i : Nat} {s : Slot} {vs : List Nat} (h : (blkSl sl vs)[i]? = some (some s)) : ∃ v, s = .fr v ∧ sl[i]? = some (some (.fr v)) ∧ i ∉ vs := by
  unfold blkSl at h
  rw [List.getElem?_map] at h
  cases e : (wipeS sl vs)[i]? with
  | none => rw [e] at h; cases h
  | some o =>
    rw [e] at h
    cases o with
    | none => cases h
    | some s' =>
      cases s' with
      | ow x => cases h
      | fr v =>
        cases h
        obtain ⟨h1, h2⟩ := wipeS_get e
        exact ⟨v, rfl, h1, h2⟩
theorem wipe_at {σ : St} {i : Nat} : ∀ {vs : List Nat}, i ∉ vs → (wipe σ vs)[i]? = σ[i]?
  | [], _ => rfl
  | v :: vs, h => by
    unfold wipe
    rw [List.getElem?_set_ne fun e => h (by rw [e]; exact List.mem_cons_self), wipe_at fun z => h (List.mem_cons_of_mem _ z)]
theorem wipe_wipe {σ : St} : ∀ {vs ws : List Nat}, (∀ i ∈ vs, i ∈ ws) → wipe (wipe σ vs) ws = wipe σ ws
  | [], _, _ => rfl
  | v :: vs, ws, h => by
    show wipe ((wipe σ vs).set v none) ws = _
    rw [wipe_set (h v List.mem_cons_self), wipe_wipe fun i hi => h i (List.mem_cons_of_mem _ hi)]
/-- the frame of a turn: D, the list that grows, and all that the def owns are hidden -/
def subF (F : Fx) (ρ : List Addr) (sl : Sl) (σ : St) (H : Hp) (D : Addr) (h : ∀ a, (a = D ∨ F.hx a ∨ Own sl σ a) → ∃ o, H a = some o) : Fx := ⟨fun a => a = D ∨ F.hx a ∨ Own sl σ a, H, ρ, h⟩
section
variable {K : PySem.W.Frag} {mg : Str → Option Value} {F : Fx} {ρ ρ' : List Addr} {sl slB : Sl} {cs cs' : Cs} {σ σB : St} {H H' : Hp} {D : Addr}
theorem hx_there (r : Rep K mg F ρ sl cs σ H) {a : Addr} (h : F.hx a) : ∃ o, H a = some o := by
  obtain ⟨o, e⟩ := F.hxt a h
  by_cases hm : a ∈ F.ρ0
  · obtain ⟨t, e2, _⟩ := r.pre
    exact r.cells.there (by rw [e2]; exact List.mem_append_left _ hm)
  · exact ⟨o, r.keep a o e hm⟩
theorem sub_there (r : Rep K mg F ρ sl cs σ (hide (· = D) H)) (hD : ∃ o, H D = some o) : ∀ a, (a = D ∨ F.hx a ∨ Own sl σ a) → ∃ o, H a = some o := fun a z => by
  rcases z with z | z | z
  · rw [z]; exact hD
  · obtain ⟨o, e⟩ := hx_there r z
    exact ⟨o, hide_le _ _ e⟩
  · obtain ⟨o, e⟩ := r.own_there z
    exact ⟨o, hide_le _ _ e⟩
theorem vis_sub {h : ∀ a, (a = D ∨ F.hx a ∨ Own sl σ a) → ∃ o, H' a = some o} : Sub (vis (subF F ρ' sl σ H' D h) ρ slB σB H) (vis F ρ sl σ (hide (· = D) H)) := by
  unfold vis
  rw [hide_hide]
  refine hide_sub fun a o hn e => ⟨fun z => hn ?_, e⟩
  rcases z with z | z | z | z
  · exact .inl (.inl z)
  · exact .inl (.inr (.inl z))
  · exact .inr (.inl z)
  · exact .inl (.inr (.inr z))
theorem vis_sub' {vs : List Nat} {h : ∀ a, (a = D ∨ F.hx a ∨ Own sl σ a) → ∃ o, H' a = some o} : Sub (vis F ρ sl σ (hide (· = D) H)) (vis (subF F ρ' sl σ H' D h) ρ (blkSl sl vs) (wipe σ vs) H) := by
  unfold vis
  rw [hide_hide]
  refine hide_sub fun a o hn e => ⟨fun z => hn ?_, e⟩
  rcases z with (z | z | z) | z | ⟨i, x, e1, e2⟩
  · exact .inl z
  · exact .inr (.inl z)
  · exact .inr (.inr (.inr z))
  · exact .inr (.inr (.inl z))
  · obtain ⟨v, e3, _⟩ := blkSl_get e1
    cases e3
theorem rep_blk (r : Rep K mg F ρ sl cs σ (hide (· = D) H)) (vs : List Nat) (h : ∀ a, (a = D ∨ F.hx a ∨ Own sl σ a) → ∃ o, H a = some o) : Rep K mg (subF F ρ sl σ H D h) ρ (blkSl sl vs) cs (wipe σ vs) H := by
  have hs : Sub (vis F ρ sl σ (hide (· = D) H)) (vis (subF F ρ sl σ H D h) ρ (blkSl sl vs) (wipe σ vs) H) := vis_sub'
  refine ⟨by unfold blkSl; rw [List.length_map, wipeS_length, wipe_length]; exact r.len, r.cells.unhide hs, r.nd, ⟨[], by simp [subF], fun _ z => by simp at z⟩, fun a z => ?_, fun i j x y a e1 => ?_, fun a o e _ => e, fun i s e => ?_⟩
  · obtain ⟨i, x, e1, _⟩ := z
    obtain ⟨v, e3, _⟩ := blkSl_get e1
    cases e3
  · obtain ⟨v, e3, _⟩ := blkSl_get e1
    cases e3
  · obtain ⟨v, rfl, e1, hi⟩ := blkSl_get e
    obtain ⟨u, e2, q⟩ := r.slot i _ e1
    exact ⟨u, by rw [wipe_at hi]; exact e2, AtV.mono (v := v) hs (fun _ _ z => z) q⟩
/-- back from a turn's part to the def's own state -/
theorem rep_back {h : ∀ a, (a = D ∨ F.hx a ∨ Own sl σ a) → ∃ o, H a = some o} (r : Rep K mg F ρ sl cs σ (hide (· = D) H)) (rb : Rep K mg (subF F ρ sl σ H D h) ρ' slB cs' σB H') (g : Grow ρ H ρ' H') :
    Rep K mg F ρ' sl cs' σ (hide (· = D) H') ∧ Grow ρ (hide (· = D) H) ρ' (hide (· = D) H') ∧ H' D = H D := by
  obtain ⟨f1, f2, f3⟩ := r.fresh hide_self
  have g2 : Grow ρ (hide (· = D) H) ρ' (hide (· = D) H') := by
    refine ⟨fun a o e hn => by rw [hide_ne (ne_hid e)]; exact g.keep a o (hide_le _ _ e) hn, ?_⟩
    obtain ⟨t, e, ht⟩ := g.ext
    refine ⟨t, e, fun a ha => ?_⟩
    cases q : hide (· = D) H a with
    | none => rfl
    | some o =>
      have z := hide_le _ _ q
      rw [ht a ha] at z
      cases z
  obtain ⟨o, eo⟩ := h D (.inl rfl)
  have eD := g.keep D o eo f2
  have nD : D ∉ ρ' := g.not_mem f2 eo
  refine ⟨r.grow g2 ⟨rb.cells.len, fun n c a e1 e2 => ?_⟩ rb.nd, g2, eD.trans eo.symm⟩
  exact (rb.cells.at_ n c a e1 e2).mono vis_sub (fun _ _ z => z) (hide_ne fun z => nD (by rw [← z]; exact List.mem_of_getElem? e2))
end
theorem hide_upd' {H : Hp} {p : Addr} {o : HO} : hide (· = p) (upd H p o) = hide (· = p) H := by
  funext a
  unfold hide
  by_cases h : a = p
  · rw [if_pos h, if_pos h]
  · rw [if_neg h, if_neg h, upd_ne h]
theorem R.bind_assoc {α β γ : Type} (r : R α) (k : α → Cs → R β) (m : β → Cs → R γ) : (r.bind k).bind m = r.bind fun a cs => (k a cs).bind m := by
  cases r <;> rfl

/-! ### list comprehensions -/
def noEx {α : Type} (r : R α) : R α := match r with
  | .ex _ _ => .bad
  | r => r
def lcL (g : Val → Sl → Option Sl) (tt : ST) (te : SE) (slB : Sl) : List Val → Cs → R (List PyData)
  | [], cs => .ok [] cs
  | x :: xs, cs => match g x slB with
    | none => .bad
    | some sl1 => (noEx (tt sl1 cs)).bind fun b cs1 => if b = true then (noEx (te sl1 cs1)).bind fun v cs2 => match v with
        | .d y => (lcL g tt te slB xs cs2).bind fun ys cs3 => .ok (y :: ys) cs3
        | _ => .bad
      else lcL g tt te slB xs cs1
def oLc (it : SA) (g : Val → Sl → Option Sl) (tt : ST) (te : SE) (vs : List Nat) : SO := fun sl cs => (it sl cs).bind fun xs cs1 => if xs.length ≤ 16777216 then (lcL g tt te (blkSl sl vs) xs cs1).bind fun ys cs2 => .ok (.ow (.list ys)) cs2 else .bad
structure DTs (Γ : Cf) (ifs : List Expr) (f : ST) : Prop where
  ex : ∃ t : WX → TT, (∀ X W, Γ.Ok X → Good X W → PTs X ifs (t W)) ∧ ∀ W F ρ sl cs σ H Q, Rep Γ.K Γ.mg F ρ sl cs σ H → PostG Γ F ρ sl σ H W relB (f sl cs) Q → t W σ H Q
def tTrue : ST := fun _ cs => .ok true cs
theorem dts_nil {Γ : Cf} : DTs Γ [] tTrue := ⟨fun _ => tYes, fun X W _ _ => pts_nil, fun W F ρ sl cs σ H Q r h => h true H ρ r Grow.refl rfl⟩
theorem dts_one {Γ : Cf} {c : Expr} {f : ST} (h : DT Γ c f) : DTs Γ [c] f := by
  obtain ⟨t, p, q⟩ := h.ex
  exact ⟨t, fun X W ok gd => pts_one (p X W ok gd), q⟩
section
variable {Γ : Cf}
/-- what follows in the turn, asked in the turn's frame -/
theorem post_noEx {α β γ δ : Type} {F F' : Fx} {ρ ρ' : List Addr} {sl sl' : Sl} {σ σ' : St} {H H' : Hp} {W : WX} {rel : List Addr → Hp → Cs → α → β → Prop} {rel' : List Addr → Hp → Cs → γ → δ → Prop} {r : R α} {k : α → Cs → R γ} {Q : δ → Hp → Prop} {Q' : β → Hp → Prop}
    (h : PostG Γ F' ρ' sl' σ' H' W rel' ((noEx r).bind k) Q) (hk : ∀ x cs1, r = .ok x cs1 → PostG Γ F' ρ' sl' σ' H' W rel' (k x cs1) Q → ∀ u H1 ρ1, Rep Γ.K Γ.mg F ρ1 sl cs1 σ H1 → Grow ρ H ρ1 H1 → rel ρ1 H1 cs1 x u → Q' u H1) : PostG Γ F ρ sl σ H W0 rel r Q' := by
  cases r with
  | ok x cs1 => exact hk x cs1 rfl h
  | ex e cs1 => exact h.elim
  | bad => exact h.elim
theorem lc_sem {F : Fx} {ρ ρ1 : List Addr} {sl : Sl} {cs cs1 : Cs} {σ : St} {H H1 : Hp} {W : WX} {Q : VK} {D : Addr} {ix vs : List Nat} {g : Val → Sl → Option Sl} {tt : ST} {te : SE} {scope : Scope} {tg' : TG} {tt' : WX → TT} {te' : WX → TE} {J : It} {xs : List Val}
    (qg : ∀ F ρ sl cs σ H x u Q sl', Rep Γ.K Γ.mg F ρ sl cs σ H → AtV Γ.K Γ.mg ρ (vis F ρ sl σ H) x u → g x sl = some sl' →
      (∀ σ', Rep Γ.K Γ.mg F ρ sl' cs σ' H → Sub (vis F ρ sl σ H) (vis F ρ sl' σ' H) → (∀ vs : List Nat, (∀ i ∈ ix, i ∈ vs) → wipe σ' vs = wipe σ vs) → Q σ' H) → tg' u σ H Q)
    (qt : ∀ W F ρ sl cs σ H Q, Rep Γ.K Γ.mg F ρ sl cs σ H → PostG (Γ.blk scope) F ρ sl σ H W relB (tt sl cs) Q → tt' W σ H Q)
    (qe : ∀ W F ρ sl cs σ H Q, Rep Γ.K Γ.mg F ρ sl cs σ H → PostG (Γ.blk scope) F ρ sl σ H W (relV (Γ.blk scope) F sl σ) (te sl cs) Q → te' W σ H Q)
    (hix : ∀ i ∈ ix, i ∈ vs) (r : Rep Γ.K Γ.mg F ρ sl cs σ H) (r1 : Rep Γ.K Γ.mg F ρ1 sl cs1 σ H1) (g1 : Grow ρ H ρ1 H1) (a1 : relI Γ F sl σ ρ1 H1 cs1 xs J) (hl : xs.length ≤ 16777216)
    (h1 : PostG Γ F ρ1 sl σ H1 W (relO Γ F sl σ H) ((lcL g tt te (blkSl sl vs) xs cs1).bind fun ys cs2 => .ok (.ow (.list ys)) cs2) Q) (hD : H1 D = none) :
    ∃ W : Nat → Nat → Hp → Prop, (∃ m, W 0 m (upd H1 D (.lst []))) ∧ ∀ i m H, W i m H → (J.stop i H ∧ Q (.ref D) H) ∨ (J.go i H ∧ ∃ Nx : Hp → Prop, (∀ H', Nx H' → ∃ m', m' < m ∧ W (i + 1) m' H') ∧ ∀ x H', J.yld i H x H' →
      tg' x (wipe σ vs) H' fun σ2 H2 => wipe σ2 vs = wipe σ vs ∧ tt' W0 σ2 H2 fun b H3 => if b = true then te' W0 σ2 H3 fun y H4 => ∃ acc, H4 D = some (.lst acc) ∧ acc.length < sizeLine ∧ Nx (upd H4 D (.lst (acc ++ [y]))) else Nx H3) := by
  refine ⟨fun i m H' => m = xs.length - i ∧ ∃ cs' ρ' acc accV, Rep Γ.K Γ.mg F ρ' sl cs' σ (hide (· = D) H') ∧ Grow ρ1 H1 ρ' (hide (· = D) H') ∧ H' D = some (.lst accV) ∧ AtL Γ.K (vis F ρ' sl σ (hide (· = D) H')) acc accV ∧ acc.length ≤ i ∧ i ≤ xs.length ∧
    PostG Γ F ρ1 sl σ H1 W (relO Γ F sl σ H) ((lcL g tt te (blkSl sl vs) (xs.drop i) cs').bind fun ys cs2 => .ok (.ow (.list (acc ++ ys))) cs2) Q, ⟨_, rfl, cs1, ρ1, [], [], ?_, ?_, upd_same, AtL.nil, Nat.le_refl _, Nat.zero_le _, ?_⟩, ?_⟩
  · rw [hide_upd hD]; exact r1
  · rw [hide_upd hD]; exact Grow.refl
  · exact h1
  rintro i m H2 ⟨rfl, cs', ρ', acc, accV, r2, g2, eD, l, hacc, hi, h2⟩
  obtain ⟨st, it⟩ := a1 i F ρ' sl cs' σ (hide (· = D) H2) H2 (· = D) r2 rfl (fun a z => (show ∃ o, H2 a = some o from (show a = D from z) ▸ ⟨_, eD⟩)) (g2.vis r1)
  by_cases hlt : i < xs.length
  · obtain ⟨go, yl⟩ := it xs[i] (List.getElem?_eq_getElem hlt)
    refine .inr ⟨go, fun H' => ∃ cs' ρ' acc accV, Rep Γ.K Γ.mg F ρ' sl cs' σ (hide (· = D) H') ∧ Grow ρ1 H1 ρ' (hide (· = D) H') ∧ H' D = some (.lst accV) ∧ AtL Γ.K (vis F ρ' sl σ (hide (· = D) H')) acc accV ∧ acc.length ≤ i + 1 ∧ i + 1 ≤ xs.length ∧
      PostG Γ F ρ1 sl σ H1 W (relO Γ F sl σ H) ((lcL g tt te (blkSl sl vs) (xs.drop (i + 1)) cs').bind fun ys cs2 => .ok (.ow (.list (acc ++ ys))) cs2) Q, fun H' hN => ⟨xs.length - (i + 1), by omega, rfl, hN⟩, fun u H3 hy => ?_⟩
    obtain ⟨H4, e4, hD4, r4, g4, a4⟩ := yl u H3 hy
    subst e4
    have eD3 : H3 D = some (.lst accV) := (hD4 D rfl).trans eD
    have l4 := AtL.mono (g4.vis r2) _ _ l
    have g14 := g2.trans r2.cells g4
    have th := sub_there r4 ⟨_, eD3⟩
    have rb := rep_blk r4 vs th
    rw [List.drop_eq_getElem_cons hlt] at h2
    unfold lcL at h2
    cases eg : g xs[i] (blkSl sl vs) with
    | none => rw [eg] at h2; exact h2.elim
    | some sl5 =>
      rw [eg] at h2
      dsimp only at h2
      rw [R.bind_assoc] at h2
      refine qg _ ρ' (blkSl sl vs) cs' (wipe σ vs) H3 xs[i] u _ sl5 rb (AtV.mono vis_sub' (fun _ _ z => z) a4) eg fun σ5 r5 sub5 w5 => ⟨by rw [w5 vs hix, wipe_wipe fun _ z => z], ?_⟩
      refine qt W0 _ ρ' sl5 cs' σ5 H3 _ r5 (post_noEx (Γ := Γ) (rel := relB) h2 fun b cs6 _ h3 b' H6 ρ6 r6 g6 eb => ?_)
      have eb : b = b' := eb
      subst eb
      obtain ⟨r6', g6', eD6⟩ := rep_back r4 r6 g6
      have l6 := AtL.mono (g6'.vis r4) _ _ l4
      have g16 := g14.trans r4.cells g6'
      cases b with
      | false =>
        rw [if_neg (by decide)] at h3 ⊢
        exact ⟨cs6, ρ6, acc, accV, r6', g16, eD6.trans eD3, l6, by omega, by omega, h3⟩
      | true =>
        rw [if_pos rfl] at h3 ⊢
        rw [R.bind_assoc] at h3
        refine qe W0 _ ρ6 sl5 cs6 σ5 H6 _ r6 (post_noEx (Γ := Γ) (rel := relV Γ _ sl5 σ5) h3 fun v cs7 _ h4 u7 H7 ρ7 r7 g7 a7 => ?_)
        obtain ⟨r7', g7', eD7⟩ := rep_back r4 r7 (g6.trans r6.cells g7)
        have l7 := AtL.mono (g7'.vis r4) _ _ l4
        have g17 := g14.trans r4.cells g7'
        have e7 : H7 D = some (.lst accV) := eD7.trans eD3
        split at h4
        · rename_i _ y _
          have ay : AtD Γ.K (vis F ρ7 sl σ (hide (· = D) H7)) y u7 := AtD.mono vis_sub _ _ a7.d
          have ll := l7.length
          refine ⟨accV, e7, by rw [sizeLine_eq, ← ll]; omega, cs7, ρ7, acc ++ [y], accV ++ [u7], ?_, ?_, upd_same, ?_, by rw [List.length_append, List.length_singleton]; omega, by omega, ?_⟩
          · rw [hide_upd']; exact r7'
          · rw [hide_upd']; exact g17
          · rw [hide_upd']; exact l7.append (AtL.cons ay AtL.nil)
          · rw [R.bind_assoc] at h4
            simp only [R.bind_ok] at h4
            simp only [List.append_assoc, List.singleton_append]
            exact h4
        · exact h4.elim
  · refine .inl ⟨st (by omega), ?_⟩
    rw [List.drop_eq_nil_of_le (by omega)] at h2
    unfold lcL at h2
    simp only [R.bind_ok, List.append_nil] at h2
    refine h2 (.ref D) H2 ρ' r2.unhide ⟨fun a o e hn => hide_le _ _ (g2.keep a o e hn), g2.ext⟩ ⟨D, rfl, g1.back r1 hD, r2, accV, eD, l⟩
theorem do_lc {elt tg iter : Expr} {ifs : List Expr} {scope : Scope} {own : List (Str × Nat)} {pos : Pos} {it : SA} {ix : List Nat} {g : Val → Sl → Option Sl} {tt : ST} {te : SE} (hcm : Γ.cm = true) (hN : Γ.N.Nodup) (hb : BlkOk Γ.N Γ.sc scope own)
    (hi : DP Γ tg iter it) (hg : DG (Γ.blk scope) tg ix g) (ht : DTs (Γ.blk scope) ifs tt) (he : DE (Γ.blk scope) elt te) (hix : ∀ i ∈ ix, i ∈ own.map (·.2) := by decide) (hs : ∀ env x, foldedSetIterable iter env x = pure x := by intro _ _; rfl) :
    DO Γ (.ListComp elt [⟨tg, iter, ifs, 0⟩] scope pos) (oLc it g tt te (own.map (·.2))) := by
  obtain ⟨wi, pi, qi⟩ := hi.ex
  obtain ⟨tg', pg, qg⟩ := hg.ex
  obtain ⟨tt', pt, qt⟩ := ht.ex
  obtain ⟨te', pe, qe⟩ := he.ex
  refine ⟨fun W => tLc (wi W) tg' (tt' W0) (te' W0) (own.map (·.2)), fun X W ok gd => ?_, fun W F ρ sl cs σ H Q r h => ?_⟩
  · exact pe_lc (ok.cm hcm).1 (by rw [ok.N]; exact hN) (pi X W ok gd) (by rw [ok.N, ok.sc]; exact hb) (fun s H C cl fp => pg _ (blk_ok ok s H C cl fp)) (fun s H C cl fp => pt _ W0 (blk_ok ok s H C cl fp) (blk_good s H C cl fp)) (fun s H C cl fp => pe _ W0 (blk_ok ok s H C cl fp) (blk_good s H C cl fp)) (hs _)
  · refine qi W F ρ sl cs σ H _ r (PostG.mono (PostG.bind (rel := relI Γ F sl σ) h) fun J H1 ⟨xs, cs1, ρ1, r1, g1, a1, h1⟩ D hD => ?_)
    by_cases hl : xs.length ≤ 16777216
    · rw [if_pos hl] at h1
      exact lc_sem (Γ := Γ) (scope := scope) qg qt qe hix r r1 g1 a1 hl h1 hD
    · rw [if_neg hl] at h1
      exact h1.elim
/-- y = [..] on one line -/
theorem ds_setLc (i : Nat) {y : Str} {py : Pos} {elt tg iter : Expr} {ifs : List Expr} {scope : Scope} {own : List (Str × Nat)} {pos spos : Pos} {it : SA} {ix : List Nat} {g : Val → Sl → Option Sl} {tt : ST} {te : SE} (hcm : Γ.cm = true) (hN : Γ.N.Nodup) (hb : BlkOk Γ.N Γ.sc scope own)
    (hi : DP Γ tg iter it) (hg : DG (Γ.blk scope) tg ix g) (ht : DTs (Γ.blk scope) ifs tt) (he : DE (Γ.blk scope) elt te) (hk : Γ.sc.kind = .function) (hyl : Γ.sc.names.lookup y = some .local) (hl : (py.line == pos.line) = true) (ha : (scope.names.any fun (n, k) => n == y && (k == .local || k == .cell)) = false)
    (hy : Γ.N[i]? = some y := by rfl) (hix : ∀ i ∈ ix, i ∈ own.map (·.2) := by decide) (hs : ∀ env x, foldedSetIterable iter env x = pure x := by intro _ _; rfl) :
    DS Γ (.Assign [.Name y py] (.ListComp elt [⟨tg, iter, ifs, 0⟩] scope pos) spos) (sSet i (oLc it g tt te (own.map (·.2)))) := by
  obtain ⟨wi, pi, qi⟩ := hi.ex
  obtain ⟨tg', pg, qg⟩ := hg.ex
  obtain ⟨tt', pt, qt⟩ := ht.ex
  obtain ⟨te', pe, qe⟩ := he.ex
  refine ⟨fun W => tAsg (tLc (wi W) tg' (tt' W0) (te' W0) (own.map (·.2))) (gName i), fun X W ok gd => ?_, fun W F ρ sl cs σ H D r h => ?_⟩
  · exact ps_setLc (ok.cm hcm).1 (by rw [ok.N]; exact hN) (by rw [ok.N]; exact hy) (by rw [ok.sc]; exact hyl) (sw_true (by rw [ok.sc]; exact hk) (by rw [ok.sc]; exact hyl) hl ha) (pi X W ok gd) (by rw [ok.N, ok.sc]; exact hb)
      (fun s H C cl fp => pg _ (blk_ok ok s H C cl fp)) (fun s H C cl fp => pt _ W0 (blk_ok ok s H C cl fp) (blk_good s H C cl fp)) (fun s H C cl fp => pe _ W0 (blk_ok ok s H C cl fp) (blk_good s H C cl fp)) (hs _)
  · have h0 : PostG Γ F ρ sl σ H W (relO Γ F sl σ H) (oLc it g tt te (own.map (·.2)) sl cs) (fun u H1 => D.nx (σ.set i (some u)) H1) := by
      refine PostG.mono (PostS.go h r) fun u H1 ⟨x, cs1, ρ1, r1, g1, a1, h1⟩ => ?_
      exact set_post (Hs := H) r r1 g1 a1 h1
    refine qi W F ρ sl cs σ H _ r (PostG.mono (PostG.bind (rel := relI Γ F sl σ) h0) fun J H1 ⟨xs, cs1, ρ1, r1, g1, a1, h1⟩ D hD => ?_)
    by_cases hl : xs.length ≤ 16777216
    · rw [if_pos hl] at h1
      exact lc_sem (Γ := Γ) (scope := scope) qg qt qe hix r r1 g1 a1 hl h1 hD
    · rw [if_neg hl] at h1
      exact h1.elim
end
end DL
end
section
set_option Elab.async false
set_option linter.all false
set_option maxRecDepth 100000
set_option autoImplicit false
namespace DL
open PySem PySem.Spec PyProof.Rows L2

/-! ### len(set(t)), t a tuple of texts -/
def SetO (P : Program) (w : World) (a : Addr) (ks : List Str) (n : Nat) : HO := .ext fun h => SetT P w h a ks n
theorem setO_new {P : Program} {w : World} {H : Hp} {h : Heap} {a : Addr} {ks : List Str} {n : Nat} (R : SetT P w h a ks n) : ObjOk P w H h a (SetO P w a ks n) := by
  have ⟨o, _, _, _, ho, _⟩ := R
  exact ⟨R, ⟨o, ho⟩, fun h1 h2 p k => SetT.keep p k⟩
theorem strsAre_of : ∀ {ys : List Str} {us : List Value}, Vals (ys.map V.str) us → StrsAre us ys
  | [], us, r => by rw [List.map_nil] at r; cases r; exact .nil
  | y :: ys, us, r => by
    rw [List.map_cons] at r
    cases r with
    | cons a b =>
      obtain ⟨t, rfl⟩ := a
      exact .cons y t (strsAre_of b)
def rSetT (P : Program) (w : World) (K : PySem.W.Frag) : List V → Hp → VK → Prop := fun xs H Q => ∃ (l : Addr) (ys : List Str), xs = [.ref l] ∧ SqT K H l (ys.map V.str) ∧ ys.length < 4095 ∧ ∀ p, H p = none → Q (.ref p) (upd H p (SetO P w p ys (cntS ys 0 [])))
theorem cr_setT {X : Cx} (hc : X.calm = true) : CallR X (.type "set") (rSetT X.prog X.w X.K) := by
  intro pins s σ H xs us Q I r h
  obtain ⟨l, ys, rfl, hs, hb, q⟩ := h
  obtain ⟨its, rv, hl, _⟩ := I.tuple hs
  rw [Vals.ref1 r]
  refine call_setT (I.ok.hd hc) hl (xs := ys) (strsAre_of (by simpa using rv)) (by unfold scanBound; omega) fun h' tk fin keep => ?_
  exact ⟨.ref s.heap.objs.size, _, I.laid (t' := tk) (fun b o e => keep b o e) (Nat.le_refl _) (setO_new fin), rfl, q _ (I.hok.fresh (Nat.le_refl _))⟩
def rLenSet (P : Program) (w : World) : List V → Hp → VK → Prop := fun xs H Q => ∃ p ks n, xs = [.ref p] ∧ H p = some (SetO P w p ks n) ∧ Q (.int (n : Nat)) H
theorem cr_lenSet {X : Cx} : CallR X (.builtin "len") (rLenSet X.prog X.w) := by
  intro pins s σ H xs us Q I r h
  obtain ⟨p, ks, n, rfl, hp, q⟩ := h
  rw [Vals.ref1 r]
  obtain ⟨o, es, ep, t, ho, hex, hd, hel, hmem, hb, hf, hn⟩ : SetT X.prog X.w s.heap p ks n := (I.hok p _ hp).1
  subst hn
  have hb' : es.size < 4096 := hb
  exact call_len_set ho hex hd hf (by omega) ⟨.int _, H, I.tok _, ⟨_, rfl⟩, q⟩
def strsOf : List PyData → Option (List Str)
  | [] => some []
  | .str i :: r => (strsOf r).map (i :: ·)
  | _ :: _ => none
theorem strs_at {K : PySem.W.Frag} {G : Hp} : ∀ {xs : List PyData} {vs : List V} {ns : List Str}, strsOf xs = some ns → AtL K G xs vs → vs = ns.map V.str
  | [], vs, _, e, q => by cases e; simp only [AtL] at q; exact q
  | .str i :: r, vs, ns, e, q => by
    simp only [strsOf] at e
    cases er : strsOf r with
    | none => rw [er] at e; cases e
    | some l =>
      rw [er] at e
      cases e
      simp only [AtL] at q
      obtain ⟨v, t, rfl, q1, q2⟩ := q
      rw [strs_at er q2, at_str_iff.mp q1]
      rfl
  | .none :: _, _, _, e, _ => by cases e
  | .bool _ :: _, _, _, e, _ => by cases e
  | .int _ :: _, _, _, e, _ => by cases e
  | .list _ :: _, _, _, e, _ => by cases e
  | .tuple _ :: _, _, _, e, _ => by cases e
  | .dict _ :: _, _, _, e, _ => by cases e
def lenSetV (x : Val) (cs : Cs) : R Val := match x with
  | .d (.tuple l) => match strsOf l with
    | some ys => if ys.length < 4095 then .ok (.d (.int (cntS ys 0 [] : Nat))) cs else .bad
    | none => .bad
  | _ => .bad
def eLenSet (f : SE) : SE := fun sl cs => (f sl cs).bind lenSetV
section
variable {Γ : Cf} {pos p p2 pos2 : Pos} {e : Expr} {f : SE}
theorem de_lenset (hcm : Γ.cm = true) (hl : Γ.mg "len" = none) (hst : Γ.mg "set" = none) (he : DE Γ e f) (hg : Gls Γ.sc "len" := by rfl) (hgs : Gls Γ.sc "set" := by rfl)
    (hs1 : ∀ env, starEach [e] env = [(false, eval e env)] := by intro _; rfl) : DE Γ (.Call (.Name "len" p) [.Call (.Name "set" p2) [e] [] pos2] [] pos) (eLenSet f) := by
  obtain ⟨t, p1, q⟩ := he.ex
  refine ⟨fun W => tCB (rLenSet Γ.P Γ.w) (tCons (tCB (rSetT Γ.P Γ.w Γ.K) (tCons (t W) tNil)) tNil), fun X W ok gd => ?_, fun W F ρ sl cs σ H Q rp h => ?_⟩
  · rw [← ok.K, ← ok.P, ← ok.w]
    exact pe_callB cr_lenSet (gl_of ok hg) (by rw [ok.mg]; exact hl) (by decide +kernel) (pa_cons (pe_callTy (cr_setT (ok.cm hcm).1) (gl_of ok hgs) (by rw [ok.mg]; exact hst) (by decide +kernel) (pa_cons (p1 X W ok gd) pa_nil (hs1 _)) (by decide) (by decide) (hs1 _) rfl) pa_nil rfl) (by decide) (by decide) rfl rfl
  · refine q W F ρ sl cs σ H _ rp (PostG.mono (PostG.bind (rel := relV Γ F sl σ) h) fun u H1 ⟨x, cs1, ρ1, r1, g1, a1, h1⟩ => ?_)
    unfold lenSetV at h1
    split at h1
    · rename_i l
      split at h1
      · rename_i ys ey
        split at h1
        · rename_i hlen
          obtain ⟨a, vs, rfl, s, ll⟩ := AtT.tup a1
          rw [strs_at ey ll] at s
          refine ⟨a, ys, rfl, sqT_sub vis_le s, hlen, fun t ht => ?_⟩
          obtain ⟨rp', hv⟩ := r1.alloc ht (SetO Γ.P Γ.w t ys (cntS ys 0 []))
          exact ⟨t, ys, _, rfl, upd_same, h1 _ _ ρ1 rp' (Grow.upd ht) AtT.mkI⟩
        · exact h1.elim
      · exact h1.elim
    · exact h1.elim
end

/-! ### lists that are changed in place: own slots, cells -/
def lstAt (i : Nat) (sl : Sl) (cs : Cs) : Option (List Val) := match sl[i]? with
  | some (some (.ow (.list xs))) => some (xs.map Val.d)
  | some (some (.fr (.cel n))) => match cs[n]? with
    | some (.lst xs) => some xs
    | _ => none
  | _ => none
def lstPut (i : Nat) (ys : List Val) (sl : Sl) (cs : Cs) : Option (Sl × Cs) := match sl[i]? with
  | some (some (.ow (.list _))) => (datsOf ys).map fun ds => (sl.set i (some (.ow (.list ds))), cs)
  | some (some (.fr (.cel n))) => match cs[n]? with
    | some (.lst _) => some (sl, cs.set n (.lst ys))
    | _ => none
  | _ => none
theorem lst_view {K : PySem.W.Frag} {mg : Str → Option Value} {F : Fx} {ρ : List Addr} {sl : Sl} {cs : Cs} {σ : St} {H : Hp} {i : Nat} {xs : List Val} (r : Rep K mg F ρ sl cs σ H) (e : lstAt i sl cs = some xs) :
    ∃ a vs, σ[i]? = some (some (.ref a)) ∧ H a = some (.lst vs) ∧ Paired (AtV K mg ρ (vis F ρ sl σ H)) xs vs ∧ ∀ ys ws sl' cs', lstPut i ys sl cs = some (sl', cs') → Paired (AtV K mg ρ (vis F ρ sl σ H)) ys ws →
      Rep K mg F ρ sl' cs' σ (upd H a (.lst ws)) ∧ Sub (vis F ρ sl σ H) (vis F ρ sl' σ (upd H a (.lst ws))) := by
  unfold lstAt at e
  split at e
  · rename_i xs e1
    cases e
    obtain ⟨u, e2, a, rfl, vs, e3, l⟩ := r.slot i _ e1
    refine ⟨a, vs, e2, e3, atL_paired l, fun ys ws sl' cs' ep pw => ?_⟩
    unfold lstPut at ep
    rw [e1] at ep
    dsimp only at ep
    cases ed : datsOf ys with
    | none => rw [ed] at ep; cases ep
    | some ds =>
      rw [ed] at ep
      cases ep
      exact r.mut e1 e2 ⟨ws, upd_same, dats_at ed pw⟩
  · rename_i n e1
    split at e
    · rename_i ys ec
      cases e
      obtain ⟨u, e2, a, ea, rfl⟩ : ∃ u, σ[i]? = some (some u) ∧ ∃ a, ρ[n]? = some a ∧ u = .ref a := r.slot i _ e1
      obtain ⟨vs, e3, l⟩ := r.cells.at_ n _ a ec ea
      refine ⟨a, vs, e2, e3, l, fun zs ws sl' cs' ep pw => ?_⟩
      unfold lstPut at ep
      rw [e1] at ep
      dsimp only at ep
      rw [ec] at ep
      cases ep
      obtain ⟨r2, _, s⟩ := r.mutCell (c' := .lst zs) (o := .lst ws) ec ea ⟨ws, upd_same, pw⟩
      exact ⟨r2, s⟩
    · cases e
  · cases e
/-- the list's own address stays while arguments are made -/
theorem lst_stay {K : PySem.W.Frag} {mg : Str → Option Value} {F : Fx} {ρ ρ1 : List Addr} {sl : Sl} {cs cs1 : Cs} {σ : St} {H H1 : Hp} {i : Nat} {xs ys : List Val} {a b : Addr} (e1 : σ[i]? = some (some (.ref a))) (e2 : σ[i]? = some (some (.ref b))) : a = b := by
  rw [e1] at e2; cases e2; rfl
def put2 (i : Nat) (sl : Sl) (cs : Cs) (o : Option (List Val)) : RS := match o with
  | none => .bad
  | some ys => match lstPut i ys sl cs with
    | some (sl', cs') => .nx sl' cs'
    | none => .bad
section
variable {Γ : Cf} {pos apos cpos pos' : Pos} {e ix : Expr} {f fx : SE}
theorem put_post {F : Fx} {ρ : List Addr} {sl : Sl} {cs : Cs} {σ : St} {H : Hp} {W : WX} {D : Ends} {i : Nat} {xs : List Val} {o : Option (List Val)} (r : Rep Γ.K Γ.mg F ρ sl cs σ H) (ex : lstAt i sl cs = some xs) {a : Addr} (ea : σ[i]? = some (some (.ref a)))
    (h : PostS Γ F ρ sl σ H W (put2 i sl cs o) D) : ∃ ys, o = some ys ∧ ∀ ws, Paired (AtV Γ.K Γ.mg ρ (vis F ρ sl σ H)) ys ws → D.nx σ (upd H a (.lst ws)) := by
  obtain ⟨b, vs, e1, e2, l, wr⟩ := lst_view r ex
  obtain rfl := lst_stay (K := Γ.K) (mg := Γ.mg) (F := F) (ρ := ρ) (ρ1 := ρ) (sl := sl) (cs := cs) (cs1 := cs) (H := H) (H1 := H) (xs := xs) (ys := xs) ea e1
  unfold put2 at h
  split at h
  · exact h.elim
  · rename_i ys
    split at h
    · rename_i sl' cs' ep
      refine ⟨ys, rfl, fun ws pw => ?_⟩
      obtain ⟨r2, s⟩ := wr ys ws sl' cs' ep pw
      exact h σ _ ρ r2 s
    · exact h.elim
/-- x[k] = e -/
def setAt (xs : List Val) (ix v : Val) : Option (List Val) := match ix with
  | .d (.int k) => match ixN xs.length k with
    | some j => if v.solid = true then some (xs.set j v) else none
    | none => none
  | _ => none
def sPut (i : Nat) (fv fx : SE) : SS := fun sl cs => (fv sl cs).go sl fun v cs1 => match lstAt i sl cs1 with
  | none => .bad
  | some _ => (fx sl cs1).go sl fun k cs2 => match lstAt i sl cs2 with
    | none => .bad
    | some xs => put2 i sl cs2 (setAt xs k v)
theorem Paired.set {α β : Type} {R : α → β → Prop} : ∀ {xs : List α} {us : List β} (n : Nat) {x : α} {u : β}, Paired R xs us → R x u → Paired R (xs.set n x) (us.set n u)
  | _, _, _, _, _, .nil, _ => .nil
  | _, _, 0, _, _, .cons _ t, h => .cons h t
  | _, _, n + 1, _, _, .cons r t, h => .cons r (Paired.set n t h)
theorem ds_put (i : Nat) {x : Str} {p : Pos} (hv : DE Γ e f) (hx : DE Γ ix fx) (hN : Γ.N[i]? = some x := by rfl) (hvs : Vis Γ.sc x := by first | exact Or.inl rfl | exact Or.inr (Or.inl rfl) | exact Or.inr (Or.inr rfl)) (hd : (x == ("__debug__" : Str)) = false := by decide)
    (hcd : (x == ("__classdict__" : Str)) = false := by decide) (hs : ∀ env, swapsWithSole [.Subscript (.Name x p) ix pos'] e pos.line env = pure false := by intro _; rfl) (hw : ∀ env, swappedStores [.Subscript (.Name x p) ix pos'] e env = pure none := by intro _; rfl)
    (ha : ∀ env v, assign (.Subscript (.Name x p) ix pos') env v = (do
      let ov ← holding [v] (eval (.Name x p) env)
      let iv ← holding [v, ov] (eval ix env)
      standAt pos'
      holding [v, ov, iv] (setItem ov iv v)
      release [v, ov, iv] []) := by intro _ _; rfl) : DS Γ (.Assign [.Subscript (.Name x p) ix pos'] e pos) (sPut i f fx) := by
  obtain ⟨t, p1, q1⟩ := hv.ex
  obtain ⟨u, p2, q2⟩ := hx.ex
  refine ⟨fun W => tAsg (t W) (gSub (tVar i) (u W) rSetL), fun X W ok gd => ps_asg (p1 X W ok gd) (pg_sub (pe_var (by rw [ok.N]; exact hN) (by rw [ok.sc]; exact hvs) hd hcd) (p2 X W ok gd) set_list (ha _)) (hs _) (hw _) rfl, fun W F ρ sl cs σ H D r h => ?_⟩
  refine q1 W F ρ sl cs σ H _ r (PostG.mono (PostS.go h r) fun v H1 ⟨y, cs1, ρ1, r1, g1, a1, h1⟩ => ?_)
  split at h1
  · exact h1.elim
  rename_i xs0 ex0
  obtain ⟨a, vs0, e1, e2, l0, _⟩ := lst_view r1 ex0
  refine ⟨.ref a, e1, ?_⟩
  refine q2 W F ρ1 sl cs1 σ H1 _ r1 (PostG.mono (PostS.go (h1.weak (g1.vis r)) r1) fun k H2 ⟨z, cs2, ρ2, r2, g2, a2, h2⟩ => ?_)
  split at h2
  · exact h2.elim
  rename_i xs ex
  obtain ⟨b, vs, e3, e4, l, _⟩ := lst_view r2 ex
  obtain rfl : a = b := by rw [e1] at e3; cases e3; rfl
  obtain ⟨ys, eys, fin⟩ := put_post r2 ex e1 (h2.weak (g2.vis r1))
  unfold setAt at eys
  split at eys
  · rename_i k'
    split at eys
    · rename_i j ej
      split at eys
      · rename_i hsol
        cases eys
        refine ⟨a, vs, k', j, rfl, AtT.int a2, e4, by rw [← Paired.len l]; exact ej, fin _ (Paired.set j l ?_)⟩
        exact (AtT.grow r1 g2 a1).solid hsol
      · cases eys
    · cases eys
  · cases eys
/-- x.append(e) -/
def appAt (xs : List Val) (v : Val) : Option (List Val) := if xs.length < 16777216 ∧ v.solid = true then some (xs ++ [v]) else none
def extAt (xs : List Val) (v : Val) : Option (List Val) := match v with
  | .d (.list zs) => if xs.length + zs.length ≤ 16777216 then some (xs ++ zs.map Val.d) else none
  | .br (.list zs) => if xs.length + zs.length ≤ 16777216 then some (xs ++ zs.map Val.d) else none
  | _ => none
def sMeth (i : Nat) (mu : List Val → Val → Option (List Val)) (f : SE) : SS := fun sl cs => match lstAt i sl cs with
  | none => .bad
  | some _ => (f sl cs).go sl fun v cs1 => match lstAt i sl cs1 with
    | none => .bad
    | some xs => put2 i sl cs1 (mu xs v)
theorem Paired.snoc {α β : Type} {R : α → β → Prop} {xs : List α} {us : List β} {x : α} {u : β} (h : Paired R xs us) (t : R x u) : Paired R (xs ++ [x]) (us ++ [u]) := Paired.app h (.cons t .nil)
theorem ds_meth (i : Nat) {name : Str} {id : String} {rr : V → List V → Hp → VK → Prop} {mu : List Val → Val → Option (List Val)} (slot : PySem.Slot "list" name id) (hty : typeOf (.builtin id) = pure (.type "method_descriptor")) (hm : ∀ X, MtR X id rr)
    (hr : ∀ (F : Fx) (ρ : List Addr) (sl : Sl) (σ : St) (H : Hp) (a : Addr) (xs : List Val) (vs : List V) (y : Val) (u : V) (ys : List Val) (Q : VK), H a = some (.lst vs) → Paired (AtV Γ.K Γ.mg ρ (vis F ρ sl σ H)) xs vs → AtT Γ.K Γ.mg ρ H (vis F ρ sl σ H) y u → mu xs y = some ys →
      (∀ ws, Paired (AtV Γ.K Γ.mg ρ (vis F ρ sl σ H)) ys ws → Q .non (upd H a (.lst ws))) → rr (.ref a) [u] H Q)
    {x : Str} {p : Pos} (he : DE Γ e f) (hN : Γ.N[i]? = some x := by rfl) (hvs : Vis Γ.sc x := by first | exact Or.inl rfl | exact Or.inr (Or.inl rfl) | exact Or.inr (Or.inr rfl)) (hd : (x == ("__debug__" : Str)) = false := by decide)
    (hcd : (x == ("__classdict__" : Str)) = false := by decide) (hsw : ∀ env, swapsWith (.Call (.Attribute (.Name x p) name apos) [e] [] cpos) none pos.line env = pure false := by intro _; rfl)
    (hbase : ∀ env, attributeBase (.Name x p) name env (eval (.Name x p) env) = eval (.Name x p) env := by intro _; rfl)
    (hfew : ∀ env, ((backTo cpos (starEach [e] env)).all (fun x => !x.1) && (backToKw cpos (keywordEach [] env)).all (fun x => x.1.isSome) && decide ([e].length + ([] : List Keyword).length + (if ([] : List Keyword).isEmpty then 0 else 1) < 30)) = true := by intro _; rfl)
    (hline : (apos.endLine == cpos.line) = true := by rfl) (hs : ∀ env, starEach [e] env = [(false, eval e env)] := by intro _; rfl) : DS Γ (.Expr (.Call (.Attribute (.Name x p) name apos) [e] [] cpos) pos) (sMeth i mu f) := by
  obtain ⟨t, p1, q1⟩ := he.ex
  refine ⟨fun W => tDrop (tBM Γ.K "list" rr (tVar i) (tCons (t W) tNil)), fun X W ok gd => ?_, fun W F ρ sl cs σ H D r h => ?_⟩
  · rw [← ok.K]
    exact ps_expr (pe_bm F.plainAttrs_list slot hty (hm X) (pe_var (by rw [ok.N]; exact hN) (by rw [ok.sc]; exact hvs) hd hcd) (pa_cons (p1 X W ok gd) pa_nil (hs _)) (hbase _) (hfew _) hline (hs _) rfl) (hsw _)
  · unfold sMeth at h
    split at h
    · exact h.elim
    rename_i xs0 ex0
    obtain ⟨a, vs0, e1, e2, l0, _⟩ := lst_view r ex0
    refine ⟨.ref a, e1, .inl ⟨rfl, vs0, SqL.of e2⟩, ?_⟩
    refine q1 W F ρ sl cs σ H _ r (PostG.mono (PostS.go h r) fun u H1 ⟨y, cs1, ρ1, r1, g1, a1, h1⟩ => ?_)
    split at h1
    · exact h1.elim
    rename_i xs ex
    obtain ⟨b, vs, e3, e4, l, _⟩ := lst_view r1 ex
    obtain rfl : a = b := by rw [e1] at e3; cases e3; rfl
    obtain ⟨ys, eys, fin⟩ := put_post r1 ex e1 (h1.weak (g1.vis r))
    exact hr F ρ1 sl σ H1 a xs vs y u ys _ e4 l a1 eys fin
theorem ds_append (i : Nat) {x : Str} {p : Pos} (he : DE Γ e f) (hN : Γ.N[i]? = some x := by rfl) (hvs : Vis Γ.sc x := by first | exact Or.inl rfl | exact Or.inr (Or.inl rfl) | exact Or.inr (Or.inr rfl)) (hd : (x == ("__debug__" : Str)) = false := by decide)
    (hcd : (x == ("__classdict__" : Str)) = false := by decide) (hsw : ∀ env, swapsWith (.Call (.Attribute (.Name x p) "append" apos) [e] [] cpos) none pos.line env = pure false := by intro _; rfl)
    (hbase : ∀ env, attributeBase (.Name x p) "append" env (eval (.Name x p) env) = eval (.Name x p) env := by intro _; rfl)
    (hfew : ∀ env, ((backTo cpos (starEach [e] env)).all (fun x => !x.1) && (backToKw cpos (keywordEach [] env)).all (fun x => x.1.isSome) && decide ([e].length + ([] : List Keyword).length + (if ([] : List Keyword).isEmpty then 0 else 1) < 30)) = true := by intro _; rfl)
    (hline : (apos.endLine == cpos.line) = true := by rfl) (hs : ∀ env, starEach [e] env = [(false, eval e env)] := by intro _; rfl) : DS Γ (.Expr (.Call (.Attribute (.Name x p) "append" apos) [e] [] cpos) pos) (sMeth i appAt f) :=
  ds_meth i F.slot_list_append F.type_list_append (fun X => mt_append) (fun F ρ sl σ H a xs vs y u ys Q ea l ay em fin => by
    unfold appAt at em
    split at em
    · rename_i hc
      cases em
      exact ⟨a, vs, u, rfl, rfl, ea, by rw [sizeLine_eq, ← Paired.len l]; exact hc.1, fin _ (Paired.snoc l (ay.solid hc.2))⟩
    · cases em) he hN hvs hd hcd hsw hbase hfew hline hs
theorem ds_extend (i : Nat) {x : Str} {p : Pos} (he : DE Γ e f) (hN : Γ.N[i]? = some x := by rfl) (hvs : Vis Γ.sc x := by first | exact Or.inl rfl | exact Or.inr (Or.inl rfl) | exact Or.inr (Or.inr rfl)) (hd : (x == ("__debug__" : Str)) = false := by decide)
    (hcd : (x == ("__classdict__" : Str)) = false := by decide) (hsw : ∀ env, swapsWith (.Call (.Attribute (.Name x p) "extend" apos) [e] [] cpos) none pos.line env = pure false := by intro _; rfl)
    (hbase : ∀ env, attributeBase (.Name x p) "extend" env (eval (.Name x p) env) = eval (.Name x p) env := by intro _; rfl)
    (hfew : ∀ env, ((backTo cpos (starEach [e] env)).all (fun x => !x.1) && (backToKw cpos (keywordEach [] env)).all (fun x => x.1.isSome) && decide ([e].length + ([] : List Keyword).length + (if ([] : List Keyword).isEmpty then 0 else 1) < 30)) = true := by intro _; rfl)
    (hline : (apos.endLine == cpos.line) = true := by rfl) (hs : ∀ env, starEach [e] env = [(false, eval e env)] := by intro _; rfl) : DS Γ (.Expr (.Call (.Attribute (.Name x p) "extend" apos) [e] [] cpos) pos) (sMeth i extAt f) :=
  ds_meth i F.slot_list_extend F.type_list_extend (fun X => mt_extend) (fun F ρ sl σ H a xs vs y u ys Q ea l ay em fin => by
    unfold extAt at em
    split at em
    · rename_i zs
      split at em
      · rename_i hc
        cases em
        obtain ⟨b, ws, rfl, eb, lb⟩ := AtT.list ay (.inl rfl)
        exact ⟨a, b, vs, ws, rfl, rfl, ea, eb, by rw [sizeLine_eq, ← Paired.len l, ← lb.length]; exact hc, fin _ (Paired.app l (atL_paired lb))⟩
      · cases em
    · rename_i zs
      split at em
      · rename_i hc
        cases em
        obtain ⟨b, ws, rfl, eb, lb⟩ := AtT.list ay (.inr rfl)
        exact ⟨a, b, vs, ws, rfl, rfl, ea, eb, by rw [sizeLine_eq, ← Paired.len l, ← lb.length]; exact hc, fin _ (Paired.app l (atL_paired lb))⟩
      · cases em
    · cases em) he hN hvs hd hcd hsw hbase hfew hline hs
/-- x op= e, x a value -/
def sAug (i : Nat) (g : PyData → PyData → Option PyData) (f : SE) : SS := fun sl cs => match sl[i]? with
  | some (some (.fr x)) => (f sl cs).go sl fun y cs1 => (op2 g x y cs1).go sl fun z cs2 => if z.solid = true then .nx (sl.set i (some (.fr z))) cs2 else .bad
  | _ => .bad
theorem ds_aug (i : Nat) {x : Str} {p : Pos} {op : Operator} {g : PyData → PyData → Option PyData} (ho : OpD Γ (inplaceOp op) g) (h : DE Γ e f) (hnd : Γ.N.Nodup) (hN : Γ.N[i]? = some x := by rfl) (hx : Loc Γ.sc x := by first | exact Or.inl rfl | exact Or.inr rfl) (hst : Γ.st x = true := by rfl) :
    DS Γ (.AugAssign (.Name x p) op e pos) (sAug i g f) := by
  obtain ⟨t, p1, q1⟩ := h.ex
  obtain ⟨r2, p2, q2⟩ := ho.ex
  refine ⟨fun W => tAug i (t W) r2, fun X W ok gd => ps_aug (by rw [ok.N]; exact hnd) (by rw [ok.N]; exact hN) (by rw [ok.sc]; exact hx) (p1 X W ok gd) (fun pins s σ H x y v u Q I rx ry q => p2 X ok pins s σ H x y v u Q I rx ry q) (by rw [ok.sc]; exact ok.fn x hst), fun W F ρ sl cs σ H D r h => ?_⟩
  unfold sAug at h
  split at h
  · rename_i z ez
    obtain ⟨u0, e2, a0⟩ := r.slot i _ ez
    refine ⟨u0, e2, ?_⟩
    refine q1 W F ρ sl cs σ H _ r (PostG.mono (PostS.go h r) fun v H1 ⟨y, cs1, ρ1, r1, g1, a1, h1⟩ => ?_)
    have a0' : AtT Γ.K Γ.mg ρ1 H1 (vis F ρ1 sl σ H1) z u0 := AtT.of (AtV.mono (g1.vis r) g1.pre a0)
    have h1 := h1.weak (g1.vis r)
    unfold op2 at h1
    cases d1 : (z.cv cs1).dat with
    | none => rw [d1] at h1; exact h1.elim
    | some d =>
      cases d2 : (y.cv cs1).dat with
      | none => rw [d1, d2] at h1; exact h1.elim
      | some d' =>
        rw [d1, d2] at h1
        refine q2 W F ρ1 sl cs1 σ H1 _ (z.cv cs1) (y.cv cs1) d d' u0 v r1 d1 d2 (AtT.cv r1 a0') (AtT.cv r1 a1) (PostG.mono (PostS.go h1 r1) fun w H2 ⟨k, cs2, ρ2, r3, g3, a3, h3⟩ => ?_)
        by_cases hs : k.solid = true
        · rw [if_pos hs] at h3
          obtain ⟨r4, s4⟩ := r3.setFr (i := i) (a3.solid hs)
          exact (h3.weak (g3.vis r1)) _ _ ρ2 r4 s4
        · rw [if_neg hs] at h3
          exact h3.elim
  · exact h.elim
theorem iod_add : OpD Γ (inplaceOp .Add) (fun x y => (gI cT (fun i j => .int (i + j)) x y).or (gAddS x y)) := by
  refine OpD.or (opD_int (fun X => opR_of0 iop_add) (fun _ _ _ => trivial) fun _ _ _ _ => at_int) ⟨_, fun X _ => iop_add_str, fun W F ρ sl cs σ H Q x y a b u v rp e1 e2 h1 h2 hp => ?_⟩
  unfold gAddS at hp
  split at hp
  · rename_i i j
    split at hp
    · rename_i hcc
      exact ⟨i, j, dat_str e1 h1, dat_str e2 h2, by rw [sizeLine_eq]; exact hcc, hp _ H ρ rp Grow.refl AtT.mkS⟩
    · exact hp.elim
  · exact hp.elim
theorem iod_sub : OpD Γ (inplaceOp .Sub) (gI cT fun i j => .int (i - j)) := opD_int (fun X => opR_of0 iop_sub) (fun _ _ _ => trivial) fun _ _ _ _ => at_int
end
end DL
end
section
set_option Elab.async false
set_option linter.all false
set_option maxRecDepth 100000
set_option autoImplicit false
namespace DL
open PySem PySem.Spec PyProof.Rows L2

/-! ### a def's body is what the def computes -/
def bodyR (r : RS) : R Slot := match r with
  | .nx _ cs => .ok (.fr (.d .none)) cs
  | .rt s cs => .ok s cs
  | .ex e _ cs => .ex e cs
  | _ => .bad
def bodyF (n m : Nat) (f : SS) : FS := fun args cs => if args.length = n then bodyR (f (args.map (fun v => some (Slot.fr v)) ++ List.replicate m none) cs) else .bad
abbrev cfOf (K : PySem.W.Frag) (mg : Str → Option Value) (P : Program) (w : World) (base : Heap) (N : List Str) (sc : Scope) (k : Nat) : Cf := ⟨K, mg, P, w, base, N, sc, k, true, true, fun _ => true⟩
theorem ExAt.mono {K : PySem.W.Frag} {mg : Str → Option Value} {G G' H : Hp} {e : Ex} {c : Value} {d : Option Addr} (hs : Sub G G') (h : ExAt K mg G H e c d) : ExAt K mg G' H e c d := by
  obtain ⟨h1, h2⟩ := h
  refine ⟨h1, ?_⟩
  cases hf : e.flds with
  | nil => rw [hf] at h2; exact h2
  | cons p ps =>
    rw [hf] at h2
    obtain ⟨a, vs, e1, e2, q⟩ := h2
    exact ⟨a, vs, e1, e2, L2.Paired.mapP q fun _ _ z => ⟨z.1, AtD.mono hs _ _ z.2⟩⟩
section
variable {P : Program} {w : World} {K : PySem.W.Frag} {mg : Str → Option Value} {base : Heap}
theorem get_args {args : List Val} {m i : Nat} {s : Slot} (h : (args.map (fun v => some (Slot.fr v)) ++ List.replicate m (none : Option Slot))[i]? = some (some s)) : ∃ v, s = .fr v ∧ args[i]? = some v := by
  rcases Nat.lt_or_ge i (args.map fun v => some (Slot.fr v)).length with hl | hl
  · rw [List.getElem?_append_left hl, List.getElem?_map] at h
    cases e : args[i]? with
    | none => rw [e] at h; cases h
    | some v => rw [e] at h; cases h; exact ⟨v, rfl, rfl⟩
  · rw [List.getElem?_append_right hl, List.getElem?_replicate] at h
    split at h <;> cases h
theorem rep_start {hx : Addr → Prop} {ρ : List Addr} {H : Hp} {cs : Cs} {args : List Val} {vs : List V} {N : List Str} {m : Nat} (hxt : ∀ a, hx a → ∃ o, H a = some o) (pa : Paired (AtV K mg ρ (hide (fun a => hx a ∨ a ∈ ρ) H)) args vs) (hc : CellsAt K mg ρ (hide (fun a => hx a ∨ a ∈ ρ) H) H cs)
    (nd : ρ.Nodup) (hN : N.length = vs.length + m) : Rep K mg ⟨hx, H, ρ, hxt⟩ ρ (args.map (fun v => some (Slot.fr v)) ++ List.replicate m none) cs (L2.start N vs) H := by
  have no : ∀ a, ¬ Own (args.map (fun v => some (Slot.fr v)) ++ List.replicate m none) (L2.start N vs) a := fun a ⟨i, x, e1, _⟩ => by
    obtain ⟨v, e, _⟩ := get_args e1
    cases e
  have hv : vis ⟨hx, H, ρ, hxt⟩ ρ (args.map (fun v => some (Slot.fr v)) ++ List.replicate m none) (L2.start N vs) H = hide (fun a => hx a ∨ a ∈ ρ) H := hide_congr fun a => by
    unfold Hid
    constructor
    · rintro (z | z | z)
      · exact .inl z
      · exact .inr z
      · exact (no a z).elim
    · rintro (z | z)
      · exact .inl z
      · exact .inr (.inl z)
  have hl := Paired.len pa
  refine ⟨?_, by rw [hv]; exact hc, nd, ⟨[], by simp, fun _ z => by simp at z⟩, fun a z => (no a z).elim, fun i j x y a e1 => ?_, fun a o e _ => e, fun i s e => ?_⟩
  · unfold L2.start
    simp only [List.length_append, List.length_map, List.length_replicate]
    omega
  · obtain ⟨v, e, _⟩ := get_args e1
    cases e
  · obtain ⟨v, rfl, ev⟩ := get_args e
    obtain ⟨u, eu, au⟩ := Paired.get pa ev
    refine ⟨u, ?_, ?_⟩
    · unfold L2.start
      have hi : i < vs.length := (List.getElem?_eq_some_iff.mp eu).1
      rw [List.getElem?_append_left (by simpa using hi), List.getElem?_map, eu]
      rfl
    · show AtV K mg ρ _ v u
      rw [hv]
      exact au
theorem Out.grow {hx : Addr → Prop} {ρ ρ' : List Addr} {H H' : Hp} {cs' : Cs} {hxt : ∀ a, hx a → ∃ o, H a = some o} (o : Out K mg ⟨hx, H, ρ, hxt⟩ ρ' cs' H') : Grow ρ H ρ' H' := ⟨o.keep, o.pre⟩
theorem body_post {hx : Addr → Prop} {ρ : List Addr} {H : Hp} {sl : Sl} {σ : St} {hxt : ∀ a, hx a → ∃ o, H a = some o} {Γ : Cf} {r : RS} {Q : VK} {E : XK} (h : PostF Γ.K Γ.mg hx ρ H (bodyR r) Q E) :
    PostS Γ ⟨hx, H, ρ, hxt⟩ ρ sl σ H (fun cls d _ H' => E cls d H') r { nx := fun _ H' => Q .non H', rt := Q } := by
  cases r with
  | nx sl' cs' =>
    intro σ' H' ρ' rp _
    have o := rp.out
    exact h .non H' ρ' o.grow o.nd o.cells (at_non (K := Γ.K) (G := hide (fun a => hx a ∨ a ∈ ρ') H'))
  | rt s cs' =>
    intro u H' ρ' o q
    exact h u H' ρ' o.grow o.nd o.cells q
  | ex e sl' cs' =>
    intro c d σ' H' ρ' rp _ x
    have o := rp.out
    exact h c d H' ρ' o.grow o.nd o.cells (x.mono (hide_sub fun a o hn e => ⟨fun z => hn (z.imp id Or.inl), e⟩))
  | bk sl' cs' => exact h.elim
  | ct sl' cs' => exact h.elim
  | bad => exact h.elim
theorem fn_sound {x qual : Str} {params : Arguments} {body : List Stmt} {scope : Scope} {dvs : List V} {kws : List (Str × V)} {a : Addr} {fd : FuncData} {N ps : List Str} {k n m : Nat} {f : SS} (F : FunD K x qual params body scope dvs kws a fd) (S : FnScope N ps scope) (hn : ps.length = n) (hm : N.length = n + m)
    (h : DSs (cfOf K mg P w base N scope k) body f) : FnG P w K mg base (L2.CX P w) (k + 1) a fd ps (spOf K mg n (bodyF n m f)) := by
  refine FunD.okG F S (fun vs H Q E h => h.1.trans hn.symm) fun cdv A outer s H vs Q E hr hsp => ?_
  obtain ⟨t, p, q⟩ := h.ex
  obtain ⟨hl, args, hx, ρ, cs, hxt, pa, hc, nd, hp⟩ := hsp
  refine ⟨t (fun cls d _ H => E cls d H), p _ _ ⟨rfl, rfl, rfl, rfl, rfl, rfl, rfl, fun _ => ⟨rfl, hr⟩, ?_, fun _ => ⟨rfl, rfl⟩, fun _ _ => .inl rfl⟩ ⟨takes_of rfl rfl rfl rfl, passes_of rfl⟩, ?_⟩
  · have := hr.rm.un
    show (A.deeper _).units + 16 * k + 200 < cLine
    omega
  · refine q _ ⟨hx, H, ρ, hxt⟩ ρ _ cs _ H _ (rep_start (m := m) hxt pa hc nd (by rw [hm, hl])) (body_post ?_)
    unfold bodyF at hp
    rw [if_pos ((Paired.len pa).trans hl)] at hp
    exact hp
theorem fn_bad {a : Addr} {fd : FuncData} {ps : List Str} {k n : Nat} (hn : ps.length = n) : FnG P w K mg base (L2.CX P w) k a fd ps (spOf K mg n fun _ _ => .bad) := by
  refine ⟨fun vs H Q E h => h.1.trans hn.symm, fun A outer s H args us vs Q E hr e0 hb r hsp => ?_⟩
  obtain ⟨hl, args, hx, ρ, cs, hxt, pa, hc, nd, hp⟩ := hsp
  exact hp.elim
end
section
variable {Γ : Cf} {pos : Pos}
/-- what no proof comes to -/
theorem ds_bad {st : Stmt} : DS Γ st (fun _ _ => .bad) := ⟨fun _ => tNever, fun X W _ _ => ps_never, fun W F ρ sl cs σ H D r h => h.elim⟩
theorem dss_bad {sts : List Stmt} : DSs Γ sts (fun _ _ => .bad) := ⟨fun _ => tNever, fun X W _ _ => pss_never, fun W F ρ sl cs σ H D r h => h.elim⟩
/-- target = e, any target of the data -/
def sAsg (g : Val → Sl → Option Sl) (f : SE) : SS := fun sl cs => (f sl cs).go sl fun x cs1 => if x.solid = true then match g x sl with
  | some sl' => .nx sl' cs1
  | none => .bad
  else .bad
theorem ds_asg {tg e : Expr} {ix : List Nat} {g : Val → Sl → Option Sl} {f : SE} (h : DE Γ e f) (hg : DG Γ tg ix g) (hs : ∀ env, swapsWithSole [tg] e pos.line env = pure false := by intro _; rfl) (hw : ∀ env, swappedStores [tg] e env = pure none := by intro _; rfl)
    (h1 : ∀ env, (assignEach [tg] env).map (·.2) = [assign tg env] := by intro _; rfl) : DS Γ (.Assign [tg] e pos) (sAsg g f) := by
  obtain ⟨t, p1, q⟩ := h.ex
  obtain ⟨u, p2, q2⟩ := hg.ex
  refine ⟨fun W => tAsg (t W) u, fun X W ok gd => L2.ps_asg (p1 X W ok gd) (p2 X ok) (hs _) (hw _) (h1 _), fun W F ρ sl cs σ H D r h => ?_⟩
  refine q W F ρ sl cs σ H _ r (PostG.mono (PostS.go h r) fun v H1 ⟨x, cs1, ρ1, r1, g1, a1, h1⟩ => ?_)
  split at h1
  · rename_i hsol
    split at h1
    · rename_i sl' eg
      exact q2 F ρ1 sl cs1 σ H1 x v _ sl' r1 (a1.solid hsol) eg fun σ' r2 s2 _ => (h1.weak (g1.vis r)) σ' H1 ρ1 r2 s2
    · exact h1.elim
  · exact h1.elim
end
end DL
end
section
set_option Elab.async false
set_option linter.all false
set_option maxRecDepth 100000
set_option autoImplicit false
namespace DL
open PySem PySem.Spec PyProof.Rows L2

/-! ### f(k = v, ..), every argument by its name -/
structure DK (Γ : Cf) (kws : List Keyword) (f : SA) : Prop where
  ex : ∃ t : WX → TA, (∀ X W, Γ.Ok X → Good X W → PK X kws (t W)) ∧ ∀ W F ρ sl cs σ H Q, Rep Γ.K Γ.mg F ρ sl cs σ H → PostG Γ F ρ sl σ H W (relVs Γ F sl σ) (f sl cs) Q → t W σ H Q
structure FnK (K : PySem.W.Frag) (mg : Str → Option Value) (P : Program) (w : World) (base : Heap) (k : Nat) (x : Str) (n : Nat) (ks : List Str) (pm : List Nat) (f : FS) : Prop where
  ex : ∃ (a : Addr) (fd : FuncData) (ps : List Str), mg x = some (.ref a) ∧ PySem.W.keepIn K (.ref a) = true ∧ ps.length = n ∧ pm.length = n ∧ (∀ j ∈ pm, j < ks.length) ∧
    (∀ (s : Shared) (ws : List Value), K.In s.heap → ws.length = ks.length → BindsTo s fd ⟨[], ks.zip ws⟩ (ps.zip (pm.map fun j => ws.getD j .none))) ∧ FnG P w K mg base (L2.CX P w) k a fd ps (spOf K mg n f)
def oDefK (f : FS) (m : Nat) (pm : List Nat) (g : SA) : SO := fun sl cs => (g sl cs).bind fun xs cs1 => if xs.length = m then f (pm.map fun j => xs.getD j (.d .none)) cs1 else .bad
def tCallP (sp : Sp) (m : Nat) (pm : List Nat) (E : St → XK) (t : TA) : TE := fun σ H Q => t σ H fun zs H1 => zs.length = m ∧ sp (pm.map fun j => zs.getD j .non) H1 Q (E σ)
theorem getD_rel {α β : Type} {R : α → β → Prop} {a : α} {b : β} : ∀ {xs : List α} {us : List β} {j : Nat}, Paired R xs us → j < xs.length → R (xs.getD j a) (us.getD j b)
  | _, _, j, .nil, h => absurd h (Nat.not_lt_zero j)
  | _, _, 0, .cons r _, _ => r
  | _, _, j + 1, .cons _ t, h => getD_rel (j := j) t (Nat.lt_of_succ_lt_succ h)
theorem map_rel {α β : Type} {R : α → β → Prop} {a : α} {b : β} {xs : List α} {us : List β} (h : Paired R xs us) : ∀ (pm : List Nat), (∀ j ∈ pm, j < xs.length) → Paired R (pm.map fun j => xs.getD j a) (pm.map fun j => us.getD j b)
  | [], _ => .nil
  | j :: pm, hp => .cons (getD_rel h (hp j (by simp))) (map_rel h pm fun i hi => hp i (by simp [hi]))
section
variable {Γ : Cf} {e : Expr} {kws : List Keyword} {nm : Option Str} {kpos pos p : Pos} {f : SE} {g : SA}
theorem dk_nil : DK Γ [] aNil := ⟨fun _ => tNil, fun X W _ _ => pk_nil, fun W F ρ sl cs σ H Q r h => h [] H ρ r Grow.refl .nil⟩
theorem dk_cons (h1 : DE Γ e f) (h2 : DK Γ kws g) : DK Γ (⟨nm, e, kpos⟩ :: kws) (aCons f g) := by
  obtain ⟨t, p1, q1⟩ := h1.ex
  obtain ⟨u, p2, q2⟩ := h2.ex
  refine ⟨fun W => tCons (t W) (u W), fun X W ok gd => pk_cons (p1 X W ok gd) (p2 X W ok gd), fun W F ρ sl cs σ H Q r h => ?_⟩
  refine q1 W F ρ sl cs σ H _ r (PostG.mono (PostG.bind (rel := relV Γ F sl σ) h) fun v H1 ⟨x, cs1, ρ1, r1, g1, a1, h1⟩ => ?_)
  by_cases hsd : x.solid = true
  · rw [if_pos hsd] at h1
    refine q2 W F ρ1 sl cs1 σ H1 _ r1 (PostG.mono (PostG.bind (rel := relVs Γ F sl σ) h1) fun vs H2 ⟨xs, cs2, ρ2, r2, g2, a2, h2⟩ => ?_)
    exact h2 (v :: vs) H2 ρ2 r2 Grow.refl (.cons (AtV.mono (g2.vis r1) g2.pre (a1.solid hsd)) a2)
  · rw [if_neg hsd] at h1
    exact h1.elim
theorem do_defK {x : Str} {n m : Nat} {ks : List Str} {pm : List Nat} {fs : FS} (F : FnK Γ.K Γ.mg Γ.P Γ.w Γ.base Γ.k x n ks pm fs) (hcm : Γ.cm = true) (ha : DK Γ kws g) (hg : Gls Γ.sc x := by rfl) (hdb : (x == ("__debug__" : Str)) = false := by decide)
    (hall : ∀ env, (backToKw pos (keywordEach kws env)).all (·.1.isSome) = true := by intro _; rfl) (hks : ∀ env, (backToKw pos (keywordEach kws env)).filterMap (·.1) = ks := by intro _; rfl)
    (hpl : ∀ env, ((backTo pos (starEach [] env)).any (·.1) || (backToKw pos (keywordEach kws env)).any (·.1.isNone)) = false := by intro _; rfl) (hml : ks.length = m := by rfl) : DO Γ (.Call (.Name x p) [] kws pos) (oDefK fs m pm g) := by
  subst hml
  obtain ⟨a, fd, ps, gm, kp, hl, hpm, hlt, hb, ok⟩ := F.ex
  obtain ⟨t, p1, q1⟩ := ha.ex
  refine ⟨fun W => tCallP (spOf Γ.K Γ.mg n fs) ks.length pm (WE W) (t W), fun X W okX gd => ?_, fun W F ρ sl cs σ H Q rp h => ?_⟩
  · have ok' : FnG X.prog X.w X.K X.mg X.base (L2.CX X.prog X.w) Γ.k a fd ps (spOf Γ.K Γ.mg n fs) := by rw [okX.P, okX.w, okX.K, okX.mg, okX.base]; exact ok
    have hp1 := p1 X W okX gd
    refine ⟨fun pins s σ H Q I h => ?_⟩
    refine wpAny_Call_Name_kw (ld_glob I (gl_of okX hg) (by rw [okX.mg]; exact gm) ?_ hdb)
    refine PySem.W.callWith_KW0 (h₀ := X.base) I.ok.mod.kin (by rw [okX.K]; exact kp) (hall _) ?_ (hpl _)
    refine thn (hp1.run pos pins s σ H _ I h) fun ws s2 ⟨zs, H2, I2, rz, l1, q2⟩ => ⟨I2.kIn, ?_⟩
    rw [hks]
    have lw : ws.length = ks.length := rz.length.symm.trans l1
    have r2 : Vals (pm.map fun j => zs.getD j .non) (pm.map fun j => ws.getD j .none) := map_rel rz pm fun j hj => by rw [l1]; exact hlt j hj
    exact behind (ws := []) ok' (okX.cm hcm).2 (fun pins H s e s' => passAt gd.tk σ pins H s e s') I2 (hb s2 ws (by rw [← okX.K]; exact I2.kIn) lw) r2 q2
  · refine q1 W F ρ sl cs σ H _ rp (PostG.mono (PostG.bind (rel := relVs Γ F sl σ) h) fun us H1 ⟨xs, cs1, ρ1, r1, g1, a1, h1⟩ => ?_)
    by_cases hxl : xs.length = ks.length
    · rw [if_pos hxl] at h1
      have h1 := h1.imp (rl := relO Γ F sl σ H1) (relO_back fun p hp => g1.back r1 hp)
      have la : Paired (AtV Γ.K Γ.mg ρ1 (vis F ρ1 sl σ H1)) (pm.map fun j => xs.getD j (.d .none)) (pm.map fun j => us.getD j .non) := map_rel a1 pm fun j hj => by rw [hxl]; exact hlt j hj
      refine ⟨(Paired.len a1).symm.trans hxl, by rw [List.length_map]; exact hpm, pm.map fun j => xs.getD j (.d .none), fun b => F.hx b ∨ Own sl σ b, ρ1, cs1, fun b hb => ?_, ?_, ?_, r1.nd, ?_⟩
      · rcases hb with z | z
        · obtain ⟨o, e⟩ := F.hxt b z
          by_cases hm : b ∈ F.ρ0
          · obtain ⟨t, e2, _⟩ := r1.pre
            exact r1.cells.there (by rw [e2]; exact List.mem_append_left _ hm)
          · exact ⟨o, r1.keep b o e hm⟩
        · exact r1.own_there z
      · rw [← hide_or (hx := F.hx)]
        exact la
      · rw [← hide_or (hx := F.hx)]
        exact r1.cells
      · exact call_post r1 h1
    · rw [if_neg hxl] at h1
      exact h1.elim
end

/-! ### the head: constants of the module beside the library's facts -/
def dvOf : PyData → He.Dv
  | .int i => .int i
  | .str x => .str x
  | .bool b => .bl b
  | _ => .non
/-- ints, texts and bools alone -/
def scal : PyData → Bool
  | .int _ => true
  | .str _ => true
  | .bool _ => true
  | .none => true
  | _ => false
theorem scal_at {K : PySem.W.Frag} {G : Hp} {x : PyData} (h : scal x = true) : AtD K G x ((dvOf x).v K) := by
  cases x with
  | int i => exact at_int
  | str i => exact at_str
  | bool i => exact at_bl
  | none => exact at_non
  | _ => cases h
theorem scalL_at {K : PySem.W.Frag} {G : Hp} : ∀ {xs : List PyData}, xs.all scal = true → AtL K G xs ((xs.map dvOf).map (He.Dv.v K))
  | [], _ => AtL.nil
  | x :: xs, h => by
    simp only [List.all_cons, Bool.and_eq_true] at h
    exact AtL.cons (scal_at h.1) (scalL_at h.2)
/-- a constant: the module's name x is bound to a tuple of these, or to a text, an int -/
abbrev Tb : Type := List (Str × List PyData)
def tbOk (tb : Tb) (K : PySem.W.Frag) : Bool := tb.all fun q => q.2.all scal && He.tupB K q.1 (q.2.map dvOf)
def obsT (n : Nat) (fa : List He.Fa) (fn : List He.DefD) (tb : Tb) (g : Addr → Option Obj) : He.AlD × Bool := (He.obsDG n fa fn g, tbOk tb (He.frG g (He.asD g n)))
def hookT (n : Nat) (fa : List He.Fa) (fn : List He.DefD) (tb : Tb) : PySem.W.Hook where
  α := He.AlD × Bool
  obs := fun s => obsT n fa fn tb s.heap.get?
  val := fun _ => (He.valD fn, true)
  says := fun _ h => ∃ K : PySem.W.Frag, K.In h ∧ He.SaysD fa fn K ∧ tbOk tb K = true
  of := fun _ _ e => ⟨_, He.frG_in, congrArg (fun z : He.AlD × Bool => z.1) e, congrArg (fun z : He.AlD × Bool => z.2) e⟩
  keeps := fun _ _ _ ⟨K, hK, c⟩ k => ⟨K, PySem.W.Frag.In.keeps hK k, c⟩
theorem obsT_eq {n : Nat} {fa : List He.Fa} {fn : List He.DefD} {tb : Tb} {g : Addr → Option Obj} {s : Shared} (h : ∀ a, g a = s.heap.get? a) : obsT n fa fn tb g = (hookT n fa fn tb).obs s := by
  have e : g = s.heap.get? := funext h
  rw [e]
  rfl
section
variable {K : PySem.W.Frag} {mg : Str → Option Value} {h : Heap}
theorem glob_tup {tb : Tb} {x : Str} {ds : List PyData} (c : tbOk tb K = true) (i : Nat) (e : tb[i]? = some (x, ds)) (g : mg x = some (.ref (He.ga K x))) : GlobD K mg x (.tuple ds) := by
  have z := List.all_eq_true.mp c _ (List.mem_of_getElem? e)
  simp only [Bool.and_eq_true] at z
  refine ⟨_, .ref (He.ga K x), g, rfl, fun G => at_tup_iff.mpr ⟨_, _, rfl, He.tupB_ok z.2 G, scalL_at z.1⟩⟩
end
end DL
end
section
set_option Elab.async false
set_option linter.all false
set_option maxRecDepth 100000
set_option autoImplicit false
namespace DL
open PySem PySem.Spec PyProof.Rows L2

/-! ### dicts by ints and texts -/
def keyOf : PyData → Option Key
  | .int i => some (.inl i)
  | .str x => some (.inr x)
  | _ => none
theorem keyOf_keyD (k : Key) : keyOf (keyD k) = some k := by cases k <;> rfl
theorem keyOf_eq {x : PyData} {k : Key} (h : keyOf x = some k) : x = keyD k := by
  cases x with
  | int i => cases h; rfl
  | str i => cases h; rfl
  | _ => cases h
def isK (x : PyData) : Bool := (keyOf x).isSome
/-- the value at k, if any -/
def dFind : List (PyData × PyData) → Key → Option PyData
  | [], _ => none
  | (x, v) :: r, k => if keyOf x = some k then some v else dFind r k
def dPut (kvs : List (PyData × PyData)) (k : Key) (v : PyData) : List (PyData × PyData) :=
  if kvs.any (fun p => decide (keyOf p.1 = some k)) = true then kvs.map (fun p => if keyOf p.1 = some k then (p.1, v) else p) else kvs ++ [(keyD k, v)]
/-- all keys are ints and texts: then the dict is of that kind -/
def kAll (kvs : List (PyData × PyData)) : Bool := match kvs with
  | [] => true
  | (x, _) :: _ => isK x
section
variable {K : PySem.W.Frag} {G : Hp}
theorem atP_find : ∀ {kvs : List (PyData × PyData)} {kv : List (Key × V)} (k : Key), AtP K G kvs kv → (dFind kvs k = none ∧ valV kv k = none) ∨ ∃ x v, dFind kvs k = some x ∧ valV kv k = some v ∧ AtD K G x v
  | [], kv, k, h => by
    simp only [AtP] at h
    subst h
    exact .inl ⟨rfl, rfl⟩
  | (x, y) :: r, kv, k, h => by
    simp only [AtP] at h
    obtain ⟨key, v, t, rfl, rfl, h1, h2⟩ := h
    unfold dFind
    rw [keyOf_keyD]
    by_cases e : key = k
    · subst e
      rw [if_pos rfl]
      exact .inr ⟨y, v, rfl, valV_pos rfl, h1⟩
    · rw [if_neg (fun z => e (Option.some.inj z)), valV_neg e]
      exact atP_find k h2
theorem atP_any : ∀ {kvs : List (PyData × PyData)} {kv : List (Key × V)} (k : Key), AtP K G kvs kv → (kvs.any fun p => decide (keyOf p.1 = some k)) = kv.any fun p => decide (p.1 = k)
  | [], kv, k, h => by
    simp only [AtP] at h
    subst h
    rfl
  | (x, y) :: r, kv, k, h => by
    simp only [AtP] at h
    obtain ⟨key, v, t, rfl, rfl, h1, h2⟩ := h
    rw [List.any_cons, List.any_cons, atP_any k h2, keyOf_keyD]
    congr 1
    by_cases e : key = k
    · subst e; simp
    · simp [e]
theorem atP_map : ∀ {kvs : List (PyData × PyData)} {kv : List (Key × V)} (k : Key) {y : PyData} {u : V}, AtP K G kvs kv → AtD K G y u → AtP K G (kvs.map fun p => if keyOf p.1 = some k then (p.1, y) else p) (kv.map fun p => if p.1 = k then (p.1, u) else p)
  | [], kv, k, y, u, h, _ => by
    simp only [AtP] at h
    subst h
    simp only [List.map_nil, AtP]
  | (x, z) :: r, kv, k, y, u, h, hy => by
    simp only [AtP] at h
    obtain ⟨key, v, t, rfl, rfl, h1, h2⟩ := h
    have ih := atP_map k h2 hy
    rw [List.map_cons, List.map_cons]
    by_cases e : key = k
    · subst e
      rw [if_pos (keyOf_keyD key), if_pos rfl]
      simp only [AtP]
      exact ⟨key, u, _, rfl, rfl, hy, ih⟩
    · rw [if_neg (by rw [keyOf_keyD]; exact fun z => e (Option.some.inj z)), if_neg e]
      simp only [AtP]
      exact ⟨key, v, _, rfl, rfl, h1, ih⟩
theorem atP_snoc : ∀ {kvs : List (PyData × PyData)} {kv : List (Key × V)} (k : Key) {y : PyData} {u : V}, AtP K G kvs kv → AtD K G y u → AtP K G (kvs ++ [(keyD k, y)]) (kv ++ [(k, u)])
  | [], kv, k, y, u, h, hy => by
    simp only [AtP] at h
    subst h
    simp only [List.nil_append, AtP]
    exact ⟨k, u, [], rfl, rfl, hy, rfl⟩
  | (x, z) :: r, kv, k, y, u, h, hy => by
    simp only [AtP] at h
    obtain ⟨key, v, t, rfl, rfl, h1, h2⟩ := h
    simp only [List.cons_append, AtP]
    exact ⟨key, v, _, rfl, rfl, h1, atP_snoc k h2 hy⟩
theorem atP_put {kvs : List (PyData × PyData)} {kv : List (Key × V)} (k : Key) {y : PyData} {u : V} (h : AtP K G kvs kv) (hy : AtD K G y u) : AtP K G (dPut kvs k y) (putK kv k u) := by
  unfold dPut putK
  rw [atP_any k h]
  split
  · exact atP_map k h hy
  · exact atP_snoc k h hy
theorem atP_len : ∀ {kvs : List (PyData × PyData)} {kv : List (Key × V)}, AtP K G kvs kv → kvs.length = kv.length
  | [], kv, h => by simp only [AtP] at h; subst h; rfl
  | (x, z) :: r, kv, h => by
    simp only [AtP] at h
    obtain ⟨key, v, t, rfl, rfl, h1, h2⟩ := h
    rw [List.length_cons, List.length_cons, atP_len h2]
/-- the kind by the first key -/
theorem kind_K {kvs : List (PyData × PyData)} {kv : List (List Key × V)} (h : kAll kvs = true) (ne : kvs ≠ []) (q : AtQ K G kvs kv) : False := by
  cases kvs with
  | nil => exact ne rfl
  | cons p r =>
    obtain ⟨x, y⟩ := p
    simp only [AtQ] at q
    obtain ⟨keys, v, t, rfl, rfl, _⟩ := q
    exact Bool.noConfusion h
theorem keyAt {x : PyData} {k : Key} {v : V} (e : keyOf x = some k) (h : AtD K G x v) : v = kV k := by
  rw [keyOf_eq e] at h
  cases k with
  | inl i => exact at_int_iff.mp h
  | inr i => exact at_str_iff.mp h
end
section
variable {Γ : Cf}
/-- a dict, lent or not -/
theorem dat_dict {x : Val} {kvs : List (PyData × PyData)} (h : x.dat = some (.dict kvs)) (hk : kAll kvs = true) {K : PySem.W.Frag} {mg : Str → Option Value} {F : Fx} {ρ : List Addr} {sl : Sl} {σ : St} {H : Hp} {v : V} (a : AtW K mg ρ H (vis F ρ sl σ H) x v) :
    ∃ p kv, v = .ref p ∧ H p = some (.dK kv) ∧ AtP K (vis F ρ sl σ H) kvs kv := by
  cases x with
  | d x =>
    cases h
    obtain ⟨p, rfl, q⟩ := at_dict_iff.mp (AtT.d (mg := mg) (ρ := ρ) (H := H) a)
    rcases q with ⟨kv, s, l⟩ | ⟨kv, ne, s, l⟩
    · exact ⟨p, kv, rfl, vis_le _ _ s, l⟩
    · exact (kind_K hk ne l).elim
  | br x =>
    cases h
    obtain ⟨p, rfl, q⟩ := a
    rcases q with ⟨kv, s, l⟩ | ⟨kv, ne, s, l⟩
    · exact ⟨p, kv, rfl, s, l⟩
    · exact (kind_K hk ne l).elim
  | _ => cases h
theorem dat_key {x : Val} {a : PyData} {k : Key} (h : x.dat = some a) (e : keyOf a = some k) {K : PySem.W.Frag} {mg : Str → Option Value} {ρ : List Addr} {H G : Hp} {v : V} (q : AtW K mg ρ H G x v) : v = kV k := by
  rw [keyOf_eq e] at h
  cases k with
  | inl i => exact dat_int h q
  | inr i => exact dat_str h q
def dictK (x : PyData) : Option (List (PyData × PyData)) := match x with
  | .dict kvs => if kAll kvs = true then some kvs else none
  | _ => none
theorem dictK_eq {x : PyData} {kvs : List (PyData × PyData)} (h : dictK x = some kvs) : x = .dict kvs ∧ kAll kvs = true := by
  unfold dictK at h
  split at h
  · split at h
    · rename_i hk
      cases h
      exact ⟨rfl, hk⟩
    · cases h
  · cases h
/-- k in d -/
def inKD (x y : PyData) : Option PyData := match keyOf x, dictK y with
  | some k, some kvs => some (.bool (dFind kvs k).isSome)
  | _, _ => none
def notInKD (x y : PyData) : Option PyData := match keyOf x, dictK y with
  | some k, some kvs => some (.bool (!(dFind kvs k).isSome))
  | _, _ => none
def rInK (neg : Bool) : R2 := fun y x H Q => ∃ a o, x = .ref a ∧ DGet H a y o ∧ Q (.bl (if neg then !o.isSome else o.isSome)) H
theorem op_inK {X : Cx} (hu : X.A.units + 1 < cLine) : OpR X (compareOp .In) (rInK false) := by
  intro pins s σ H x y v u Q I rx ry h
  obtain ⟨a, o, rfl, g, q⟩ := h
  obtain rfl : u = Value.ref a := ry
  exact d_in hu I g rx fun s3 I3 => ⟨.bl o.isSome, H, I3, rfl, q⟩
theorem op_notInK {X : Cx} (hu : X.A.units + 1 < cLine) : OpR X (compareOp .NotIn) (rInK true) := by
  intro pins s σ H x y v u Q I rx ry h
  obtain ⟨a, o, rfl, g, q⟩ := h
  obtain rfl : u = Value.ref a := ry
  exact d_notIn hu I g rx fun s3 I3 => ⟨.bl (!o.isSome), H, I3, rfl, q⟩
theorem od_inK : OpD Γ (compareOp .In) inKD := by
  refine ⟨rInK false, fun X ok => op_inK (by have := ok.un; omega), fun W F ρ sl cs σ H Q x y a b u v rp e1 e2 h1 h2 hp => ?_⟩
  unfold inKD at hp
  split at hp
  · rename_i k kvs ek ed
    obtain ⟨rfl, hk⟩ := dictK_eq ed
    obtain ⟨p, kv, rfl, s, l⟩ := dat_dict e2 hk h2
    refine ⟨p, valV kv k, rfl, by rw [dat_key e1 ek h1]; exact DGet.k s, ?_⟩
    rw [show (valV kv k).isSome = (dFind kvs k).isSome by
      rcases atP_find k l with ⟨z1, z2⟩ | ⟨x, w, z1, z2, _⟩ <;> rw [z1, z2] <;> rfl]
    exact hp _ H ρ rp Grow.refl AtT.mkB
  · exact hp.elim
theorem od_notInK : OpD Γ (compareOp .NotIn) notInKD := by
  refine ⟨rInK true, fun X ok => op_notInK (by have := ok.un; omega), fun W F ρ sl cs σ H Q x y a b u v rp e1 e2 h1 h2 hp => ?_⟩
  unfold notInKD at hp
  split at hp
  · rename_i k kvs ek ed
    obtain ⟨rfl, hk⟩ := dictK_eq ed
    obtain ⟨p, kv, rfl, s, l⟩ := dat_dict e2 hk h2
    refine ⟨p, valV kv k, rfl, by rw [dat_key e1 ek h1]; exact DGet.k s, ?_⟩
    rw [show (valV kv k).isSome = (dFind kvs k).isSome by
      rcases atP_find k l with ⟨z1, z2⟩ | ⟨x, w, z1, z2, _⟩ <;> rw [z1, z2] <;> rfl]
    exact hp _ H ρ rp Grow.refl AtT.mkB
  · exact hp.elim
def inD (x y : PyData) : Option PyData := (inSD x y).or ((inTD x y).or (inKD x y))
def notInD (x y : PyData) : Option PyData := (notInSD x y).or ((notInTD x y).or (notInKD x y))
theorem od_in : OpD Γ (compareOp .In) inD := od_inS.or (od_inT.or od_inK)
theorem od_notIn : OpD Γ (compareOp .NotIn) notInD := od_notInS.or (od_notInT.or od_notInK)
/-- o[i], dicts too -/
def ixD (x y : Val) (cs : Cs) : R Val := match x.dat, y.dat with
  | some (.dict kvs), some k => (match keyOf k with
    | some k => if kAll kvs = true then R.of ((dFind kvs k).map Val.d) cs else .bad
    | none => .bad)
  | _, _ => idxV x y cs
def eIx (f g : SE) : SE := fun sl cs => (f sl cs).bind fun x cs1 => (g sl cs1).bind fun y cs2 => ixD x y cs2
def rIxD : R2 := fun x y H Q => ∃ a v, x = .ref a ∧ DGet H a y (some v) ∧ Q v H
theorem ix_dict {X : Cx} (hu : X.A.units + 1 < cLine) : IxR X rIxD := by
  intro value slice pins s σ H x y v u Q I rx ry h hs
  obtain ⟨a, w, rfl, g, q⟩ := h
  obtain rfl : v = Value.ref a := rx
  exact tail_any (dict_typeIs I g) PySem.F.slot_dict_getitem.lookup (d_getItem hu I g ry fun w' s3 I3 rw' => ⟨w, H, I3, rw', q⟩) hs
variable {pos p p2 apos cpos : Pos} {a b e e2 : Expr} {fa fb f f2 : SE}
theorem de_ix (ha : DE Γ a fa) (hb : DE Γ b fb) (hs : PlainIx b := by intro _ _; rfl) : DE Γ (.Subscript a b pos) (eIx fa fb) := by
  obtain ⟨ta, p1, q1⟩ := ha.ex
  obtain ⟨tb, p2, q2⟩ := hb.ex
  refine ⟨fun W => tOp (fun x y H Q => rIx Γ.K x y H Q ∨ rIxD x y H Q) (ta W) (tb W), fun X W ok gd => by rw [← ok.K]; exact pe_ix (IxR.or ix_seq (ix_dict (by have := ok.un; omega))) (p1 X W ok gd) (p2 X W ok gd) hs, fun W F ρ sl cs σ H Q rp h => ?_⟩
  refine q1 W F ρ sl cs σ H _ rp (PostG.mono (PostG.bind (rel := relV Γ F sl σ) h) fun u H1 ⟨x, cs1, ρ1, r1, g1, a1, h1⟩ => ?_)
  refine q2 W F ρ1 sl cs1 σ H1 _ r1 (PostG.mono (PostG.bind (rel := relV Γ F sl σ) h1) fun v H2 ⟨y, cs2, ρ2, r2, g2, a2, h2⟩ => ?_)
  have a1' := AtT.grow r1 g2 a1
  unfold ixD at h2
  split at h2
  · rename_i kvs k e1 e2
    split at h2
    · rename_i k' ek
      split at h2
      · rename_i hk
        obtain ⟨p, kv, rfl, s, l⟩ := dat_dict e1 hk a1'.w
        rcases atP_find k' l with ⟨z1, z2⟩ | ⟨w, z, z1, z2, az⟩
        · rw [z1] at h2; exact h2.elim
        · rw [z1] at h2
          refine .inr ⟨p, z, rfl, ?_, h2 z H2 ρ2 r2 Grow.refl (AtT.mk az)⟩
          rw [dat_key e2 ek (AtT.w a2), ← z2]
          exact DGet.k s
      · exact h2.elim
    · exact h2.elim
  · exact .inl (idx_ok r2 a1' a2 h2)
/-- d.get(k), d.get(k, x) -/
def getV (x y z : Val) (cs : Cs) : R Val := match x.dat, y.dat with
  | some (.dict kvs), some k => (match keyOf k with
    | some k => if kAll kvs = true then (match dFind kvs k with
      | some v => .ok (.d v) cs
      | none => if z.solid = true then .ok z cs else .bad) else .bad
    | none => .bad)
  | _, _ => .bad
/-- {} -/
def oNewK : SO := fun _ cs => .ok (.ow (.dict [])) cs
theorem do_newK : DO Γ (.Dict [] [] pos) oNewK := by
  refine ⟨fun _ => tDNewK, fun X W _ _ => pe_dnewK, fun W F ρ sl cs σ H Q r h t ht => ?_⟩
  obtain ⟨rp', hv⟩ := r.alloc ht (.dK [])
  exact h _ _ ρ rp' (Grow.upd ht) ⟨t, rfl, ht, by rw [hide_upd ht]; exact r, .inl ⟨[], upd_same, by simp only [AtP]⟩⟩
end
end DL
end
section
set_option Elab.async false
set_option linter.all false
set_option maxRecDepth 100000
set_option autoImplicit false
namespace DL
open PySem PySem.Spec PyProof.Rows L2
section
variable {Γ : Cf} {pos p p2 apos cpos : Pos} {a b e e2 : Expr} {fa fb f f2 : SE}
/-! ### enumerate: a list or a tuple -/
def enumW (xs : List Val) (cs : Cs) : R (List Val) := match xs with
  | [.d (.list l)] => .ok (enumFrom 0 l) cs
  | [.d (.tuple l)] => .ok (enumFrom 0 l) cs
  | _ => .bad
def pEnm (g : SA) : SA := fun sl cs => (g sl cs).bind enumW
theorem dp_enm {g : SA} {elts : List Expr} {kk : Nat} {tpos : Pos} (hm : Γ.mg "enumerate" = none) (ha : DB Γ [e] g) (hg : Gls Γ.sc "enumerate" := by rfl) (hs : ∀ env, starEach [e] env = [(false, eval e env)] := by intro _; rfl) :
    DP Γ (.Tuple elts kk tpos) (.Call (.Name "enumerate" p) [e] [] pos) (pEnm g) := by
  obtain ⟨t, p1, q⟩ := ha.ex
  refine ⟨fun W σ H R => iEnum Γ.K (t W) σ H R ∨ iEnT Γ.K (t W) σ H R, fun X W ok gd => by rw [← ok.K]; exact PI.or (pi_enum (gl_of ok hg) (by rw [ok.mg]; exact hm) (p1 X W ok gd) (hs _)) (pi_enT (gl_of ok hg) (by rw [ok.mg]; exact hm) (p1 X W ok gd) (hs _)), fun W F ρ sl cs σ H R rp h => ?_⟩
  unfold pEnm at h
  cases eg : g sl cs with
  | bad => rw [eg] at h; exact h.elim
  | ex x cs1 =>
    rw [eg] at h
    exact .inl (q W F ρ sl cs σ H _ rp (by rw [eg]; exact h))
  | ok xs cs1 =>
    rw [eg, DL.R.bind_ok] at h
    have go : ∀ {Q : List V → Hp → Prop}, (∀ us H1 ρ1, Rep Γ.K Γ.mg F ρ1 sl cs1 σ H1 → Grow ρ H ρ1 H1 → relTs Γ F sl σ ρ1 H1 cs1 xs us → Q us H1) → t W σ H Q := fun {Q} k => q W F ρ sl cs σ H Q rp (by rw [eg]; exact fun us H1 ρ1 r1 g1 a1 => k us H1 ρ1 r1 g1 a1)
    unfold enumW at h
    split at h
    · rename_i l
      refine .inl (go fun us H1 ρ1 r1 g1 a1 => ?_)
      obtain ⟨u, rfl, q1⟩ := one_of a1
      obtain ⟨a, vs, rfl, s, ll⟩ := at_list_iff.mp q1.d
      refine ⟨a, vs, rfl, SqL.of (vis_le _ _ s), h _ H1 ρ1 r1 g1 ?_⟩
      intro i F1 ρ2 sl1 cs2 σ1 H2 H3 D r2 eD hD sub
      have s2 : SqL Γ.K H3 a vs := SqL.of (hide_le' eD _ _ (vis_le _ _ (sub _ _ s)))
      refine ⟨fun hi => ⟨vs, s2, by rw [← ll.length, ← enum_len (n := 0)]; exact hi⟩, fun y hy => ?_⟩
      obtain ⟨d, ed, rfl⟩ := enum_get hy
      obtain ⟨v, ev, av⟩ := ll.get ed
      refine ⟨⟨vs, v, s2, ev⟩, fun u H4 hu => ?_⟩
      obtain ⟨T, x, rfl, hT, rfl, hu⟩ := hu
      have e2 := hu vs s2
      rw [ev] at e2
      cases e2
      exact rel_pair r2 eD hD hT (AtL.cons (by rw [Nat.zero_add]; exact at_int) (AtL.cons (AtD.mono sub d v av) AtL.nil))
    · rename_i l
      refine .inr (go fun us H1 ρ1 r1 g1 a1 => ?_)
      obtain ⟨u, rfl, q1⟩ := one_of a1
      obtain ⟨a, vs, rfl, s, ll⟩ := AtT.tup q1
      refine ⟨a, vs, rfl, sqT_sub vis_le s, h _ H1 ρ1 r1 g1 ?_⟩
      intro i F1 ρ2 sl1 cs2 σ1 H2 H3 D r2 eD hD sub
      have s2 : SqT Γ.K H3 a vs := sqT_sub (hide_le' eD) (sqT_sub vis_le (sqT_sub sub s))
      refine ⟨fun hi => ⟨vs, s2, rfl, by rw [← ll.length, ← enum_len (n := 0)]; exact hi⟩, fun y hy => ?_⟩
      obtain ⟨d, ed, rfl⟩ := enum_get hy
      obtain ⟨v, ev, av⟩ := ll.get ed
      refine ⟨⟨vs, v, s2, rfl, ev⟩, fun u H4 hu => ?_⟩
      obtain ⟨T, x, rfl, hT, rfl, hu⟩ := hu
      have e2 := hu vs s2
      rw [ev] at e2
      cases e2
      exact rel_pair r2 eD hD hT (AtL.cons (by rw [Nat.zero_add]; exact at_int) (AtL.cons (AtD.mono sub d v av) AtL.nil))
    · exact h.elim

/-! ### repr of what is no object -/
def reprB (xs : List Val) (cs : Cs) : R Val := match xs with
  | [.d (.int i)] => if i.natAbs.log2 < 1920 then .ok (.d (.str (toString i))) cs else .bad
  | [.d (.bool b)] => .ok (.d (.str (if b then "True" else "False"))) cs
  | [.d .none] => .ok (.d (.str "None")) cs
  | _ => .bad
theorem cr_reprA {X : Cx} : CallR X (.builtin "repr") (fun xs H Q => (∃ i, xs = [.int i] ∧ i.natAbs.log2 < 1920 ∧ Q (.str (toString i)) H) ∨ (∃ b : Bool, xs = [.bl b] ∧ Q (.str (if b then "True" else "False")) H) ∨ (xs = [.non] ∧ Q (.str "None") H)) := by
  refine CallR.or SkE.call_repr_int (CallR.or ?_ ?_)
  · intro pins s σ H xs us Q I r h
    obtain ⟨b, rfl, q⟩ := h
    cases r with
    | cons r t =>
      cases t
      cases (show _ = Value.bool b from r)
      exact PySem.P.repr_of_bool ⟨.str _, H, I.tok _, ⟨_, rfl⟩, q⟩
  · intro pins s σ H xs us Q I r h
    obtain ⟨rfl, q⟩ := h
    cases r with
    | cons r t =>
      cases t
      cases (show _ = Value.none from r)
      exact PySem.P.repr_of_none ⟨.str _, H, I.tok _, ⟨_, rfl⟩, q⟩
theorem cd_repr : CallD Γ (.builtin "repr") reprB := by
  refine ⟨_, fun X ok => cr_reprA, fun W F ρ sl cs σ H Q xs us rp ha hp => ?_⟩
  unfold reprB at hp
  split at hp
  · rename_i i
    obtain ⟨u, rfl, q⟩ := one_of ha
    split at hp
    · rename_i hl
      rw [AtT.int q]
      exact .inl ⟨i, rfl, hl, hp _ H ρ rp Grow.refl AtT.mkS⟩
    · exact hp.elim
  · rename_i i
    obtain ⟨u, rfl, q⟩ := one_of ha
    rw [AtT.bl q]
    exact .inr (.inl ⟨i, rfl, hp _ H ρ rp Grow.refl AtT.mkS⟩)
  · obtain ⟨u, rfl, q⟩ := one_of ha
    rw [AtT.non q]
    exact .inr (.inr ⟨rfl, hp _ H ρ rp Grow.refl AtT.mkS⟩)
  · exact hp.elim

/-! ### sorted of ints -/
def insI (x : Int) : List Int → List Int
  | [] => [x]
  | y :: r => if x ≤ y then x :: y :: r else y :: insI x r
def sortI : List Int → List Int
  | [] => []
  | x :: r => insI x (sortI r)
theorem insI_perm (x : Int) : ∀ l : List Int, (insI x l).Perm (x :: l)
  | [] => List.Perm.refl _
  | y :: r => by
    unfold insI
    split
    · exact List.Perm.refl _
    · exact ((insI_perm x r).cons y).trans (List.Perm.swap x y r)
theorem sortI_perm : ∀ l : List Int, (sortI l).Perm l
  | [] => List.Perm.refl _
  | x :: r => (insI_perm x _).trans ((sortI_perm r).cons x)
theorem insI_le {x : Int} : ∀ {l : List Int}, l.Pairwise (· ≤ ·) → (insI x l).Pairwise (· ≤ ·)
  | [], _ => by simp [insI]
  | y :: r, h => by
    obtain ⟨h1, h2⟩ := List.pairwise_cons.mp h
    unfold insI
    split
    · rename_i hxy
      refine List.pairwise_cons.mpr ⟨fun z hz => ?_, h⟩
      rcases List.mem_cons.mp hz with e | hz
      · subst e; exact hxy
      · exact Int.le_trans hxy (h1 z hz)
    · rename_i hxy
      refine List.pairwise_cons.mpr ⟨fun z hz => ?_, insI_le h2⟩
      rcases List.mem_cons.mp ((insI_perm x r).mem_iff.mp hz) with e | hz
      · subst e; omega
      · exact h1 z hz
theorem sortI_le : ∀ l : List Int, (sortI l).Pairwise (· ≤ ·)
  | [] => List.Pairwise.nil
  | x :: r => insI_le (sortI_le r)
theorem sort_unique : ∀ {a b : List Int}, a.Perm b → a.Pairwise (· ≤ ·) → b.Pairwise (· ≤ ·) → a = b
  | [], b, h, _, _ => (List.nil_perm.mp h).symm
  | x :: a, [], h, _, _ => absurd h.symm (by simp)
  | x :: a, y :: b, h, ha, hb => by
    obtain ⟨h1, h2⟩ := List.pairwise_cons.mp ha
    obtain ⟨k1, k2⟩ := List.pairwise_cons.mp hb
    have e : x = y := by
      have m1 : x ∈ y :: b := h.mem_iff.mp (by simp)
      have m2 : y ∈ x :: a := h.mem_iff.mpr (by simp)
      rcases List.mem_cons.mp m1 with z | z
      · exact z
      · rcases List.mem_cons.mp m2 with z2 | z2
        · exact z2.symm
        · exact Int.le_antisymm (h1 y z2) (k1 x z)
    subst e
    rw [sort_unique (List.perm_cons x |>.mp h) h2 k2]
def sortV (xs : List Val) (cs : Cs) : R Val := R.of ((intsL xs).map fun ns => .d (.list ((sortI ns).map PyData.int))) cs
def sortO (xs : List Val) (cs : Cs) : R Slot := R.of ((intsL xs).map fun ns => .ow (.list ((sortI ns).map PyData.int))) cs
theorem atL_ints {K : PySem.W.Frag} {G : Hp} : ∀ ns : List Int, AtL K G (ns.map PyData.int) (ns.map V.int)
  | [] => AtL.nil
  | n :: ns => AtL.cons at_int (atL_ints ns)
theorem cd_sorted : CallD Γ (.builtin "sorted") sortV := by
  refine ⟨rSortedI Γ.K, fun X ok => by rw [← ok.K]; exact cr_sortedI, fun W F ρ sl cs σ H Q xs us rp ha hp => ?_⟩
  unfold sortV at hp
  cases e : intsL xs with
  | none => rw [e] at hp; exact hp.elim
  | some ns =>
    rw [e] at hp
    obtain ⟨a, rfl, s⟩ := intsL_at e ha
    refine ⟨a, ns, rfl, s, fun ns' t h1 h2 ht => ?_⟩
    obtain rfl : ns' = sortI ns := sort_unique (h1.trans (sortI_perm ns).symm) h2 (sortI_le ns)
    obtain ⟨rp', hv⟩ := rp.alloc ht (.lst ((sortI ns).map V.int))
    exact hp _ _ ρ rp' (Grow.upd ht) (AtT.mk (at_list_iff.mpr ⟨t, _, rfl, hv, atL_ints _⟩))
theorem co_sorted : CallO Γ (.builtin "sorted") sortO := by
  refine ⟨rSortedI Γ.K, fun X ok => by rw [← ok.K]; exact cr_sortedI, fun W F ρ sl cs σ H Q xs us rp ha hp => ?_⟩
  unfold sortO at hp
  cases e : intsL xs with
  | none => rw [e] at hp; exact hp.elim
  | some ns =>
    rw [e] at hp
    obtain ⟨a, rfl, s⟩ := intsL_at e ha
    refine ⟨a, ns, rfl, s, fun ns' t h1 h2 ht => ?_⟩
    obtain rfl : ns' = sortI ns := sort_unique (h1.trans (sortI_perm ns).symm) h2 (sortI_le ns)
    obtain ⟨rp', hv⟩ := rp.alloc ht (.lst ((sortI ns).map V.int))
    exact hp _ _ ρ rp' (Grow.upd ht) ⟨t, rfl, ht, by rw [hide_upd ht]; exact rp, _, upd_same, atL_ints _⟩

/-! ### xs.index(y) -/
def placeOf : List PyData → PyData → Option Nat
  | [], _ => none
  | z :: r, y => if PyData.eqv z y = true then some 0 else (placeOf r y).map (· + 1)
theorem placeOf_ok : ∀ {l : List PyData} {y : PyData} {j : Nat}, placeOf l y = some j → ∃ z, l[j]? = some z ∧ PyData.eqv z y = true ∧ ∀ m z', m < j → l[m]? = some z' → PyData.eqv z' y = false
  | [], _, _, h => by cases h
  | z :: r, y, j, h => by
    unfold placeOf at h
    split at h
    · rename_i e
      cases h
      exact ⟨z, rfl, e, fun m z' hm => absurd hm (Nat.not_lt_zero m)⟩
    · rename_i e
      cases ep : placeOf r y with
      | none => rw [ep] at h; cases h
      | some i =>
        rw [ep] at h
        cases h
        obtain ⟨w, h1, h2, h3⟩ := placeOf_ok ep
        refine ⟨w, by simpa using h1, h2, fun m z' hm hz => ?_⟩
        cases m with
        | zero =>
          simp at hz
          subst hz
          cases q : PyData.eqv z y with
          | true => exact absurd q e
          | false => rfl
        | succ m => exact h3 m z' (Nat.lt_of_succ_lt_succ hm) (by simpa using hz)
def indexV (x y : Val) (cs : Cs) : R Val := match x.dat, y.dat with
  | some (.list ds), some d => if SeqAt.shaped (.list ds) = true ∧ SeqAt.shaped d = true then R.of ((placeOf ds d).map fun j => .d (.int (j : Nat))) cs else .bad
  | _, _ => .bad
def eIndex (f g : SE) : SE := fun sl cs => (f sl cs).bind fun x cs1 => (match x.dat with
  | some (.list _) => (g sl cs1).bind fun y cs2 => indexV x y cs2
  | _ => .bad)
theorem de_index (ha : DE Γ a fa) (hb : DE Γ b fb) (hbase : ∀ env, attributeBase a "index" env (eval a env) = eval a env := by intro _; rfl)
    (hfew : ∀ env, ((backTo cpos (starEach [b] env)).all (fun x => !x.1) && (backToKw cpos (keywordEach [] env)).all (fun x => x.1.isSome) && decide ([b].length + ([] : List Keyword).length + (if ([] : List Keyword).isEmpty then 0 else 1) < 30)) = true := by intro _; rfl)
    (hline : (apos.endLine == cpos.line) = true := by rfl) (hs : ∀ env, starEach [b] env = [(false, eval b env)] := by intro _; rfl) : DE Γ (.Call (.Attribute a "index" apos) [b] [] cpos) (eIndex fa fb) := by
  obtain ⟨ta, p1, q1⟩ := ha.ex
  obtain ⟨tb, p2, q2⟩ := hb.ex
  refine ⟨fun W => tBM Γ.K "list" (rIndexD Γ.K) (ta W) (tCons (tb W) tNil), fun X W ok gd => ?_, fun W F ρ sl cs σ H Q rp h => ?_⟩
  · rw [← ok.K]
    exact pe_bm F.plainAttrs_list F.slot_list_index F.type_list_index (mt_indexD (by have := ok.un; omega)) (p1 X W ok gd) (pa_cons (p2 X W ok gd) pa_nil (hs _)) (hbase _) (hfew _) hline (hs _) rfl
  · refine q1 W F ρ sl cs σ H _ rp (PostG.mono (PostG.bind (rel := relV Γ F sl σ) h) fun u H1 ⟨x, cs1, ρ1, r1, g1, a1, h1⟩ => ?_)
    split at h1
    · rename_i ds ed
      obtain ⟨pa, vs, rfl, s, l⟩ := dat_list ed (AtT.w a1)
      refine ⟨.inl ⟨rfl, vs, SqL.of s⟩, ?_⟩
      refine q2 W F ρ1 sl cs1 σ H1 _ r1 (PostG.mono (PostG.bind (rel := relV Γ F sl σ) h1) fun v H2 ⟨y, cs2, ρ2, r2, g2, a2, h2⟩ => ?_)
      have a1' := AtT.grow r1 g2 a1
      unfold indexV at h2
      rw [ed] at h2
      split at h2
      · rename_i ds' d e1 e2
        cases e1
        split at h2
        · rename_i hc
          cases ep : placeOf ds d with
          | none => rw [ep] at h2; exact h2.elim
          | some j =>
            rw [ep] at h2
            obtain ⟨z, z1, z2, z3⟩ := placeOf_ok ep
            exact ⟨pa, v, d, ds, j, z, rfl, rfl, dat_dp ed (SeqAt.canLay_of_shaped hc.1) a1'.w, dat_dp e2 (SeqAt.canLay_of_shaped hc.2) (AtT.w a2), hc.1, hc.2, z1, z2, z3, h2 _ H2 ρ2 r2 Grow.refl AtT.mkI⟩
        · exact h2.elim
      · exact h2.elim
    · exact h1.elim
end
end DL
end
section
set_option Elab.async false
set_option linter.all false
set_option maxRecDepth 100000
set_option autoImplicit false
namespace DL
open PySem PySem.Spec PyProof.Rows L2
/-! ### dict comprehensions with keys of ints and texts -/
def dcL (g : Val → Sl → Option Sl) (tt : ST) (tk tv : SE) (slB : Sl) : List Val → List (PyData × PyData) → Cs → R (List (PyData × PyData))
  | [], acc, cs => .ok acc cs
  | x :: xs, acc, cs => match g x slB with
    | none => .bad
    | some sl1 => (noEx (tt sl1 cs)).bind fun b cs1 => if b = true then (noEx (tk sl1 cs1)).bind fun k cs2 => (noEx (tv sl1 cs2)).bind fun v cs3 => match k, v with
        | .d kd, .d y => (match keyOf kd with
          | some key => dcL g tt tk tv slB xs (dPut acc key y) cs3
          | none => .bad)
        | _, _ => .bad
      else dcL g tt tk tv slB xs acc cs1
def oDc (it : SA) (g : Val → Sl → Option Sl) (tt : ST) (tk tv : SE) (vs : List Nat) : SO := fun sl cs => (it sl cs).bind fun xs cs1 => if xs.length ≤ 16777216 then (dcL g tt tk tv (blkSl sl vs) xs [] cs1).bind fun ys cs2 => .ok (.ow (.dict ys)) cs2 else .bad
theorem dPut_len (kvs : List (PyData × PyData)) (k : Key) (v : PyData) : (dPut kvs k v).length ≤ kvs.length + 1 := by
  unfold dPut
  split
  · rw [List.length_map]; omega
  · rw [List.length_append, List.length_singleton]; omega
section
variable {Γ : Cf}
theorem dc_sem {F : Fx} {ρ ρ1 : List Addr} {sl : Sl} {cs cs1 : Cs} {σ : St} {H H1 : Hp} {W : WX} {Q : VK} {D : Addr} {ix vs : List Nat} {g : Val → Sl → Option Sl} {tt : ST} {tk tv : SE} {scope : Scope} {tg' : TG} {tt' : WX → TT} {tk' tv' : WX → TE} {J : It} {xs : List Val}
    (qg : ∀ F ρ sl cs σ H x u Q sl', Rep Γ.K Γ.mg F ρ sl cs σ H → AtV Γ.K Γ.mg ρ (vis F ρ sl σ H) x u → g x sl = some sl' →
      (∀ σ', Rep Γ.K Γ.mg F ρ sl' cs σ' H → Sub (vis F ρ sl σ H) (vis F ρ sl' σ' H) → (∀ vs : List Nat, (∀ i ∈ ix, i ∈ vs) → wipe σ' vs = wipe σ vs) → Q σ' H) → tg' u σ H Q)
    (qt : ∀ W F ρ sl cs σ H Q, Rep Γ.K Γ.mg F ρ sl cs σ H → PostG (Γ.blk scope) F ρ sl σ H W relB (tt sl cs) Q → tt' W σ H Q)
    (qk : ∀ W F ρ sl cs σ H Q, Rep Γ.K Γ.mg F ρ sl cs σ H → PostG (Γ.blk scope) F ρ sl σ H W (relV (Γ.blk scope) F sl σ) (tk sl cs) Q → tk' W σ H Q)
    (qe : ∀ W F ρ sl cs σ H Q, Rep Γ.K Γ.mg F ρ sl cs σ H → PostG (Γ.blk scope) F ρ sl σ H W (relV (Γ.blk scope) F sl σ) (tv sl cs) Q → tv' W σ H Q)
    (hix : ∀ i ∈ ix, i ∈ vs) (r : Rep Γ.K Γ.mg F ρ sl cs σ H) (r1 : Rep Γ.K Γ.mg F ρ1 sl cs1 σ H1) (g1 : Grow ρ H ρ1 H1) (a1 : relI Γ F sl σ ρ1 H1 cs1 xs J) (hl : xs.length ≤ 16777216)
    (h1 : PostG Γ F ρ1 sl σ H1 W (relO Γ F sl σ H) ((dcL g tt tk tv (blkSl sl vs) xs [] cs1).bind fun ys cs2 => .ok (.ow (.dict ys)) cs2) Q) (hD : H1 D = none) :
    ∃ W : Nat → Nat → Hp → Prop, (∃ m, W 0 m (upd H1 D (.dK []))) ∧ ∀ i m H, W i m H → (J.stop i H ∧ Q (.ref D) H) ∨ (J.go i H ∧ ∃ Nx : Hp → Prop, (∀ H', Nx H' → ∃ m', m' < m ∧ W (i + 1) m' H') ∧ ∀ x H', J.yld i H x H' →
      tg' x (wipe σ vs) H' fun σ2 H2 => wipe σ2 vs = wipe σ vs ∧ tt' W0 σ2 H2 fun b H3 => if b = true then tk' W0 σ2 H3 fun y H4 => tv' W0 σ2 H4 fun z H5 => ∃ kvs k, y = kV k ∧ H5 D = some (.dK kvs) ∧ kvs.length < sizeLine ∧ Nx (upd H5 D (.dK (putK kvs k z))) else Nx H3) := by
  let St : Nat → Hp → Prop := fun i H' => ∃ cs' ρ' acc accV, Rep Γ.K Γ.mg F ρ' sl cs' σ (hide (· = D) H') ∧ Grow ρ1 H1 ρ' (hide (· = D) H') ∧ H' D = some (.dK accV) ∧ AtP Γ.K (vis F ρ' sl σ (hide (· = D) H')) acc accV ∧ acc.length ≤ i ∧ i ≤ xs.length ∧
    PostG Γ F ρ1 sl σ H1 W (relO Γ F sl σ H) ((dcL g tt tk tv (blkSl sl vs) (xs.drop i) acc cs').bind fun ys cs2 => .ok (.ow (.dict ys)) cs2) Q
  refine ⟨fun i m H' => m = xs.length - i ∧ St i H', ⟨_, rfl, cs1, ρ1, [], [], ?_, ?_, upd_same, by simp only [AtP], Nat.le_refl _, Nat.zero_le _, ?_⟩, ?_⟩
  · rw [hide_upd hD]; exact r1
  · rw [hide_upd hD]; exact Grow.refl
  · exact h1
  rintro i m H2 ⟨rfl, cs', ρ', acc, accV, r2, g2, eD, l, hacc, hi, h2⟩
  obtain ⟨st, it⟩ := a1 i F ρ' sl cs' σ (hide (· = D) H2) H2 (· = D) r2 rfl (fun a z => (show ∃ o, H2 a = some o from (show a = D from z) ▸ ⟨_, eD⟩)) (g2.vis r1)
  by_cases hlt : i < xs.length
  · obtain ⟨go, yl⟩ := it xs[i] (List.getElem?_eq_getElem hlt)
    refine .inr ⟨go, St (i + 1), fun H' hN => ⟨xs.length - (i + 1), by omega, rfl, hN⟩, fun u H3 hy => ?_⟩
    obtain ⟨H4, e4, hD4, r4, g4, a4⟩ := yl u H3 hy
    subst e4
    have eD3 : H3 D = some (.dK accV) := (hD4 D rfl).trans eD
    have l4 := AtP.mono (g4.vis r2) _ _ l
    have g14 := g2.trans r2.cells g4
    have th := sub_there r4 ⟨_, eD3⟩
    have rb := rep_blk r4 vs th
    rw [List.drop_eq_getElem_cons hlt] at h2
    unfold dcL at h2
    cases eg : g xs[i] (blkSl sl vs) with
    | none => rw [eg] at h2; exact h2.elim
    | some sl5 =>
      rw [eg] at h2
      dsimp only at h2
      rw [R.bind_assoc] at h2
      refine qg _ ρ' (blkSl sl vs) cs' (wipe σ vs) H3 xs[i] u _ sl5 rb (AtV.mono vis_sub' (fun _ _ z => z) a4) eg fun σ5 r5 sub5 w5 => ⟨by rw [w5 vs hix, wipe_wipe fun _ z => z], ?_⟩
      refine qt W0 _ ρ' sl5 cs' σ5 H3 _ r5 (post_noEx (Γ := Γ) (rel := relB) h2 fun b cs6 _ h3 b' H6 ρ6 r6 g6 eb => ?_)
      have eb : b = b' := eb
      subst eb
      obtain ⟨r6', g6', eD6⟩ := rep_back r4 r6 g6
      have l6 := AtP.mono (g6'.vis r4) _ _ l4
      have g16 := g14.trans r4.cells g6'
      cases b with
      | false =>
        rw [if_neg (by decide)] at h3 ⊢
        exact ⟨cs6, ρ6, acc, accV, r6', g16, eD6.trans eD3, l6, by omega, by omega, h3⟩
      | true =>
        rw [if_pos rfl] at h3 ⊢
        rw [R.bind_assoc] at h3
        refine qk W0 _ ρ6 sl5 cs6 σ5 H6 _ r6 (post_noEx (Γ := Γ) (rel := relV Γ _ sl5 σ5) h3 fun k cs7 _ h4 u7 H7 ρ7 r7 g7 a7 => ?_)
        have g47 := g6.trans r6.cells g7
        rw [R.bind_assoc] at h4
        refine qe W0 _ ρ7 sl5 cs7 σ5 H7 _ r7 (post_noEx (Γ := Γ) (rel := relV Γ _ sl5 σ5) h4 fun v cs8 _ h5 u8 H8 ρ8 r8 g8 a8 => ?_)
        obtain ⟨r8', g8', eD8⟩ := rep_back r4 r8 (g47.trans r7.cells g8)
        have l8 := AtP.mono (g8'.vis r4) _ _ l4
        have g18 := g14.trans r4.cells g8'
        have e8 : H8 D = some (.dK accV) := eD8.trans eD3
        split at h5
        · rename_i _ _ kd y _ _
          split at h5
          · rename_i key ek
            have ay : AtD Γ.K (vis F ρ8 sl σ (hide (· = D) H8)) y u8 := AtD.mono vis_sub _ _ a8.d
            have ll := atP_len l8
            refine ⟨accV, key, keyAt ek a7.d, e8, by rw [sizeLine_eq, ← ll]; omega, cs8, ρ8, dPut acc key y, putK accV key u8, ?_, ?_, upd_same, ?_, by have := dPut_len acc key y; omega, by omega, h5⟩
            · rw [hide_upd']; exact r8'
            · rw [hide_upd']; exact g18
            · rw [hide_upd']; exact atP_put key l8 ay
          · exact h5.elim
        · exact h5.elim
  · refine .inl ⟨st (by omega), ?_⟩
    rw [List.drop_eq_nil_of_le (by omega)] at h2
    unfold dcL at h2
    simp only [R.bind_ok] at h2
    refine h2 (.ref D) H2 ρ' r2.unhide ⟨fun a o e hn => hide_le _ _ (g2.keep a o e hn), g2.ext⟩ ⟨D, rfl, g1.back r1 hD, r2, .inl ⟨accV, eD, l⟩⟩
theorem do_dc {kx vx tg iter : Expr} {ifs : List Expr} {scope : Scope} {own : List (Str × Nat)} {pos : Pos} {it : SA} {ix : List Nat} {g : Val → Sl → Option Sl} {tt : ST} {tk tv : SE} (hcm : Γ.cm = true) (hN : Γ.N.Nodup) (hb : BlkOk Γ.N Γ.sc scope own)
    (hi : DP Γ tg iter it) (hg : DG (Γ.blk scope) tg ix g) (ht : DTs (Γ.blk scope) ifs tt) (hk : DE (Γ.blk scope) kx tk) (he : DE (Γ.blk scope) vx tv) (hix : ∀ i ∈ ix, i ∈ own.map (·.2) := by decide) (hs : ∀ env x, foldedSetIterable iter env x = pure x := by intro _ _; rfl) :
    DO Γ (.DictComp kx vx [⟨tg, iter, ifs, 0⟩] scope pos) (oDc it g tt tk tv (own.map (·.2))) := by
  obtain ⟨wi, pi, qi⟩ := hi.ex
  obtain ⟨tg', pg, qg⟩ := hg.ex
  obtain ⟨tt', pt, qt⟩ := ht.ex
  obtain ⟨tk', pk, qk⟩ := hk.ex
  obtain ⟨te', pe, qe⟩ := he.ex
  refine ⟨fun W => tDc (wi W) tg' (tt' W0) (tk' W0) (te' W0) (own.map (·.2)), fun X W ok gd => ?_, fun W F ρ sl cs σ H Q r h => ?_⟩
  · exact pe_dc (ok.cm hcm).1 (by rw [ok.N]; exact hN) (pi X W ok gd) (by rw [ok.N, ok.sc]; exact hb) (fun s H C cl fp => pg _ (blk_ok ok s H C cl fp)) (fun s H C cl fp => pt _ W0 (blk_ok ok s H C cl fp) (blk_good s H C cl fp)) (fun s H C cl fp => pk _ W0 (blk_ok ok s H C cl fp) (blk_good s H C cl fp)) (fun s H C cl fp => pe _ W0 (blk_ok ok s H C cl fp) (blk_good s H C cl fp)) (hs _)
  · refine qi W F ρ sl cs σ H _ r (PostG.mono (PostG.bind (rel := relI Γ F sl σ) h) fun J H1 ⟨xs, cs1, ρ1, r1, g1, a1, h1⟩ D hD => ?_)
    by_cases hl : xs.length ≤ 16777216
    · rw [if_pos hl] at h1
      exact dc_sem (Γ := Γ) (scope := scope) qg qt qk qe hix r r1 g1 a1 hl h1 hD
    · rw [if_neg hl] at h1
      exact h1.elim
end
end DL
end
section
set_option Elab.async false
set_option linter.all false
set_option maxRecDepth 100000
set_option autoImplicit false
namespace DL
open PySem PySem.Spec PyProof.Rows L2
/-! ### list comprehensions of two clauses -/
def lcL2 (g : Val → Sl → Option Sl) (tt : ST) (it1 : SA) (g1 : Val → Sl → Option Sl) (tt1 : ST) (te : SE) (slB : Sl) (vs1 : List Nat) : List Val → Cs → R (List PyData)
  | [], cs => .ok [] cs
  | x :: xs, cs => match g x slB with
    | none => .bad
    | some sl1 => (noEx (tt sl1 cs)).bind fun b cs1 => if b = true then (noEx (it1 sl1 cs1)).bind fun zs cs2 => (noEx (lcL g1 tt1 te (wipeS sl1 vs1) zs cs2)).bind fun ys cs3 => (lcL2 g tt it1 g1 tt1 te slB vs1 xs cs3).bind fun r cs4 => .ok (ys ++ r) cs4
      else lcL2 g tt it1 g1 tt1 te slB vs1 xs cs1
def oLc2 (it : SA) (g : Val → Sl → Option Sl) (tt : ST) (it1 : SA) (g1 : Val → Sl → Option Sl) (tt1 : ST) (te : SE) (vs vs1 : List Nat) : SO := fun sl cs => (it sl cs).bind fun xs cs1 => (noEx (lcL2 g tt it1 g1 tt1 te (blkSl sl vs) vs1 xs cs1)).bind fun ys cs2 => if ys.length ≤ 16777216 then .ok (.ow (.list ys)) cs2 else .bad
theorem eq_noEx {α β : Type} {r : R α} {k : α → Cs → R β} {a : β} {c : Cs} (h : (noEx r).bind k = .ok a c) : ∃ x c1, r = .ok x c1 ∧ k x c1 = .ok a c := by
  cases r with
  | ok x c1 => exact ⟨x, c1, rfl, h⟩
  | ex e c1 => cases h
  | bad => cases h
theorem eq_bind {α β : Type} {r : R α} {k : α → Cs → R β} {a : β} {c : Cs} (h : r.bind k = .ok a c) : ∃ x c1, r = .ok x c1 ∧ k x c1 = .ok a c := by
  cases r with
  | ok x c1 => exact ⟨x, c1, rfl, h⟩
  | ex e c1 => cases h
  | bad => cases h
section
variable {K : PySem.W.Frag} {mg : Str → Option Value} {F : Fx} {ρ ρ' : List Addr} {sl slB : Sl} {cs cs' : Cs} {σ σB : St} {H H' : Hp} {D : Addr}
/-- slots of a block, seen from the def's frame -/
def BSlots (K : PySem.W.Frag) (mg : Str → Option Value) (ρ : List Addr) (G : Hp) (slB : Sl) (σB : St) : Prop := slB.length = σB.length ∧ ∀ (i : Nat) (s : Slot), slB[i]? = some (some s) → ∃ v u, s = .fr v ∧ σB[i]? = some (some u) ∧ AtV K mg ρ G v u
theorem BSlots.mono {G G' : Hp} (hs : Sub G G') (hp : ∀ (n : Nat) (a : Addr), ρ[n]? = some a → ρ'[n]? = some a) (h : BSlots K mg ρ G slB σB) : BSlots K mg ρ' G' slB σB :=
  ⟨h.1, fun i s e => let ⟨v, u, e1, e2, q⟩ := h.2 i s e; ⟨v, u, e1, e2, AtV.mono hs hp q⟩⟩
theorem BSlots.wipe (h : BSlots K mg ρ H slB σB) : ∀ vs : List Nat, BSlots K mg ρ H (wipeS slB vs) (L2.wipe σB vs) := fun vs => by
  refine ⟨by rw [wipeS_length, wipe_length]; exact h.1, fun i s e => ?_⟩
  obtain ⟨e1, e2⟩ := wipeS_get e
  obtain ⟨v, u, e3, e4, q⟩ := h.2 i s e1
  exact ⟨v, u, e3, by rw [wipe_at e2]; exact e4, q⟩
theorem rep_blkS (r : Rep K mg F ρ sl cs σ (hide (· = D) H)) (hB : BSlots K mg ρ (vis F ρ sl σ (hide (· = D) H)) slB σB) (h : ∀ a, (a = D ∨ F.hx a ∨ Own sl σ a) → ∃ o, H a = some o) :
    Rep K mg (subF F ρ sl σ H D h) ρ slB cs σB H ∧ Sub (vis F ρ sl σ (hide (· = D) H)) (vis (subF F ρ sl σ H D h) ρ slB σB H) := by
  have no : ∀ a, ¬ Own slB σB a := fun a ⟨i, x, e1, _⟩ => by
    obtain ⟨v, u, e3, _⟩ := hB.2 i _ e1
    cases e3
  have hs : Sub (vis F ρ sl σ (hide (· = D) H)) (vis (subF F ρ sl σ H D h) ρ slB σB H) := by
    unfold vis
    rw [hide_hide]
    refine hide_sub fun a o hn e => ⟨fun z => hn ?_, e⟩
    rcases z with (z | z | z) | z | z
    · exact .inl z
    · exact .inr (.inl z)
    · exact .inr (.inr (.inr z))
    · exact .inr (.inr (.inl z))
    · exact (no a z).elim
  refine ⟨⟨hB.1, r.cells.unhide hs, r.nd, ⟨[], by simp [subF], fun _ z => by simp at z⟩, fun a z => (no a z).elim, fun i j x y a e1 => ?_, fun a o e _ => e, fun i s e => ?_⟩, hs⟩
  · obtain ⟨v, u, e3, _⟩ := hB.2 i _ e1
    cases e3
  · obtain ⟨v, u, rfl, e2, q⟩ := hB.2 i s e
    exact ⟨u, e2, AtV.mono hs (fun _ _ z => z) q⟩
/-- back: the block's slots, seen from the def -/
theorem bslots_back {h : ∀ a, (a = D ∨ F.hx a ∨ Own sl σ a) → ∃ o, H a = some o} (rb : Rep K mg (subF F ρ sl σ H D h) ρ' slB cs' σB H') (nf : ∀ (i : Nat) (s : Slot), slB[i]? = some (some s) → ∃ v, s = .fr v) : BSlots K mg ρ' (vis F ρ' sl σ (hide (· = D) H')) slB σB := by
  refine ⟨rb.len, fun i s e => ?_⟩
  obtain ⟨v, rfl⟩ := nf i s e
  obtain ⟨u, e2, q⟩ := rb.slot i _ e
  exact ⟨v, u, rfl, e2, AtV.mono (v := v) vis_sub (fun _ _ z => z) q⟩
end
/-- a target makes no owning slot -/
def NoOw (sl : Sl) : Prop := ∀ (i : Nat) (s : Slot), sl[i]? = some (some s) → ∃ v, s = Slot.fr v
def GNo (g : Val → Sl → Option Sl) : Prop := ∀ x sl sl', NoOw sl → g x sl = some sl' → NoOw sl'
theorem gno_nm (i : Nat) : GNo (gNm i) := fun x sl sl' h e j s es => by
  cases e
  rcases set_get es with ⟨_, _, z⟩ | ⟨_, z⟩
  · cases z; exact ⟨x, rfl⟩
  · exact h j s z
def GsNo (g : List PyData → Sl → Option Sl) : Prop := ∀ x sl sl', NoOw sl → g x sl = some sl' → NoOw sl'
theorem gsno_nil : GsNo gsNil := fun x sl sl' h e => by
  unfold gsNil at e
  split at e
  · cases e; exact h
  · cases e
theorem gsno_cons {g : Val → Sl → Option Sl} {gs : List PyData → Sl → Option Sl} (h1 : GNo g) (h2 : GsNo gs) : GsNo (gsCons g gs) := fun x sl sl' h e => by
  unfold gsCons at e
  split at e
  · rename_i y r
    cases e1 : g (.d y) sl with
    | none => rw [e1] at e; cases e
    | some sl1 =>
      rw [e1] at e
      exact h2 r sl1 sl' (h1 _ _ _ h e1) e
  · cases e
theorem gno_tp {gs : List PyData → Sl → Option Sl} (h1 : GsNo gs) : GNo (gTp gs) := fun x sl sl' h e => by
  unfold gTp at e
  split at e
  · exact h1 _ _ _ h e
  · exact h1 _ _ _ h e
  · cases e
theorem noOw_blk {sl : Sl} {vs : List Nat} : NoOw (blkSl sl vs) := fun i s e => let ⟨v, e1, _⟩ := blkSl_get e; ⟨v, e1⟩
theorem noOw_wipe {sl : Sl} {vs : List Nat} (h : NoOw sl) : NoOw (wipeS sl vs) := fun i s e => h i s (wipeS_get e).1
section
variable {Γ : Cf}
theorem lc2_sem {F : Fx} {ρ1 : List Addr} {sl : Sl} {cs1 csF : Cs} {σ : St} {H1 : Hp} {Q : VK} {D : Addr} {ix ix1 vs vs1 : List Nat} {g g1 : Val → Sl → Option Sl} {tt tt1 : ST} {it1 : SA} {te : SE} {scope : Scope} {tg' tg1' : TG} {tt' tt1' : WX → TT} {wi1 : WX → TI} {te' : WX → TE} {J : It} {xs : List Val} {fin : List PyData}
    (qg : ∀ F ρ sl cs σ H x u Q sl', Rep Γ.K Γ.mg F ρ sl cs σ H → AtV Γ.K Γ.mg ρ (vis F ρ sl σ H) x u → g x sl = some sl' →
      (∀ σ', Rep Γ.K Γ.mg F ρ sl' cs σ' H → Sub (vis F ρ sl σ H) (vis F ρ sl' σ' H) → (∀ vs : List Nat, (∀ i ∈ ix, i ∈ vs) → wipe σ' vs = wipe σ vs) → Q σ' H) → tg' u σ H Q)
    (qt : ∀ W F ρ sl cs σ H Q, Rep Γ.K Γ.mg F ρ sl cs σ H → PostG (Γ.blk scope) F ρ sl σ H W relB (tt sl cs) Q → tt' W σ H Q)
    (qi1 : ∀ W F ρ sl cs σ H R, Rep Γ.K Γ.mg F ρ sl cs σ H → PostG (Γ.blk scope) F ρ sl σ H W (relI (Γ.blk scope) F sl σ) (it1 sl cs) R → wi1 W σ H R)
    (qg1 : ∀ F ρ sl cs σ H x u Q sl', Rep Γ.K Γ.mg F ρ sl cs σ H → AtV Γ.K Γ.mg ρ (vis F ρ sl σ H) x u → g1 x sl = some sl' →
      (∀ σ', Rep Γ.K Γ.mg F ρ sl' cs σ' H → Sub (vis F ρ sl σ H) (vis F ρ sl' σ' H) → (∀ vs : List Nat, (∀ i ∈ ix1, i ∈ vs) → wipe σ' vs = wipe σ vs) → Q σ' H) → tg1' u σ H Q)
    (qt1 : ∀ W F ρ sl cs σ H Q, Rep Γ.K Γ.mg F ρ sl cs σ H → PostG (Γ.blk scope) F ρ sl σ H W relB (tt1 sl cs) Q → tt1' W σ H Q)
    (qe : ∀ W F ρ sl cs σ H Q, Rep Γ.K Γ.mg F ρ sl cs σ H → PostG (Γ.blk scope) F ρ sl σ H W (relV (Γ.blk scope) F sl σ) (te sl cs) Q → te' W σ H Q)
    (hix : ∀ i ∈ ix, i ∈ vs) (hix1 : ∀ i ∈ ix1, i ∈ vs1) (ng : GNo g) (r1 : Rep Γ.K Γ.mg F ρ1 sl cs1 σ H1) (a1 : relI Γ F sl σ ρ1 H1 cs1 xs J)
    (h1 : lcL2 g tt it1 g1 tt1 te (blkSl sl vs) vs1 xs cs1 = .ok fin csF) (hl : fin.length ≤ 16777216) (hD : H1 D = none)
    (post : ∀ H' ρ', Rep Γ.K Γ.mg F ρ' sl csF σ (hide (· = D) H') → Grow ρ1 H1 ρ' (hide (· = D) H') → OwnAt Γ.K H' (vis F ρ' sl σ (hide (· = D) H')) (.list fin) D → Q (.ref D) H') :
    ∃ W : Nat → Nat → Hp → Prop, (∃ m, W 0 m (upd H1 D (.lst []))) ∧ ∀ i m H, W i m H → (J.stop i H ∧ Q (.ref D) H) ∨ (J.go i H ∧ ∃ Nx : Hp → Prop, (∀ H', Nx H' → ∃ m', m' < m ∧ W (i + 1) m' H') ∧ ∀ x H', J.yld i H x H' →
      tg' x (wipe σ vs) H' fun σ2 H2 => wipe σ2 vs = wipe σ vs ∧ tt' W0 σ2 H2 fun b H3 => if b = true then wi1 W0 σ2 H3 fun J1 H4 => ∃ W1 : Nat → Nat → Hp → Prop, (∃ m, W1 0 m H4) ∧ ∀ j k H, W1 j k H →
      (J1.stop j H ∧ Nx H) ∨ (J1.go j H ∧ ∃ Nx1 : Hp → Prop, (∀ H', Nx1 H' → ∃ k', k' < k ∧ W1 (j + 1) k' H') ∧ ∀ x H', J1.yld j H x H' → tg1' x (wipe σ2 vs1) H' fun σ3 H5 => wipe σ3 vs1 = wipe σ2 vs1 ∧ tt1' W0 σ3 H5 fun b H6 =>
        if b = true then te' W0 σ3 H6 fun y H7 => ∃ acc, H7 D = some (.lst acc) ∧ acc.length < sizeLine ∧ Nx1 (upd H7 D (.lst (acc ++ [y]))) else Nx1 H6) else Nx H3) := by
  let St : Nat → Hp → Prop := fun i H' => ∃ cs' ρ' acc accV rest, Rep Γ.K Γ.mg F ρ' sl cs' σ (hide (· = D) H') ∧ Grow ρ1 H1 ρ' (hide (· = D) H') ∧ H' D = some (.lst accV) ∧ AtL Γ.K (vis F ρ' sl σ (hide (· = D) H')) acc accV ∧ acc ++ rest = fin ∧ i ≤ xs.length ∧
    lcL2 g tt it1 g1 tt1 te (blkSl sl vs) vs1 (xs.drop i) cs' = .ok rest csF
  refine ⟨fun i m H' => m = xs.length - i ∧ St i H', ⟨_, rfl, cs1, ρ1, [], [], fin, ?_, ?_, upd_same, AtL.nil, rfl, Nat.zero_le _, h1⟩, ?_⟩
  · rw [hide_upd hD]; exact r1
  · rw [hide_upd hD]; exact Grow.refl
  rintro i m H2 ⟨rfl, cs', ρ', acc, accV, rest, r2, g2, eD, l, hfin, hi, h2⟩
  obtain ⟨st, it⟩ := a1 i F ρ' sl cs' σ (hide (· = D) H2) H2 (· = D) r2 rfl (fun a z => (show ∃ o, H2 a = some o from (show a = D from z) ▸ ⟨_, eD⟩)) (g2.vis r1)
  by_cases hlt : i < xs.length
  · obtain ⟨go, yl⟩ := it xs[i] (List.getElem?_eq_getElem hlt)
    refine .inr ⟨go, St (i + 1), fun H' hN => ⟨xs.length - (i + 1), by omega, rfl, hN⟩, fun u H3 hy => ?_⟩
    obtain ⟨H4, e4, hD4, r4, g4, a4⟩ := yl u H3 hy
    subst e4
    have eD3 : H3 D = some (.lst accV) := (hD4 D rfl).trans eD
    have l4 := AtL.mono (g4.vis r2) _ _ l
    have g14 := g2.trans r2.cells g4
    have th := sub_there r4 ⟨_, eD3⟩
    have rb := rep_blk r4 vs th
    rw [List.drop_eq_getElem_cons hlt] at h2
    unfold lcL2 at h2
    cases eg : g xs[i] (blkSl sl vs) with
    | none => rw [eg] at h2; cases h2
    | some sl5 =>
      rw [eg] at h2
      obtain ⟨b, cs6, et, h3⟩ := eq_noEx h2
      have no5 : NoOw sl5 := ng _ _ _ noOw_blk eg
      refine qg _ ρ' (blkSl sl vs) cs' (wipe σ vs) H3 xs[i] u _ sl5 rb (AtV.mono vis_sub' (fun _ _ z => z) a4) eg fun σ5 r5 sub5 w5 => ⟨by rw [w5 vs hix, wipe_wipe fun _ z => z], ?_⟩
      refine qt W0 _ ρ' sl5 cs' σ5 H3 _ r5 ?_
      rw [et]
      intro b' H6 ρ6 r6 g6 eb
      have eb : b = b' := eb
      subst eb
      obtain ⟨r6', g6', eD6⟩ := rep_back r4 r6 g6
      have l6 := AtL.mono (g6'.vis r4) _ _ l4
      have g16 := g14.trans r4.cells g6'
      have e6 : H6 D = some (.lst accV) := eD6.trans eD3
      cases b with
      | false =>
        rw [if_neg (by decide)] at h3 ⊢
        exact ⟨cs6, ρ6, acc, accV, rest, r6', g16, e6, l6, hfin, by omega, h3⟩
      | true =>
        rw [if_pos rfl] at h3 ⊢
        obtain ⟨zs, cs7, ei, h4⟩ := eq_noEx h3
        obtain ⟨ys, cs8, ey, h5⟩ := eq_noEx h4
        obtain ⟨rr, cs9, er, h6⟩ := eq_bind h5
        simp only [DL.R.ok.injEq] at h6
        obtain ⟨h6, rfl⟩ := h6
        refine qi1 W0 _ ρ6 sl5 cs6 σ5 H6 _ r6 ?_
        rw [ei]
        intro J1 H7 ρ7 r7 g7 a7
        have g47 := g6.trans r6.cells g7
        obtain ⟨r7', g7', eD7⟩ := rep_back r4 r7 g47
        have e7 : H7 D = some (.lst accV) := eD7.trans eD3
        have l7 := AtL.mono (g7'.vis r4) _ _ l4
        have g17 := g14.trans r4.cells g7'
        have bs7 := bslots_back r7 no5
        let St1 : Nat → Hp → Prop := fun j H' => ∃ cs' ρ' acc accV rest1, Rep Γ.K Γ.mg F ρ' sl cs' σ (hide (· = D) H') ∧ Grow ρ1 H1 ρ' (hide (· = D) H') ∧ Grow ρ7 (hide (· = D) H7) ρ' (hide (· = D) H') ∧ H' D = some (.lst accV) ∧ AtL Γ.K (vis F ρ' sl σ (hide (· = D) H')) acc accV ∧ acc ++ (rest1 ++ rr) = fin ∧ j ≤ zs.length ∧
          lcL g1 tt1 te (wipeS sl5 vs1) (zs.drop j) cs' = .ok rest1 cs8
        refine ⟨fun j k H' => k = zs.length - j ∧ St1 j H', ⟨_, rfl, cs7, ρ7, acc, accV, ys, r7', g17, Grow.refl, e7, l7, by rw [h6]; exact hfin, Nat.zero_le _, ey⟩, ?_⟩
        rintro j k Hj ⟨rfl, csj, ρj, accj, accVj, restj, rj, gj, g7j, eDj, lj, hfj, hj, hyj⟩
        have thj := sub_there rj ⟨_, eDj⟩
        have bsj : BSlots Γ.K Γ.mg ρj (vis F ρj sl σ (hide (· = D) Hj)) (wipeS sl5 vs1) (wipe σ5 vs1) := (bs7.mono (g7j.vis r7') g7j.pre).wipe vs1
        obtain ⟨rbj, sbj⟩ := rep_blkS rj bsj thj
        have subj : Sub (vis (subF F ρ' sl σ H3 D th) ρ7 sl5 σ5 H7) (vis (subF F ρj sl σ Hj D thj) ρj (wipeS sl5 vs1) (wipe σ5 vs1) Hj) := fun a o z => sbj a o (g7j.vis r7' a o (vis_sub a o z))
        have hd0 : Hj = hide (fun _ => False) Hj := by funext a; unfold hide; rw [if_neg id]
        obtain ⟨st1, it1'⟩ := a7 j _ ρj (wipeS sl5 vs1) csj (wipe σ5 vs1) Hj Hj (fun _ => False) rbj hd0 (fun _ z => z.elim) subj
        by_cases hltj : j < zs.length
        · obtain ⟨go1, yl1⟩ := it1' zs[j] (List.getElem?_eq_getElem hltj)
          refine .inr ⟨go1, St1 (j + 1), fun H' hN => ⟨zs.length - (j + 1), by omega, rfl, hN⟩, fun u8 H8 hy8 => ?_⟩
          obtain ⟨H9, e9, _, r9, g9, a9⟩ := yl1 u8 H8 hy8
          have e9' : H9 = H8 := by rw [e9]; funext a; unfold hide; rw [if_neg id]
          subst e9'
          rw [List.drop_eq_getElem_cons hltj] at hyj
          unfold lcL at hyj
          cases eg1 : g1 zs[j] (wipeS sl5 vs1) with
          | none => rw [eg1] at hyj; cases hyj
          | some sl10 =>
            rw [eg1] at hyj
            obtain ⟨b1, cs11, et1, hyj⟩ := eq_noEx hyj
            refine qg1 _ ρj (wipeS sl5 vs1) csj (wipe σ5 vs1) H9 zs[j] u8 _ sl10 r9 a9 eg1 fun σ10 r10 sub10 w10 => ⟨by rw [w10 vs1 hix1, wipe_wipe fun _ z => z], ?_⟩
            refine qt1 W0 _ ρj sl10 csj σ10 H9 _ r10 ?_
            rw [et1]
            intro b1' H11 ρ11 r11 g11 eb1
            have eb1 : b1 = b1' := eb1
            subst eb1
            have gj11 := g9.trans r9.cells g11
            obtain ⟨r11', g11', eD11⟩ := rep_back rj r11 gj11
            have l11 := AtL.mono (g11'.vis rj) _ _ lj
            have e11 : H11 D = some (.lst accVj) := eD11.trans eDj
            cases b1 with
            | false =>
              rw [if_neg (by decide)] at hyj ⊢
              exact ⟨cs11, ρ11, accj, accVj, restj, r11', gj.trans rj.cells g11', g7j.trans rj.cells g11', e11, l11, hfj, by omega, hyj⟩
            | true =>
              rw [if_pos rfl] at hyj ⊢
              obtain ⟨v12, cs12, ev12, hyj⟩ := eq_noEx hyj
              refine qe W0 _ ρ11 sl10 cs11 σ10 H11 _ r11 ?_
              rw [ev12]
              intro u12 H12 ρ12 r12 g12 a12
              split at hyj
              · rename_i y12
                obtain ⟨rest12, cs13, er12, hyj⟩ := eq_bind hyj
                simp only [DL.R.ok.injEq] at hyj
                obtain ⟨hy12, rfl⟩ := hyj
                have gj12 := gj11.trans r11.cells g12
                obtain ⟨r12', g12', eD12⟩ := rep_back rj r12 gj12
                have l12 := AtL.mono (g12'.vis rj) _ _ lj
                have e12 : H12 D = some (.lst accVj) := eD12.trans eDj
                have ay : AtD Γ.K (vis F ρ12 sl σ (hide (· = D) H12)) y12 u12 := AtD.mono vis_sub _ _ a12.d
                have ll := l12.length
                have len1 : accj.length < 16777216 := by
                  have := congrArg List.length hfj
                  rw [← hy12] at this
                  simp only [List.length_append, List.length_cons] at this
                  omega
                refine ⟨accVj, e12, by rw [sizeLine_eq, ← ll]; exact len1, cs12, ρ12, accj ++ [y12], accVj ++ [u12], rest12, ?_, ?_, ?_, upd_same, ?_, ?_, by omega, er12⟩
                · rw [hide_upd']; exact r12'
                · rw [hide_upd']; exact gj.trans rj.cells g12'
                · rw [hide_upd']; exact g7j.trans rj.cells g12'
                · rw [hide_upd']; exact l12.append (AtL.cons ay AtL.nil)
                · rw [← hfj, ← hy12]; simp
              · cases hyj
        · refine .inl ⟨st1 (by omega), ?_⟩
          rw [List.drop_eq_nil_of_le (by omega)] at hyj
          unfold lcL at hyj
          simp only [DL.R.ok.injEq] at hyj
          obtain ⟨rfl, rfl⟩ := hyj
          exact ⟨csj, ρj, accj, accVj, rr, rj, gj, eDj, lj, by simpa using hfj, by omega, er⟩
  · refine .inl ⟨st (by omega), ?_⟩
    rw [List.drop_eq_nil_of_le (by omega)] at h2
    unfold lcL2 at h2
    simp only [DL.R.ok.injEq] at h2
    obtain ⟨rfl, rfl⟩ := h2
    rw [List.append_nil] at hfin
    subst hfin
    exact post H2 ρ' r2 g2 ⟨accV, eD, l⟩
theorem do_lc2 {elt tg iter tg1 iter1 : Expr} {ifs ifs1 : List Expr} {scope : Scope} {own : List (Str × Nat)} {vs1 : List Nat} {pos : Pos} {it it1 : SA} {ix ix1 : List Nat} {g g1 : Val → Sl → Option Sl} {tt tt1 : ST} {te : SE} (hcm : Γ.cm = true) (hN : Γ.N.Nodup) (hb : BlkOk Γ.N Γ.sc scope own)
    (hi : DP Γ tg iter it) (hg : DG (Γ.blk scope) tg ix g) (ht : DTs (Γ.blk scope) ifs tt) (hi1 : DP (Γ.blk scope) tg1 iter1 it1) (hg1 : DG (Γ.blk scope) tg1 ix1 g1) (ht1 : DTs (Γ.blk scope) ifs1 tt1) (he : DE (Γ.blk scope) elt te) (ng : GNo g)
    (hv : ∀ i ∈ vs1, i ∈ own.map (·.2) := by decide) (hix : ∀ i ∈ ix, i ∈ own.map (·.2) := by decide) (hix1 : ∀ i ∈ ix1, i ∈ vs1 := by decide) (hs : ∀ env x, foldedSetIterable iter env x = pure x := by intro _ _; rfl) (hs1 : ∀ env x, foldedSetIterable iter1 env x = pure x := by intro _ _; rfl) :
    DO Γ (.ListComp elt [⟨tg, iter, ifs, 0⟩, ⟨tg1, iter1, ifs1, 0⟩] scope pos) (oLc2 it g tt it1 g1 tt1 te (own.map (·.2)) vs1) := by
  obtain ⟨wi, pi, qi⟩ := hi.ex
  obtain ⟨tg', pg, qg⟩ := hg.ex
  obtain ⟨tt', pt, qt⟩ := ht.ex
  obtain ⟨wi1, pi1, qi1⟩ := hi1.ex
  obtain ⟨tg1', pg1, qg1⟩ := hg1.ex
  obtain ⟨tt1', pt1, qt1⟩ := ht1.ex
  obtain ⟨te', pe, qe⟩ := he.ex
  refine ⟨fun W => tLc2 (wi W) tg' (tt' W0) (wi1 W0) tg1' (tt1' W0) (te' W0) (own.map (·.2)) vs1, fun X W ok gd => ?_, fun W F ρ sl cs σ H Q r h => ?_⟩
  · exact pe_lc2 (ok.cm hcm).1 (by rw [ok.N]; exact hN) (pi X W ok gd) (by rw [ok.N, ok.sc]; exact hb) hv (fun s H C cl fp => pg _ (blk_ok ok s H C cl fp)) (fun s H C cl fp => pt _ W0 (blk_ok ok s H C cl fp) (blk_good s H C cl fp)) (fun s H C cl fp => pi1 _ W0 (blk_ok ok s H C cl fp) (blk_good s H C cl fp))
      (fun s H C cl fp => pg1 _ (blk_ok ok s H C cl fp)) (fun s H C cl fp => pt1 _ W0 (blk_ok ok s H C cl fp) (blk_good s H C cl fp)) (fun s H C cl fp => pe _ W0 (blk_ok ok s H C cl fp) (blk_good s H C cl fp)) (hs _) hs1
  · refine qi W F ρ sl cs σ H _ r (PostG.mono (PostG.bind (rel := relI Γ F sl σ) h) fun J H1 ⟨xs, cs1, ρ1, r1, gg, a1, h1⟩ D hD => ?_)
    cases el : lcL2 g tt it1 g1 tt1 te (blkSl sl (own.map (·.2))) vs1 xs cs1 with
    | bad => rw [el] at h1; exact h1.elim
    | ex e c => rw [el] at h1; exact h1.elim
    | ok fin csF =>
      rw [el] at h1
      by_cases hl : fin.length ≤ 16777216
      · rw [show (noEx (R.ok fin csF)).bind (fun ys cs2 => if ys.length ≤ 16777216 then R.ok (Slot.ow (.list ys)) cs2 else R.bad) = R.ok (Slot.ow (.list fin)) csF from if_pos hl] at h1
        exact lc2_sem (Γ := Γ) (scope := scope) qg qt qi1 qg1 qt1 qe hix hix1 ng r1 a1 el hl hD fun H' ρ' r2 g2 o => h1 (.ref D) H' ρ' r2.unhide ⟨fun a o e hn => hide_le _ _ (g2.keep a o e hn), g2.ext⟩ ⟨D, rfl, gg.back r1 hD, r2, o⟩
      · rw [show (noEx (R.ok fin csF)).bind (fun ys cs2 => if ys.length ≤ 16777216 then R.ok (Slot.ow (.list ys)) cs2 else R.bad) = R.bad from if_neg hl] at h1
        exact h1.elim
end
end DL
end
section
set_option Elab.async false
set_option linter.all false
set_option maxRecDepth 100000
set_option autoImplicit false
namespace DL
open PySem PySem.Spec PyProof.Rows L2
section
variable {Γ : Cf}
/-- y = [.. for .. for ..] on one line -/
theorem ds_setLc2 (i : Nat) {y : Str} {py : Pos} {elt tg iter tg1 iter1 : Expr} {ifs ifs1 : List Expr} {scope : Scope} {own : List (Str × Nat)} {vs1 : List Nat} {pos spos : Pos} {it it1 : SA} {ix ix1 : List Nat} {g g1 : Val → Sl → Option Sl} {tt tt1 : ST} {te : SE} (hcm : Γ.cm = true) (hN : Γ.N.Nodup) (hb : BlkOk Γ.N Γ.sc scope own)
    (hi : DP Γ tg iter it) (hg : DG (Γ.blk scope) tg ix g) (ht : DTs (Γ.blk scope) ifs tt) (hi1 : DP (Γ.blk scope) tg1 iter1 it1) (hg1 : DG (Γ.blk scope) tg1 ix1 g1) (ht1 : DTs (Γ.blk scope) ifs1 tt1) (he : DE (Γ.blk scope) elt te) (ng : GNo g)
    (hk : Γ.sc.kind = .function) (hyl : Γ.sc.names.lookup y = some .local) (hln : (py.line == pos.line) = true) (ha : (scope.names.any fun (n, k) => n == y && (k == .local || k == .cell)) = false) (hy : Γ.N[i]? = some y := by rfl)
    (hv : ∀ i ∈ vs1, i ∈ own.map (·.2) := by decide) (hix : ∀ i ∈ ix, i ∈ own.map (·.2) := by decide) (hix1 : ∀ i ∈ ix1, i ∈ vs1 := by decide) (hs : ∀ env x, foldedSetIterable iter env x = pure x := by intro _ _; rfl) (hs1 : ∀ env x, foldedSetIterable iter1 env x = pure x := by intro _ _; rfl) :
    DS Γ (.Assign [.Name y py] (.ListComp elt [⟨tg, iter, ifs, 0⟩, ⟨tg1, iter1, ifs1, 0⟩] scope pos) spos) (sSet i (oLc2 it g tt it1 g1 tt1 te (own.map (·.2)) vs1)) := by
  obtain ⟨wi, pi, qi⟩ := hi.ex
  obtain ⟨tg', pg, qg⟩ := hg.ex
  obtain ⟨tt', pt, qt⟩ := ht.ex
  obtain ⟨wi1, pi1, qi1⟩ := hi1.ex
  obtain ⟨tg1', pg1, qg1⟩ := hg1.ex
  obtain ⟨tt1', pt1, qt1⟩ := ht1.ex
  obtain ⟨te', pe, qe⟩ := he.ex
  refine ⟨fun W => tAsg (tLc2 (wi W) tg' (tt' W0) (wi1 W0) tg1' (tt1' W0) (te' W0) (own.map (·.2)) vs1) (gName i), fun X W ok gd => ?_, fun W F ρ sl cs σ H D r h => ?_⟩
  · exact ps_setLc2 (ok.cm hcm).1 (by rw [ok.N]; exact hN) (by rw [ok.N]; exact hy) (by rw [ok.sc]; exact hyl) (sw_true (by rw [ok.sc]; exact hk) (by rw [ok.sc]; exact hyl) hln ha) (pi X W ok gd) (by rw [ok.N, ok.sc]; exact hb) hv
      (fun s H C cl fp => pg _ (blk_ok ok s H C cl fp)) (fun s H C cl fp => pt _ W0 (blk_ok ok s H C cl fp) (blk_good s H C cl fp)) (fun s H C cl fp => pi1 _ W0 (blk_ok ok s H C cl fp) (blk_good s H C cl fp))
      (fun s H C cl fp => pg1 _ (blk_ok ok s H C cl fp)) (fun s H C cl fp => pt1 _ W0 (blk_ok ok s H C cl fp) (blk_good s H C cl fp)) (fun s H C cl fp => pe _ W0 (blk_ok ok s H C cl fp) (blk_good s H C cl fp)) (hs _) hs1
  · have h0 : PostG Γ F ρ sl σ H W (relO Γ F sl σ H) (oLc2 it g tt it1 g1 tt1 te (own.map (·.2)) vs1 sl cs) (fun u H1 => D.nx (σ.set i (some u)) H1) := by
      refine PostG.mono (PostS.go h r) fun u H1 ⟨x, cs1, ρ1, r1, g1, a1, h1⟩ => ?_
      exact set_post (Hs := H) r r1 g1 a1 h1
    refine qi W F ρ sl cs σ H _ r (PostG.mono (PostG.bind (rel := relI Γ F sl σ) h0) fun J H1 ⟨xs, cs1, ρ1, r1, gg, a1, h1⟩ Dd hD => ?_)
    cases el : lcL2 g tt it1 g1 tt1 te (blkSl sl (own.map (·.2))) vs1 xs cs1 with
    | bad => rw [el] at h1; exact h1.elim
    | ex e c => rw [el] at h1; exact h1.elim
    | ok fin csF =>
      rw [el] at h1
      by_cases hl : fin.length ≤ 16777216
      · rw [show (noEx (R.ok fin csF)).bind (fun ys cs2 => if ys.length ≤ 16777216 then R.ok (Slot.ow (.list ys)) cs2 else R.bad) = R.ok (Slot.ow (.list fin)) csF from if_pos hl] at h1
        exact lc2_sem (Γ := Γ) (scope := scope) (Q := fun u H1 => D.nx (σ.set i (some u)) H1) qg qt qi1 qg1 qt1 qe hix hix1 ng r1 a1 el hl hD fun H' ρ' r2 g2 o => h1 (.ref Dd) H' ρ' r2.unhide ⟨fun a o e hn => hide_le _ _ (g2.keep a o e hn), g2.ext⟩ ⟨Dd, rfl, gg.back r1 hD, r2, o⟩
      · rw [show (noEx (R.ok fin csF)).bind (fun ys cs2 => if ys.length ≤ 16777216 then R.ok (Slot.ow (.list ys)) cs2 else R.bad) = R.bad from if_neg hl] at h1
        exact h1.elim
def cMul64 (i j : Int) : Bool := (decide (-(2 ^ 64) < i) && decide (i < 2 ^ 64)) || (decide (-(2 ^ 64) < j) && decide (j < 2 ^ 64))
theorem iod_mul : OpD Γ (inplaceOp .Mult) (gI cMul64 fun i j => .int (i * j)) := opD_int (fun X => iop_mul) (fun i j h => by
  unfold cMul64 at h
  simp only [Bool.or_eq_true, Bool.and_eq_true, decide_eq_true_eq] at h
  exact h) fun _ _ _ _ => at_int
/-- x, y = a, b: local names, values that may be fresh -/
def par2 (i j : Nat) (f1 f2 : SO) : SS := fun sl cs => (f1 sl cs).go sl fun s1 cs1 => match s1 with
  | .fr v => (f2 sl cs1).go sl fun s2 cs2 => .nx ((sl.set i (some (.fr v))).set j (some s2)) cs2
  | .ow x => match f2 (blkSl sl []) cs1 with
    | .ok s2 cs2 => .nx ((sl.set i (some (.ow x))).set j (some s2)) cs2
    | _ => .bad
end
/-! ### constants -/
section
variable {K : PySem.W.Frag} {mg : Str → Option Value}
theorem glob_int {x : Str} {i : Int} (h : ∃ t, mg x = some (.int i t)) : GlobD K mg x (.int i) := by
  obtain ⟨t, e⟩ := h
  exact ⟨_, .int i, e, ⟨t, rfl⟩, fun G => at_int⟩
theorem glob_str {x z : Str} (h : ∃ t, mg x = some (.str z t)) : GlobD K mg x (.str z) := by
  obtain ⟨t, e⟩ := h
  exact ⟨_, .str z, e, ⟨t, rfl⟩, fun G => at_str⟩
theorem hide_none {H : Hp} : hide (fun a => False ∨ a ∈ ([] : List Addr)) H = H := by
  funext a
  unfold hide
  rw [if_neg (by simp)]
/-- the law's end: what its def computes of each script -/
theorem law_sp {f : FS} {n : Nat} {H : Hp} {a : Addr} {ns : List Int} (h : ∃ cs, f [.lk (ns.map PyData.int)] [] = .ok (.fr (.d (.bool true))) cs) (hS : SqL K H a (ns.map V.int)) : spOf K mg 1 f [.ref a] H (fun v _ => v = .bl true) fun _ _ _ => False := by
  obtain ⟨cs, e⟩ := h
  refine ⟨rfl, [.lk (ns.map PyData.int)], fun _ => False, [], [], fun _ z => z.elim, ?_, ⟨rfl, fun n c a e => by simp at e⟩, List.nodup_nil, ?_⟩
  · rw [hide_none]
    exact .cons ⟨a, ns.map V.int, rfl, hS, atL_ints ns⟩ .nil
  · rw [e]
    intro u H' ρ' g nd c q
    exact AtT.bl (AtT.of (H := H') (show AtV K mg ρ' (hide (fun a => (fun _ => False) a ∨ a ∈ ρ') H') (.d (.bool true)) u from q))
end
end DL
end
section
set_option Elab.async false
set_option linter.all false
set_option maxRecDepth 100000
set_option autoImplicit false
namespace DL
open PySem PySem.Spec PyProof.Rows L2
abbrev subD : PyData → PyData → Option PyData := gI cT fun i j => .int (i - j)
abbrev divD : PyData → PyData → Option PyData := gI cDiv fun i j => .int (i / j)
abbrev modD : PyData → PyData → Option PyData := gI cMod fun i j => .int (i % j)
abbrev powD : PyData → PyData → Option PyData := gI cPow fun i j => .int (i ^ j.toNat)
abbrev ltD : PyData → PyData → Option PyData := gI cT fun i j => .bool (decide (i < j))
abbrev leD : PyData → PyData → Option PyData := gI cT fun i j => .bool (decide (i ≤ j))
abbrev gtD : PyData → PyData → Option PyData := gI cT fun i j => .bool (decide (j < i))
abbrev geD : PyData → PyData → Option PyData := gI cT fun i j => .bool (decide (j ≤ i))
abbrev iaddD : PyData → PyData → Option PyData := fun x y => (gI cT (fun i j => .int (i + j)) x y).or (gAddS x y)
abbrev imulD : PyData → PyData → Option PyData := gI cMul64 fun i j => .int (i * j)
section
variable {Γ : Cf}
theorem do_fn {x : Str} {n : Nat} {ds : List Val} {f : FS} {g : SA} {e : Expr} {es : List Expr} {p pos : Pos} (F : FnD Γ.K Γ.mg Γ.P Γ.w Γ.base Γ.k x n ds f) (hn : ∀ xs cs, f xs cs = .bad ∨ xs.length = n) (hcm : Γ.cm = true) (ha : DA Γ (e :: es) g) (hg : Gls Γ.sc x := by rfl) (hdb : (x == ("__debug__" : Str)) = false := by decide)
    (he : ∀ env, starEach (e :: es) env = (false, eval e env) :: starEach es env := by intro _; rfl) (hpl : ∀ env, (backTo pos (starEach es env)).any (·.1) = false := by intro _; rfl) : DO Γ (.Call (.Name x p) (e :: es) [] pos) (oDef f ds g) :=
  do_def F hcm ha hg hdb (fun xs cs r er h => by
    rcases hn (xs ++ ds) cs with z | z
    · rw [z] at er
      subst er
      rcases h with ⟨s, c, h⟩ | ⟨s, c, h⟩ <;> cases h
    · rw [List.length_append] at z
      exact z) he hpl
theorem bodyF_ar {n m : Nat} {f : SS} : ∀ xs cs, bodyF n m f xs cs = .bad ∨ xs.length = n := fun xs cs => by
  unfold bodyF
  by_cases h : xs.length = n
  · exact .inr h
  · rw [if_neg h]; exact .inl rfl
/-- a, b = x, y with plain local names -/
theorem sw2 {env : Env} {x y : Str} {px py pt : Pos} {kt k2 : Nat} {a b : Expr} {pt2 : Pos} (hk : env.scope.kind = .function) (hx : env.scope.names.lookup x = some .local) (hy : env.scope.names.lookup y = some .local) (hl : (py.line == px.line) = true) (hne : (x == y) = false)
    (hs : ([a, b].any fun | .Starred .. => true | _ => false) = false) (h1 : [a, b].all (foldedForSure 8) = false) (h2 : [a, b].all (constantsAlone 8) = false) :
    swappedStores [.Tuple [.Name x px, .Name y py] kt pt] (.Tuple [a, b] k2 pt2) env = pure (some [x, y]) := by
  have k1 : env.kindOf x = some .local := hx
  have k2' : env.kindOf y = some .local := hy
  have hb : env.blockKind = .function := by unfold Env.blockKind; rw [hk]; rfl
  have hd : [x, y].eraseDups.length = 2 := by
    have : (y == x) = false := by
      rw [beq_eq_false_iff_ne] at hne ⊢
      exact Ne.symm hne
    simp [List.eraseDups_cons, this]
  unfold swappedStores
  simp only [hb, k1, k2', h1, h2, hs, List.filterMap_cons, List.filterMap_nil, Expr.pos, List.head?_cons, Option.map_some, Option.getD_some, hl, beq_self_eq_true, Bool.and_self, if_true, hd, List.length_cons, List.length_nil]
  refine (if_neg (by decide)).trans ((if_neg (fun z => Bool.noConfusion (hs.symm.trans z))).trans ?_)
  rfl
theorem sw3 {env : Env} {x y z : Str} {px py pz pt : Pos} {kt k2 : Nat} {a b c : Expr} {pt2 : Pos} (hk : env.scope.kind = .function) (hx : env.scope.names.lookup x = some .local) (hy : env.scope.names.lookup y = some .local) (hz : env.scope.names.lookup z = some .local) (hl : (py.line == px.line) = true) (hl2 : (pz.line == px.line) = true)
    (hne : (x == y) = false) (hne2 : (x == z) = false) (hne3 : (y == z) = false) (hs : ([a, b, c].any fun | .Starred .. => true | _ => false) = false) (h1 : [a, b, c].all (foldedForSure 8) = false) (h2 : [a, b, c].all (constantsAlone 8) = false) :
    swappedStores [.Tuple [.Name x px, .Name y py, .Name z pz] kt pt] (.Tuple [a, b, c] k2 pt2) env = pure (some [x, y, z]) := by
  have k1 : env.kindOf x = some .local := hx
  have k2' : env.kindOf y = some .local := hy
  have k3 : env.kindOf z = some .local := hz
  have hb : env.blockKind = .function := by unfold Env.blockKind; rw [hk]; rfl
  have fl : ∀ {u v : Str}, (u == v) = false → (v == u) = false := fun {u v} h => by
    rw [beq_eq_false_iff_ne] at h ⊢
    exact Ne.symm h
  have hd : [x, y, z].eraseDups.length = 3 := by simp [List.eraseDups_cons, fl hne, fl hne2, fl hne3]
  unfold swappedStores
  simp only [hb, k1, k2', k3, h1, h2, hs, List.filterMap_cons, List.filterMap_nil, Expr.pos, List.head?_cons, Option.map_some, Option.getD_some, hl, hl2, beq_self_eq_true, Bool.and_self, if_true, hd, List.length_cons, List.length_nil]
  refine (if_neg (by decide)).trans ((if_neg (fun z => Bool.noConfusion (hs.symm.trans z))).trans ?_)
  rfl
def sPar (i j : Nat) (g : SA) : SS := fun sl cs => (g sl cs).go sl fun xs cs1 => match xs with
  | [v, w] => .nx ((sl.set i (some (.fr v))).set j (some (.fr w))) cs1
  | _ => .bad
def sPar3 (i j l : Nat) (g : SA) : SS := fun sl cs => (g sl cs).go sl fun xs cs1 => match xs with
  | [u, v, w] => .nx (((sl.set i (some (.fr u))).set j (some (.fr v))).set l (some (.fr w))) cs1
  | _ => .bad
theorem ds_par (i j : Nat) {x y : Str} {a b : Expr} {g : SA} {px py pt pos : Pos} {kt k2 pt2} (hcm : Γ.cm = true) (hnd : Γ.N.Nodup) (hk : Γ.sc.kind = .function) (ha : DA Γ [a, b] g) (hi : Γ.N[i]? = some x := by rfl) (hj : Γ.N[j]? = some y := by rfl) (hij : i ≠ j := by decide)
    (hx : Γ.sc.names.lookup x = some .local := by rfl) (hy : Γ.sc.names.lookup y = some .local := by rfl) (hl : (py.line == px.line) = true := by rfl) (hne : (x == y) = false := by decide) (hst : ([a, b].any fun | .Starred .. => true | _ => false) = false := by rfl) (h1 : [a, b].all (foldedForSure 8) = false := by rfl) (h2 : [a, b].all (constantsAlone 8) = false := by rfl)
    (hs : ∀ env, swapsWithSole [.Tuple [.Name x px, .Name y py] kt pt] (.Tuple [a, b] k2 pt2) pos.line env = pure false := by intro _; rfl) : DS Γ (.Assign [.Tuple [.Name x px, .Name y py] kt pt] (.Tuple [a, b] k2 pt2) pos) (sPar i j g) := by
  obtain ⟨t, p1, q⟩ := ha.ex
  refine ⟨fun W => tPar i j (t W), fun X W ok gd => ?_, fun W F ρ sl cs σ H D r h => ?_⟩
  · have e := ok.sc
    exact ps_par (ok.cm hcm).1 (by rw [ok.N]; exact hnd) (by rw [ok.N]; exact hi) (by rw [ok.N]; exact hj) hij (by rw [e]; exact hx) (by rw [e]; exact hy) (p1 X W ok gd) (sw2 (by rw [e]; exact hk) (by rw [e]; exact hx) (by rw [e]; exact hy) hl hne hst h1 h2) (hs _)
  · refine q W F ρ sl cs σ H _ r (PostG.mono (PostS.go h r) fun us H1 ⟨xs, cs1, ρ1, r1, g1, a1, h1⟩ => ?_)
    split at h1
    · rename_i v w
      obtain ⟨u1, u2, rfl, b1, b2⟩ := two_of a1
      refine ⟨u1, u2, rfl, ?_⟩
      obtain ⟨r2, s2⟩ := r1.setFr (i := i) b1
      obtain ⟨r3, s3⟩ := r2.setFr (i := j) (AtV.mono s2 (fun _ _ z => z) b2)
      exact (h1.weak (g1.vis r)) _ H1 ρ1 r3 fun a o z => s3 a o (s2 a o z)
    · exact h1.elim
theorem three_of {R : Val → V → Prop} {x y z : Val} {us : List V} (h : Paired R [x, y, z] us) : ∃ u v w, us = [u, v, w] ∧ R x u ∧ R y v ∧ R z w := by
  cases h with
  | cons r t =>
    obtain ⟨v, w, rfl, b1, b2⟩ := two_of t
    exact ⟨_, v, w, rfl, r, b1, b2⟩
theorem ds_par3 (i j l : Nat) {x y z : Str} {a b c : Expr} {g : SA} {px py pz pt pos : Pos} {kt k2 pt2} (hcm : Γ.cm = true) (hnd : Γ.N.Nodup) (hk : Γ.sc.kind = .function) (ha : DA Γ [a, b, c] g) (hi : Γ.N[i]? = some x := by rfl) (hj : Γ.N[j]? = some y := by rfl) (hll : Γ.N[l]? = some z := by rfl) (hij : i ≠ j := by decide) (hil : i ≠ l := by decide) (hjl : j ≠ l := by decide)
    (hx : Γ.sc.names.lookup x = some .local := by rfl) (hy : Γ.sc.names.lookup y = some .local := by rfl) (hz : Γ.sc.names.lookup z = some .local := by rfl) (hl : (py.line == px.line) = true := by rfl) (hl2 : (pz.line == px.line) = true := by rfl) (hne : (x == y) = false := by decide) (hne2 : (x == z) = false := by decide) (hne3 : (y == z) = false := by decide)
    (hst : ([a, b, c].any fun | .Starred .. => true | _ => false) = false := by rfl) (h1 : [a, b, c].all (foldedForSure 8) = false := by rfl) (h2 : [a, b, c].all (constantsAlone 8) = false := by rfl)
    (hs : ∀ env, swapsWithSole [.Tuple [.Name x px, .Name y py, .Name z pz] kt pt] (.Tuple [a, b, c] k2 pt2) pos.line env = pure false := by intro _; rfl) : DS Γ (.Assign [.Tuple [.Name x px, .Name y py, .Name z pz] kt pt] (.Tuple [a, b, c] k2 pt2) pos) (sPar3 i j l g) := by
  obtain ⟨t, p1, q⟩ := ha.ex
  refine ⟨fun W => tPar3 i j l (t W), fun X W ok gd => ?_, fun W F ρ sl cs σ H D r h => ?_⟩
  · have e := ok.sc
    exact ps_par3 (ok.cm hcm).1 (by rw [ok.N]; exact hnd) (by rw [ok.N]; exact hi) (by rw [ok.N]; exact hj) (by rw [ok.N]; exact hll) hij hil hjl (by rw [e]; exact hx) (by rw [e]; exact hy) (by rw [e]; exact hz) (p1 X W ok gd) (sw3 (by rw [e]; exact hk) (by rw [e]; exact hx) (by rw [e]; exact hy) (by rw [e]; exact hz) hl hl2 hne hne2 hne3 hst h1 h2) (hs _)
  · refine q W F ρ sl cs σ H _ r (PostG.mono (PostS.go h r) fun us H1 ⟨xs, cs1, ρ1, r1, g1, a1, h1⟩ => ?_)
    split at h1
    · rename_i u v w
      obtain ⟨u1, u2, u3, rfl, b1, b2, b3⟩ := three_of a1
      refine ⟨u1, u2, u3, rfl, ?_⟩
      obtain ⟨r2, s2⟩ := r1.setFr (i := i) b1
      obtain ⟨r3, s3⟩ := r2.setFr (i := j) (AtV.mono s2 (fun _ _ z => z) b2)
      obtain ⟨r4, s4⟩ := r3.setFr (i := l) (AtV.mono s3 (fun _ _ z => z) (AtV.mono s2 (fun _ _ z => z) b3))
      exact (h1.weak (g1.vis r)) _ H1 ρ1 r4 fun a o z => s4 a o (s3 a o (s2 a o z))
    · exact h1.elim
/-- x = [..], x a name that an inner block sees -/
theorem sw_cell {elt : Expr} {gs : List Comprehension} {scope : Scope} {pos py : Pos} {y : Str} {l : Nat} {env : Env} (hy : env.scope.names.lookup y = some .cell) : swapsWith (.ListComp elt gs scope pos) (some (.Name y py)) l env = pure false := by
  have ky : env.kindOf y = some .cell := hy
  have e : ((some NameKind.cell : Option NameKind) == some NameKind.local) = false := by decide
  unfold swapsWith
  simp only [ky, e, Bool.and_false, Bool.false_and]
theorem ds_setC (i : Nat) {x : Str} {p pos lp : Pos} {elt : Expr} {gs : List Comprehension} {scope : Scope} {f : SO} (h : DO Γ (.ListComp elt gs scope lp) f) (hnd : Γ.N.Nodup) (hc : Γ.sc.names.lookup x = some .cell := by rfl) (hN : Γ.N[i]? = some x := by rfl) (hst : Γ.st x = true := by rfl) :
    DS Γ (.Assign [.Name x p] (.ListComp elt gs scope lp) pos) (sSet i f) := by
  obtain ⟨t, p1, q⟩ := h.ex
  refine ⟨fun W => tAsg (t W) (gName i), fun X W ok gd => L2.ps_set (by rw [ok.N]; exact hnd) (by rw [ok.N]; exact hN) (.inr (by rw [ok.sc]; exact hc)) (p1 X W ok gd) (sw_cell (by rw [ok.sc]; exact hc)) (by rw [ok.sc]; exact ok.fn x hst), fun W F ρ sl cs σ H D r h => ?_⟩
  refine q W F ρ sl cs σ H _ r (PostG.mono (PostS.go h r) fun u H1 ⟨x, cs1, ρ1, r1, g1, a1, h1⟩ => ?_)
  exact set_post (Hs := H) r r1 g1 a1 h1
end
end DL
end
section
set_option Elab.async false
set_option linter.all false
set_option maxRecDepth 100000
set_option autoImplicit false
namespace DL
open PySem PySem.Spec PyProof.Rows L2
/-! ### a, b = .., .. where fresh lists may stand -/
section
variable {K : PySem.W.Frag} {mg : Str → Option Value} {F : Fx} {ρ ρ' : List Addr} {sl sl' : Sl} {cs cs' : Cs} {σ σ' : St} {H H' : Hp} {p q : Addr} {o : HO}
/-- a fresh object held while something else is worked out -/
noncomputable def holdF (F : Fx) (p : Addr) (o : HO) : Fx := ⟨fun a => F.hx a ∨ a = p, fun a => if a = p then some o else F.H0 a, F.ρ0, fun a h => by
  by_cases e : a = p
  · exact ⟨o, if_pos e⟩
  · rw [if_neg e]
    exact F.hxt a (h.resolve_right e)⟩
theorem vis_hold : vis (holdF F p o) ρ sl σ H = vis F ρ sl σ (hide (· = p) H) := by
  unfold vis
  rw [hide_hide]
  refine hide_congr fun a => ?_
  unfold Hid holdF
  simp only
  constructor
  · rintro ((z | z) | z)
    · exact .inr (.inl z)
    · exact .inl z
    · exact .inr (.inr z)
  · rintro (z | z | z)
    · exact .inl (.inr z)
    · exact .inl (.inl z)
    · exact .inr z
theorem hide_comm : hide (· = p) (hide (· = q) H) = hide (· = q) (hide (· = p) H) := by
  rw [hide_hide, hide_hide]
  exact hide_congr fun a => Or.comm
theorem Rep.hold (r : Rep K mg F ρ sl cs σ (hide (· = p) H)) (e : H p = some o) : Rep K mg (holdF F p o) ρ sl cs σ H := by
  obtain ⟨f1, f2, f3⟩ := r.fresh hide_self
  have np : ∀ a, Own sl σ a → a ≠ p := fun a h z => f3 (z ▸ h)
  refine ⟨r.len, ?_, r.nd, ?_, fun a h => ⟨?_, (r.fr a h).2⟩, r.inj, fun a u h hn => ?_, fun i s e1 => ?_⟩
  · rw [vis_hold]
    exact r.cells.unhide fun _ _ z => z
  · obtain ⟨t, et, ht⟩ := r.pre
    refine ⟨t, et, fun a ha => ?_⟩
    have : a ≠ p := fun z => f2 (by rw [et, ← z]; exact List.mem_append_right _ ha)
    show (if a = p then some o else F.H0 a) = none
    rw [if_neg this]
    exact ht a ha
  · show (if a = p then some o else F.H0 a) = none
    rw [if_neg (np a h)]
    exact (r.fr a h).1
  · have h : (if a = p then some o else F.H0 a) = some u := h
    by_cases z : a = p
    · rw [if_pos z] at h
      cases h
      rw [z]; exact e
    · rw [if_neg z] at h
      exact hide_le _ _ (r.keep a u h hn)
  · obtain ⟨v, e2, s2⟩ := r.slot i s e1
    refine ⟨v, e2, ?_⟩
    rw [vis_hold]
    cases s with
    | fr x => exact s2
    | ow x =>
      obtain ⟨a, rfl, s2⟩ := s2
      obtain ⟨u, eu⟩ := s2.there
      exact ⟨a, rfl, s2.mono (fun _ _ z => z) (hide_ne (ne_hid eu)).symm⟩
theorem Rep.held (n0 : p ∉ F.ρ0) (n1 : F.H0 p = none) (r : Rep K mg (holdF F p o) ρ sl cs σ H) : H p = some o ∧ p ∉ ρ ∧ Rep K mg F ρ sl cs σ (hide (· = p) H) := by
  have k0 : (holdF F p o).H0 p = some o := if_pos rfl
  have hp : H p = some o := r.keep p o k0 n0
  have nr : p ∉ ρ := fun z => by
    obtain ⟨t, et, ht⟩ := r.pre
    rw [et] at z
    rcases List.mem_append.mp z with z | z
    · exact n0 z
    · rw [ht p z] at k0; cases k0
  have np : ∀ a, Own sl σ a → a ≠ p := fun a h z => by
    have := (r.fr a h).1
    rw [z, k0] at this; cases this
  refine ⟨hp, nr, r.len, ⟨r.cells.len, fun n c a e1 e2 => ?_⟩, r.nd, ?_, fun a h => ⟨?_, (r.fr a h).2⟩, r.inj, fun a u h hn => ?_, fun i s e1 => ?_⟩
  · have q := r.cells.at_ n c a e1 e2
    rw [vis_hold] at q
    have : a ≠ p := fun z => nr (z ▸ List.mem_of_getElem? e2)
    exact q.mono (fun _ _ z => z) (fun _ _ z => z) (hide_ne this)
  · obtain ⟨t, et, ht⟩ := r.pre
    refine ⟨t, et, fun a ha => ?_⟩
    have h : (if a = p then some o else F.H0 a) = none := ht a ha
    by_cases z : a = p
    · rw [if_pos z] at h; cases h
    · rw [if_neg z] at h; exact h
  · have h1 : (if a = p then some o else F.H0 a) = none := (r.fr a h).1
    rw [if_neg (np a h)] at h1
    exact h1
  · have z : a ≠ p := fun z => by rw [z, n1] at h; cases h
    have h1 : (holdF F p o).H0 a = some u := by
      show (if a = p then some o else F.H0 a) = some u
      rw [if_neg z]
      exact h
    rw [hide_ne z]
    exact r.keep a u h1 hn
  · obtain ⟨v, e2, s2⟩ := r.slot i s e1
    refine ⟨v, e2, ?_⟩
    rw [vis_hold] at s2
    cases s with
    | fr x => exact s2
    | ow x =>
      obtain ⟨a, rfl, s2⟩ := s2
      exact ⟨a, rfl, s2.mono (fun _ _ z => z) (hide_ne (np a ⟨i, x, e1, e2⟩))⟩
theorem Grow.hid {ρ1 ρ2 : List Addr} {H1 H2 : Hp} (g : Grow ρ1 H1 ρ2 H2) : Grow ρ1 (hide (· = p) H1) ρ2 (hide (· = p) H2) := by
  refine ⟨fun a o e hn => ?_, ?_⟩
  · rw [hide_ne (ne_hid e)]
    exact g.keep a o (hide_le _ _ e) hn
  · obtain ⟨t, e, ht⟩ := g.ext
    refine ⟨t, e, fun a ha => ?_⟩
    cases z : hide (· = p) H1 a with
    | none => rfl
    | some o => exact absurd (hide_le _ _ z) (by rw [ht a ha]; exact fun z => by cases z)
end
def sParO (i j : Nat) (f g : SO) : SS := fun sl cs => (f sl cs).go sl fun s cs1 => (noEx (g sl cs1)).go sl fun t cs2 => .nx ((sl.set i (some s)).set j (some t)) cs2
@[simp] theorem ev_parO {i j : Nat} {f g : SO} {sl : Sl} {cs : Cs} : sParO i j f g sl cs = (f sl cs).go sl fun s cs1 => (noEx (g sl cs1)).go sl fun t cs2 => .nx ((sl.set i (some s)).set j (some t)) cs2 := rfl
@[simp] theorem ev_noExOk {α : Type} {x : α} {cs : Cs} : noEx (R.ok x cs) = .ok x cs := rfl
section
variable {Γ : Cf} {F : Fx} {ρ ρ1 : List Addr} {sl : Sl} {cs cs1 cs2 : Cs} {σ : St} {H H1 : Hp} {W : WX} {D : Ends}
theorem set2_post {Hs : Hp} {i j : Nat} {s t : Slot} {u w : V} {ρ2 : List Addr} {H2 : Hp} {f : SO} (hij : i ≠ j)
    (r : Rep Γ.K Γ.mg F ρ sl cs σ H) (r1 : Rep Γ.K Γ.mg F ρ1 sl cs1 σ H1) (g1 : Grow ρ H ρ1 H1) (a1 : relO Γ F sl σ H ρ1 H1 cs1 s u) {tf : TE}
    (q2 : ∀ F Q, Rep Γ.K Γ.mg F ρ1 sl cs1 σ H1 → PostG Γ F ρ1 sl σ H1 W (relO Γ F sl σ H1) (f sl cs1) Q → tf σ H1 Q)
    (h : PostS Γ F ρ sl σ H W ((noEx (f sl cs1)).go sl fun t cs2 => .nx ((sl.set i (some s)).set j (some t)) cs2) D) {Q : V → Hp → Prop} (hq : ∀ w H2, D.nx ((σ.set i (some u)).set j (some w)) H2 → Q w H2) : tf σ H1 Q := by
  cases e : f sl cs1 with
  | bad => rw [e] at h; exact h.elim
  | ex x c => rw [e] at h; exact h.elim
  | ok t cs2 =>
    rw [e] at h
    have h : PostS Γ F ρ sl σ H W (.nx ((sl.set i (some s)).set j (some t)) cs2) D := h
    cases s with
    | fr v =>
      refine q2 F _ r1 ?_
      rw [e]
      intro w H2 ρ2 r2 g2 a2
      refine hq _ _ ?_
      have at1 : ∀ {ρ2 H2}, Grow ρ1 H1 ρ2 H2 → AtV Γ.K Γ.mg ρ2 (vis F ρ2 sl σ H2) v u := fun g => AtV.mono (g.vis r1) g.pre a1
      cases t with
      | fr x =>
        obtain ⟨r3, s3⟩ := r2.setFr (i := i) (at1 g2)
        obtain ⟨r4, s4⟩ := r3.setFr (i := j) (AtV.mono s3 (fun _ _ z => z) a2)
        exact h _ _ ρ2 r4 fun a o z => s4 a o (s3 a o (g2.vis r1 a o (g1.vis r a o z)))
      | ow x =>
        obtain ⟨p, rfl, hp, r2', o⟩ := a2
        have g2' : Grow ρ1 H1 ρ2 (hide (· = p) H2) := ⟨fun a u e hn => by rw [hide_ne (ne_of_none e hp)]; exact g2.keep a u e hn, g2.ext⟩
        obtain ⟨r3, s3⟩ := r2'.setFr (i := i) (at1 g2')
        obtain ⟨r4, s4⟩ := r3.setOw (i := j) (o.mono s3 rfl)
        exact h _ _ ρ2 r4 fun a o z => s4 a o (s3 a o (g2'.vis r1 a o (g1.vis r a o z)))
    | ow v =>
      obtain ⟨p, rfl, hp, r1', o⟩ := a1
      obtain ⟨ob, eo⟩ := o.there
      obtain ⟨f1, f2, f3⟩ := r1'.fresh hide_self
      have n0 : p ∉ F.ρ0 := fun z => by
        obtain ⟨t, et, _⟩ := r1'.pre
        exact f2 (by rw [et]; exact List.mem_append_left _ z)
      have g1' : Grow ρ H ρ1 (hide (· = p) H1) := ⟨fun a u e hn => by rw [hide_ne (ne_of_none e hp)]; exact g1.keep a u e hn, g1.ext⟩
      refine q2 (holdF F p ob) _ (r1'.hold eo) ?_
      rw [e]
      intro w H2 ρ2 r2 g2 a2
      refine hq _ _ ?_
      cases t with
      | fr x =>
        obtain ⟨e2, m2, r2'⟩ := r2.held n0 f1
        have a2 : AtV Γ.K Γ.mg ρ2 (vis F ρ2 sl σ (hide (· = p) H2)) x w := by rw [← vis_hold (o := ob)]; exact a2
        obtain ⟨r3, s3⟩ := r2'.setFr (i := j) a2
        have gv := (g2.hid (p := p)).vis r1'
        obtain ⟨r4, s4⟩ := r3.setOw (i := i) (o.mono (fun a o z => s3 a o (gv a o z)) (e2.trans eo.symm))
        rw [List.set_comm _ _ hij]
        refine h _ _ ρ2 (by rw [List.set_comm _ _ hij]; exact r4) fun a o z => ?_
        rw [List.set_comm _ _ hij]
        exact s4 a o (s3 a o (gv a o (g1'.vis r a o z)))
      | ow x =>
        obtain ⟨q, rfl, hq, r2, o2⟩ := a2
        obtain ⟨e2, m2, r2'⟩ := r2.held n0 f1
        have hpq : p ≠ q := fun z => by rw [z, hq] at eo; cases eo
        have e2' : H2 p = some ob := (hide_ne (H := H2) hpq).symm.trans e2
        rw [hide_comm] at r2'
        have o2 : OwnAt Γ.K (hide (· = p) H2) (vis F ρ2 sl σ (hide (· = q) (hide (· = p) H2))) x q := by
          rw [hide_comm, ← vis_hold (o := ob)]
          exact o2.mono (fun _ _ z => z) (hide_ne (Ne.symm hpq))
        obtain ⟨r3, s3⟩ := r2'.setOw (i := j) o2
        have g2' : Grow ρ1 H1 ρ2 (hide (· = q) H2) := ⟨fun a u e hn => by rw [hide_ne (ne_of_none e hq)]; exact g2.keep a u e hn, g2.ext⟩
        have gv := (g2'.hid (p := p)).vis r1'
        rw [hide_comm] at gv
        obtain ⟨r4, s4⟩ := r3.setOw (i := i) (o.mono (fun a o z => s3 a o (gv a o z)) (e2'.trans eo.symm))
        rw [List.set_comm _ _ hij]
        refine h _ _ ρ2 (by rw [List.set_comm _ _ hij]; exact r4) fun a o z => ?_
        rw [List.set_comm _ _ hij]
        exact s4 a o (s3 a o (gv a o (g1'.vis r a o z)))
theorem ds_parO (i j : Nat) {x y : Str} {a b : Expr} {f g : SO} {px py pt pos : Pos} {kt k2 pt2} (hcm : Γ.cm = true) (hnd : Γ.N.Nodup) (hk : Γ.sc.kind = .function) (ha : DO Γ a f) (hb : DO Γ b g) (hi : Γ.N[i]? = some x := by rfl) (hj : Γ.N[j]? = some y := by rfl) (hij : i ≠ j := by decide)
    (hx : Γ.sc.names.lookup x = some .local := by rfl) (hy : Γ.sc.names.lookup y = some .local := by rfl) (hl : (py.line == px.line) = true := by rfl) (hne : (x == y) = false := by decide) (hst : ([a, b].any fun | .Starred .. => true | _ => false) = false := by rfl) (h1 : [a, b].all (foldedForSure 8) = false := by rfl) (h2 : [a, b].all (constantsAlone 8) = false := by rfl)
    (hs : ∀ env, swapsWithSole [.Tuple [.Name x px, .Name y py] kt pt] (.Tuple [a, b] k2 pt2) pos.line env = pure false := by intro _; rfl)
    (hs1 : ∀ env, starEach [a, b] env = (false, eval a env) :: starEach [b] env := by intro _; rfl) (hs2 : ∀ env, starEach [b] env = (false, eval b env) :: starEach [] env := by intro _; rfl) : DS Γ (.Assign [.Tuple [.Name x px, .Name y py] kt pt] (.Tuple [a, b] k2 pt2) pos) (sParO i j f g) := by
  obtain ⟨t, p1, q1⟩ := ha.ex
  obtain ⟨u, p2, q2⟩ := hb.ex
  refine ⟨fun W => tPar i j (tCons (t W) (tCons (u W) tNil)), fun X W ok gd => ?_, fun W F ρ sl cs σ H D r h => ?_⟩
  · have e := ok.sc
    exact ps_par (ok.cm hcm).1 (by rw [ok.N]; exact hnd) (by rw [ok.N]; exact hi) (by rw [ok.N]; exact hj) hij (by rw [e]; exact hx) (by rw [e]; exact hy) (pa_cons (p1 X W ok gd) (pa_cons (p2 X W ok gd) pa_nil (hs2 _)) (hs1 _)) (sw2 (by rw [e]; exact hk) (by rw [e]; exact hx) (by rw [e]; exact hy) hl hne hst h1 h2) (hs _)
  · refine q1 W F ρ sl cs σ H _ r (PostG.mono (PostS.go h r) fun v H1 ⟨s, cs1, ρ1, r1, g1, a1, h1⟩ => ?_)
    exact set2_post (H2 := H) (ρ2 := ρ) (t := s) (w := v) (Hs := H) hij r r1 g1 a1 (tf := u W) (fun F Q r => q2 W F ρ1 sl cs1 σ H1 Q r) h1 fun w H2 z => ⟨v, w, rfl, z⟩
/-- a, b = x, y where an inner block sees a name: the tuple is made and taken apart -/
theorem sw_cell2 {env : Env} {x y : Str} {px py pt pt2 : Pos} {kt k2 : Nat} {a b : Expr} (h : env.scope.names.lookup x = some .cell ∨ env.scope.names.lookup y = some .cell) : swappedStores [.Tuple [.Name x px, .Name y py] kt pt] (.Tuple [a, b] k2 pt2) env = pure none := by
  have c : (some NameKind.cell == some NameKind.local) = false := by decide
  unfold swappedStores
  simp only [List.filterMap_cons, List.filterMap_nil]
  rcases h with h | h
  · have k : env.kindOf x = some .cell := h
    simp only [k, c, Bool.false_and, if_neg Bool.false_ne_true]
    split
    · rfl
    · split
      · rfl
      · split <;> rfl
  · have k : env.kindOf y = some .cell := h
    simp only [k, c, Bool.false_and, if_neg Bool.false_ne_true]
    split
    · rfl
    · split
      · rfl
      · split <;> rfl
theorem ds_asg2C {x y : Str} {px py pt pt2 pos : Pos} {kt k2 : Nat} {a b : Expr} {ix : List Nat} {g : Val → Sl → Option Sl} {f : SE} (hc : Γ.sc.names.lookup x = some .cell ∨ Γ.sc.names.lookup y = some .cell) (h : DE Γ (.Tuple [a, b] k2 pt2) f) (hg : DG Γ (.Tuple [.Name x px, .Name y py] kt pt) ix g) (hs : ∀ env, swapsWithSole [.Tuple [.Name x px, .Name y py] kt pt] (.Tuple [a, b] k2 pt2) pos.line env = pure false := by intro _; rfl)
    (h1 : ∀ env, (assignEach [.Tuple [.Name x px, .Name y py] kt pt] env).map (·.2) = [assign (.Tuple [.Name x px, .Name y py] kt pt) env] := by intro _; rfl) : DS Γ (.Assign [.Tuple [.Name x px, .Name y py] kt pt] (.Tuple [a, b] k2 pt2) pos) (sAsg g f) := by
  obtain ⟨t, p, q⟩ := h.ex
  obtain ⟨t2, p2, q2⟩ := hg.ex
  refine ⟨fun W => tAsg (t W) t2, fun X W ok gd => ps_asg (p X W ok gd) (p2 X ok) (hs _) (sw_cell2 (by rw [ok.sc]; exact hc)) (h1 _), fun W F ρ sl cs σ H D r h => ?_⟩
  refine q W F ρ sl cs σ H _ r (PostG.mono (PostS.go h r) fun v H1 ⟨x, cs1, ρ1, r1, g1, a1, h1⟩ => ?_)
  split at h1
  · rename_i hsol
    split at h1
    · rename_i sl' eg
      exact q2 F ρ1 sl cs1 σ H1 x v _ sl' r1 (a1.solid hsol) eg fun σ' r2 s2 _ => (h1.weak (g1.vis r)) σ' H1 ρ1 r2 s2
    · exact h1.elim
  · exact h1.elim
end
end DL
end
section
set_option Elab.async false
set_option linter.all false
set_option maxRecDepth 100000
set_option autoImplicit false
namespace DL
open PySem PySem.Spec PyProof.Rows L2
/-- what lets nothing out -/
theorem fn_closed {P : Program} {w : World} {K : PySem.W.Frag} {mg : Str → Option Value} {base : Heap} {k : Nat} {f : Addr} {fd : FuncData} {ps : List Str} {sp : Sp} (F : FnG P w K mg base (L2.CX P w) k f fd ps sp) :
    FnG P w K mg base CX0 k f fd ps (fun vs H Q _ => sp vs H Q fun _ _ _ => False) := by
  refine ⟨fun vs H Q E h => F.ar vs H Q _ h, fun A outer s H args us vs Q E hr e0 hb r hsp => ?_⟩
  refine codeAny_mono (F.go A outer s H args us vs Q _ hr e0 hb r hsp) fun r s' hq => ?_
  cases r with
  | ok fl =>
    cases fl with
    | ret u => exact hq
    | _ => exact hq.elim
  | error e =>
    obtain ⟨_, _, _, _, _, _, _, _, _, _, _, _, z⟩ := hq
    exact z.elim
end DL
end
section
set_option Elab.async false
set_option linter.all false
set_option maxRecDepth 100000
set_option autoImplicit false
namespace DL
open PySem PySem.Spec PyProof.Rows L2
/-! ### what the mirror computes, step by step -/
section
variable {sl sl' : Sl} {cs cs' : Cs} {f g h : SE} {fo : SO} {fa ga : SA} {t u : ST} {p q : SS} {i : Nat} {v w : Val}
@[simp] theorem ev_var (e : sl[i]? = some (some (.fr v))) : eVar i sl cs = .ok v cs := by unfold eVar; rw [e]
@[simp] theorem ev_own {x : PyData} (e : sl[i]? = some (some (.ow x))) : eVar i sl cs = .ok (.br x) cs := by unfold eVar; rw [e]
@[simp] theorem ev_c {x : PyData} : eC x sl cs = .ok (.d x) cs := rfl
@[simp] theorem ev_aNil : aNil sl cs = .ok [] cs := rfl
@[simp] theorem ev_aCons : aCons f fa sl cs = (f sl cs).bind fun x cs1 => if x.solid = true then (fa sl cs1).bind fun xs cs2 => .ok (x :: xs) cs2 else .bad := rfl
@[simp] theorem ev_bCons : bCons f fa sl cs = (f sl cs).bind fun x cs1 => (fa sl cs1).bind fun xs cs2 => .ok (x :: xs) cs2 := rfl
@[simp] theorem ev_op {o : PyData → PyData → Option PyData} : eOp o f g sl cs = (f sl cs).bind fun x cs1 => (g sl cs1).bind fun y cs2 => op2 o x y cs2 := rfl
@[simp] theorem ev_op2 {o : PyData → PyData → Option PyData} {a b : PyData} : op2 o (.d a) (.d b) cs = R.of ((o a b).map Val.d) cs := rfl
@[simp] theorem ev_op2bd {o : PyData → PyData → Option PyData} {a b : PyData} : op2 o (.br a) (.d b) cs = R.of ((o a b).map Val.d) cs := rfl
@[simp] theorem ev_op2db {o : PyData → PyData → Option PyData} {a b : PyData} : op2 o (.d a) (.br b) cs = R.of ((o a b).map Val.d) cs := rfl
@[simp] theorem ev_op2bb {o : PyData → PyData → Option PyData} {a b : PyData} : op2 o (.br a) (.br b) cs = R.of ((o a b).map Val.d) cs := rfl
@[simp] theorem ev_tBool : tBool f sl cs = (f sl cs).bind asB := rfl
@[simp] theorem ev_asB {b : Bool} : asB (.d (.bool b)) cs = .ok b cs := rfl
@[simp] theorem ev_chain {o o' : PyData → PyData → Option PyData} : eChain o o' f g h sl cs = (f sl cs).bind fun x cs1 => (g sl cs1).bind fun y cs2 => (op2 o x y cs2).bind fun z cs3 => (asB z cs3).bind fun k cs4 =>
  if k = true then (h sl cs4).bind fun w cs5 => op2 o' y w cs5 else .ok (.d (.bool false)) cs4 := rfl
@[simp] theorem ev_tTru : tTru f sl cs = (f sl cs).bind fun x cs1 => R.of (truV x cs1) cs1 := rfl
@[simp] theorem ev_truB {b : Bool} : truV (.d (.bool b)) cs = some b := rfl
@[simp] theorem ev_tAnd : tAndD t u sl cs = (t sl cs).bind fun k cs1 => if k = true then u sl cs1 else .ok false cs1 := rfl
@[simp] theorem ev_tOr : tOrD t u sl cs = (t sl cs).bind fun k cs1 => if k = true then .ok true cs1 else u sl cs1 := rfl
@[simp] theorem ev_tNot : tNotD t sl cs = (t sl cs).bind fun k cs1 => .ok (!k) cs1 := rfl
@[simp] theorem ev_and : eAnd f g sl cs = (f sl cs).bind fun x cs1 => (R.of (truV x cs1) cs1).bind fun k cs2 => if k = true then g sl cs2 else .ok x cs2 := rfl
@[simp] theorem ev_or : eOr f g sl cs = (f sl cs).bind fun x cs1 => (R.of (truV x cs1) cs1).bind fun k cs2 => if k = true then .ok x cs2 else g sl cs2 := rfl
@[simp] theorem ev_not : eNot f sl cs = (f sl cs).bind fun x cs1 => (R.of (truV x cs1) cs1).bind fun k cs2 => .ok (.d (.bool (!k))) cs2 := rfl
@[simp] theorem ev_if : eIf t f g sl cs = (t sl cs).bind fun k cs1 => if k = true then f sl cs1 else g sl cs1 := rfl
@[simp] theorem ev_ix : eIx f g sl cs = (f sl cs).bind fun x cs1 => (g sl cs1).bind fun y cs2 => ixD x y cs2 := rfl
@[simp] theorem ev_sl {l m : SI} : eSl f l m sl cs = (f sl cs).bind fun x cs1 => (l sl cs1).bind fun lo cs2 => (m sl cs2).bind fun hi cs3 => sliceV x lo hi cs3 := rfl
@[simp] theorem ev_iNone : iNone sl cs = .ok none cs := rfl
@[simp] theorem ev_iSome : iSome f sl cs = (f sl cs).bind fun x cs1 => match x with
  | .d (.int i) => .ok (some i) cs1
  | _ => .bad := rfl
@[simp] theorem ev_tup : eTup fa sl cs = (fa sl cs).bind fun xs cs1 => mkD .tuple xs cs1 := rfl
@[simp] theorem ev_lst : eLst fa sl cs = (fa sl cs).bind fun xs cs1 => mkD .list xs cs1 := rfl
@[simp] theorem ev_oLst : oLst fa sl cs = (fa sl cs).bind fun xs cs1 => mkO xs cs1 := rfl
@[simp] theorem ev_oFr : oFr f sl cs = (f sl cs).bind fun x cs1 => if x.solid = true then .ok (.fr x) cs1 else .bad := rfl
@[simp] theorem ev_neg : eNeg f sl cs = (f sl cs).bind negV := rfl
@[simp] theorem ev_negV {i : Int} : negV (.d (.int i)) cs = .ok (.d (.int (-i))) cs := rfl
@[simp] theorem ev_call {gb : List Val → Cs → R Val} : eCall gb fa sl cs = (fa sl cs).bind gb := rfl
@[simp] theorem ev_ocall {gb : List Val → Cs → R Slot} : oCall gb fa sl cs = (fa sl cs).bind gb := rfl
@[simp] theorem ev_isi {ty : Ty} : eIsi ty f sl cs = (f sl cs).bind (isiV ty) := rfl
@[simp] theorem ev_isiV {ty : Ty} {x : PyData} : isiV ty (.d x) cs = .ok (.d (.bool (isiB ty x))) cs := rfl
@[simp] theorem ev_fz : eFz fo sl cs = (fo sl cs).bind fun s cs1 => .ok (fz s) cs1 := rfl
@[simp] theorem ev_fzF : fz (.fr v) = v := rfl
@[simp] theorem ev_fzO {x : PyData} : fz (.ow x) = .d x := rfl
@[simp] theorem ev_cel : eCel fo sl cs = (fo sl cs).bind celV := rfl
@[simp] theorem ev_celV {xs : List PyData} : celV (.ow (.list xs)) cs = .ok (.cel cs.length) (cs ++ [.lst (xs.map Val.d)]) := rfl
@[simp] theorem ev_def {F : FS} {ds : List Val} : oDef F ds fa sl cs = (fa sl cs).bind fun xs cs1 => F (xs ++ ds) cs1 := rfl
@[simp] theorem ev_defK {F : FS} {m : Nat} {pm : List Nat} : oDefK F m pm fa sl cs = (fa sl cs).bind fun xs cs1 => if xs.length = m then F (pm.map fun j => xs.getD j (.d .none)) cs1 else .bad := rfl
@[simp] theorem ev_lenset : eLenSet f sl cs = (f sl cs).bind lenSetV := rfl
@[simp] theorem ev_solid {x : PyData} : (Val.d x).solid = true := rfl
@[simp] theorem ev_solidC {n : Nat} : (Val.cel n).solid = true := rfl
@[simp] theorem ev_solidL {n : List PyData} : (Val.lk n).solid = true := rfl
@[simp] theorem ev_sNil : sNil sl cs = .nx sl cs := rfl
@[simp] theorem ev_seq : sSeq p q sl cs = (p sl cs).seq q := rfl
@[simp] theorem ev_ret : sRet fo sl cs = (fo sl cs).go sl fun s cs1 => .rt s cs1 := rfl
@[simp] theorem ev_retN : sRetN sl cs = .rt (.fr (.d .none)) cs := rfl
@[simp] theorem ev_retV {s : Slot} (e : sl[i]? = some (some s)) : sRetV i sl cs = .rt s cs := by unfold sRetV; rw [e]
@[simp] theorem ev_expr : sExpr f sl cs = (f sl cs).go sl fun _ cs1 => .nx sl cs1 := rfl
@[simp] theorem ev_set : sSet i fo sl cs = (fo sl cs).go sl fun s cs1 => .nx (sl.set i (some s)) cs1 := rfl
@[simp] theorem ev_sIf : sIf t p q sl cs = (t sl cs).go sl fun k cs1 => if k = true then p sl cs1 else q sl cs1 := rfl
@[simp] theorem ev_sFz {s : Slot} (e : sl[i]? = some (some s)) : sFz i sl cs = .nx (sl.set i (some (.fr (fz s)))) cs := by unfold sFz; rw [e]
@[simp] theorem ev_sFor {gt : Val → Sl → Option Sl} : sFor fa gt p sl cs = (fa sl cs).go sl fun xs cs1 => forL gt p xs sl cs1 := rfl
@[simp] theorem ev_sAsg {gt : Val → Sl → Option Sl} : sAsg gt f sl cs = (f sl cs).go sl fun x cs1 => if x.solid = true then match gt x sl with
  | some sl' => .nx sl' cs1
  | none => .bad
  else .bad := rfl
@[simp] theorem ev_gNm {x : Val} : gNm i x sl = some (sl.set i (some (.fr x))) := rfl
@[simp] theorem ev_gTpL {gs : List PyData → Sl → Option Sl} {xs : List PyData} : gTp gs (.d (.list xs)) sl = gs xs sl := rfl
@[simp] theorem ev_gTp {gs : List PyData → Sl → Option Sl} {xs : List PyData} : gTp gs (.d (.tuple xs)) sl = gs xs sl := rfl
@[simp] theorem ev_gsNil : gsNil [] sl = some sl := rfl
@[simp] theorem ev_gsCons {gt : Val → Sl → Option Sl} {gs : List PyData → Sl → Option Sl} {x : PyData} {xs : List PyData} : gsCons gt gs (x :: xs) sl = (gt (.d x) sl).bind (gs xs) := rfl
@[simp] theorem ev_pSeq : pSeq f sl cs = (f sl cs).bind seqV := rfl
@[simp] theorem ev_seqL {xs : List PyData} : seqV (.d (.list xs)) cs = .ok (xs.map Val.d) cs := rfl
@[simp] theorem ev_seqT {xs : List PyData} : seqV (.d (.tuple xs)) cs = .ok (xs.map Val.d) cs := rfl
@[simp] theorem ev_seqS {z : Str} : seqV (.d (.str z)) cs = .ok (z.cps.toList.map fun c => .d (.str ⟨#[c]⟩)) cs := rfl
@[simp] theorem ev_pR1 : pRange1 fa sl cs = (fa sl cs).bind rangeV1 := rfl
@[simp] theorem ev_pR2 : pRange2 fa sl cs = (fa sl cs).bind rangeV2 := rfl
@[simp] theorem ev_pEnm : pEnm fa sl cs = (fa sl cs).bind enumW := rfl
@[simp] theorem ev_pZip : pZip fa sl cs = (fa sl cs).bind zipV := rfl
@[simp] theorem ev_tTrue : tTrue sl cs = .ok true cs := rfl
@[simp] theorem ev_gI {c : Int → Int → Bool} {gg : Int → Int → PyData} {a b : Int} : gI c gg (.int a) (.int b) = if c a b = true then some (gg a b) else none := rfl
@[simp] theorem ev_addS {a b : Str} : gAddS (.str a) (.str b) = if a.length + b.length ≤ 16777216 then some (.str (a ++ b)) else none := rfl
@[simp] theorem ev_addI {a b : Int} : addD (.int a) (.int b) = some (.int (a + b)) := rfl
@[simp] theorem ev_mulI {a b : Int} : mulD (.int a) (.int b) = if cMul a b = true then some (.int (a * b)) else none := by
  show (if cMul a b = true then some (PyData.int (a * b)) else none).or none = _
  simp
@[simp] theorem ev_isN {x : PyData} : isD x .none = some (.bool (isNone x)) := rfl
@[simp] theorem ev_isNN {x : PyData} : isNotD x .none = some (.bool (!isNone x)) := rfl
@[simp] theorem ev_eqD {x y : PyData} : eqD x y = if eqOk x y = true then some (.bool (PyData.eqv x y)) else none := rfl
@[simp] theorem ev_neD {x y : PyData} : neD x y = if eqOk x y = true then some (.bool (!PyData.eqv x y)) else none := rfl
@[simp] theorem ev_len {x : List PyData} : lenB [.d (.list x)] cs = .ok (.d (.int x.length)) cs := rfl
@[simp] theorem ev_lenT {x : List PyData} : lenB [.d (.tuple x)] cs = .ok (.d (.int x.length)) cs := rfl
@[simp] theorem ev_lenK {x : List PyData} : lenB [.lk x] cs = .ok (.d (.int x.length)) cs := rfl
@[simp] theorem ev_lenBr {x : List PyData} : lenB [.br (.list x)] cs = .ok (.d (.int x.length)) cs := rfl
@[simp] theorem ev_lenS {x : Str} : lenB [.d (.str x)] cs = if x.length ≤ 16777216 then .ok (.d (.int x.length)) cs else .bad := rfl
@[simp] theorem ev_int {j : Int} : intB [.d (.int j)] cs = .ok (.d (.int j)) cs := rfl
@[simp] theorem ev_intB {b : Bool} : intB [.d (.bool b)] cs = .ok (.d (.int (if b then 1 else 0))) cs := rfl
@[simp] theorem ev_abs {j : Int} : absB [.d (.int j)] cs = .ok (.d (.int (if j < 0 then -j else j))) cs := rfl
@[simp] theorem ev_max {j k : Int} : maxB [.d (.int j), .d (.int k)] cs = .ok (.d (.int (max j k))) cs := rfl
@[simp] theorem ev_min {j k : Int} : minB [.d (.int j), .d (.int k)] cs = .ok (.d (.int (min j k))) cs := rfl
@[simp] theorem ev_tuL {x : List PyData} : tupleB [.d (.list x)] cs = .ok (.d (.tuple x)) cs := rfl
@[simp] theorem ev_tuT {x : List PyData} : tupleB [.d (.tuple x)] cs = .ok (.d (.tuple x)) cs := rfl
@[simp] theorem ev_tuB {x : List PyData} : tupleB [.br (.list x)] cs = .ok (.d (.tuple x)) cs := rfl
@[simp] theorem ev_ixT {xs : List PyData} {j : Int} : ixD (.d (.tuple xs)) (.d (.int j)) cs = R.of ((atI xs j).map Val.d) cs := rfl
@[simp] theorem ev_ixL {xs : List PyData} {j : Int} : ixD (.d (.list xs)) (.d (.int j)) cs = R.of ((atI xs j).map Val.d) cs := rfl
@[simp] theorem ev_ixB {xs : List PyData} {j : Int} : ixD (.br (.list xs)) (.d (.int j)) cs = R.of ((atI xs j).map Val.d) cs := rfl
@[simp] theorem ev_ixK {xs : List PyData} {j : Int} : ixD (.lk xs) (.d (.int j)) cs = R.of ((atI xs j).map Val.d) cs := rfl
@[simp] theorem ev_ixS {s : Str} {j : Int} : ixD (.d (.str s)) (.d (.int j)) cs = if s.length ≤ 16777216 then R.of ((atI s.cps.toList j).map fun c => .d (.str ⟨#[c]⟩)) cs else .bad := rfl
theorem ev_ixC {n : Nat} {xs : List Val} {j : Int} {x : Val} (e : cs[n]? = some (.lst xs)) (ea : atI xs j = some x) (hs : x.solid = true) : ixD (.cel n) (.d (.int j)) cs = .ok x cs := by
  show idxV (.cel n) (.d (.int j)) cs = _
  unfold idxV
  dsimp only
  rw [e]
  dsimp only
  rw [ea]
  exact if_pos hs
@[simp] theorem ev_mkT {x : List Val} : mkD .tuple x cs = (match datsOf x with
  | some ds => if ds.length ≤ 16777216 then .ok (.d (.tuple ds)) cs else .bad
  | none => .bad) := rfl
@[simp] theorem ev_mkL {x : List Val} : mkD .list x cs = (match datsOf x with
  | some ds => if ds.length ≤ 16777216 then .ok (.d (.list ds)) cs else .bad
  | none => .bad) := rfl
@[simp] theorem ev_mkO {x : List Val} : mkO x cs = (match datsOf x with
  | some ds => if ds.length ≤ 16777216 then .ok (.ow (.list ds)) cs else .bad
  | none => .bad) := rfl
@[simp] theorem ev_datsN : datsOf [] = some [] := rfl
@[simp] theorem ev_datsC {x : PyData} {r : List Val} : datsOf (.d x :: r) = (datsOf r).map (x :: ·) := rfl
@[simp] theorem ev_dats {xs : List PyData} : datsOf (xs.map Val.d) = some xs := by
  induction xs with
  | nil => rfl
  | cons x xs ih => simp [ih]
theorem atI_nat {α : Type} {xs : List α} {j : Nat} {x : α} (h : xs[j]? = some x) : atI xs (j : Int) = some x := by
  obtain ⟨h1, h2⟩ := List.getElem?_eq_some_iff.mp h
  unfold atI ixN
  rw [if_pos (by omega), if_pos (by omega)]
  exact h
@[simp] theorem ev_atI0 {α : Type} {x : α} {xs : List α} : atI (x :: xs) 0 = some x := atI_nat (j := 0) rfl
@[simp] theorem ev_atI1 {α : Type} {x y : α} {xs : List α} : atI (x :: y :: xs) 1 = some y := atI_nat (j := 1) rfl
@[simp] theorem ev_atI2 {α : Type} {x y z : α} {xs : List α} : atI (x :: y :: z :: xs) 2 = some z := atI_nat (j := 2) rfl
theorem bodyF_of {n m : Nat} {s : SS} {args : List Val} (h : args.length = n) : bodyF n m s args cs = bodyR (s (args.map (fun v => some (Slot.fr v)) ++ List.replicate m none) cs) := by
  unfold bodyF
  rw [if_pos h]
@[simp] theorem ev_bnx : bodyR (.nx sl cs) = .ok (.fr (.d .none)) cs := rfl
@[simp] theorem ev_brt {s : Slot} : bodyR (.rt s cs) = .ok s cs := rfl
@[simp] theorem ev_bex {e : Ex} : bodyR (.ex e sl cs) = .ex e cs := rfl
@[simp] theorem ev_bbd : bodyR .bad = .bad := rfl
end
end DL
end
section
set_option Elab.async false
set_option linter.all false
set_option maxRecDepth 100000
set_option autoImplicit false
namespace DL
open PySem PySem.Spec PyProof.Rows L2
/-! ### repr of lists and tuples of data, nested -/
def isSq : PyData → Bool
  | .list _ => true
  | .tuple _ => true
  | _ => false
def repOk (x : PyData) : Bool := isSq x && (x.canLay0 && (x.showable && (decide (x.depth ≤ 150) && decide (x.shown.length ≤ 16777216))))
theorem repOk_of {x : PyData} (h : repOk x = true) : isSq x = true ∧ x.canLay0 = true ∧ x.showable = true ∧ x.depth ≤ 150 ∧ x.shown.length ≤ 16777216 := by
  unfold repOk at h
  simp only [Bool.and_eq_true, decide_eq_true_eq] at h
  exact ⟨h.1, h.2.1, h.2.2.1, h.2.2.2.1, h.2.2.2.2⟩
theorem reads_ref {h : Heap} {u : Value} {d : PyData} {as : List Addr} (r : Reads h u d as) (q : isSq d = true) : ∃ a, u = .ref a := by
  cases r <;> first | exact ⟨_, rfl⟩ | cases q
theorem call_reprX {X : Cx} (hg : X.A.guards = some []) (hu : X.A.units + 152 < cLine) : CallR X (.builtin "repr") (fun xs H Q => ∃ x d, xs = [x] ∧ Dp X.K H x d ∧ repOk d = true ∧ Q (.str d.shown) H) := by
  intro pins s σ H xs us Q I r h
  obtain ⟨x, d, rfl, hd, ok, q⟩ := h
  obtain ⟨sq, c, sh, dp, ln⟩ := repOk_of ok
  obtain ⟨u, rfl, ru⟩ : ∃ u, us = [u] ∧ RelV x u := by
    cases r with
    | cons r t => cases t; exact ⟨_, rfl, r⟩
  obtain ⟨as, rd⟩ := Dp.reads I d x u hd ru
  obtain ⟨a, rfl⟩ := reads_ref rd sq
  exact repr_of_reads' rd sh (PyData.noDict_hsm (PyData.hasDict_of_canLay _ c)) hg (by omega) (fun _ _ e => e) (fun h' v tk k => ⟨.str d.shown, H, I.kept k, ⟨_, rfl⟩, q⟩) (by rw [sizeLine_eq]; exact ln)
def reprV (xs : List Val) (cs : Cs) : R Val := match xs with
  | [.d (.int i)] => if i.natAbs.log2 < 1920 then .ok (.d (.str (toString i))) cs else .bad
  | [.d (.bool b)] => .ok (.d (.str (if b then "True" else "False"))) cs
  | [.d .none] => .ok (.d (.str "None")) cs
  | [.d x] => if repOk x = true then .ok (.d (.str x.shown)) cs else .bad
  | [.br x] => if repOk x = true then .ok (.d (.str x.shown)) cs else .bad
  | _ => .bad
theorem cd_reprV {Γ : Cf} (hcm : Γ.cm = true) : CallD Γ (.builtin "repr") reprV := by
  have cr : ∀ X, Γ.Ok X → CallR X (.builtin "repr") (fun xs H Q => ∃ x d, xs = [x] ∧ Dp Γ.K H x d ∧ repOk d = true ∧ Q (.str d.shown) H) := fun X ok => by
    have c := call_reprX (X := X) (ok.cm hcm).2.gd (by have := ok.un; omega)
    rw [ok.K] at c
    exact c
  refine ⟨_, fun X ok => CallR.or cr_reprA (cr X ok), fun W F ρ sl cs σ H Q xs us rp ha hp => ?_⟩
  unfold reprV at hp
  split at hp
  · rename_i i
    obtain ⟨u, rfl, q⟩ := one_of ha
    split at hp
    · rename_i hl
      rw [AtT.int q]
      exact .inl (.inl ⟨i, rfl, hl, hp _ H ρ rp Grow.refl AtT.mkS⟩)
    · exact hp.elim
  · rename_i i
    obtain ⟨u, rfl, q⟩ := one_of ha
    rw [AtT.bl q]
    exact .inl (.inr (.inl ⟨i, rfl, hp _ H ρ rp Grow.refl AtT.mkS⟩))
  · obtain ⟨u, rfl, q⟩ := one_of ha
    rw [AtT.non q]
    exact .inl (.inr (.inr ⟨rfl, hp _ H ρ rp Grow.refl AtT.mkS⟩))
  · rename_i x _ _ _
    obtain ⟨u, rfl, q⟩ := one_of ha
    split at hp
    · rename_i ok
      exact .inr ⟨u, x, rfl, dat_dp rfl (repOk_of ok).2.1 q.w, ok, hp _ H ρ rp Grow.refl AtT.mkS⟩
    · exact hp.elim
  · rename_i x
    obtain ⟨u, rfl, q⟩ := one_of ha
    split at hp
    · rename_i ok
      exact .inr ⟨u, x, rfl, dat_dp rfl (repOk_of ok).2.1 q.w, ok, hp _ H ρ rp Grow.refl AtT.mkS⟩
    · exact hp.elim
  · exact hp.elim
end DL
end
section
set_option Elab.async false
set_option linter.all false
set_option maxRecDepth 100000
set_option autoImplicit false
namespace DL
open PySem PySem.Spec PyProof.Rows L2
/-! ### raise, try .. except C: .. -/
/-- an own exception class (over ValueError) without a field -/
structure ExcK (K : PySem.W.Frag) (mg : Str → Option Value) (x : Str) : Prop where
  ex : ∃ C, mg x = some (.ref C) ∧ PySem.W.excIn K C He.veBase "ValueError.__new__" = true ∧ PySem.W.keepIn K (.ref C) = true ∧ PySem.W.subIn K (.ref C) (.type "BaseException") = some true ∧ PySem.W.typeIn K (.ref C) = some (.type "type")
/-- which class is under which -/
abbrev Mt := Str → Str → Option Bool
structure MtOk (K : PySem.W.Frag) (mg : Str → Option Value) (mt : Mt) : Prop where
  ex : ∀ x y b, mt x y = some b → ∃ C D, mg x = some (.ref C) ∧ mg y = some (.ref D) ∧ PySem.W.exmOne K (.ref C) (.ref D) = some b
def sRaise (x : Str) : SS := fun sl cs => .ex ⟨x, []⟩ sl cs
section
variable {Γ : Cf} {pos p p2 pos' : Pos}
theorem ds_raise {x m : Str} {j : Nat} (c : ExcK Γ.K Γ.mg x) (hcm : Γ.cm = true) (hg : Gls Γ.sc x := by rfl) (hdb : (x == ("__debug__" : Str)) = false := by decide) : DS Γ (.Raise (some (.Call (.Name x p) [.Constant (.str m) j p2] [] pos)) none pos') (sRaise x) := by
  obtain ⟨C, gC, e1, kC, e2, e3⟩ := c.ex
  refine ⟨fun W => (fun _ σ H => W (.ref C) none σ H), fun X W ok gd => ?_, fun W F ρ sl cs σ H D r h => ?_⟩
  · exact ps_raise (ok.cm hcm).1 gd.tk (pmk_own (m := m) F.excBase_ValueError (by rw [ok.K]; exact e1) (by rw [ok.mg]; exact gC) (by rw [ok.K]; exact kC) (raises_own (by rw [ok.K]; exact e2) (by rw [ok.K]; exact e3)) (gl_of ok hg) hdb)
  · exact h (.ref C) none σ H ρ r (fun _ _ z => z) ⟨⟨C, gC, rfl⟩, rfl⟩
/-- the configuration of an except suite -/
abbrev Cf.su (Γ : Cf) : Cf := { Γ with cm := false }
theorem su_ok {X : Cx} (ok : Γ.Ok X) (a : Addr) (pn : List (Addr × Obj)) : Γ.su.Ok (X.suite a pn) :=
  ⟨ok.K, ok.mg, ok.P, ok.w, ok.base, ok.N, ok.sc, fun z => absurd (show false = true from z) Bool.false_ne_true, ok.un, ok.tp, ok.fn⟩
theorem su_good {X : Cx} (a : Addr) (pn : List (Addr × Obj)) : Good (X.suite a pn) W0 := ⟨takes0, PassesOwn.never⟩
def noExS (r : RS) : RS := match r with
  | .ex _ _ _ => .bad
  | r => r
def handle (mt : Mt) (e : Ex) (sl : Sl) (cs : Cs) : List (Str × SS) → RS
  | [] => .ex e sl cs
  | (y, f) :: r => match mt e.cls y with
    | some true => noExS (f sl cs)
    | some false => handle mt e sl cs r
    | none => .bad
def sTry (mt : Mt) (body : SS) (hs : List (Str × SS)) : SS := fun sl cs => match body sl cs with
  | .ex e sl' cs' => handle mt e sl' cs' hs
  | r => r
inductive DHs (Γ : Cf) : List ExceptHandler → List (Str × SS) → Prop
  | nil : DHs Γ [] []
  | cons {x : Str} {b₀ : Stmt} {suite : List Stmt} {np pos' : Pos} {hds : List ExceptHandler} {f : SS} {l : List (Str × SS)} (gC : ∃ C, Γ.mg x = some (.ref C)) (hg : Gls Γ.sc x) (hdb : (x == ("__debug__" : Str)) = false) (h : DSs Γ.su (b₀ :: suite) f) (r : DHs Γ hds l) :
      DHs Γ (.ExceptHandler (some (.Name x np)) none (b₀ :: suite) pos' :: hds) ((x, f) :: l)
theorem postS_w0 {Γ : Cf} {F : Fx} {ρ : List Addr} {sl : Sl} {σ : L2.St} {H : Hp} {W W' : WX} {D : Ends} {r : RS} (h : PostS Γ F ρ sl σ H W (noExS r) D) : PostS Γ F ρ sl σ H W' (noExS r) D := by
  cases r <;> exact h
theorem noExS_w {Γ : Cf} {F : Fx} {ρ : List Addr} {sl : Sl} {σ : L2.St} {H : Hp} {W : WX} {D : Ends} {r : RS} (h : PostS Γ F ρ sl σ H W (noExS r) D) : PostS Γ F ρ sl σ H W0 r D := by
  cases r with
  | ex e sl' cs' => exact h.elim
  | _ => exact h
/-- the clauses: their readings, and what the mirror says of them -/
theorem hds_ok {mt : Mt} (M : MtOk Γ.K Γ.mg mt) : ∀ {hds : List ExceptHandler} {l : List (Str × SS)}, DHs Γ hds l → ∃ lv : List (Value × (Addr → Value → Option Addr → TS)),
    (∀ X, Γ.Ok X → HdsOk X hds lv) ∧ ∀ W F ρ sl σ H D e c d sl' cs' σ' H' ρ', Rep Γ.K Γ.mg F ρ' sl' cs' σ' H' → Sub (vis F ρ sl σ H) (vis F ρ' sl' σ' H') → ExAt Γ.K Γ.mg (vis F ρ' sl' σ' H') H' e c d →
      PostS Γ F ρ sl σ H W (handle mt e sl' cs' l) D → wMany Γ.K W D lv c d σ' H'
  | _, _, .nil => ⟨[], fun X _ => .nil, fun W F ρ sl σ H D e c d sl' cs' σ' H' ρ' rp sub at_ h => h c d σ' H' ρ' rp sub at_⟩
  | _, _, .cons (f := f) gC hg hdb hs r => by
    obtain ⟨lv, h1, h2⟩ := hds_ok M r
    obtain ⟨C, gC⟩ := gC
    obtain ⟨t, p, q⟩ := hs.ex
    refine ⟨(.ref C, fun _ _ _ => t W0) :: lv, fun X ok => .cons ⟨gl_of ok hg, hdb, .inl (by rw [ok.mg]; exact gC)⟩ (fun a oe cls d pn _ _ => p _ W0 (su_ok ok a _) (su_good a _)) (h1 X ok), ?_⟩
    intro W F ρ sl σ H D e c d sl' cs' σ' H' ρ' rp sub at_ h
    unfold handle at h
    split at h
    · rename_i em
      obtain ⟨Cx, Dx, g1, g2, ex⟩ := M.ex _ _ _ em
      obtain ⟨⟨C', g3, rfl⟩, _⟩ := at_
      cases g1.symm.trans g3
      cases gC.symm.trans g2
      exact ⟨true, ex, fun _ a _ => q W0 F ρ' sl' cs' σ' H' D rp (noExS_w (PostS.weak h sub)), fun z => by cases z⟩
    · rename_i em
      obtain ⟨Cx, Dx, g1, g2, ex⟩ := M.ex _ _ _ em
      have at2 := at_
      obtain ⟨⟨C', g3, rfl⟩, _⟩ := at_
      cases g1.symm.trans g3
      cases gC.symm.trans g2
      exact ⟨false, ex, (fun z => by cases z), fun _ => h2 W F ρ sl σ H D e _ d sl' cs' σ' H' ρ' rp sub at2 h⟩
    · exact h.elim
theorem ds_try {mt : Mt} {body : List Stmt} {h₀ : ExceptHandler} {hds : List ExceptHandler} {l : List (Str × SS)} {f : SS} (M : MtOk Γ.K Γ.mg mt) (hcm : Γ.cm = true) (htp : Γ.tp = true) (hb : DSs Γ body f) (hh : DHs Γ (h₀ :: hds) l) : DS Γ (.Try body (h₀ :: hds) [] [] pos) (sTry mt f l) := by
  obtain ⟨lv, h1, h2⟩ := hds_ok M hh
  obtain ⟨t, p, q⟩ := hb.ex
  refine ⟨fun W => (fun D σ H => t (wMany Γ.K W D lv) D σ H), fun X W ok gd => ?_, fun W F ρ sl cs σ H D r h => ?_⟩
  · have T := ps_try_many (pos := pos) (tb := t) (ok.tp htp).1 (ok.tp htp).2 gd.tk (fun W' pn xe tk po => p (X.tr pn xe) W' ⟨ok.K, ok.mg, ok.P, ok.w, ok.base, ok.N, ok.sc, ok.cm, ok.un, ok.tp, ok.fn⟩ ⟨tk, po⟩) (h1 X ok)
    rw [ok.K] at T
    exact T
  · refine q _ F ρ sl cs σ H D r ?_
    unfold sTry at h
    cases e : f sl cs with
    | ex e' sl' cs' =>
      rw [e] at h
      intro c d σ' H' ρ' rp sub at_
      exact h2 W F ρ sl σ H D e' c d sl' cs' σ' H' ρ' rp sub at_ h
    | nx sl' cs' => rw [e] at h; exact h
    | rt s cs' => rw [e] at h; exact h
    | bk sl' cs' => rw [e] at h; exact h
    | ct sl' cs' => rw [e] at h; exact h
    | bad => rw [e] at h; exact h
end
/-! ### the classes' facts out of the head -/
section
variable {K : PySem.W.Frag} {h : Heap} {mg : Str → Option Value}
theorem exck_of {x : Str} (g : mg x = some (.ref (He.ga K x))) (c : (He.Fa.exc x).ok K = true) : ExcK K mg x := by
  obtain ⟨a, b, c, d⟩ := He.exc_ok c
  exact ⟨_, g, a, b, c, d⟩
/-- a table of which class is under which -/
def mtOf (l : List (Str × Str × Bool)) : Mt := fun x y => (l.find? fun p => p.1 == x && p.2.1 == y).map (·.2.2)
theorem mtOf_ok {l : List (Str × Str × Bool)} (h : ∀ p ∈ l, ∃ C D, mg p.1 = some (.ref C) ∧ mg p.2.1 = some (.ref D) ∧ PySem.W.exmOne K (.ref C) (.ref D) = some p.2.2) : MtOk K mg (mtOf l) := by
  refine ⟨fun x y b e => ?_⟩
  unfold mtOf at e
  cases q : l.find? (fun p => p.1 == x && p.2.1 == y) with
  | none => rw [q] at e; cases e
  | some p =>
    rw [q] at e
    cases e
    have h1 := List.find?_some q
    simp only [Bool.and_eq_true, beq_iff_eq] at h1
    obtain ⟨C, D, a, b, c⟩ := h p (List.mem_of_find?_eq_some q)
    exact ⟨C, D, h1.1 ▸ a, h1.2 ▸ b, c⟩
end
end DL
end
section
set_option Elab.async false
set_option linter.all false
set_option maxRecDepth 100000
set_option autoImplicit false
/-! ### t[::-1] of a tuple -/
namespace HT
open PySem PySem.Spec PyProof.Rows
section
variable {prog : Program} {w : World} {A : Around} {E : Value → Shared → Prop} {s : Shared}
theorem applied_rev {sl : Addr} {vl vu vs : Value} {n : Nat} {Q : Int × Int × Nat → Shared → Prop} (hs : s.heap.IsSliceOf sl vl vu vs) (pl : IsPart vl none) (pu : IsPart vu none) (ps : IsPart vs (some (-1)))
    (h : Q ((n : Int) - 1, -1, n) s) : wpAny (model prog w) A (Builtin.Slice.sliceApplied (.ref sl) (pure (n : Int))) Q E s := by
  obtain ⟨os, hos, hcs, hds⟩ := id hs
  have ad : Builtin.Slice.sliceAdjust none none (-1) (n : Int) = ((n : Int) - 1, -1) := rfl
  have pc : Builtin.Slice.slicePlaces ((n : Int) - 1) (-1) (-1) = n := by
    unfold Builtin.Slice.slicePlaces
    rw [if_neg (by decide)]
    split
    · rw [show (- -1 : Int) = 1 by decide, Int.ediv_one]; omega
    · omega
  unfold Builtin.Slice.sliceApplied Builtin.Slice.sliceFields
  refine wpAny_bind (wpAny_bind (wpAny_field hos hds (x := vl) rfl (wpAny_bind (wpAny_field hos hds (x := vu) rfl (wpAny_bind (wpAny_field hos hds (x := vs) rfl (wpAny_pure ?_)))))))
  refine wpAny_bind (slicePart_ ps ?_)
  show wpAny _ _ (if ((-1 : Int) == 0) = true then _ else _) _ _ s
  rw [if_neg (by decide)]
  refine wpAny_bind (slicePart_ pl (wpAny_bind (slicePart_ pu (wpAny_bind (wpAny_pure ?_)))))
  show wpAny _ _ (match Builtin.Slice.sliceAdjust none none (-1) (n : Int) with | (lo, hi) => pure (lo, (-1 : Int), Builtin.Slice.slicePlaces lo hi (-1))) _ _ s
  rw [ad]
  show wpAny _ _ (pure ((n : Int) - 1, (-1 : Int), Builtin.Slice.slicePlaces ((n : Int) - 1) (-1) (-1))) _ _ s
  rw [pc]
  exact wpAny_pure h
theorem pick_rev (xs : Array Value) : ((List.range xs.size).filterMap fun (k : Nat) => xs[(((xs.size : Int) - 1) + (k : Int) * (-1)).toNat]?).toArray = xs.toList.reverse.toArray := by
  have e := PySem.W.krv_pick xs
  unfold PySem.slicePick at e
  rw [PySem.W.krv_bounds] at e
  rw [← e]
  show _ = ((PySem.sliceRange ((xs.size : Int) - 1) (-1) (-1)).filterMap (xs[·]?)).toArray
  rw [PySem.W.krv_sliceRange, List.filterMap_map]
  congr 2
  funext k
  have : (((xs.size : Int) - 1) + (k : Int) * (-1)).toNat = xs.size - 1 - k := by omega
  rw [this]
  rfl
theorem getItem_tuple_rev {t sl : Addr} {items : Array Value} {vl vu vs : Value} {Q : Value → Shared → Prop} (ht : IsTup s.heap t items) (hs : s.heap.IsSliceOf sl vl vu vs) (pl : IsPart vl none) (pu : IsPart vu none) (ps : IsPart vs (some (-1)))
    (h : Q (.ref s.heap.objs.size) { s with heap := s.heap.push { cls := .type "tuple", data := .seq items.toList.reverse.toArray } }) (hsz : items.size ≤ sizeLine) : wpAny (model prog w) A (getItem (.ref t) (.ref sl)) Q E s := by
  have ok : sizeOk (.seq items.toList.reverse.toArray) := by
    show items.toList.reverse.toArray.size ≤ sizeLine
    rw [List.size_toArray, List.length_reverse, Array.length_toList]
    exact hsz
  obtain ⟨os, hos, hcs, hds⟩ := id hs
  have sT : s.TypeIs (.ref sl) "slice" := ⟨os, hos, hcs⟩
  unfold getItem
  try with_reducible refine wpAny_holding ?_
  first | refine wpAny_bind (wpAny_pure ?_) | skip
  refine wpAny_bind (wpAny_sequenceKey ht.typeIs (by decide) (wpAny_bind (wpAny_callSpecial?_slot (name := Str.ofString "__getitem__") ht.typeIs PyProof.Rows.slot_tuple_getitem (wpAny_call_entry PyProof.Rows.slot_tuple_getitem ht.typeIs entry_tuple_getitem ?_ (args_tuple_getitem _ _)))))
  show wpAny _ _ (Builtin.Tuple.tupleItemsOf (.ref t) >>= _) _ _ s
  refine wpAny_bind (tupleItemsOf_ ht (wpAny_bind (wpAny_typeOf sT ?_)))
  rw [if_pos (by decide)]
  refine wpAny_bind (applied_rev hs pl pu ps ?_)
  have no : ¬ ((((items.size : Int) - 1) == 0 && (-1 : Int) == 1 && items.size == items.size) = true) := by
    rw [show ((-1 : Int) == 1) = false by decide, Bool.and_false, Bool.false_and]
    exact Bool.false_ne_true
  show wpAny _ _ (if (((items.size : Int) - 1) == 0 && (-1 : Int) == 1 && items.size == items.size) = true then _ else _) _ _ s
  rw [if_neg no, pick_rev]
  first
    | exact wpAny_bind (m := Builtin.Tuple.tupleExact _) (wpAny_newObj_type (wpAny_pure ⟨_, rfl, wpAny_pure h⟩) ok)
    | exact wpAny_bind (m := Builtin.Tuple.tupleExact _) (wpAny_newObj_type (wpAny_bind (wpAny_pure (wpAny_pure ⟨_, rfl, wpAny_pure h⟩))) ok)
    | exact wpAny_bind (wpAny_bind (m := Builtin.Tuple.tupleExact _) (wpAny_newObj_type (wpAny_pure (wpAny_pure ⟨_, rfl, wpAny_pure h⟩)) ok))
    | exact wpAny_bind (wpAny_bind (m := Builtin.Tuple.tupleExact _) (wpAny_newObj_type (wpAny_pure ⟨_, rfl, wpAny_pure h⟩) ok))
end
end HT
namespace DL
open PySem PySem.Spec PyProof.Rows L2
def tRevT (K : PySem.W.Frag) (te : TE) : TE := fun σ H Q => te σ H fun x H1 => (∃ a xs, x = .ref a ∧ SqL K H1 a xs ∧ ∀ p, H1 p = none → Q (.ref p) (upd H1 p (.lst xs.reverse))) ∨ (∃ a xs, x = .ref a ∧ SqT K H1 a xs ∧ ∀ p, H1 p = none → Q (.ref p) (upd H1 p (.tup xs.reverse)))
theorem pe_rev {X : Cx} {e : Expr} {te : TE} {k : Nat} {p1 p2 p3 pos : Pos} (he : PE X e te) : PE X (.Subscript e (.Slice none none (some (.UnaryOp .USub (.Constant (.int 1) k p1) p2)) p3) pos) (tRevT X.K te) := by
  constructor
  intro pins s σ H Q I h
  refine Subscript_ (thn (he.run pins s σ H _ I h) ?_)
  rintro v s1 ⟨x, H1, I1, r1, q1⟩
  have part : PO X (some (.UnaryOp .USub (.Constant (.int 1) k p1) p2)) (tPart (tUn (rU fun i => .int (-i)) (tC (.int 1)))) := po_some (pe_un un_neg pe_int)
  refine wpAny_Slice (thn (po_none.run pins s1 σ H1 (fun o H2 => o = none ∧ H2 = H1) I1 ⟨rfl, rfl⟩) ?_)
  rintro vl s2 ⟨l, H2, I2, pl, rfl, rfl⟩
  refine thn (po_none.run pins s2 σ H2 (fun o H3 => o = none ∧ H3 = H2) I2 ⟨rfl, rfl⟩) ?_
  rintro vu s3 ⟨u, H3, I3, pu, rfl, rfl⟩
  refine thn (part.run pins s3 σ H3 (fun o H4 => o = some (-1) ∧ H4 = H3) I3 ⟨1, rfl, -1, rfl, rfl, rfl⟩) ?_
  rintro vs s4 ⟨o, H4, I4, ps, rfl, rfl⟩
  have I5 : Inv X pins σ H4 { s4 with heap := s4.heap.push { cls := .type "slice", data := .fields #[vl, vu, vs] } } := I4.kept (t' := s4.toks) fun b ob q => Heap.get?_push_of_some _ q
  rcases q1 with ⟨a, xs, rfl, hx, q⟩ | ⟨a, xs, rfl, hx, q⟩
  · cases r1
    obtain ⟨its, r, ht, hz⟩ := I5.list hx
    have hlen := r.length
    show wpAny (model X.prog X.w) X.A (subscriptTail e (.Slice none none (some (.UnaryOp .USub (.Constant (.int 1) k p1) p2)) p3) (.ref a) (.ref s4.heap.objs.size)) (EP X pins σ Q) X.xe { s4 with heap := s4.heap.push { cls := .type "slice", data := .fields #[vl, vu, vs] } }
    refine tail_any (ops := [.ref a, .ref s4.heap.objs.size]) ht.isList.typeIs (PySem.slot_list_getitem.lookup) ?_ (by with_unfolding_all rfl)
    refine wpAny_getItem_list_slice ht.isList (Heap.IsSliceOf.new _ vl vu vs) pl pu ps (by decide) ?_ (by rw [List.size_toArray]; omega)
    rw [PySem.W.krv_pick]
    exact ⟨.ref _, _, I5.laid (t' := s4.toks) (o := .lst xs.reverse) (fun b ob q => Heap.get?_push_of_some _ q) (Nat.le_refl _) ⟨by rw [List.length_reverse]; exact hz, _, 0, r.reverse, Heap.get?_push_size _ rfl⟩, rfl, q _ (I5.hok.fresh (Nat.le_refl _))⟩
  · cases r1
    obtain ⟨its, r, ht, hz⟩ := I5.tuple hx
    have hlen := r.length
    show wpAny (model X.prog X.w) X.A (subscriptTail e (.Slice none none (some (.UnaryOp .USub (.Constant (.int 1) k p1) p2)) p3) (.ref a) (.ref s4.heap.objs.size)) (EP X pins σ Q) X.xe { s4 with heap := s4.heap.push { cls := .type "slice", data := .fields #[vl, vu, vs] } }
    refine tail_any (ops := [.ref a, .ref s4.heap.objs.size]) ht.typeIs (PyProof.Rows.slot_tuple_getitem.lookup) ?_ (by with_unfolding_all rfl)
    refine HT.getItem_tuple_rev ht (Heap.IsSliceOf.new _ vl vu vs) pl pu ps ?_ (by rw [List.size_toArray]; omega)
    exact ⟨.ref _, _, I5.laid (t' := s4.toks) (o := .tup xs.reverse) (fun b ob q => Heap.get?_push_of_some _ q) (Nat.le_refl _) ⟨by rw [List.length_reverse]; exact hz, _, r.reverse, IsTup.new _ _⟩, rfl, q _ (I5.hok.fresh (Nat.le_refl _))⟩
theorem AtL.reverse {K : PySem.W.Frag} {G : Hp} : ∀ {xs : List PyData} {vs : List V}, AtL K G xs vs → AtL K G xs.reverse vs.reverse
  | [], vs, q => by simp only [AtL] at q; subst q; exact AtL.nil
  | x :: xs, vs, q => by
    simp only [AtL] at q
    obtain ⟨v, t, rfl, q1, q2⟩ := q
    rw [List.reverse_cons, List.reverse_cons]
    exact (AtL.reverse q2).append (AtL.cons q1 AtL.nil)
def revV (x : Val) (cs : Cs) : R Val := match x with
  | .d (.list xs) => .ok (.d (.list xs.reverse)) cs
  | .br (.list xs) => .ok (.d (.list xs.reverse)) cs
  | .d (.tuple xs) => .ok (.d (.tuple xs.reverse)) cs
  | _ => .bad
def eRev (f : SE) : SE := fun sl cs => (f sl cs).bind revV
section
variable {Γ : Cf}
theorem de_rev {e : Expr} {f : SE} {k : Nat} {p1 p2 p3 pos : Pos} (h : DE Γ e f) : DE Γ (.Subscript e (.Slice none none (some (.UnaryOp .USub (.Constant (.int 1) k p1) p2)) p3) pos) (eRev f) := by
  obtain ⟨t, p, q⟩ := h.ex
  refine ⟨fun W => tRevT Γ.K (t W), fun X W ok gd => by rw [← ok.K]; exact pe_rev (p X W ok gd), fun W F ρ sl cs σ H Q rp h => ?_⟩
  refine q W F ρ sl cs σ H _ rp (PostG.mono (PostG.bind (rel := relV Γ F sl σ) h) fun u H1 ⟨x, cs1, ρ1, r1, g1, a1, h1⟩ => ?_)
  unfold revV at h1
  split at h1
  · rename_i xs
    obtain ⟨a, vs, rfl, s, l⟩ := AtT.list a1 (.inl rfl)
    refine .inl ⟨a, vs, rfl, SqL.of s, fun t ht => ?_⟩
    obtain ⟨rp', hv⟩ := r1.alloc ht (.lst vs.reverse)
    exact h1 _ _ ρ1 rp' (Grow.upd ht) (AtT.mk (at_list_iff.mpr ⟨t, _, rfl, hv, AtL.mono ((Grow.upd ht).vis r1) _ _ l.reverse⟩))
  · rename_i xs
    obtain ⟨a, vs, rfl, s, l⟩ := AtT.list a1 (.inr rfl)
    refine .inl ⟨a, vs, rfl, SqL.of s, fun t ht => ?_⟩
    obtain ⟨rp', hv⟩ := r1.alloc ht (.lst vs.reverse)
    exact h1 _ _ ρ1 rp' (Grow.upd ht) (AtT.mk (at_list_iff.mpr ⟨t, _, rfl, hv, AtL.mono ((Grow.upd ht).vis r1) _ _ l.reverse⟩))
  · rename_i xs
    obtain ⟨a, vs, rfl, s, l⟩ := AtT.tup a1
    refine .inr ⟨a, vs, rfl, sqT_sub vis_le s, fun t ht => ?_⟩
    obtain ⟨rp', hv⟩ := r1.alloc ht (.tup vs.reverse)
    exact h1 _ _ ρ1 rp' (Grow.upd ht) (AtT.mk (at_tup_iff.mpr ⟨t, _, rfl, SqT.of hv, AtL.mono ((Grow.upd ht).vis r1) _ _ l.reverse⟩))
  · exact h1.elim
/-- (..) * n -/
def gRepT (x y : PyData) : Option PyData := match x, y with
  | .tuple i, .int n => if i ≠ [] ∧ 2 ≤ n ∧ n ≤ 1000 ∧ i.length ≤ 1000 then some (.tuple (List.replicate n.toNat i).flatten) else none
  | _, _ => none
theorem od_repT : OpD Γ (binaryOp .Mult) gRepT := by
  refine ⟨rRepT Γ.K, fun X ok => by rw [← ok.K]; exact op_repT, fun W F ρ sl cs σ H Q x y a b u v rp e1 e2 h1 h2 hp => ?_⟩
  unfold gRepT at hp
  split at hp
  · rename_i i n
    split at hp
    · rename_i hcc
      obtain ⟨p, us, rfl, q1, l1⟩ := dat_tup e1 h1
      refine ⟨p, n, us, rfl, dat_int e2 h2, sqT_sub vis_le q1, fun z => hcc.1 (List.length_eq_zero_iff.mp (by rw [l1.length, z]; rfl)), hcc.2.1, hcc.2.2.1, by rw [← l1.length]; exact hcc.2.2.2, fun t ht => ?_⟩
      obtain ⟨rp', hv⟩ := rp.alloc ht (.tup (List.replicate n.toNat us).flatten)
      exact hp _ _ ρ rp' (Grow.upd ht) (AtT.mk (at_tup_iff.mpr ⟨t, _, rfl, SqT.of hv, AtL.mono ((Grow.upd ht).vis rp) _ _ (l1.rep n.toNat)⟩))
    · exact hp.elim
  · exact hp.elim
def mulT (x y : PyData) : Option PyData := (mulD x y).or (gRepT x y)
theorem od_mulT : OpD Γ (binaryOp .Mult) mulT := od_mul.or od_repT
@[simp] theorem ev_mulT {a b : Int} : mulT (.int a) (.int b) = if cMul a b = true then some (.int (a * b)) else none := by
  show (mulD (.int a) (.int b)).or none = _
  rw [ev_mulI]
  simp
end
end DL
end
section
set_option Elab.async false
set_option linter.all false
set_option maxRecDepth 100000
set_option autoImplicit false
namespace DL
open PySem PySem.Spec PyProof.Rows L2
/-! ### x.insert(k, e), k not below 0 -/
def insAt (xs : List Val) (k : Int) (v : Val) : Option (List Val) := if xs.length < 16777216 ∧ 0 ≤ k ∧ k < 2 ^ 62 ∧ v.solid = true then some (xs.take k.toNat ++ [v] ++ xs.drop k.toNat) else none
def intV : Val → Option Int
  | .d (.int k) => some k
  | _ => none
def sIns (i : Nat) (fk fv : SE) : SS := fun sl cs => match lstAt i sl cs with
  | none => .bad
  | some _ => (fk sl cs).go sl fun k cs1 => (noEx (fv sl cs1)).go sl fun v cs2 => match intV k with
    | none => .bad
    | some k => (match lstAt i sl cs2 with
      | none => .bad
      | some xs => put2 i sl cs2 (insAt xs k v))
theorem Paired.takeP {α β : Type} {R : α → β → Prop} : ∀ {xs : List α} {us : List β} (n : Nat), Paired R xs us → Paired R (xs.take n) (us.take n)
  | _, _, 0, _ => by simpa using Paired.nil
  | _, _, n + 1, .nil => .nil
  | _, _, n + 1, .cons r t => .cons r (Paired.takeP n t)
theorem Paired.dropP {α β : Type} {R : α → β → Prop} : ∀ {xs : List α} {us : List β} (n : Nat), Paired R xs us → Paired R (xs.drop n) (us.drop n)
  | _, _, 0, h => by simpa using h
  | _, _, n + 1, .nil => .nil
  | _, _, n + 1, .cons r t => by simpa using Paired.dropP n t
def rIns : V → List V → Hp → VK → Prop := fun x vs H Q => ∃ (l : Addr) (xs : List V) (i : Int) (y : V), x = .ref l ∧ vs = [.int i, y] ∧ H l = some (.lst xs) ∧ xs.length < sizeLine ∧ 0 ≤ i ∧ i < 2 ^ 63 ∧ Q .non (upd H l (.lst (xs.take i.toNat ++ [y] ++ xs.drop i.toNat)))
section
variable {Γ : Cf} {pos cpos apos : Pos} {ek ev : Expr} {fk fv : SE}
theorem ds_insert (i : Nat) {x : Str} {p : Pos} (hk : DE Γ ek fk) (hv : DE Γ ev fv) (hN : Γ.N[i]? = some x := by rfl) (hvs : Vis Γ.sc x := by first | exact Or.inl rfl | exact Or.inr (Or.inl rfl) | exact Or.inr (Or.inr rfl)) (hd : (x == ("__debug__" : Str)) = false := by decide)
    (hcd : (x == ("__classdict__" : Str)) = false := by decide) (hsw : ∀ env, swapsWith (.Call (.Attribute (.Name x p) "insert" apos) [ek, ev] [] cpos) none pos.line env = pure false := by intro _; rfl)
    (hbase : ∀ env, attributeBase (.Name x p) "insert" env (eval (.Name x p) env) = eval (.Name x p) env := by intro _; rfl)
    (hfew : ∀ env, ((backTo cpos (starEach [ek, ev] env)).all (fun x => !x.1) && (backToKw cpos (keywordEach [] env)).all (fun x => x.1.isSome) && decide ([ek, ev].length + ([] : List Keyword).length + (if ([] : List Keyword).isEmpty then 0 else 1) < 30)) = true := by intro _; rfl)
    (hline : (apos.endLine == cpos.line) = true := by rfl) (hs : ∀ env, starEach [ek, ev] env = (false, eval ek env) :: starEach [ev] env := by intro _; rfl) (hs2 : ∀ env, starEach [ev] env = (false, eval ev env) :: starEach [] env := by intro _; rfl) (hpl : ∀ env, ((backTo cpos (starEach [ev] env)).any fun x => x.1) = false := by intro _; rfl) : DS Γ (.Expr (.Call (.Attribute (.Name x p) "insert" apos) [ek, ev] [] cpos) pos) (sIns i fk fv) := by
  obtain ⟨t, p1, q1⟩ := hk.ex
  obtain ⟨u, p2, q2⟩ := hv.ex
  refine ⟨fun W => tDrop (tBM Γ.K "list" rIns (tVar i) (tCons (t W) (tCons (u W) tNil))), fun X W ok gd => ?_, fun W F ρ sl cs σ H D r h => ?_⟩
  · rw [← ok.K]
    exact ps_expr (pe_bm F.plainAttrs_list F.slot_list_insert F.type_list_insert (show MtR X "list.insert" rIns from mt_insert) (pe_var (by rw [ok.N]; exact hN) (by rw [ok.sc]; exact hvs) hd hcd) (pa_cons (p1 X W ok gd) (pa_cons (p2 X W ok gd) pa_nil (hs2 _)) (hs _)) (hbase _) (hfew _) hline (hs _) (hpl _)) (hsw _)
  · unfold sIns at h
    split at h
    · exact h.elim
    rename_i xs0 ex0
    obtain ⟨a, vs0, e1, e2, l0, _⟩ := lst_view r ex0
    refine ⟨.ref a, e1, .inl ⟨rfl, vs0, SqL.of e2⟩, ?_⟩
    refine q1 W F ρ sl cs σ H _ r (PostG.mono (PostS.go h r) fun uk H1 ⟨y, cs1, ρ1, r1, g1, a1, h1⟩ => ?_)
    have h1 : PostS Γ F ρ1 sl σ H1 W ((noEx (fv sl cs1)).go sl fun v cs2 => match intV y with
      | none => .bad
      | some k => (match lstAt i sl cs2 with
        | none => .bad
        | some xs => put2 i sl cs2 (insAt xs k v))) D := h1.weak (g1.vis r)
    have hn : ∀ {Q : V → Hp → Prop}, PostG Γ F ρ1 sl σ H1 W (relV Γ F sl σ) (noEx (fv sl cs1)) Q → PostG Γ F ρ1 sl σ H1 W (relV Γ F sl σ) (fv sl cs1) Q := fun {Q} z => by
      cases e : fv sl cs1 with
      | ok v c => rw [e] at z; exact z
      | ex e2 c => rw [e] at z; exact z.elim
      | bad => rw [e] at z; exact z
    refine q2 W F ρ1 sl cs1 σ H1 _ r1 (hn (PostG.mono (PostS.go h1 r1) fun uv H2 ⟨v, cs2, ρ2, r2, g2, a2, h2⟩ => ?_))
    cases ey : intV y with
    | none => rw [ey] at h2; exact h2.elim
    | some k =>
      rw [ey] at h2
      simp only at h2
      split at h2
      · exact h2.elim
      rename_i xs ex
      obtain ⟨b, vs, e3, e4, l, _⟩ := lst_view r2 ex
      obtain rfl : a = b := by rw [e1] at e3; cases e3; rfl
      obtain ⟨ys, eys, fin⟩ := put_post r2 ex e1 (h2.weak (g2.vis r1))
      unfold insAt at eys
      split at eys
      · rename_i hc
        cases eys
        obtain ⟨c1, c2, c3, c4⟩ := hc
        have yk : y = .d (.int k) := by
          cases y with
          | d z => cases z <;> first | (cases ey; rfl) | cases ey
          | _ => cases ey
        subst yk
        have uk1 : uk = .int k := AtT.int a1
        subst uk1
        refine ⟨a, vs, k, uv, rfl, rfl, e4, by rw [sizeLine_eq, ← Paired.len l]; exact c1, c2, by omega, fin _ ?_⟩
        exact Paired.app (Paired.app (Paired.takeP _ l) (.cons (a2.solid c4) .nil)) (Paired.dropP _ l)
      · cases eys
end
end DL
end
section
set_option Elab.async false
set_option linter.all false
set_option maxRecDepth 100000
set_option autoImplicit false
namespace DL
open PySem PySem.Spec PyProof.Rows L2
/-! ### y = {k: v for ..} on one line -/
theorem sw_trueD {kx vx : Expr} {gs : List Comprehension} {scope : Scope} {pos py : Pos} {y : Str} {l : Nat} {env : Env} (hk : env.scope.kind = .function) (hy : env.scope.names.lookup y = some .local) (hl : (py.line == pos.line) = true)
    (ha : (scope.names.any fun (n, k) => n == y && (k == .local || k == .cell)) = false) : swapsWith (.DictComp kx vx gs scope pos) (some (.Name y py)) l env = pure true := by
  have ky : env.kindOf y = some .local := hy
  have hb : env.blockKind = .function := by unfold Env.blockKind; rw [hk]; rfl
  unfold swapsWith
  simp only [hb, ky, ha, Expr.pos, hl]
  rfl
section
variable {X : Cx}
theorem ps_setDc {i : Nat} {y : Str} {py : Pos} {kx vx tg iter : Expr} {ifs : List Expr} {scope : Scope} {own : List (Str × Nat)} {pos spos : Pos} {wi : TI} {g : TG} {tt : TT} {tk tv : TE} (hc : X.calm = true) (hN : X.N.Nodup) (hy : X.N[i]? = some y) (hyl : X.env.scope.names.lookup y = some .local)
    (hsw : swapsWith (.DictComp kx vx [⟨tg, iter, ifs, 0⟩] scope pos) (some (.Name y py)) spos.line X.env = pure true) (hi : PI X tg iter wi) (ok : BlkOk X.N X.env.scope scope own)
    (hg : ∀ (s : Shared) (H : Hp) (C : Addr) (cl : List (Str × Addr)) (fp : List Addr), PG (X.blk s H scope (compEnvC scope cl C X.env) fp) tg g) (ht : ∀ (s : Shared) (H : Hp) (C : Addr) (cl : List (Str × Addr)) (fp : List Addr), PTs (X.blk s H scope (compEnvC scope cl C X.env) fp) ifs tt)
    (hk : ∀ (s : Shared) (H : Hp) (C : Addr) (cl : List (Str × Addr)) (fp : List Addr), PE (X.blk s H scope (compEnvC scope cl C X.env) fp) kx tk)
    (he : ∀ (s : Shared) (H : Hp) (C : Addr) (cl : List (Str × Addr)) (fp : List Addr), PE (X.blk s H scope (compEnvC scope cl C X.env) fp) vx tv) (hs : ∀ x, foldedSetIterable iter X.env x = pure x) :
    PS X (.Assign [.Name y py] (.DictComp kx vx [⟨tg, iter, ifs, 0⟩] scope pos) spos) (tAsg (tDc wi g tt tk tv (own.map (·.2))) (gName i)) := by
  refine ⟨fun pins s σ H D I h => ?_⟩
  rw [exec_Assign_Name_used _ _ _ _ hsw]
  refine wpAny_bind (wpAny_standAt (wpAny_bind ?_))
  show wpAny _ X.A (do let _ ← comprehension (.DictComp kx vx [⟨tg, iter, ifs, 0⟩] scope pos) scope X.env (firstIterPos [⟨tg, iter, ifs, 0⟩] pos) newDict false (eval iter X.env) (some (assign (.Name y py) X.env))) _ _ s
  have h : tDc wi g tt tk tv (own.map (·.2)) σ H (fun x H1 => gName i x σ H1 D.nx) := h
  refine wpAny_bind (thn (dc_core (Qf := fun _ s' => SP X pins D .next s') hc hN I hi ok hg ht hk he hs h fun L C s' m H' I' q hn f => ?_) fun _ s' hq => wpAny_pure (wpAny_pure hq))
  show wpAny _ _ (assign (.Name y py) X.env (.ref L)) _ _ _
  refine wpAny_assign_Name (store_ok2 (v := V.ref L) I' hN hy (.inl hyl) rfl (fun s2 I2 ⟨a, sb, ha⟩ => ?_) (.inr hyl))
  obtain ⟨f0, f1, f2, f3, f4, f5⟩ := f
  have haC : C ≠ a := by
    rcases ha with z | z
    · rw [z]; exact f1
    · exact fun e => f4 y a z e.symm
  refine ⟨m, hn.sameBut sb haC, fun h3 sb3 => ?_⟩
  exact ⟨_, H', I2.turned (t' := s2.toks) (fun b o hb e => (sb3.2 b hb).trans e) f0 f1 f3 f4 f5, q⟩
end
section
variable {Γ : Cf}
theorem ds_setDc (i : Nat) {y : Str} {py spos : Pos} {kx vx tg iter : Expr} {ifs : List Expr} {scope : Scope} {own : List (Str × Nat)} {pos : Pos} {it : SA} {ix : List Nat} {g : Val → Sl → Option Sl} {tt : ST} {tk tv : SE} (hcm : Γ.cm = true) (hN : Γ.N.Nodup) (hb : BlkOk Γ.N Γ.sc scope own)
    (hi : DP Γ tg iter it) (hg : DG (Γ.blk scope) tg ix g) (ht : DTs (Γ.blk scope) ifs tt) (hk : DE (Γ.blk scope) kx tk) (he : DE (Γ.blk scope) vx tv) (hkf : Γ.sc.kind = .function) (hyl : Γ.sc.names.lookup y = some .local) (hln : (py.line == pos.line) = true) (ha : (scope.names.any fun (n, k) => n == y && (k == .local || k == .cell)) = false) (hy : Γ.N[i]? = some y := by rfl)
    (hix : ∀ i ∈ ix, i ∈ own.map (·.2) := by decide) (hs : ∀ env x, foldedSetIterable iter env x = pure x := by intro _ _; rfl) :
    DS Γ (.Assign [.Name y py] (.DictComp kx vx [⟨tg, iter, ifs, 0⟩] scope pos) spos) (sSet i (oDc it g tt tk tv (own.map (·.2)))) := by
  obtain ⟨wi, pi, qi⟩ := hi.ex
  obtain ⟨tg', pg, qg⟩ := hg.ex
  obtain ⟨tt', pt, qt⟩ := ht.ex
  obtain ⟨tk', pk, qk⟩ := hk.ex
  obtain ⟨te', pe, qe⟩ := he.ex
  refine ⟨fun W => tAsg (tDc (wi W) tg' (tt' W0) (tk' W0) (te' W0) (own.map (·.2))) (gName i), fun X W ok gd => ?_, fun W F ρ sl cs σ H D r h => ?_⟩
  · exact ps_setDc (ok.cm hcm).1 (by rw [ok.N]; exact hN) (by rw [ok.N]; exact hy) (by rw [ok.sc]; exact hyl) (sw_trueD (by rw [ok.sc]; exact hkf) (by rw [ok.sc]; exact hyl) hln ha) (pi X W ok gd) (by rw [ok.N, ok.sc]; exact hb) (fun s H C cl fp => pg _ (blk_ok ok s H C cl fp)) (fun s H C cl fp => pt _ W0 (blk_ok ok s H C cl fp) (blk_good s H C cl fp)) (fun s H C cl fp => pk _ W0 (blk_ok ok s H C cl fp) (blk_good s H C cl fp)) (fun s H C cl fp => pe _ W0 (blk_ok ok s H C cl fp) (blk_good s H C cl fp)) (hs _)
  · have h0 : PostG Γ F ρ sl σ H W (relO Γ F sl σ H) (oDc it g tt tk tv (own.map (·.2)) sl cs) (fun u H1 => D.nx (σ.set i (some u)) H1) := by
      unfold sSet at h
      exact PostG.mono (PostS.go h r) fun u H1 ⟨x, cs1, ρ1, r1, g1, a1, h1⟩ => set_post (Hs := H) r r1 g1 a1 h1
    refine qi W F ρ sl cs σ H _ r (PostG.mono (PostG.bind (rel := relI Γ F sl σ) h0) fun J H1 ⟨xs, cs1, ρ1, r1, g1, a1, h1⟩ Dd hD => ?_)
    by_cases hl : xs.length ≤ 16777216
    · rw [if_pos hl] at h1
      exact dc_sem (Γ := Γ) (scope := scope) (Q := fun u H1 => D.nx (σ.set i (some u)) H1) qg qt qk qe hix r r1 g1 a1 hl h1 hD
    · rw [if_neg hl] at h1
      exact h1.elim
end
end DL
end
section
set_option Elab.async false
set_option linter.all false
set_option maxRecDepth 100000
set_option maxHeartbeats 4000000
set_option autoImplicit false
namespace DL
open PySem PySem.Spec PyProof.Rows L2
/-! ### tuple * 1: the tuple itself -/
theorem tuple_mul1 (l : Addr) (items : Array Value) (n : Nat) (dd : Option Addr) (sl : Array (Option Value)) (u : Tok) :
    Meets (Builtin.«tuple.__mul__» ⟨[.ref l, .int 1 u], []⟩) (fun _ R s => s.heap.get? l = some { cls := .type "tuple", dict := dd, data := .seq items n, slots := sl } ∧
      R (.ok (.ret (Value.ref l))) s) :=
  .of_wp fun prog w A R s h => by
    obtain ⟨hp, g, d, tk, os⟩ := s
    obtain ⟨hl, h⟩ := h
    have f1 := AutoSeq1.idx_int
    have c0 : (decide ((1 : Int) < -(2 ^ 63)) || decide ((1 : Int) ≥ 2 ^ 63)) = false := by decide
    have c1 : (items.isEmpty || (1 : Int) == 1) = true := by simp
    wp_walk using wpAny_loadPart' hl
    repeat (first
      | (refine wpAny_ite_false (decide_eq_false (by rw [c0]; exact Bool.false_ne_true)) ?_; wp_walk using wpAny_loadPart' hl)
      | (refine wpAny_ite_true (decide_eq_true c1) ?_; wp_walk using wpAny_loadPart' hl))
    exact ⟨_, rfl, h⟩
def rRep1 (K : PySem.W.Frag) : R2 := fun x y H Q => ∃ l xs, x = .ref l ∧ y = .int 1 ∧ SqT K H l xs ∧ Q (.ref l) H
theorem op_rep1 {X : Cx} : OpR X (binaryOp .Mult) (rRep1 X.K) := by
  intro pins s σ H x y v u Q I rx ry h
  obtain ⟨l, xs, rfl, rfl, hT, q⟩ := h
  cases rx
  obtain ⟨t, rfl⟩ := ry
  obtain ⟨its, r, ⟨⟨cls, dd, data, sl⟩, ho, hc, n, hd⟩, hs⟩ := I.tuple hT
  simp only at hc hd
  subst hc hd
  exact wpAny_binaryOp_repeat_ref (T := "tuple") (U := "int") (by decide) ⟨_, ho, rfl⟩ (fun s' => typeIs_int s' 1 t) noFill_tuple_mul F.fills_int_mul F.slot_int_rmul repeat_tuple F.slot_int_index.lookup
    (call_meets F.slot_int_rmul (typeIs_int s 1 t) F.entry_int_rmul (F.args_int_rmul_2 _ _) (int_rmul_tuple 1 t l its.toArray n dd sl)
      ⟨ho, rfl, ⟨_, ho, rfl⟩, call_meets F.slot_tuple_mul ⟨_, ho, rfl⟩ F.entry_tuple_mul (F.args_tuple_mul_2 _ _) (tuple_mul1 l its.toArray n dd sl t) ⟨ho, .ref l, H, I, rfl, q⟩⟩)
def gRep1 (x y : PyData) : Option PyData := match x, y with
  | .tuple i, .int n => if n = 1 then some (.tuple i) else none
  | _, _ => none
section
variable {Γ : Cf}
theorem od_rep1 : OpD Γ (binaryOp .Mult) gRep1 := by
  refine ⟨rRep1 Γ.K, fun X ok => by rw [← ok.K]; exact op_rep1, fun W F ρ sl cs σ H Q x y a b u v rp e1 e2 h1 h2 hp => ?_⟩
  unfold gRep1 at hp
  split at hp
  · rename_i i n
    split at hp
    · rename_i hcc
      subst hcc
      obtain ⟨p, us, rfl, q1, l1⟩ := dat_tup e1 h1
      exact ⟨p, us, rfl, dat_int e2 h2, sqT_sub vis_le q1, hp _ _ ρ rp Grow.refl (AtT.mk (at_tup_iff.mpr ⟨p, us, rfl, q1, l1⟩))⟩
    · exact hp.elim
  · exact hp.elim
/-- tuple * n, n from 1 on, as well -/
def mulU (x y : PyData) : Option PyData := (mulT x y).or (gRep1 x y)
theorem od_mulU : OpD Γ (binaryOp .Mult) mulU := od_mulT.or od_rep1
@[simp] theorem ev_mulUI {a b : Int} : mulU (.int a) (.int b) = if cMul a b = true then some (.int (a * b)) else none := by
  show (mulT (.int a) (.int b)).or none = _
  rw [ev_mulT]
  simp
end
end DL
end
section
set_option Elab.async false
set_option linter.all false
set_option maxRecDepth 100000
set_option autoImplicit false
namespace DL
open PySem PySem.Spec PyProof.Rows L2
/-! ### text * int -/
def repS (x : Str) (n : Nat) : Str := ⟨(List.replicate n x.cps).foldl (· ++ ·) #[]⟩
theorem rep_size (a : Array Nat) : ∀ (n : Nat) (acc : Array Nat), ((List.replicate n a).foldl (· ++ ·) acc).size = acc.size + n * a.size
  | 0, acc => by simp
  | n + 1, acc => by
    rw [List.replicate_succ, List.foldl_cons, rep_size a n (acc ++ a), Array.size_append, Nat.succ_mul]
    omega
def rRepS : R2 := fun x y H Q => ∃ z n, x = .str z ∧ y = .int n ∧ 2 ≤ n ∧ n ≤ 1000 ∧ z.length ≤ 1000 ∧ z.length ≠ 0 ∧ Q (.str (repS z n.toNat)) H
theorem op_repS {X : Cx} : OpR X (binaryOp .Mult) rRepS := by
  intro pins s σ H x y v u Q I rx ry h
  obtain ⟨z, n, rfl, rfl, h1, h2, h3, h4, q⟩ := h
  obtain ⟨t, rfl⟩ := rx
  obtain ⟨t2, rfl⟩ := ry
  have n1 : ¬ n < 1 := by omega
  have nb : (n == 1 || z.length == 0) = false := by
    rw [beq_eq_false_iff_ne.mpr (by omega), beq_eq_false_iff_ne.mpr h4]
    rfl
  have hm : z.length * n.toNat ≤ 1000 * 1000 := Nat.mul_le_mul h3 (by omega)
  refine PySem.P.mul_str ?_ (fun _ _ => ?_) (fun _ _ => ?_) ?_
  · rw [decide_eq_false (by omega), decide_eq_false (by omega)]; rfl
  · have : (2 ^ 63 - 1) / n ≥ (2 ^ 63 - 1) / 1000 := by
      rw [ge_iff_le, Int.le_ediv_iff_mul_le (by omega)]
      have : ((2 : Int) ^ 63 - 1) / 1000 * n ≤ (2 ^ 63 - 1) / 1000 * 1000 := Int.mul_le_mul_of_nonneg_left h2 (by decide)
      exact Int.le_trans this (by decide)
    have h5 : ((2 : Int) ^ 63 - 1) / 1000 ≥ 1000 := by decide
    omega
  · unfold Builtin.Str.tooLong
    rw [sizeLine_eq]
    exact decide_eq_false (by omega)
  · rw [if_neg n1, nb, if_neg Bool.false_ne_true]
    refine ⟨?_, .str (repS z n.toNat), H, I.tok _, ⟨_, rfl⟩, q⟩
    have e : ((List.replicate n.toNat z.cps).foldl (· ++ ·) #[]).size = n.toNat * z.cps.size := by
      rw [rep_size]; simp
    show ((List.replicate n.toNat z.cps).foldl (· ++ ·) #[]).size ≤ sizeLine
    rw [e, sizeLine_eq, Nat.mul_comm]
    exact Nat.le_trans hm (by decide)
def gRepS (x y : PyData) : Option PyData := match x, y with
  | .str z, .int n => if 2 ≤ n ∧ n ≤ 1000 ∧ z.length ≤ 1000 ∧ z.length ≠ 0 then some (.str (repS z n.toNat)) else none
  | _, _ => none
section
variable {Γ : Cf}
theorem od_repS : OpD Γ (binaryOp .Mult) gRepS := by
  refine ⟨rRepS, fun X ok => op_repS, fun W F ρ sl cs σ H Q x y a b u v rp e1 e2 h1 h2 hp => ?_⟩
  unfold gRepS at hp
  split at hp
  · rename_i z n
    split at hp
    · rename_i hc
      exact ⟨z, n, dat_str e1 h1, dat_int e2 h2, hc.1, hc.2.1, hc.2.2.1, hc.2.2.2, hp _ _ ρ rp Grow.refl AtT.mkS⟩
    · exact hp.elim
  · exact hp.elim
/-- text * n, n from 2 on, as well -/
def mulS (x y : PyData) : Option PyData := (mulD x y).or (gRepS x y)
theorem od_mulS : OpD Γ (binaryOp .Mult) mulS := od_mul.or od_repS
end
end DL
end
section
set_option Elab.async false
set_option linter.all false
set_option maxRecDepth 100000
set_option autoImplicit false
namespace DL
open PySem PySem.Spec PyProof.Rows L2
/-! ### try with clauses, some of them `except C as n` -/
/-- a clause as it is read: its class, the slot of its name, its suite -/
structure Hd where
  c : Value
  i : Option Nat
  ts : Addr → Value → Option Addr → TS
def offE : Option Nat → Ends → Ends
  | none, D => D
  | some i, D => { nx := fun σ' H' => D.nx (σ'.set i none) H', rt := D.rt, bk := fun σ' H' => D.bk (σ'.set i none) H', ct := fun σ' H' => D.ct (σ'.set i none) H' }
def onS (a : Addr) : Option Nat → L2.St → L2.St
  | none, σ => σ
  | some i, σ => σ.set i (some (.ref a))
def wCl (K : PySem.W.Frag) (Wout : WX) (D : Ends) : List Hd → WX
  | [] => Wout
  | h :: r => fun cls d σ H => ∃ b, PySem.W.exmOne K cls h.c = some b ∧ (b = true → ∀ a, H a = none → h.ts a cls d (offE h.i D) (onS a h.i σ) H) ∧ (b = false → wCl K Wout D r cls d σ H)
inductive ClOk (X : Cx) : ExceptHandler → Hd → Prop
  | plain {x : Str} {c : Value} {ts : Addr → Value → Option Addr → TS} {b₀ : Stmt} {suite : List Stmt} {np pos : Pos} (hc : Names X x c)
      (hsu : ∀ (a : Addr) (oe : Obj) (cls : Value) (d : Option Addr) (pn : List (Addr × Obj)), Zc cls d oe → (∃ vs, oe.data = .fields vs) → PSs (X.suite a ((a, oe) :: pn)) (b₀ :: suite) (ts a cls d)) :
      ClOk X (.ExceptHandler (some (.Name x np)) none (b₀ :: suite) pos) ⟨c, none, ts⟩
  | named {x n : Str} {i : Nat} {c : Value} {ts : Addr → Value → Option Addr → TS} {b₀ : Stmt} {suite : List Stmt} {np pos : Pos} (hc : Names X x c) (hN : X.N.Nodup) (hi : X.N[i]? = some n) (hln : X.env.kindOf n = some .local)
      (hsu : ∀ (a : Addr) (oe : Obj) (cls : Value) (d : Option Addr) (pn : List (Addr × Obj)), Zc cls d oe → (∃ vs, oe.data = .fields vs) → PSs (X.suite a ((a, oe) :: pn)) (b₀ :: suite) (ts a cls d)) :
      ClOk X (.ExceptHandler (some (.Name x np)) (some n) (b₀ :: suite) pos) ⟨c, some i, ts⟩
inductive ClsOk (X : Cx) : List ExceptHandler → List Hd → Prop
  | nil : ClsOk X [] []
  | cons {e : ExceptHandler} {h : Hd} {es : List ExceptHandler} {hs : List Hd} (q : ClOk X e h) (r : ClsOk X es hs) : ClsOk X (e :: es) (h :: hs)
section
variable {X : Cx} {body : List Stmt} {h₀ : ExceptHandler} {hds : List ExceptHandler} {l : List Hd} {pos : Pos} {tb : WX → TS} {Wout : WX}
/-- an exception that stands on the ground, before its clauses -/
structure Down (X : Cx) (pins : List (Addr × Obj)) (a : Addr) (B : Heap) (cls : Value) (d : Option Addr) (σ : L2.St) (H : Hp) (sI s : Shared) : Prop where
  J : Inv X pins σ H sI
  nb : ∀ b o, sI.heap.get? b = some o → b ∉ frs X.stack → B.get? b = some o
  fl : HandSPX.FlyingZ B (X.env :: X.outer) a (Zc cls d) s.heap
  up : sI.heap.UpToSlots s.heap
  na : H a = none
  os : s.os = sI.os
  ag : AllBare s.gens
theorem Down.off {pins : List (Addr × Obj)} {a : Addr} {B : Heap} {cls : Value} {d : Option Addr} {σ : L2.St} {H : Hp} {sI s : Shared} (hs : X.stack = X.env :: X.outer) (hf : X.env.frame = some X.env.locals) (g : Down X pins a B cls d σ H sI s) : a ≠ X.env.locals ∧ a ∉ X.fs := by
  obtain ⟨oe, vs, he, hz, hd⟩ := g.fl.there
  have nfr : a ∉ frs (X.env :: X.outer) := fun hm => by
    obtain ⟨_, o', e', hnf⟩ := g.fl.2.2.1.mem hm
    rw [he] at e'; cases e'
    exact hnf _ hd
  refine ⟨fun z => nfr (List.mem_filterMap.mpr ⟨X.env, List.mem_cons_self, by rw [hf, z]⟩), fun hm => ?_⟩
  obtain ⟨e, he, q⟩ := List.mem_filterMap.mp hm
  exact nfr (List.mem_filterMap.mpr ⟨e, List.mem_cons_of_mem _ he, q⟩)
theorem Down.inv {pins : List (Addr × Obj)} {a : Addr} {B : Heap} {cls : Value} {d : Option Addr} {σ : L2.St} {H : Hp} {sI s : Shared} (g : Down X pins a B cls d σ H sI s) : Inv X pins σ H s := g.J.landed g.nb g.fl.1 g.up g.os g.ag
theorem Down.go {pins : List (Addr × Obj)} {a : Addr} {B : Heap} {cls : Value} {d : Option Addr} {σ : L2.St} {H : Hp} {sI s : Shared} {D : Ends} (hs : X.stack = X.env :: X.outer) (hf : X.env.frame = some X.env.locals) (tk : Takes X Wout) (g : Down X pins a B cls d σ H sI s) :
    ∀ {es : List ExceptHandler} {l : List Hd}, ClsOk X es l → wCl X.K Wout D l cls d σ H → wpAny (model X.prog X.w) X.A (handleBy (.ref a) X.env es) (SP X pins D) X.xe s := by
  have J3 := g.inv
  have ok := J3.ok
  obtain ⟨nL, nF⟩ := g.off hs hf
  have fl3 := g.fl
  obtain ⟨oe3, vs3, he3, hz3, hd3⟩ := g.fl.there
  have S3 := J3.suite he3 hd3 g.na nL nF
  have LT : PySem.W.Looks (model X.prog X.w) s.heap (typeOf (.ref a)) cls := fun A Q E s k q => wpAny_typeOf_ref (k _ _ he3) (by rw [hz3.1]; exact q)
  have test : ∀ {x : Str} {c : Value} {np : Pos} {Q : Value → Shared → Prop} {E : Value → Shared → Prop}, Names X x c → Q c s → wpAny (model X.prog X.w) (X.A.mark (some (.ref a))) (eval (.Name x np) X.env) Q E s := fun {x c np Q E} hc q => by
    obtain ⟨hg, hdbg, hm | ⟨hm, hv, hnn⟩⟩ := hc
    · exact ld_glob (X := X.suite a ((a, oe3) :: (X.pn ++ pins))) S3 hg hm q hdbg
    · exact ld_blt (X := X.suite a ((a, oe3) :: (X.pn ++ pins))) S3 hg hm hv q hnn hdbg
  intro es l hk
  induction hk with
  | nil =>
    intro w
    refine wpAny_handleBy_nil ?_
    obtain ⟨k1, k2, k3, oe, vs, T, oT, ts', he, hz, hd, h1, hr⟩ := id fl3
    unfold PySem.passOn
    refine wpAny_bind (wpAny_field he hd h1 ?_)
    rw [if_neg (show ¬ ((Value.ref T == Value.none) = true) from by simp)]
    have fin : wpAny (model X.prog X.w) X.A (setFlight (.ref a) X.env.frame) (fun _ s4 => wpAny (model X.prog X.w) X.A (throw (.ref a) : Sem Flow) (SP X pins D) X.xe s4) X.xe s := by
      rw [hf]
      refine HandSPX.setFlight_upZ fl3 fun h4 hh4 up4 => wpAny_throw (tk _ _ ?_)
      exact ⟨a, B, sI, pins, σ, H, cls, d, rfl, g.J, g.nb, g.up.trans up4, .inr (.inr (by rw [hs]; exact hh4)), g.na, g.os, g.ag, w⟩
    first
      | exact wpAny_bind (wpAny_pure (wpAny_bind fin))
      | exact wpAny_bind fin
  | cons q r ih =>
    intro w
    obtain ⟨b, hb1, hyes, hno⟩ := w
    have LM := PySem.W.exm_one (M := model X.prog X.w) (J3.kIn) LT hb1
    cases q with
    | plain hc hsu =>
      refine wpAny_handleBy_cons (codeAny_handlers_test ?_) (by intro q; cases q)
      refine test hc (LM.here ?_)
      cases b with
      | false => exact ih (hno rfl)
      | true =>
        refine codeAny_handlers_suite (HandSPX.lands_againZ fl3 fun h4 fl4 up4 => ?_)
        have g4 : Down X pins a B cls d σ H sI { s with heap := h4 } := ⟨g.J, g.nb, fl4, g.up.trans up4, g.na, g.os, g.ag⟩
        obtain ⟨oe4, vs4, he4, hz4, hd4⟩ := fl4.there
        have S4 := g4.inv.suite he4 hd4 g.na nL nF
        refine wpAny_mono ((hsu a oe4 cls d (X.pn ++ pins) hz4 ⟨_, hd4⟩).run [] _ _ H _ S4 (hyes rfl a g.na)) (fun f s6 hsp => ?_) (fun _ _ z => False.elim z)
        cases f with
        | next => obtain ⟨σ6, H6, S6, q6⟩ := hsp; exact ⟨_, _, S6.unsuite ok, q6⟩
        | brk => obtain ⟨σ6, H6, S6, q6⟩ := hsp; exact ⟨_, _, S6.unsuite ok, q6⟩
        | cont => obtain ⟨σ6, H6, S6, q6⟩ := hsp; exact ⟨_, _, S6.unsuite ok, q6⟩
        | ret u => obtain ⟨v6, σ6, H6, S6, r6, q6⟩ := hsp; exact ⟨_, _, _, S6.unsuite ok, r6, q6⟩
    | @named x n i c ts b₀ suite np pos hc hN hi hln hsu =>
      refine wpAny_handleBy_cons (codeAny_handlers_test ?_) (by intro q; cases q)
      refine test hc (LM.here ?_)
      cases b with
      | false => exact ih (hno rfl)
      | true =>
        refine codeAny_handlers_suite_as (HandSPX.lands_againZ fl3 fun h4 fl4 up4 => ?_)
        have g4 : Down X pins a B cls d σ H sI { s with heap := h4 } := ⟨g.J, g.nb, fl4, g.up.trans up4, g.na, g.os, g.ag⟩
        obtain ⟨oe4, vs4, he4, hz4, hd4⟩ := fl4.there
        have S4 := g4.inv.suite he4 hd4 g.na nL nF
        refine store_ok (X := X.suite a ((a, oe4) :: (X.pn ++ pins))) (v := .ref a) S4 hN hi (.inl hln) rfl (fun s5 S5 => ?_) (.inr hln)
        refine wpAny_mono ((hsu a oe4 cls d (X.pn ++ pins) hz4 ⟨_, hd4⟩).run [] s5 _ H _ S5 (hyes rfl a g.na)) (fun f s6 hsp => ?_) (fun _ _ z => False.elim z)
        have end_ : ∀ {σ6 : L2.St} {H6 : Hp} {Q : Shared → Prop}, Inv (X.suite a ((a, oe4) :: (X.pn ++ pins))) [] σ6 H6 s6 → (∀ s7, Inv X pins (σ6.set i none) H6 s7 → Q s7) →
            wpAny (model X.prog X.w) X.A (do bindName X.env n .none; unbindBehindTheSuite X.env n pos) (fun _ s7 => Q s7) X.xe s6 := fun {σ6 H6 Q} S6 hq => gone_ok (S6.unsuite ok) hN hi hln hq
        cases f with
        | next => obtain ⟨σ6, H6, S6, q6⟩ := hsp; exact end_ S6 fun s7 J7 => ⟨_, _, J7, q6⟩
        | brk => obtain ⟨σ6, H6, S6, q6⟩ := hsp; exact end_ S6 fun s7 J7 => ⟨_, _, J7, q6⟩
        | cont => obtain ⟨σ6, H6, S6, q6⟩ := hsp; exact end_ S6 fun s7 J7 => ⟨_, _, J7, q6⟩
        | ret u => obtain ⟨v6, σ6, H6, S6, r6, q6⟩ := hsp; exact end_ S6 fun s7 J7 => ⟨_, _, _, J7, r6, q6⟩
theorem ps_tryA (hs : X.stack = X.env :: X.outer) (hf : X.env.frame = some X.env.locals) (tk : Takes X Wout)
    (hb : ∀ (W : WX) (pn : List (Addr × Obj)) (xe : Value → Shared → Prop), Takes (X.tr pn xe) W → PassesOwn (model X.prog X.w) X.A X.env xe → PSs (X.tr pn xe) body (tb W))
    (hh : ClsOk X (h₀ :: hds) l) : PS X (.Try body (h₀ :: hds) [] [] pos) (fun D σ H => tb (wCl X.K Wout D l) D σ H) := by
  refine ⟨fun pins s σ H D I h => ?_⟩
  have ok := I.ok
  refine wpAny_Try_except ?_
  refine wpAny_mono ((hb (wCl X.K Wout D l) (X.pn ++ pins) (fun e s₁ => wpAny (model X.prog X.w) X.A (noteFrame e X.env) (fun _ s₂ => wpAny (model X.prog X.w) X.A (setFlight e none) (fun _ s₃ =>
    wpAny (model X.prog X.w) X.A (handleBy e X.env (h₀ :: hds)) (SP X pins D) X.xe s₃) X.xe s₂) X.xe s₁) (fun u s' xx => ?_) PassesOwn.looking).run [] s σ H D (I.toTry _) h) (fun f s1 hsp => ?_) (fun e s1 he => he)
  · obtain ⟨a, B, sI, pins', σ', H', cls, d, rfl, J', nb, up, sky, na, os, ag, w⟩ := xx
    have sky' : Sky B (X.env :: X.outer) a (Zc cls d) X.env.locals s'.heap := by rw [← hs]; exact sky
    show wpAny (model X.prog X.w) X.A (noteFrame (.ref a) X.env) _ _ _
    refine Sky.land Zc.steady (by rw [ok.frames, hs]) hf sky' fun h3 fl3 up3 => ?_
    exact Down.go (s := { s' with heap := h3 }) hs hf tk ⟨J'.ofTry ok, nb, fl3, up.trans up3, na, os, ag⟩ hh w
  · cases f with
    | next => obtain ⟨σ', H', J', q⟩ := hsp; exact wpAny_execs_nil ⟨σ', H', J'.ofTry ok, q⟩
    | brk => obtain ⟨σ', H', J', q⟩ := hsp; exact ⟨σ', H', J'.ofTry ok, q⟩
    | cont => obtain ⟨σ', H', J', q⟩ := hsp; exact ⟨σ', H', J'.ofTry ok, q⟩
    | ret u => obtain ⟨v, σ', H', J', r, q⟩ := hsp; exact ⟨v, σ', H', J'.ofTry ok, r, q⟩
end
end DL
end
section
set_option Elab.async false
set_option linter.all false
set_option maxRecDepth 100000
set_option autoImplicit false
namespace DL
open PySem PySem.Spec PyProof.Rows L2
/-! ### suites that look at the exception they hold -/
section
variable {K : PySem.W.Frag} {mg : Str → Option Value} {F : Fx} {ρ : List Addr} {sl : Sl} {cs : Cs} {σ : L2.St} {H : Hp}
theorem own_none {i : Nat} {x : Option V} {a : Addr} (h : sl[i]? = some none) : Own sl (σ.set i x) a ↔ Own sl σ a := by
  unfold Own
  constructor
  · rintro ⟨j, y, e1, e2⟩
    have : i ≠ j := fun z => by rw [z, e1] at h; cases h
    rw [List.getElem?_set_ne this] at e2
    exact ⟨j, y, e1, e2⟩
  · rintro ⟨j, y, e1, e2⟩
    have : i ≠ j := fun z => by rw [z, e1] at h; cases h
    exact ⟨j, y, e1, by rw [List.getElem?_set_ne this]; exact e2⟩
theorem vis_none {i : Nat} {x : Option V} (h : sl[i]? = some none) : vis F ρ sl (σ.set i x) H = vis F ρ sl σ H := by
  unfold vis
  refine hide_congr fun a => ?_
  unfold Hid
  rw [own_none h]
theorem Rep.offNone (r : Rep K mg F ρ sl cs σ H) {i : Nat} {x : Option V} (h : sl[i]? = some none) : Rep K mg F ρ sl cs (σ.set i x) H := by
  have ne : ∀ {j : Nat} {s : Slot}, sl[j]? = some (some s) → i ≠ j := fun e z => by rw [z, e] at h; cases h
  refine ⟨by rw [List.length_set]; exact r.len, by rw [vis_none h]; exact r.cells, r.nd, r.pre, fun a z => r.fr a ((own_none h).mp z), fun j k x y a e1 e2 e3 e4 => ?_, r.keep, fun j s e => ?_⟩
  · rw [List.getElem?_set_ne (ne e1)] at e3
    rw [List.getElem?_set_ne (ne e2)] at e4
    exact r.inj j k x y a e1 e2 e3 e4
  · rw [List.getElem?_set_ne (ne e), vis_none h]
    exact r.slot j s e
end
/-- what isinstance says of an exception of a class -/
structure IsT (K : PySem.W.Frag) (mg : Str → Option Value) (it : Mt) : Prop where
  ex : ∀ x y b, it x y = some b → ∃ C, mg x = some (.ref C) ∧ ExcC K C ∧ ((∃ D, mg y = some (.ref D) ∧ PySem.W.kitOne K (.ref C) (.ref D) = some b) ∨ ∃ t : String, mg y = none ∧ bootBuiltins y = some (.type t) ∧ PySem.W.kitOne K (.ref C) (.type t) = some b)
structure DXE (Γ : Cf) (i : Nat) (e : Expr) (f : Ex → SE) : Prop where
  ex : ∃ t : Addr → Value → Option Addr → TE,
    (∀ X a oe cls d pn, Γ.Ok X → Zc cls d oe → (∃ vs, oe.data = .fields vs) → PE (X.suite a ((a, oe) :: pn)) e (t a cls d)) ∧
    ∀ F ρ sl cs σ H Q x a cls d, Rep Γ.K Γ.mg F ρ sl cs σ H → σ[i]? = some (some (.ref a)) → ExAt Γ.K Γ.mg (vis F ρ sl σ H) H x cls d → PostG Γ F ρ sl σ H W0 (relV Γ F sl σ) (f x sl cs) Q → t a cls d σ H Q
structure DXT (Γ : Cf) (i : Nat) (e : Expr) (f : Ex → ST) : Prop where
  ex : ∃ t : Addr → Value → Option Addr → TT,
    (∀ X a oe cls d pn, Γ.Ok X → Zc cls d oe → (∃ vs, oe.data = .fields vs) → PT (X.suite a ((a, oe) :: pn)) e (t a cls d)) ∧
    ∀ F ρ sl cs σ H Q x a cls d, Rep Γ.K Γ.mg F ρ sl cs σ H → σ[i]? = some (some (.ref a)) → ExAt Γ.K Γ.mg (vis F ρ sl σ H) H x cls d → PostG Γ F ρ sl σ H W0 relB (f x sl cs) Q → t a cls d σ H Q
structure DXs (Γ : Cf) (i : Nat) (sts : List Stmt) (f : Ex → SS) : Prop where
  ex : ∃ t : Addr → Value → Option Addr → TS,
    (∀ X a oe cls d pn, Γ.Ok X → Zc cls d oe → (∃ vs, oe.data = .fields vs) → PSs (X.suite a ((a, oe) :: pn)) sts (t a cls d)) ∧
    ∀ F ρ sl cs σ H D x a cls d, Rep Γ.K Γ.mg F ρ sl cs σ H → σ[i]? = some (some (.ref a)) → ExAt Γ.K Γ.mg (vis F ρ sl σ H) H x cls d → PostS Γ F ρ sl σ H W0 (f x sl cs) D → t a cls d D σ H
section
variable {Γ : Cf} {pos p p2 p3 : Pos} {i : Nat}
theorem dxe_of {e : Expr} {f : SE} (h : DE Γ.su e f) : DXE Γ i e (fun _ => f) := by
  obtain ⟨t, p, q⟩ := h.ex
  exact ⟨fun _ _ _ => t W0, fun X a oe cls d pn ok _ _ => p _ W0 (su_ok ok a _) (su_good a _), fun F ρ sl cs σ H Q x a cls d r _ _ h => q W0 F ρ sl cs σ H Q r h⟩
theorem pe_guard {X : Cx} {P : Prop} {e : Expr} {t : TE} (h : P → PE X e t) : PE X e (fun σ H Q => P ∧ t σ H Q) := ⟨fun pins s σ H Q I ⟨p, q⟩ => (h p).run pins s σ H Q I q⟩
def xIs (it : Mt) (y : Str) : Ex → SE := fun x _ cs => match x.flds with
  | [] => (match it x.cls y with
    | some b => .ok (.d (.bool b)) cs
    | none => .bad)
  | _ => .bad
theorem dxe_is {it : Mt} (I : IsT Γ.K Γ.mg it) {n y : Str} (hN : Γ.N[i]? = some n := by rfl) (hi : Γ.mg "isinstance" = none) (hv : Vis Γ.sc n := by first | exact Or.inl rfl | exact Or.inr (Or.inl rfl) | exact Or.inr (Or.inr rfl)) (hd : (n == ("__debug__" : Str)) = false := by decide) (hcd : (n == ("__classdict__" : Str)) = false := by decide)
    (hg : Gls Γ.sc "isinstance" := by rfl) (hgy : Gls Γ.sc y := by rfl) (hny : y ≠ "__name__" := by decide) (hdy : (y == ("__debug__" : Str)) = false := by decide) : DXE Γ i (.Call (.Name "isinstance" p) [.Name n p2, .Name y p3] [] pos) (xIs it y) := by
  refine ⟨fun a cls d σ H Q => ∃ cv, (∃ C, cls = .ref C ∧ d = none ∧ ExcC Γ.K C ∧ ((∃ D, Γ.mg y = some (.ref D) ∧ cv = V.ref D) ∨ ∃ t : String, Γ.mg y = none ∧ bootBuiltins y = some (.type t) ∧ cv = V.ty t)) ∧ tCB (rIsE Γ.K (match cls with | .ref C => C | _ => a) a) (tCons (tVar i) (tCons (tC cv) tNil)) σ H Q, fun X a oe cls d pn ok hz hf => ?_, fun F ρ sl cs σ H Q x a cls d r hs at_ h => ?_⟩
  · refine ⟨fun pins s σ H Q I h => ?_⟩
    obtain ⟨cv, ⟨C, rfl, rfl, ec, hy⟩, h⟩ := h
    have ok2 := su_ok ok a ((a, oe) :: pn)
    have py : PE (X.suite a ((a, oe) :: pn)) (.Name y p3) (tC cv) := by
      rcases hy with ⟨D, g, rfl⟩ | ⟨t, g, hb, rfl⟩
      · exact pe_glob (gl_of ok2 hgy) (by rw [ok2.mg]; exact g) rfl hdy
      · exact pe_bltn (gl_of ok2 hgy) (by rw [ok2.mg]; exact g) hb rfl hny hdy
    have cr : CallR (X.suite a ((a, oe) :: pn)) (.builtin "isinstance") (rIsE Γ.K C a) := by
      have := call_isE (X := X) (pn := pn) (D := C) (a := a) (by rw [ok.K]; exact ec) hz hf
      rw [ok.K] at this
      exact this
    exact (pe_callB (p := p) (pos := pos) cr (gl_of ok2 hg) (by rw [ok2.mg]; exact hi) (by decide +kernel) (pa_cons (pe_var (by rw [ok2.N]; exact hN) (by rw [ok2.sc]; exact hv) hd hcd) (pa_cons py pa_nil)) (by decide) (by decide)).run pins s σ H Q I h
  · unfold xIs at h
    cases hx : x.flds with
    | cons f fs => rw [hx] at h; exact h.elim
    | nil =>
    rw [hx] at h
    cases e : it x.cls y with
    | none => simp only [e] at h; exact h.elim
    | some b =>
      simp only [e] at h
      obtain ⟨C, g, ec, hy⟩ := I.ex _ _ _ e
      obtain ⟨⟨C', g2, rfl⟩, hd⟩ := at_
      cases g.symm.trans g2
      have d0 : d = none := by
        rw [hx] at hd; exact hd
      rcases hy with ⟨D, gD, kk⟩ | ⟨t, gD, hb, kk⟩
      · exact ⟨_, ⟨C, rfl, d0, ec, .inl ⟨D, gD, rfl⟩⟩, _, hs, _, .ref D, b, rfl, fun u hu => hu, kk, h _ H ρ r Grow.refl AtT.mkB⟩
      · exact ⟨_, ⟨C, rfl, d0, ec, .inr ⟨t, gD, hb, rfl⟩⟩, _, hs, _, .type t, b, rfl, fun u hu => hu, kk, h _ H ρ r Grow.refl AtT.mkB⟩
theorem dxt_tru {e : Expr} {f : Ex → SE} (he : DXE Γ i e f) (hi : ∀ env whole, isTrue e env whole = (do let v ← whole; standAt e.pos; holding [v] (truthy v)) := by intro _ _; rfl) : DXT Γ i e (fun x => tTru (f x)) := by
  obtain ⟨t, p, q⟩ := he.ex
  refine ⟨fun a cls d σ H Q => t a cls d σ H fun x H' => ∃ k, TruV Γ.K x H' k ∧ Q k H', fun X a oe cls d pn ok hz hf => ?_, fun F ρ sl cs σ H Q x a cls d rp hs at_ h => ?_⟩
  · rw [← (su_ok ok a ((a, oe) :: pn)).K]
    exact pt_truth (p X a oe cls d pn ok hz hf) (hi _)
  · refine q F ρ sl cs σ H _ x a cls d rp hs at_ (PostG.mono (PostG.bind (rel := relV Γ F sl σ) h) fun u H1 ⟨x, cs1, ρ1, r1, g1, a1, h1⟩ => ?_)
    cases e : truV x cs1 with
    | none => rw [e] at h1; exact h1.elim
    | some k =>
      rw [e] at h1
      exact ⟨k, tru_of a1 e, h1 k H1 ρ1 r1 Grow.refl rfl⟩
theorem ExAt.grow {F : Fx} {ρ ρ' : List Addr} {sl : Sl} {cs : Cs} {σ : L2.St} {H H' : Hp} {x : Ex} {cls : Value} {d : Option Addr} (r : Rep Γ.K Γ.mg F ρ sl cs σ H) (g : Grow ρ H ρ' H') (hf : x.flds = []) (h : ExAt Γ.K Γ.mg (vis F ρ sl σ H) H x cls d) : ExAt Γ.K Γ.mg (vis F ρ' sl σ H') H' x cls d := by
  obtain ⟨h1, h2⟩ := h
  refine ⟨h1, ?_⟩
  rw [hf] at h2 ⊢
  exact h2
/-- only of errors without a field -/
def bare (f : Ex → Sl → Cs → R Val) : Ex → SE := fun x sl cs => match x.flds with
  | [] => f x sl cs
  | _ => .bad
theorem dxe_if {c a b : Expr} {tt : Ex → ST} {fa fb : Ex → SE} (hc : DXT Γ i c tt) (ha : DXE Γ i a fa) (hb : DXE Γ i b fb) : DXE Γ i (.IfExp c a b pos) (bare fun x => eIf (tt x) (fa x) (fb x)) := by
  obtain ⟨t, p, q⟩ := hc.ex
  obtain ⟨u1, p1, q1⟩ := ha.ex
  obtain ⟨u2, p2, q2⟩ := hb.ex
  refine ⟨fun a cls d => tIf (t a cls d) (u1 a cls d) (u2 a cls d), fun X a oe cls d pn ok hz hf => pe_ifExp (p X a oe cls d pn ok hz hf) (p1 X a oe cls d pn ok hz hf) (p2 X a oe cls d pn ok hz hf), fun F ρ sl cs σ H Q x a cls d rp hs at_ h => ?_⟩
  unfold bare at h
  cases hx : x.flds with
  | cons f fs => rw [hx] at h; exact h.elim
  | nil =>
  rw [hx] at h
  refine q F ρ sl cs σ H _ x a cls d rp hs at_ (PostG.mono (PostG.bind (rel := relB) h) fun k H1 ⟨y, cs1, ρ1, r1, g1, a1, h1⟩ => ?_)
  have e : y = k := a1
  subst e
  have at1 := at_.grow rp g1 hx
  cases y with
  | true => rw [if_pos rfl] at h1 ⊢; exact q1 F ρ1 sl cs1 σ H1 Q x a cls d r1 hs at1 h1
  | false => rw [if_neg (by decide)] at h1 ⊢; exact q2 F ρ1 sl cs1 σ H1 Q x a cls d r1 hs at1 h1
/-- suites: x = e -/
theorem dxs_set (j : Nat) {y : Str} {e : Expr} {f : Ex → SE} (h : DXE Γ i e f) (hnd : Γ.N.Nodup) (hN : Γ.N[j]? = some y := by rfl) (hx : Loc Γ.sc y := by first | exact Or.inl rfl | exact Or.inr rfl) (hst : Γ.st y = true := by rfl) (hs : ∀ env, swapsWith e (some (.Name y p)) pos.line env = pure false := by intro _; rfl) :
    DXs Γ i [.Assign [.Name y p] e pos] (fun x => sSet j (oFr (f x))) := by
  obtain ⟨t, p1, q⟩ := h.ex
  refine ⟨fun a cls d => tAsg (t a cls d) (gName j), fun X a oe cls d pn ok hz hf => ?_, fun F ρ sl cs σ H D x a cls d r hσ at_ h => ?_⟩
  · have ok2 := su_ok ok a ((a, oe) :: pn)
    exact pss_one (ps_set (by rw [ok2.N]; exact hnd) (by rw [ok2.N]; exact hN) (by rw [ok2.sc]; exact hx) (p1 X a oe cls d pn ok hz hf) (hs _) (by rw [ok2.sc]; exact ok2.fn y hst))
  · unfold sSet oFr at h
    have h2 : PostS Γ F ρ sl σ H W0 ((f x sl cs).go sl fun v cs1 => if v.solid = true then .nx (sl.set j (some (.fr v))) cs1 else .bad) D := by
      cases e : f x sl cs with
      | ok v c =>
        rw [e] at h
        simp only [R.bind_ok] at h
        by_cases hv : v.solid = true
        · rw [if_pos hv] at h; simpa [hv] using h
        · rw [if_neg hv] at h; exact h.elim
      | ex e' c => rw [e] at h; exact h
      | bad => rw [e] at h; exact h
    refine q F ρ sl cs σ H _ x a cls d r hσ at_ (PostG.mono (PostS.go h2 r) fun u H1 ⟨v, cs1, ρ1, r1, g1, a1, h1⟩ => ?_)
    by_cases hv : v.solid = true
    · rw [if_pos hv] at h1
      exact set_post (Hs := H) (s := .fr v) r r1 g1 (a1.solid hv) h1
    · rw [if_neg hv] at h1
      exact h1.elim
theorem dxs_of {sts : List Stmt} {f : SS} (h : DSs Γ.su sts f) : DXs Γ i sts (fun _ => f) := by
  obtain ⟨t, p, q⟩ := h.ex
  exact ⟨fun _ _ _ => t W0, fun X a oe cls d pn ok _ _ => p _ W0 (su_ok ok a _) (su_good a _), fun F ρ sl cs σ H D x a cls d r _ _ h => q W0 F ρ sl cs σ H D r h⟩
def offR (i : Nat) (r : RS) : RS := match r with
  | .nx sl cs => (match sl[i]? with
    | some none => .nx sl cs
    | _ => .bad)
  | .rt s cs => .rt s cs
  | _ => .bad
def handA (mt : Mt) (e : Ex) (sl : Sl) (cs : Cs) : List (Str × Option Nat × (Ex → SS)) → RS
  | [] => .ex e sl cs
  | (y, i, f) :: r => match mt e.cls y with
    | some true => (match i with
      | none => noExS (f e sl cs)
      | some i => (match sl[i]? with
        | some none => offR i (noExS (f e sl cs))
        | _ => .bad))
    | some false => handA mt e sl cs r
    | none => .bad
def sTryA (mt : Mt) (body : SS) (hs : List (Str × Option Nat × (Ex → SS))) : SS := fun sl cs => match body sl cs with
  | .ex e sl' cs' => handA mt e sl' cs' hs
  | r => r
inductive DHa (Γ : Cf) : List ExceptHandler → List (Str × Option Nat × (Ex → SS)) → Prop
  | nil : DHa Γ [] []
  | plain {x : Str} {b₀ : Stmt} {suite : List Stmt} {np pos' : Pos} {hds : List ExceptHandler} {f : SS} {l : List (Str × Option Nat × (Ex → SS))} (gC : ∃ C, Γ.mg x = some (.ref C)) (hg : Gls Γ.sc x) (hdb : (x == ("__debug__" : Str)) = false) (h : DSs Γ.su (b₀ :: suite) f) (r : DHa Γ hds l) :
      DHa Γ (.ExceptHandler (some (.Name x np)) none (b₀ :: suite) pos' :: hds) ((x, none, fun _ => f) :: l)
  | named {x n : Str} {i : Nat} {b₀ : Stmt} {suite : List Stmt} {np pos' : Pos} {hds : List ExceptHandler} {f : Ex → SS} {l : List (Str × Option Nat × (Ex → SS))} (gC : ∃ C, Γ.mg x = some (.ref C)) (hg : Gls Γ.sc x) (hdb : (x == ("__debug__" : Str)) = false) (hnd : Γ.N.Nodup) (hN : Γ.N[i]? = some n) (hl : Γ.sc.names.lookup n = some .local)
      (h : DXs Γ i (b₀ :: suite) f) (r : DHa Γ hds l) : DHa Γ (.ExceptHandler (some (.Name x np)) (some n) (b₀ :: suite) pos' :: hds) ((x, some i, f) :: l)
theorem hda_ok {mt : Mt} (M : MtOk Γ.K Γ.mg mt) : ∀ {hds : List ExceptHandler} {l : List (Str × Option Nat × (Ex → SS))}, DHa Γ hds l → ∃ lv : List Hd,
    (∀ X, Γ.Ok X → ClsOk X hds lv) ∧ ∀ W F ρ sl σ H D e c d sl' cs' σ' H' ρ', Rep Γ.K Γ.mg F ρ' sl' cs' σ' H' → Sub (vis F ρ sl σ H) (vis F ρ' sl' σ' H') → ExAt Γ.K Γ.mg (vis F ρ' sl' σ' H') H' e c d →
      PostS Γ F ρ sl σ H W (handA mt e sl' cs' l) D → wCl Γ.K W D lv c d σ' H'
  | _, _, .nil => ⟨[], fun X _ => .nil, fun W F ρ sl σ H D e c d sl' cs' σ' H' ρ' rp sub at_ h => h c d σ' H' ρ' rp sub at_⟩
  | _, _, .plain (f := f) gC hg hdb hs r => by
    obtain ⟨lv, h1, h2⟩ := hda_ok M r
    obtain ⟨C, gC⟩ := gC
    obtain ⟨t, p, q⟩ := hs.ex
    refine ⟨⟨.ref C, none, fun _ _ _ => t W0⟩ :: lv, fun X ok => .cons (.plain ⟨gl_of ok hg, hdb, .inl (by rw [ok.mg]; exact gC)⟩ (fun a oe cls d pn _ _ => p _ W0 (su_ok ok a _) (su_good a _))) (h1 X ok), ?_⟩
    intro W F ρ sl σ H D e c d sl' cs' σ' H' ρ' rp sub at_ h
    unfold handA at h
    split at h
    · rename_i em
      obtain ⟨Cx, Dx, g1, g2, ex⟩ := M.ex _ _ _ em
      obtain ⟨⟨C', g3, rfl⟩, _⟩ := at_
      cases g1.symm.trans g3
      cases gC.symm.trans g2
      exact ⟨true, ex, fun _ a _ => q W0 F ρ' sl' cs' σ' H' D rp (noExS_w (PostS.weak h sub)), fun z => by cases z⟩
    · rename_i em
      obtain ⟨Cx, Dx, g1, g2, ex⟩ := M.ex _ _ _ em
      have at2 := at_
      obtain ⟨⟨C', g3, rfl⟩, _⟩ := at_
      cases g1.symm.trans g3
      cases gC.symm.trans g2
      exact ⟨false, ex, (fun z => by cases z), fun _ => h2 W F ρ sl σ H D e _ d sl' cs' σ' H' ρ' rp sub at2 h⟩
    · exact h.elim
  | _, _, .named (f := f) (i := i) gC hg hdb hnd hN hl hs r => by
    obtain ⟨lv, h1, h2⟩ := hda_ok M r
    obtain ⟨C, gC⟩ := gC
    obtain ⟨t, p, q⟩ := hs.ex
    refine ⟨⟨.ref C, some i, t⟩ :: lv, fun X ok => .cons (.named ⟨gl_of ok hg, hdb, .inl (by rw [ok.mg]; exact gC)⟩ (by rw [ok.N]; exact hnd) (by rw [ok.N]; exact hN) (show X.env.scope.names.lookup _ = _ by rw [ok.sc]; exact hl) (fun a oe cls d pn hz hf => p X a oe cls d pn ok hz hf)) (h1 X ok), ?_⟩
    intro W F ρ sl σ H D e c d sl' cs' σ' H' ρ' rp sub at_ h
    unfold handA at h
    split at h
    · rename_i em
      obtain ⟨Cx, Dx, g1, g2, ex⟩ := M.ex _ _ _ em
      have at2 := at_
      obtain ⟨⟨C', g3, rfl⟩, _⟩ := at_
      cases g1.symm.trans g3
      cases gC.symm.trans g2
      refine ⟨true, ex, fun _ a _ => ?_, fun z => by cases z⟩
      simp only at h
      split at h
      · rename_i hn
        have hlt : i < σ'.length := by rw [← rp.len]; exact (List.getElem?_eq_some_iff.mp hn).1
        have at3 : ExAt Γ.K Γ.mg (vis F ρ' sl' (σ'.set i (some (.ref a))) H') H' e (.ref Cx) d := by rw [vis_none hn]; exact at2
        refine q F ρ' sl' cs' (σ'.set i (some (.ref a))) H' _ e a _ d (rp.offNone hn) (by rw [List.getElem?_set_self hlt]) at3 ?_
        cases er : f e sl' cs' with
        | nx sl2 cs2 =>
          rw [er] at h
          have h : PostS Γ F ρ sl σ H W (match sl2[i]? with
            | some none => .nx sl2 cs2
            | _ => .bad) D := h
          split at h
          · rename_i hn2
            intro σ2 H2 ρ2 r2 s2
            refine h (σ2.set i none) H2 ρ2 (r2.offNone hn2) fun a o z => ?_
            rw [vis_none hn2]
            exact s2 a o (by rw [vis_none hn]; exact sub a o z)
          · exact h.elim
        | rt s cs2 => rw [er] at h; exact h
        | bk sl2 cs2 => rw [er] at h; exact h.elim
        | ct sl2 cs2 => rw [er] at h; exact h.elim
        | ex e2 sl2 cs2 => rw [er] at h; exact h.elim
        | bad => rw [er] at h; exact h.elim
      · exact h.elim
    · rename_i em
      obtain ⟨Cx, Dx, g1, g2, ex⟩ := M.ex _ _ _ em
      have at2 := at_
      obtain ⟨⟨C', g3, rfl⟩, _⟩ := at_
      cases g1.symm.trans g3
      cases gC.symm.trans g2
      exact ⟨false, ex, (fun z => by cases z), fun _ => h2 W F ρ sl σ H D e _ d sl' cs' σ' H' ρ' rp sub at2 h⟩
    · exact h.elim
theorem ds_tryA {mt : Mt} {body : List Stmt} {h₀ : ExceptHandler} {hds : List ExceptHandler} {l : List (Str × Option Nat × (Ex → SS))} {f : SS} (M : MtOk Γ.K Γ.mg mt) (hcm : Γ.cm = true) (htp : Γ.tp = true) (hb : DSs Γ body f) (hh : DHa Γ (h₀ :: hds) l) : DS Γ (.Try body (h₀ :: hds) [] [] pos) (sTryA mt f l) := by
  obtain ⟨lv, h1, h2⟩ := hda_ok M hh
  obtain ⟨t, p, q⟩ := hb.ex
  refine ⟨fun W => (fun D σ H => t (wCl Γ.K W D lv) D σ H), fun X W ok gd => ?_, fun W F ρ sl cs σ H D r h => ?_⟩
  · have T := ps_tryA (pos := pos) (tb := t) (ok.tp htp).1 (ok.tp htp).2 gd.tk (fun W' pn xe tk po => p (X.tr pn xe) W' ⟨ok.K, ok.mg, ok.P, ok.w, ok.base, ok.N, ok.sc, ok.cm, ok.un, ok.tp, ok.fn⟩ ⟨tk, po⟩) (h1 X ok)
    rw [ok.K] at T
    exact T
  · refine q _ F ρ sl cs σ H D r ?_
    unfold sTryA at h
    cases e : f sl cs with
    | ex e' sl' cs' =>
      rw [e] at h
      intro c d σ' H' ρ' rp sub at_
      exact h2 W F ρ sl σ H D e' c d sl' cs' σ' H' ρ' rp sub at_ h
    | nx sl' cs' => rw [e] at h; exact h
    | rt s cs' => rw [e] at h; exact h
    | bk sl' cs' => rw [e] at h; exact h
    | ct sl' cs' => rw [e] at h; exact h
    | bad => rw [e] at h; exact h
end
/-! ### facts of the written part beyond the kit's -/
inductive XF where
  | exi (x : Str)
  | kit (x y : Str) (b : Bool)
  | kitB (x : Str) (t : String) (b : Bool)
def XF.ok (K : PySem.W.Frag) : XF → Bool
  | .exi x => He.eqO (PySem.W.findIn K (.ref (He.ga K x)) "__getattribute__") (some (some (.builtin "BaseException.__getattribute__"))) && (He.eqO (PySem.W.findIn K (.ref (He.ga K x)) "__getattr__") (some none) && (decide (PySem.W.subIn K (.ref (He.ga K x)) (.type "BaseException") = some true) &&
      (PySem.W.hasDictIn K (He.ga K x) && (He.eqO (PySem.W.findIn K (.ref (He.ga K x)) "__class__") (some (some (.builtin "object.__class__"))) && (He.eqO (PySem.W.specialIn K (.builtin "object.__class__") "__get__") (some (some (.builtin "getset_descriptor.__get__"))) &&
      (decide (PySem.W.takesIn K (.builtin "object.__class__") = some true) && decide (PySem.W.mroIn K (He.ga K x) (.type "object") = some true)))))))
  | .kit x y b => decide (PySem.W.kitOne K (.ref (He.ga K x)) (.ref (He.ga K y)) = some b)
  | .kitB x t b => decide (PySem.W.kitOne K (.ref (He.ga K x)) (.type t) = some b)
theorem exi_ok {K : PySem.W.Frag} {x : Str} (h : (XF.exi x).ok K = true) : ExcC K (He.ga K x) := by
  unfold XF.ok at h
  simp only [Bool.and_eq_true, decide_eq_true_eq] at h
  obtain ⟨h1, h2, h3, h4, h5, h6, h7, h8⟩ := h
  exact ⟨He.eqO_ok h1, He.eqO_ok h2, h3, h4, He.eqO_ok h5, He.eqO_ok h6, h7, h8⟩
def xfOk (xf : List XF) (K : PySem.W.Frag) : Bool := xf.all fun q => q.ok K
theorem xf_at {xf : List XF} {K : PySem.W.Frag} (c : xfOk xf K = true) (i : Nat) {q : XF} (e : xf[i]? = some q) : q.ok K = true := List.all_eq_true.mp c _ (List.mem_of_getElem? e)
def obsX (n : Nat) (fa : List He.Fa) (fn : List He.DefD) (tb : Tb) (xf : List XF) (g : Addr → Option Obj) : He.AlD × Bool × Bool := (He.obsDG n fa fn g, tbOk tb (He.frG g (He.asD g n)), xfOk xf (He.frG g (He.asD g n)))
def hookX (n : Nat) (fa : List He.Fa) (fn : List He.DefD) (tb : Tb) (xf : List XF) : PySem.W.Hook where
  α := He.AlD × Bool × Bool
  obs := fun s => obsX n fa fn tb xf s.heap.get?
  val := fun _ => (He.valD fn, true, true)
  says := fun _ h => ∃ K : PySem.W.Frag, K.In h ∧ He.SaysD fa fn K ∧ tbOk tb K = true ∧ xfOk xf K = true
  of := fun _ _ e => ⟨_, He.frG_in, congrArg (fun z : He.AlD × Bool × Bool => z.1) e, congrArg (fun z : He.AlD × Bool × Bool => z.2.1) e, congrArg (fun z : He.AlD × Bool × Bool => z.2.2) e⟩
  keeps := fun _ _ _ ⟨K, hK, c⟩ k => ⟨K, PySem.W.Frag.In.keeps hK k, c⟩
theorem obsX_eq {n : Nat} {fa : List He.Fa} {fn : List He.DefD} {tb : Tb} {xf : List XF} {g : Addr → Option Obj} {s : Shared} (h : ∀ a, g a = s.heap.get? a) : obsX n fa fn tb xf g = (hookX n fa fn tb xf).obs s := by
  have e : g = s.heap.get? := funext h
  rw [e]
  rfl
theorem isT_of {K : PySem.W.Frag} {mg : Str → Option Value} {l : List (Str × Str × Bool)} (h : ∀ p ∈ l, ∃ C, mg p.1 = some (.ref C) ∧ ExcC K C ∧ ((∃ D, mg p.2.1 = some (.ref D) ∧ PySem.W.kitOne K (.ref C) (.ref D) = some p.2.2) ∨ ∃ t : String, mg p.2.1 = none ∧ bootBuiltins p.2.1 = some (.type t) ∧ PySem.W.kitOne K (.ref C) (.type t) = some p.2.2)) : IsT K mg (mtOf l) := by
  refine ⟨fun x y b e => ?_⟩
  unfold mtOf at e
  cases q : l.find? (fun p => p.1 == x && p.2.1 == y) with
  | none => rw [q] at e; cases e
  | some p =>
    rw [q] at e
    cases e
    have h1 := List.find?_some q
    simp only [Bool.and_eq_true, beq_iff_eq] at h1
    have := h p (List.mem_of_find?_eq_some q)
    rw [h1.1, h1.2] at this
    exact this
end DL
end
section
set_option Elab.async false
set_option linter.all false
set_option maxRecDepth 100000
set_option autoImplicit false
namespace DL
open PySem PySem.Spec PyProof.Rows L2
/-! ### *e in a display -/
def starI (x : Val) : Option (List PyData) := match x with
  | .d (.tuple xs) => some xs
  | .d (.list xs) => some xs
  | .br (.list xs) => some xs
  | _ => none
def aStar (f : SE) (g : SA) : SA := fun sl cs => (f sl cs).bind fun x cs1 => match starI x with
  | some xs => (g sl cs1).bind fun ys cs2 => .ok (xs.map Val.d ++ ys) cs2
  | none => .bad
section
variable {Γ : Cf} {e : Expr} {es : List Expr} {p : Pos}
theorem star_at {F : Fx} {ρ : List Addr} {sl : Sl} {σ : St} {H : Hp} {x : Val} {xs : List PyData} {v : V} (h : AtT Γ.K Γ.mg ρ H (vis F ρ sl σ H) x v) (e : starI x = some xs) : ∃ a vs, v = .ref a ∧ (SqT Γ.K H a vs ∨ SqL Γ.K H a vs) ∧ AtL Γ.K (vis F ρ sl σ H) xs vs := by
  unfold starI at e
  split at e
  · cases e
    obtain ⟨a, vs, rfl, s, l⟩ := AtT.tup h
    exact ⟨a, vs, rfl, .inl (sqT_sub vis_le s), l⟩
  · cases e
    obtain ⟨a, vs, rfl, s, l⟩ := AtT.list h (.inl rfl)
    exact ⟨a, vs, rfl, .inr (SqL.of s), l⟩
  · cases e
    obtain ⟨a, vs, rfl, s, l⟩ := AtT.list h (.inr rfl)
    exact ⟨a, vs, rfl, .inr (SqL.of s), l⟩
  · cases e
theorem da_star {f : SE} {g : SA} (h1 : DE Γ e f) (h2 : DA Γ es g) (hs : ∀ env, starEach (.Starred e p :: es) env = (true, eval e env) :: starEach es env := by intro _; rfl) : DA Γ (.Starred e p :: es) (aStar f g) := by
  obtain ⟨t, p1, q1⟩ := h1.ex
  obtain ⟨u, p2, q2⟩ := h2.ex
  refine ⟨fun W => StX.tStar Γ.K (t W) (u W), fun X W ok gd => by rw [← ok.K]; exact StX.pa_star (p1 X W ok gd) (p2 X W ok gd) (hs _), fun W F ρ sl cs σ H Q r h => ?_⟩
  refine q1 W F ρ sl cs σ H _ r (PostG.mono (PostG.bind (rel := relV Γ F sl σ) h) fun v H1 ⟨x, cs1, ρ1, r1, g1, a1, h1⟩ => ?_)
  cases e1 : starI x with
  | none =>
    rw [e1] at h1
    exact h1.elim
  | some xs =>
    rw [e1] at h1
    obtain ⟨a, vs, rfl, s, l⟩ := star_at a1 e1
    refine ⟨a, vs, rfl, s, ?_⟩
    refine q2 W F ρ1 sl cs1 σ H1 _ r1 (PostG.mono (PostG.bind (rel := relVs Γ F sl σ) h1) fun ws H2 ⟨ys, cs2, ρ2, r2, g2, a2, h2⟩ => ?_)
    exact h2 (vs ++ ws) H2 ρ2 r2 Grow.refl (Paired.app (Paired.monoV (g2.vis r1) g2.pre (atL_paired l)) a2)
end
end DL
end
section
set_option Elab.async false
set_option linter.all false
set_option maxRecDepth 100000
set_option autoImplicit false
namespace DL
open PySem PySem.Spec PyProof.Rows L2
/-! ### repr, of texts too -/
def reprW (xs : List Val) (cs : Cs) : R Val := match xs with
  | [.d (.str x)] => if (reprText x).length ≤ 16777216 then .ok (.d (.str (reprText x))) cs else .bad
  | _ => reprV xs cs
theorem call_reprS {X : Cx} : CallR X (.builtin "repr") (fun xs H Q => ∃ x : Str, xs = [.str x] ∧ (reprText x).length ≤ 16777216 ∧ Q (.str (reprText x)) H) := by
  intro pins s σ H xs us Q I r h
  obtain ⟨x, rfl, hl, q⟩ := h
  cases r with
  | cons r t =>
    cases t
    obtain ⟨tk, rfl⟩ := (show ∃ t, _ = Value.str x t from r)
    exact PySem.P.repr_of_str ⟨.str _, H, I.tok _, ⟨_, rfl⟩, q⟩ (by rw [sizeLine_eq]; exact hl)
theorem cd_reprW {Γ : Cf} (hcm : Γ.cm = true) : CallD Γ (.builtin "repr") reprW := by
  obtain ⟨⟨P, h1, h2⟩⟩ := cd_reprV hcm
  refine ⟨_, fun X ok => CallR.or call_reprS (h1 X ok), fun W F ρ sl cs σ H Q xs us rp ha hp => ?_⟩
  unfold reprW at hp
  split at hp
  · rename_i x
    obtain ⟨u, rfl, q⟩ := one_of ha
    split at hp
    · rename_i hl
      rw [AtT.str q]
      exact .inl ⟨x, rfl, hl, hp _ H ρ rp Grow.refl AtT.mkS⟩
    · exact hp.elim
  · exact .inr (h2 W F ρ sl cs σ H Q xs us rp ha hp)
end DL
end
section
set_option Elab.async false
set_option linter.all false
set_option maxRecDepth 100000
set_option autoImplicit false
namespace DL
open PySem PySem.Spec PyProof.Rows L2
/-! ### calls of no arguments -/
section
variable {X : Cx} {CX : CXT} {k : Nat} {f : Addr} {fd : FuncData} {ps : List Str} {sp : Sp} {dvs : List V} {ds : List Value} {E : L2.St → XK} {x : Str} {p pos : Pos}
theorem pe_callG0 (F : FnG X.prog X.w X.K X.mg X.base CX k f fd ps sp) (hr : RoomG k X.A) (hg : Gl X x) (hm : X.mg x = some (.ref f)) (hk : PySem.W.keepIn X.K (.ref f) = true) (hb : Binds X.K fd ps ds) (hd : Vals dvs ds) (hx : ∀ σ, PassesAt CX X σ (E σ))
    (hdb : (x == ("__debug__" : Str)) = false) : PE X (.Call (.Name x p) [] [] pos) (tCallSD sp dvs E tNil) := by
  constructor
  intro pins s σ H Q I h
  have q : sp ([] ++ dvs) H Q (E σ) := h
  have r2 : Vals ([] ++ dvs) ([] ++ ds) := Paired.app .nil hd
  refine wpAny_Call_Name_kw (ld_glob I hg hm (PySem.W.callWith_K0 I.kIn hk ?_) hdb)
  exact behind (ws := []) (kw := []) F hr (hx σ) I (hb s [] I.kIn (by rw [← r2.length]; exact F.ar _ _ _ _ q)) r2 q
end
section
variable {Γ : Cf}
theorem do_def0 {x : Str} {n : Nat} {ds : List Val} {f : FS} {p pos : Pos} (F : FnD Γ.K Γ.mg Γ.P Γ.w Γ.base Γ.k x n ds f) (hcm : Γ.cm = true)
    (hn : ∀ cs r, f ds cs = r → (∃ s c, r = .ok s c) ∨ (∃ e c, r = .ex e c) → ds.length = n) (hg : Gls Γ.sc x := by rfl) (hdb : (x == ("__debug__" : Str)) = false := by decide) : DO Γ (.Call (.Name x p) [] [] pos) (oDef f ds aNil) := by
  obtain ⟨a, fd, ps, dvs, dus, gm, kp, hl, hb, hv, hd, ok⟩ := F.ex
  refine ⟨fun W => tCallSD (spOf Γ.K Γ.mg n f) dvs (WE W) tNil, fun X W okX gd => ?_, fun W F ρ sl cs σ H Q rp h => ?_⟩
  · have ok' : FnG X.prog X.w X.K X.mg X.base (L2.CX X.prog X.w) Γ.k a fd ps (spOf Γ.K Γ.mg n f) := by rw [okX.P, okX.w, okX.K, okX.mg, okX.base]; exact ok
    exact pe_callG0 ok' (okX.cm hcm).2 (gl_of okX hg) (by rw [okX.mg]; exact gm) (by rw [okX.K]; exact kp) (by rw [okX.K]; exact hb) hv (fun σ => passAt gd.tk σ) hdb
  · have h1 : PostG Γ F ρ sl σ H W (relO Γ F sl σ H) (f ds cs) Q := h
    have hlen : ds.length = n := by
      refine hn cs _ rfl ?_
      cases er : f ds cs with
      | ok s c => exact .inl ⟨s, c, rfl⟩
      | ex e c => exact .inr ⟨e, c, rfl⟩
      | bad => rw [er] at h1; exact h1.elim
    have la : Paired (AtV Γ.K Γ.mg ρ (vis F ρ sl σ H)) ds dvs := hd _ _
    show spOf Γ.K Γ.mg n f ([] ++ dvs) H Q (WE W σ)
    refine ⟨by rw [List.nil_append, ← Paired.len la]; exact hlen, ds, fun b => F.hx b ∨ Own sl σ b, ρ, cs, fun b hb => ?_, ?_, ?_, rp.nd, ?_⟩
    · rcases hb with z | z
      · obtain ⟨o, e⟩ := F.hxt b z
        by_cases hm : b ∈ F.ρ0
        · obtain ⟨t, e2, _⟩ := rp.pre
          exact rp.cells.there (by rw [e2]; exact List.mem_append_left _ hm)
        · exact ⟨o, rp.keep b o e hm⟩
      · exact rp.own_there z
    · rw [← hide_or (hx := F.hx)]
      exact la
    · rw [← hide_or (hx := F.hx)]
      exact rp.cells
    · exact call_post rp h1
theorem do_fn0 {x : Str} {n : Nat} {ds : List Val} {f : FS} {p pos : Pos} (F : FnD Γ.K Γ.mg Γ.P Γ.w Γ.base Γ.k x n ds f) (hn : ∀ xs cs, f xs cs = .bad ∨ xs.length = n) (hcm : Γ.cm = true) (hg : Gls Γ.sc x := by rfl) (hdb : (x == ("__debug__" : Str)) = false := by decide) : DO Γ (.Call (.Name x p) [] [] pos) (oDef f ds aNil) :=
  do_def0 F hcm (fun cs r er h => by
    rcases hn ds cs with z | z
    · rw [z] at er
      subst er
      rcases h with ⟨s, c, h⟩ | ⟨s, c, h⟩ <;> cases h
    · exact z) hg hdb
end
end DL
end
section
set_option Elab.async false
set_option linter.all false
set_option maxRecDepth 100000
set_option autoImplicit false
namespace DL
open PySem PySem.Spec PyProof.Rows L2
/-! ### powers of great numbers -/
section
variable {Γ : Cf}
def cPowW (i j : Int) : Bool := decide (0 ≤ j) && decide (((i.natAbs.log2 : Nat) + 1 : Int) * j ≤ 2 ^ 27)
def CPowW (i j : Int) : Prop := 0 ≤ j ∧ (Builtin.Int.intBits i : Int) * j ≤ 2 ^ 27
theorem op_powW {X : Cx} : OpR X (binaryOp .Pow) (rI CPowW fun i j => .int (i ^ j.toNat)) := opI fun _ _ _ _ _ _ _ hc q => pow_int hc.1 hc.2 q
def powW : PyData → PyData → Option PyData := gI cPowW fun i j => .int (i ^ j.toNat)
theorem od_powW : OpD Γ (binaryOp .Pow) powW := opD_int (fun X => op_powW) (fun i j h => by
  unfold cPowW at h
  simp only [Bool.and_eq_true, decide_eq_true_eq] at h
  refine ⟨h.1, Int.le_trans (Int.mul_le_mul_of_nonneg_right ?_ h.1) h.2⟩
  unfold Builtin.Int.intBits
  split
  · have := Int.natCast_nonneg i.natAbs.log2
    omega
  · rw [Int.natCast_add]
    exact Int.le_refl _) fun _ _ _ _ => at_int
end
end DL
end
section
set_option Elab.async false
set_option linter.all false
set_option maxRecDepth 100000
set_option autoImplicit false
namespace DL
open PySem PySem.Spec PyProof.Rows L2
/-! ### a, b = x, y and a, b, c = x, y, z where an inner block sees a name: stored from the left; the tuple itself is not tracked -/
section
variable {X : Cx} {pos : Pos}
def tParN (n : Nat) (ta : TA) (t : TGs) : TS := fun D σ H => ta σ H fun vs H1 => vs.length = n ∧ t vs σ H1 D.nx
theorem ps_tupN {n : Nat} {ts es : List Expr} {ta : TA} {t : TGs} {pt : Pos} {kt k2 pt2} (hc : X.calm = true) (hn3 : n ≤ 3) (ha : PA X es ta) (hg : PGs X ts t)
    (hn : (assignEach ts X.env).length = n) (hst : (assignEach ts X.env).findIdx? (·.1) = none)
    (hw : swappedStores [.Tuple ts kt pt] (.Tuple es k2 pt2) X.env = pure none)
    (h1 : (assignEach [.Tuple ts kt pt] X.env).map (·.2) = [assign (.Tuple ts kt pt) X.env])
    (hs : swapsWithSole [.Tuple ts kt pt] (.Tuple es k2 pt2) pos.line X.env = pure false) :
    PS X (.Assign [.Tuple ts kt pt] (.Tuple es k2 pt2) pos) (tParN n ta t) := by
  refine ⟨fun pins s σ H D I h => ?_⟩
  refine wpAny_Assign_stores ?_ hs hw
  refine Tuple_ (thn (ha.run _ pins s σ H _ I h) fun us s1 ⟨vs, H1, I1, r1, hl, q1⟩ => ?_)
  have ul : us.length = n := r1.length.symm.trans hl
  refine wpAny_newObj_type ?_ (by
    show us.toArray.size ≤ sizeLine
    rw [List.size_toArray, ul]
    exact Nat.le_trans hn3 (by decide))
  have I2 : Inv X pins σ H1 { s1 with heap := s1.heap.push { cls := .type "tuple", data := .seq us.toArray } } := I1.kept (t' := s1.toks) fun b o e => Heap.get?_push_of_some _ e
  rw [h1]
  refine assign_Tuple_tuple (items := us.toArray) (I.ok.hd hc) (IsTup.new s1.heap _) (by rw [hn, List.size_toArray, ul]) hst fun h' hx' => ?_
  have I3 := I2.kept (h' := h') (t' := s1.toks) fun b o e => hx' b o (Nat.ne_of_lt (Heap.lt_size e)) e
  exact thn (hg.run pins _ σ H1 vs _ D.nx I3 (by simpa using r1) q1) fun _ s2 q => q
end
section
variable {Γ : Cf} {F : Fx}
theorem sw_cell3 {env : Env} {x y z : Str} {px py pz pt pt2 : Pos} {kt k2 : Nat} {a b c : Expr} (h : env.scope.names.lookup x = some .cell ∨ env.scope.names.lookup y = some .cell ∨ env.scope.names.lookup z = some .cell) : swappedStores [.Tuple [.Name x px, .Name y py, .Name z pz] kt pt] (.Tuple [a, b, c] k2 pt2) env = pure none := by
  have cc : (some NameKind.cell == some NameKind.local) = false := by decide
  unfold swappedStores
  simp only [List.filterMap_cons, List.filterMap_nil]
  rcases h with h | h | h
  · have k : env.kindOf x = some .cell := h
    simp only [k, cc, Bool.false_and, if_neg Bool.false_ne_true]
    split
    · rfl
    · split
      · rfl
      · split <;> (try split) <;> (try split) <;> first | rfl | (split <;> first | rfl | (rename_i hh; exact absurd rfl hh)) | (rename_i hh; exact absurd rfl hh)
  · have k : env.kindOf y = some .cell := h
    simp only [k, cc, Bool.false_and, if_neg Bool.false_ne_true]
    split
    · rfl
    · split
      · rfl
      · split <;> (try split) <;> (try split) <;> first | rfl | (split <;> first | rfl | (rename_i hh; exact absurd rfl hh)) | (rename_i hh; exact absurd rfl hh)
  · have k : env.kindOf z = some .cell := h
    simp only [k, cc, Bool.false_and, if_neg Bool.false_ne_true]
    split
    · rfl
    · split
      · rfl
      · split <;> (try split) <;> (try split) <;> first | rfl | (split <;> first | rfl | (rename_i hh; exact absurd rfl hh)) | (rename_i hh; exact absurd rfl hh)
/-- a local name, or one that an inner block sees -/
def LocN (sc : Scope) (x : Str) : Prop := sc.names.lookup x = some .local ∨ sc.names.lookup x = some .cell
theorem pg_nm {X : Cx} (ok : Γ.Ok X) {i : Nat} {x : Str} {p : Pos} (hnd : Γ.N.Nodup) (hi : Γ.N[i]? = some x) (hx : LocN Γ.sc x) (hst : Γ.st x = true) : PG X (.Name x p) (gName i) :=
  L2.pg_name (by rw [ok.N]; exact hnd) (by rw [ok.N]; exact hi) (by rcases hx with h | h; exact .inl (by rw [ok.sc]; exact h); exact .inr (by rw [ok.sc]; exact h)) (by
    rcases ok.fn x hst with h | h
    · exact .inl h
    · exact .inr (by rw [ok.sc]; exact h))
theorem ds_parOC (i j : Nat) {x y : Str} {a b : Expr} {f g : SO} {px py pt pos : Pos} {kt k2 pt2} (hcm : Γ.cm = true) (hnd : Γ.N.Nodup) (hcl : Γ.sc.names.lookup x = some .cell ∨ Γ.sc.names.lookup y = some .cell) (ha : DO Γ a f) (hb : DO Γ b g) (hi : Γ.N[i]? = some x := by rfl) (hj : Γ.N[j]? = some y := by rfl) (hij : i ≠ j := by decide)
    (hx : LocN Γ.sc x := by first | exact Or.inl rfl | exact Or.inr rfl) (hy : LocN Γ.sc y := by first | exact Or.inl rfl | exact Or.inr rfl) (hst : Γ.st x = true := by rfl) (hst2 : Γ.st y = true := by rfl)
    (hs : ∀ env, swapsWithSole [.Tuple [.Name x px, .Name y py] kt pt] (.Tuple [a, b] k2 pt2) pos.line env = pure false := by intro _; rfl)
    (hs1 : ∀ env, starEach [a, b] env = (false, eval a env) :: starEach [b] env := by intro _; rfl) (hs2 : ∀ env, starEach [b] env = (false, eval b env) :: starEach [] env := by intro _; rfl) : DS Γ (.Assign [.Tuple [.Name x px, .Name y py] kt pt] (.Tuple [a, b] k2 pt2) pos) (sParO i j f g) := by
  obtain ⟨t, p1, q1⟩ := ha.ex
  obtain ⟨u, p2, q2⟩ := hb.ex
  refine ⟨fun W => tParN 2 (tCons (t W) (tCons (u W) tNil)) (gCons (gName i) (gCons (gName j) gNil)), fun X W ok gd => ?_, fun W F ρ sl cs σ H D r h => ?_⟩
  · exact ps_tupN (ok.cm hcm).1 (by decide) (pa_cons (p1 X W ok gd) (pa_cons (p2 X W ok gd) pa_nil (hs2 _)) (hs1 _)) (pgs_cons (pg_nm ok hnd hi hx hst) (pgs_cons (pg_nm ok hnd hj hy hst2) pgs_nil)) rfl rfl (sw_cell2 (by rw [ok.sc]; exact hcl)) rfl (hs _)
  · refine q1 W F ρ sl cs σ H _ r (PostG.mono (PostS.go h r) fun v H1 ⟨s, cs1, ρ1, r1, g1, a1, h1⟩ => ?_)
    exact set2_post (H2 := H) (ρ2 := ρ) (t := s) (w := v) (Hs := H) hij r r1 g1 a1 (tf := u W) (fun F Q r => q2 W F ρ1 sl cs1 σ H1 Q r) h1 fun w H2 z => ⟨rfl, v, [w], rfl, w, [], rfl, rfl, z⟩
theorem ds_par3C (i j l : Nat) {x y z : Str} {a b c : Expr} {g : SA} {px py pz pt pos : Pos} {kt k2 pt2} (hcm : Γ.cm = true) (hnd : Γ.N.Nodup) (hcl : Γ.sc.names.lookup x = some .cell ∨ Γ.sc.names.lookup y = some .cell ∨ Γ.sc.names.lookup z = some .cell) (ha : DA Γ [a, b, c] g) (hi : Γ.N[i]? = some x := by rfl) (hj : Γ.N[j]? = some y := by rfl) (hll : Γ.N[l]? = some z := by rfl)
    (hx : LocN Γ.sc x := by first | exact Or.inl rfl | exact Or.inr rfl) (hy : LocN Γ.sc y := by first | exact Or.inl rfl | exact Or.inr rfl) (hz : LocN Γ.sc z := by first | exact Or.inl rfl | exact Or.inr rfl) (hst : Γ.st x = true := by rfl) (hst2 : Γ.st y = true := by rfl) (hst3 : Γ.st z = true := by rfl)
    (hs : ∀ env, swapsWithSole [.Tuple [.Name x px, .Name y py, .Name z pz] kt pt] (.Tuple [a, b, c] k2 pt2) pos.line env = pure false := by intro _; rfl) : DS Γ (.Assign [.Tuple [.Name x px, .Name y py, .Name z pz] kt pt] (.Tuple [a, b, c] k2 pt2) pos) (sPar3 i j l g) := by
  obtain ⟨t, p1, q⟩ := ha.ex
  refine ⟨fun W => tParN 3 (t W) (gCons (gName i) (gCons (gName j) (gCons (gName l) gNil))), fun X W ok gd => ?_, fun W F ρ sl cs σ H D r h => ?_⟩
  · exact ps_tupN (ok.cm hcm).1 (by decide) (p1 X W ok gd) (pgs_cons (pg_nm ok hnd hi hx hst) (pgs_cons (pg_nm ok hnd hj hy hst2) (pgs_cons (pg_nm ok hnd hll hz hst3) pgs_nil))) rfl rfl (sw_cell3 (by rw [ok.sc]; exact hcl)) rfl (hs _)
  · refine q W F ρ sl cs σ H _ r (PostG.mono (PostS.go h r) fun us H1 ⟨xs, cs1, ρ1, r1, g1, a1, h1⟩ => ?_)
    split at h1
    · rename_i u v w
      obtain ⟨u1, u2, u3, rfl, b1, b2, b3⟩ := three_of a1
      refine ⟨rfl, u1, [u2, u3], rfl, u2, [u3], rfl, u3, [], rfl, rfl, ?_⟩
      obtain ⟨r2, s2⟩ := r1.setFr (i := i) b1
      obtain ⟨r3, s3⟩ := r2.setFr (i := j) (AtV.mono s2 (fun _ _ z => z) b2)
      obtain ⟨r4, s4⟩ := r3.setFr (i := l) (AtV.mono s3 (fun _ _ z => z) (AtV.mono s2 (fun _ _ z => z) b3))
      exact (h1.weak (g1.vis r)) _ H1 ρ1 r4 fun a o z => s4 a o (s3 a o (s2 a o z))
    · exact h1.elim
end
end DL
end
section
set_option Elab.async false
set_option linter.all false
set_option maxRecDepth 100000
set_option maxHeartbeats 0
set_option autoImplicit false
namespace LW
open PySem PySem.Spec PyProof.Rows L2 DL
noncomputable section
abbrev Rw : PySem.W.OpenLaw := PySem.Challenge.rw_alikechances_k83_noise_on_news
def top (i : Nat) : Stmt := PySem.Challenge.pw_alikechances_k83_noise_on_news.main.body.getD i (.Pass ⟨0, 0, 0, 0⟩)
inductive Fn where
  | greatest_divisor
  | least_multiple
  | lowest
  | times
  | is_less
  | common_below
  | numbers_of
  | total
  | total_of_products
  | is_integer
  | is_fraction
  | is_fractions
  | lowered
  | is_shared
  | is_game
  | need_game
  | need_game_of
  | is_leaning
  | need_leaning
  | greatest_of
  | best_sum
  | news_or_none
  | need_news
  | product_of
  | noisy
  | worth_of
  | news_worth
  | _law_purse
  | _law_pull
  | _law_pick
  | _law_divisor
  | _law_low
  | _law_weights
  | _law_sheet
  | _law_shown
  | _law_low_sheet
  | _law_small_line
  | _law_blurred
  | _law_whole_bets
  | _law_worth
  | _law_bets
  | _law_shown_line
  | _law_great_bets
  | _law_chain_right
  | _law_single_right
  | _law_right
  | law
def g_ONE : PyData := (.tuple [(.int 1), (.int 1)])
abbrev sc_greatest_divisor : Scope := defScope (top 8)
def N_greatest_divisor : List PySem.Str := ["one", "other", "first", "second", "rest"]
def s_greatest_divisor (G : Fn → FS) : SS := sSeq (sSet 2 (oFr (eCall absB (bCons (eVar 0) (aNil))))) (sSeq (sSet 3 (oFr (eCall absB (bCons (eVar 1) (aNil))))) (sSeq (sWhile (tBool (eOp gtD (eVar 3) (eC (.int 0)))) (sSeq (sSet 4 (oFr (eOp subD (eVar 2) (eOp mulD (eOp divD (eVar 2) (eVar 3)) (eVar 3))))) (sSeq (sSet 2 (oFr (eVar 3))) (sSet 3 (oFr (eVar 4)))))) (sRetV 2)))
abbrev b_greatest_divisor (G : Fn → FS) : FS := bodyF 2 3 (s_greatest_divisor G)
abbrev sc_least_multiple : Scope := defScope (top 9)
def N_least_multiple : List PySem.Str := ["one", "other"]
def s_least_multiple (G : Fn → FS) : SS := sRet (oFr (eOp mulD (eOp divD (eVar 0) (eFz (oDef (G .greatest_divisor) [] (aCons (eVar 0) (aCons (eVar 1) (aNil)))))) (eVar 1)))
abbrev b_least_multiple (G : Fn → FS) : FS := bodyF 2 0 (s_least_multiple G)
abbrev sc_lowest : Scope := defScope (top 10)
def N_lowest : List PySem.Str := ["above", "below", "divisor"]
def s_lowest (G : Fn → FS) : SS := sSeq (sSet 2 (oFr (eFz (oDef (G .greatest_divisor) [] (aCons (eVar 0) (aCons (eVar 1) (aNil))))))) (sSeq (sIf (tBool (eOp ltD (eVar 1) (eC (.int 0)))) (sSet 2 (oFr (eNeg (eVar 2)))) (sNil)) (sRet (oFr (eTup (aCons (eOp divD (eVar 0) (eVar 2)) (aCons (eOp divD (eVar 1) (eVar 2)) (aNil)))))))
abbrev b_lowest (G : Fn → FS) : FS := bodyF 2 1 (s_lowest G)
abbrev sc_times : Scope := defScope (top 11)
def N_times : List PySem.Str := ["one", "other"]
def s_times (G : Fn → FS) : SS := sRet (oDef (G .lowest) [] (aCons (eOp mulD (eIx (eVar 0) (eC (.int 0))) (eIx (eVar 1) (eC (.int 0)))) (aCons (eOp mulD (eIx (eVar 0) (eC (.int 1))) (eIx (eVar 1) (eC (.int 1)))) (aNil))))
abbrev b_times (G : Fn → FS) : FS := bodyF 2 0 (s_times G)
abbrev sc_is_less : Scope := defScope (top 12)
def N_is_less : List PySem.Str := ["one", "other"]
def s_is_less (G : Fn → FS) : SS := sRet (oFr (eOp ltD (eOp mulD (eIx (eVar 0) (eC (.int 0))) (eIx (eVar 1) (eC (.int 1)))) (eOp mulD (eIx (eVar 1) (eC (.int 0))) (eIx (eVar 0) (eC (.int 1))))))
abbrev b_is_less (G : Fn → FS) : FS := bodyF 2 0 (s_is_less G)
abbrev sc_common_below : Scope := defScope (top 13)
def N_common_below : List PySem.Str := ["fractions", "below", "fraction"]
def s_common_below (G : Fn → FS) : SS := sSeq (sSet 1 (oFr (eC (.int 1)))) (sSeq (sFor (pSeq (eVar 0)) (gNm 2) (sIf (tBool (eOp neD (eIx (eVar 2) (eC (.int 1))) (eC (.int 1)))) (sSeq (sFz 1) (sSet 1 (oDef (G .least_multiple) [] (aCons (eVar 1) (aCons (eIx (eVar 2) (eC (.int 1))) (aNil)))))) (sNil))) (sRetV 1))
abbrev b_common_below (G : Fn → FS) : FS := bodyF 1 2 (s_common_below G)
abbrev sc_numbers_of : Scope := defScope (top 14)
def N_numbers_of : List PySem.Str := ["fractions", "below", "fraction"]
def s_numbers_of (G : Fn → FS) : SS := sSeq (sSet 1 (oFr (eFz (oDef (G .common_below) [] (aCons (eVar 0) (aNil)))))) (sRet (oLc (pSeq (eVar 0)) (gNm 2) (tTrue) (eOp mulD (eIx (eVar 2) (eC (.int 0))) (eOp divD (eVar 1) (eIx (eVar 2) (eC (.int 1))))) [2]))
abbrev b_numbers_of (G : Fn → FS) : FS := bodyF 1 2 (s_numbers_of G)
abbrev sc_total : Scope := defScope (top 15)
def N_total : List PySem.Str := ["fractions", "rows"]
def s_total (G : Fn → FS) : SS := sSeq (sSet 1 (oFr (eCall listB (bCons (eVar 0) (aNil))))) (sRet (oDef (G .lowest) [] (aCons (eCall sumB (bCons (eFz (oDef (G .numbers_of) [] (aCons (eVar 1) (aNil)))) (aNil))) (aCons (eFz (oDef (G .common_below) [] (aCons (eVar 1) (aNil)))) (aNil)))))
abbrev b_total (G : Fn → FS) : FS := bodyF 1 1 (s_total G)
abbrev sc_total_of_products : Scope := defScope (top 16)
def N_total_of_products : List PySem.Str := ["ones", "others", "rows", "one", "other"]
def s_total_of_products (G : Fn → FS) : SS := sSeq (sSet 2 (oLc (pZip (bCons (eVar 0) (bCons (eVar 1) (aNil)))) (gTp (gsCons (gNm 3) (gsCons (gNm 4) (gsNil)))) (tAndD (tBool (eOp neD (eIx (eVar 3) (eC (.int 0))) (eC (.int 0)))) (tBool (eOp neD (eIx (eVar 4) (eC (.int 0))) (eC (.int 0))))) (eTup (aCons (eOp mulD (eIx (eVar 3) (eC (.int 0))) (eIx (eVar 4) (eC (.int 0)))) (aCons (eOp mulD (eIx (eVar 3) (eC (.int 1))) (eIx (eVar 4) (eC (.int 1)))) (aNil)))) [3, 4])) (sSeq (sFz 2) (sRet (oDef (G .total) [] (aCons (eVar 2) (aNil)))))
abbrev b_total_of_products (G : Fn → FS) : FS := bodyF 2 3 (s_total_of_products G)
abbrev sc_is_integer : Scope := defScope (top 18)
def N_is_integer : List PySem.Str := ["thing", "low", "high"]
def s_is_integer (G : Fn → FS) : SS := sSeq (sIf (tOrD (tNotD (tTru (eIsi .int (eVar 0)))) (tTru (eIsi .bool (eVar 0)))) (sRet (oFr (eC (.bool false)))) (sNil)) (sRet (oFr (eAnd (eOr (eOp isD (eVar 1) (eC .none)) (eOp geD (eVar 0) (eVar 1))) (eOr (eOp isD (eVar 2) (eC .none)) (eOp leD (eVar 0) (eVar 2))))))
abbrev b_is_integer (G : Fn → FS) : FS := bodyF 3 0 (s_is_integer G)
abbrev sc_is_fraction : Scope := defScope (top 19)
def N_is_fraction : List PySem.Str := ["thing"]
def s_is_fraction (G : Fn → FS) : SS := sRet (oFr (eAnd (eIsi .tuple (eVar 0)) (eAnd (eOp eqD (eCall lenB (bCons (eVar 0) (aNil))) (eC (.int 2))) (eAnd (eFz (oDef (G .is_integer) [(.d .none), (.d .none)] (aCons (eIx (eVar 0) (eC (.int 0))) (aNil)))) (eFz (oDef (G .is_integer) [(.d .none)] (aCons (eIx (eVar 0) (eC (.int 1))) (aCons (eC (.int 1)) (aNil)))))))))
abbrev b_is_fraction (G : Fn → FS) : FS := bodyF 1 0 (s_is_fraction G)
abbrev sc_is_fractions : Scope := defScope (top 21)
def N_is_fractions : List PySem.Str := ["thing", "one"]
def s_is_fractions (G : Fn → FS) : SS := sRet (oFr (eAnd (eIsi .tuple (eVar 0)) (eAnd (eOp gtD (eCall lenB (bCons (eVar 0) (aNil))) (eC (.int 0))) (eOp notInD (eC (.bool false)) (eFz (oLc (pSeq (eVar 0)) (gNm 1) (tTrue) (eFz (oDef (G .is_fraction) [] (aCons (eVar 1) (aNil)))) [1]))))))
abbrev b_is_fractions (G : Fn → FS) : FS := bodyF 1 1 (s_is_fractions G)
abbrev sc_lowered : Scope := defScope (top 22)
def N_lowered : List PySem.Str := ["fractions", "one"]
def s_lowered (G : Fn → FS) : SS := sRet (oFr (eCall tupleB (bCons (eFz (oLc (pSeq (eVar 0)) (gNm 1) (tTrue) (eFz (oDef (G .lowest) [] (aCons (eIx (eVar 1) (eC (.int 0))) (aCons (eIx (eVar 1) (eC (.int 1))) (aNil))))) [1])) (aNil))))
abbrev b_lowered (G : Fn → FS) : FS := bodyF 1 1 (s_lowered G)
abbrev sc_is_shared : Scope := defScope (top 23)
def N_is_shared : List PySem.Str := ["fractions", "one"]
def s_is_shared (G : Fn → FS) : SS := sRet (oFr (eAnd (eOp notInD (eC (.bool false)) (eFz (oLc (pSeq (eVar 0)) (gNm 1) (tTrue) (eOp geD (eIx (eVar 1) (eC (.int 0))) (eC (.int 0))) [1]))) (eOp eqD (eFz (oDef (G .total) [] (aCons (eCall listB (bCons (eVar 0) (aNil))) (aNil)))) (eC g_ONE))))
abbrev b_is_shared (G : Fn → FS) : FS := bodyF 1 1 (s_is_shared G)
abbrev sc_is_game : Scope := defScope (top 24)
def N_is_game : List PySem.Str := ["thing", "action"]
def s_is_game (G : Fn → FS) : SS := sSeq (sIf (tOrD (tNotD (tTru (eIsi .tuple (eVar 0)))) (tNotD (tBool (eChain leD leD (eC (.int 1)) (eCall lenB (bCons (eVar 0) (aNil))) (eC (.int 6)))))) (sRet (oFr (eC (.bool false)))) (sNil)) (sSeq (sFor (pSeq (eVar 0)) (gNm 1) (sIf (tOrD (tNotD (tTru (eFz (oDef (G .is_fractions) [] (aCons (eVar 1) (aNil)))))) (tBool (eOp neD (eCall lenB (bCons (eVar 1) (aNil))) (eCall lenB (bCons (eIx (eVar 0) (eC (.int 0))) (aNil)))))) (sRet (oFr (eC (.bool false)))) (sNil))) (sRet (oFr (eC (.bool true)))))
abbrev b_is_game (G : Fn → FS) : FS := bodyF 1 1 (s_is_game G)
abbrev sc_need_game : Scope := defScope (top 25)
def N_need_game : List PySem.Str := ["thing", "action"]
def s_need_game (G : Fn → FS) : SS := sSeq (sIf (tNotD (tTru (eFz (oDef (G .is_game) [] (aCons (eVar 0) (aNil)))))) ((fun _ _ => .bad)) (sNil)) (sRet (oFr (eCall tupleB (bCons (eFz (oLc (pSeq (eVar 0)) (gNm 1) (tTrue) (eFz (oDef (G .lowered) [] (aCons (eVar 1) (aNil)))) [1])) (aNil)))))
abbrev b_need_game (G : Fn → FS) : FS := bodyF 1 1 (s_need_game G)
abbrev sc_need_game_of : Scope := defScope (top 26)
def N_need_game_of : List PySem.Str := ["game", "many"]
def s_need_game_of (G : Fn → FS) : SS := sIf (tBool (eOp neD (eCall lenB (bCons (eIx (eVar 0) (eC (.int 0))) (aNil))) (eVar 1))) ((fun _ _ => .bad)) (sNil)
abbrev b_need_game_of (G : Fn → FS) : FS := bodyF 2 0 (s_need_game_of G)
abbrev sc_is_leaning : Scope := defScope (top 27)
def N_is_leaning : List PySem.Str := ["thing"]
def s_is_leaning (G : Fn → FS) : SS := sRet (oFr (eAnd (eFz (oDef (G .is_fractions) [] (aCons (eVar 0) (aNil)))) (eFz (oDef (G .is_shared) [] (aCons (eFz (oDef (G .lowered) [] (aCons (eVar 0) (aNil)))) (aNil))))))
abbrev b_is_leaning (G : Fn → FS) : FS := bodyF 1 0 (s_is_leaning G)
abbrev sc_need_leaning : Scope := defScope (top 28)
def N_need_leaning : List PySem.Str := ["thing"]
def s_need_leaning (G : Fn → FS) : SS := sSeq (sIf (tNotD (tTru (eFz (oDef (G .is_leaning) [] (aCons (eVar 0) (aNil)))))) ((fun _ _ => .bad)) (sNil)) (sRet (oDef (G .lowered) [] (aCons (eVar 0) (aNil))))
abbrev b_need_leaning (G : Fn → FS) : FS := bodyF 1 0 (s_need_leaning G)
abbrev sc_greatest_of : Scope := defScope (top 29)
def N_greatest_of : List PySem.Str := ["fractions", "best", "one"]
def s_greatest_of (G : Fn → FS) : SS := sSeq (sSet 1 (oFr (eIx (eVar 0) (eC (.int 0))))) (sSeq (sFor (pSeq (eVar 0)) (gNm 2) (sSeq (sFz 1) (sIf (tTru (eFz (oDef (G .is_less) [] (aCons (eVar 1) (aCons (eVar 2) (aNil)))))) (sSet 1 (oFr (eVar 2))) (sNil)))) (sRetV 1))
abbrev b_greatest_of (G : Fn → FS) : FS := bodyF 1 2 (s_greatest_of G)
abbrev sc_best_sum : Scope := defScope (top 30)
def N_best_sum : List PySem.Str := ["game", "weights", "action"]
def s_best_sum (G : Fn → FS) : SS := sRet (oDef (G .greatest_of) [] (aCons (eFz (oLc (pSeq (eVar 0)) (gNm 2) (tTrue) (eFz (oDef (G .total_of_products) [] (aCons (eVar 1) (aCons (eCall listB (bCons (eVar 2) (aNil))) (aNil))))) [2])) (aNil)))
abbrev b_best_sum (G : Fn → FS) : FS := bodyF 2 1 (s_best_sum G)
abbrev sc_news_or_none : Scope := defScope (top 32)
def N_news_or_none : List PySem.Str := ["thing", "row"]
def s_news_or_none (G : Fn → FS) : SS := sSeq (sIf (tOrD (tNotD (tTru (eIsi .tuple (eVar 0)))) (tNotD (tBool (eChain leD leD (eC (.int 1)) (eCall lenB (bCons (eVar 0) (aNil))) (eC (.int 6)))))) (sRet (oFr (eC .none))) (sNil)) (sSeq (sFor (pSeq (eVar 0)) (gNm 1) (sIf (tOrD (tNotD (tTru (eFz (oDef (G .is_fractions) [] (aCons (eVar 1) (aNil)))))) (tOrD (tBool (eOp gtD (eCall lenB (bCons (eVar 1) (aNil))) (eC (.int 6)))) (tOrD (tBool (eOp neD (eCall lenB (bCons (eVar 1) (aNil))) (eCall lenB (bCons (eIx (eVar 0) (eC (.int 0))) (aNil))))) (tNotD (tTru (eFz (oDef (G .is_shared) [] (aCons (eFz (oDef (G .lowered) [] (aCons (eVar 1) (aNil)))) (aNil))))))))) (sRet (oFr (eC .none))) (sNil))) (sRet (oFr (eCall tupleB (bCons (eFz (oLc (pSeq (eVar 0)) (gNm 1) (tTrue) (eFz (oDef (G .lowered) [] (aCons (eVar 1) (aNil)))) [1])) (aNil))))))
abbrev b_news_or_none (G : Fn → FS) : FS := bodyF 1 1 (s_news_or_none G)
abbrev sc_need_news : Scope := defScope (top 33)
def N_need_news : List PySem.Str := ["thing", "news"]
def s_need_news (G : Fn → FS) : SS := sSeq (sSet 1 (oDef (G .news_or_none) [] (aCons (eVar 0) (aNil)))) (sSeq (sIf (tBool (eOp isD (eVar 1) (eC .none))) ((fun _ _ => .bad)) (sNil)) (sRetV 1))
abbrev b_need_news (G : Fn → FS) : FS := bodyF 1 1 (s_need_news G)
abbrev sc_product_of : Scope := defScope (top 34)
def N_product_of : List PySem.Str := ["news", "noise", "columns", "place", "row", "column"]
def s_product_of (G : Fn → FS) : SS := sSeq (sSet 2 (oLc (pRange1 (bCons (eCall lenB (bCons (eIx (eVar 1) (eC (.int 0))) (aNil))) (aNil))) (gNm 3) (tTrue) (eFz (oLc (pSeq (eVar 1)) (gNm 4) (tTrue) (eIx (eVar 4) (eVar 3)) [4])) [3])) (sSeq (sFz 2) (sRet (oFr (eCall tupleB (bCons (eFz (oLc (pSeq (eVar 0)) (gNm 4) (tTrue) (eCall tupleB (bCons (eFz (oLc (pSeq (eVar 2)) (gNm 5) (tTrue) (eFz (oDef (G .total_of_products) [] (aCons (eCall listB (bCons (eVar 4) (aNil))) (aCons (eVar 5) (aNil))))) [5])) (aNil))) [4])) (aNil))))))
abbrev b_product_of (G : Fn → FS) : FS := bodyF 2 4 (s_product_of G)
abbrev sc_noisy : Scope := defScope (top 35)
def N_noisy : List PySem.Str := ["news", "noise", "told", "garbled"]
def s_noisy (G : Fn → FS) : SS := sSeq (sPar 2 3 (aCons (eFz (oDef (G .need_news) [] (aCons (eVar 0) (aNil)))) (aCons (eFz (oDef (G .news_or_none) [] (aCons (eVar 1) (aNil)))) (aNil)))) (sSeq (sIf (tOrD (tBool (eOp isD (eVar 3) (eC .none))) (tBool (eOp neD (eCall lenB (bCons (eVar 3) (aNil))) (eCall lenB (bCons (eIx (eVar 2) (eC (.int 0))) (aNil)))))) ((fun _ _ => .bad)) (sNil)) (sRet (oDef (G .product_of) [] (aCons (eVar 2) (aCons (eVar 3) (aNil))))))
abbrev b_noisy (G : Fn → FS) : FS := bodyF 2 2 (s_noisy G)
abbrev sc_worth_of : Scope := defScope (top 36)
def N_worth_of : List PySem.Str := ["news", "leaning", "game", "found", "place", "one", "row"]
def s_worth_of (G : Fn → FS) : SS := sSeq (sSet 3 (oLst (aNil))) (sSeq (sFor (pRange1 (bCons (eCall lenB (bCons (eIx (eVar 0) (eC (.int 0))) (aNil))) (aNil))) (gNm 4) (sMeth 3 appAt (eFz (oDef (G .best_sum) [] (aCons (eVar 2) (aCons (eFz (oLc (pZip (bCons (eVar 1) (bCons (eVar 0) (aNil)))) (gTp (gsCons (gNm 5) (gsCons (gNm 6) (gsNil)))) (tTrue) (eFz (oDef (G .times) [] (aCons (eVar 5) (aCons (eIx (eVar 6) (eVar 4)) (aNil))))) [5, 6])) (aNil))))))) (sSeq (sFz 3) (sRet (oDef (G .total) [] (aCons (eVar 3) (aNil))))))
abbrev b_worth_of (G : Fn → FS) : FS := bodyF 3 4 (s_worth_of G)
abbrev sc_news_worth : Scope := defScope (top 37)
def N_news_worth : List PySem.Str := ["news", "leaning", "game", "told", "leans", "actions"]
def s_news_worth (G : Fn → FS) : SS := sSeq (sPar3 3 4 5 (aCons (eFz (oDef (G .need_news) [] (aCons (eVar 0) (aNil)))) (aCons (eFz (oDef (G .need_leaning) [] (aCons (eVar 1) (aNil)))) (aCons (eFz (oDef (G .need_game) [] (aCons (eVar 2) (aNil)))) (aNil))))) (sSeq (sIf (tBool (eOp neD (eCall lenB (bCons (eVar 4) (aNil))) (eCall lenB (bCons (eVar 3) (aNil))))) ((fun _ _ => .bad)) (sNil)) (sSeq (sExpr (eFz (oDef (G .need_game_of) [] (aCons (eVar 5) (aCons (eCall lenB (bCons (eVar 3) (aNil))) (aNil)))))) (sRet (oDef (G .worth_of) [] (aCons (eVar 3) (aCons (eVar 4) (aCons (eVar 5) (aNil))))))))
abbrev b_news_worth (G : Fn → FS) : FS := bodyF 3 3 (s_news_worth G)
abbrev sc__law_purse : Scope := defScope (top 39)
def N__law_purse : List PySem.Str := ["_law_script", "_law_k", "_law_cell"]
def s__law_purse (G : Fn → FS) : SS := sSeq (sSet 2 (oFr (eC (.int 0)))) (sSeq (sIf (tBool (eOp ltD (eVar 1) (eCall lenB (bCons (eVar 0) (aNil))))) (sSet 2 (oFr (eIx (eVar 0) (eVar 1)))) (sNil)) (sRet (oLst (aCons (eCall maxB (bCons (eC (.int 0)) (bCons (eOp subD (eVar 2) (eOp powD (eC (.int 10)) (eC (.int 18)))) (aNil)))) (aCons (eOp addD (eOp addD (eOp modD (eCall intB (bCons (eVar 2) (aNil))) (eOp addD (eOp powD (eC (.int 10)) (eC (.int 38))) (eC (.int 177)))) (eOp mulD (eC (.int 1009)) (eVar 1))) (eC (.int 5))) (aCons (eC (.int 0)) (aNil)))))))
abbrev b__law_purse (G : Fn → FS) : FS := bodyF 2 1 (s__law_purse G)
abbrev sc__law_pull : Scope := defScope (top 40)
def N__law_pull : List PySem.Str := ["_law_purse_here", "_law_many", "_law_found", "_law_mixed"]
def s__law_pull (G : Fn → FS) : SS := sSeq (sIf (tBool (eOp gtD (eIx (eVar 0) (eC (.int 0))) (eC (.int 0)))) (sSeq (sSet 2 (oFr (eOp modD (eCall intB (bCons (eIx (eVar 0) (eC (.int 0))) (aNil))) (eVar 1)))) (sSeq (sPut 0 (eOp divD (eIx (eVar 0) (eC (.int 0))) (eVar 1)) (eC (.int 0))) (sRetV 2))) (sNil)) (sSeq (sPut 0 (eOp addD (eIx (eVar 0) (eC (.int 2))) (eC (.int 1))) (eC (.int 2))) (sSeq (sSet 3 (oFr (eOp modD (eCall intB (bCons (eOp powW (eOp addD (eIx (eVar 0) (eC (.int 1))) (eOp mulD (eC (.int 26535897932384627)) (eIx (eVar 0) (eC (.int 2))))) (eC (.int 3))) (aNil))) (eOp addD (eOp powD (eC (.int 10)) (eC (.int 41))) (eC (.int 289)))))) (sSeq (sSet 3 (oFr (eOp modD (eCall intB (bCons (eOp addD (eOp mulD (eVar 3) (eVar 3)) (eOp mulD (eC (.int 88419716939937511)) (eIx (eVar 0) (eC (.int 2))))) (aNil))) (eOp addD (eOp powD (eC (.int 10)) (eC (.int 40))) (eC (.int 31)))))) (sRet (oFr (eOp modD (eCall intB (bCons (eOp divD (eVar 3) (eOp powD (eC (.int 10)) (eC (.int 8)))) (aNil))) (eVar 1)))))))
abbrev b__law_pull (G : Fn → FS) : FS := bodyF 2 2 (s__law_pull G)
abbrev sc__law_pick : Scope := defScope (top 41)
def N__law_pick : List PySem.Str := ["_law_purse_here", "_law_items"]
def s__law_pick (G : Fn → FS) : SS := sRet (oFr (eIx (eVar 1) (eFz (oDef (G ._law_pull) [] (aCons (eVar 0) (aCons (eCall lenB (bCons (eVar 1) (aNil))) (aNil)))))))
abbrev b__law_pick (G : Fn → FS) : FS := bodyF 2 0 (s__law_pick G)
abbrev sc__law_divisor : Scope := defScope (top 42)
def N__law_divisor : List PySem.Str := ["_law_one", "_law_twin"]
def s__law_divisor (G : Fn → FS) : SS := sSeq (sWhile (tBool (eOp gtD (eVar 1) (eC (.int 0)))) (sPar 0 1 (aCons (eVar 1) (aCons (eOp modD (eCall intB (bCons (eVar 0) (aNil))) (eVar 1)) (aNil))))) (sRet (oFr (eVar 0)))
abbrev b__law_divisor (G : Fn → FS) : FS := bodyF 2 0 (s__law_divisor G)
abbrev sc__law_low : Scope := defScope (top 43)
def N__law_low : List PySem.Str := ["_law_above", "_law_below", "_law_divisor_here"]
def s__law_low (G : Fn → FS) : SS := sSeq (sSet 2 (oFr (eFz (oDef (G ._law_divisor) [] (aCons (eCall absB (bCons (eVar 0) (aNil))) (aCons (eVar 1) (aNil))))))) (sRet (oFr (eTup (aCons (eOp divD (eVar 0) (eVar 2)) (aCons (eOp divD (eVar 1) (eVar 2)) (aNil))))))
abbrev b__law_low (G : Fn → FS) : FS := bodyF 2 1 (s__law_low G)
abbrev sc__law_weights : Scope := defScope (top 44)
def N__law_weights : List PySem.Str := ["_law_purse_here", "_law_many", "_law_great", "_law_line", "_law_turn"]
def s__law_weights (G : Fn → FS) : SS := sSeq (sSet 3 (oLc (pRange1 (bCons (eVar 1) (aNil))) (gNm 4) (tTrue) (eFz (oDef (G ._law_pick) [] (aCons (eVar 0) (aCons (eLst (aCons (eC (.int 0)) (aCons (eC (.int 0)) (aCons (eC (.int 1)) (aCons (eC (.int 1)) (aCons (eC (.int 1)) (aCons (eC (.int 2)) (aCons (eC (.int 3)) (aCons (eOp addD (eC (.int 1)) (eFz (oDef (G ._law_pull) [] (aCons (eVar 0) (aCons (eC (.int 9)) (aNil)))))) (aNil)))))))))) (aNil))))) [4])) (sSeq (sIf (tTru (eVar 2)) (sSet 3 (oLc (pRange1 (bCons (eVar 1) (aNil))) (gNm 4) (tTrue) (eFz (oDef (G ._law_pull) [] (aCons (eVar 0) (aCons (eOp powD (eC (.int 10)) (eC (.int 58))) (aNil))))) [4])) (sNil)) (sSeq (sIf (tBool (eOp eqD (eCall sumB (bCons (eVar 3) (aNil))) (eC (.int 0)))) (sPut 3 (eC (.int 1)) (eFz (oDef (G ._law_pull) [] (aCons (eVar 0) (aCons (eVar 1) (aNil)))))) (sNil)) (sRetV 3)))
abbrev b__law_weights (G : Fn → FS) : FS := bodyF 3 2 (s__law_weights G)
abbrev sc__law_sheet : Scope := defScope (top 45)
def N__law_sheet : List PySem.Str := ["_law_purse_here", "_law_rows", "_law_columns", "_law_great", "_law_turn"]
def s__law_sheet (G : Fn → FS) : SS := sRet (oLc (pRange1 (bCons (eVar 1) (aNil))) (gNm 4) (tTrue) (eFz (oDef (G ._law_weights) [] (aCons (eVar 0) (aCons (eVar 2) (aCons (eVar 3) (aNil)))))) [4])
abbrev b__law_sheet (G : Fn → FS) : FS := bodyF 4 1 (s__law_sheet G)
abbrev sc__law_shown : Scope := defScope (top 46)
def N__law_shown : List PySem.Str := ["_law_purse_here", "_law_sheet_here", "_law_found", "_law_line", "_law_much", "_law_weight"]
def s__law_shown (G : Fn → FS) : SS := sSeq (sSet 2 (oLst (aNil))) (sSeq (sFor (pSeq (eVar 1)) (gNm 3) (sSeq (sSet 4 (oFr (eOp addD (eC (.int 1)) (eFz (oDef (G ._law_pull) [] (aCons (eVar 0) (aCons (eC (.int 3)) (aNil)))))))) (sMeth 2 appAt (eCall tupleB (bCons (eFz (oLc (pSeq (eVar 3)) (gNm 5) (tTrue) (eTup (aCons (eOp mulD (eVar 5) (eVar 4)) (aCons (eOp mulD (eCall sumB (bCons (eVar 3) (aNil))) (eVar 4)) (aNil)))) [5])) (aNil)))))) (sRet (oFr (eCall tupleB (bCons (eVar 2) (aNil))))))
abbrev b__law_shown (G : Fn → FS) : FS := bodyF 2 4 (s__law_shown G)
abbrev sc__law_low_sheet : Scope := defScope (top 47)
def N__law_low_sheet : List PySem.Str := ["_law_sheet_here", "_law_line", "_law_weight"]
def s__law_low_sheet (G : Fn → FS) : SS := sRet (oFr (eCall tupleB (bCons (eFz (oLc (pSeq (eVar 0)) (gNm 1) (tTrue) (eCall tupleB (bCons (eFz (oLc (pSeq (eVar 1)) (gNm 2) (tTrue) (eFz (oDef (G ._law_low) [] (aCons (eVar 2) (aCons (eCall sumB (bCons (eVar 1) (aNil))) (aNil))))) [2])) (aNil))) [1])) (aNil))))
abbrev b__law_low_sheet (G : Fn → FS) : FS := bodyF 1 2 (s__law_low_sheet G)
abbrev sc__law_small_line : Scope := defScope (top 48)
def N__law_small_line : List PySem.Str := ["_law_line", "_law_divisor_here", "_law_weight"]
def s__law_small_line (G : Fn → FS) : SS := sSeq (sSet 1 (oFr (eC (.int 0)))) (sSeq (sFor (pSeq (eVar 0)) (gNm 2) (sSet 1 (oFr (eFz (oDef (G ._law_divisor) [] (aCons (eVar 1) (aCons (eVar 2) (aNil)))))))) (sRet (oLc (pSeq (eVar 0)) (gNm 2) (tTrue) (eOp divD (eVar 2) (eVar 1)) [2])))
abbrev b__law_small_line (G : Fn → FS) : FS := bodyF 1 2 (s__law_small_line G)
abbrev sc__law_blurred : Scope := defScope (top 49)
def N__law_blurred : List PySem.Str := ["_law_sheet_here", "_law_blur", "_law_scale", "_law_found", "_law_line", "_law_later", "_law_weight", "_law_twin", "_law_one", "_law_two"]
def s__law_blurred (G : Fn → FS) : SS := sSeq (sParO 2 3 (oFr (eC (.int 1))) (oLst (aNil))) (sSeq (sFor (pSeq (eVar 1)) (gNm 4) (sSet 2 (oFr (eOp mulD (eOp divD (eVar 2) (eFz (oDef (G ._law_divisor) [] (aCons (eVar 2) (aCons (eCall sumB (bCons (eVar 4) (aNil))) (aNil)))))) (eCall sumB (bCons (eVar 4) (aNil))))))) (sSeq (sFor (pSeq (eVar 0)) (gNm 4) (sSeq (sSet 5 (oFr (eOp mulD (eLst (aCons (eC (.int 0)) (aNil))) (eCall lenB (bCons (eIx (eVar 1) (eC (.int 0))) (aNil)))))) (sSeq (sFor (pZip (bCons (eVar 4) (bCons (eVar 1) (aNil)))) (gTp (gsCons (gNm 6) (gsCons (gNm 7) (gsNil)))) (sSeq (sSet 5 (oLc (pZip (bCons (eVar 5) (bCons (eVar 7) (aNil)))) (gTp (gsCons (gNm 8) (gsCons (gNm 9) (gsNil)))) (tTrue) (eOp addD (eVar 8) (eOp mulD (eOp mulD (eVar 6) (eVar 9)) (eOp divD (eVar 2) (eCall sumB (bCons (eVar 7) (aNil)))))) [8, 9])) (sSeq (sFz 5) (sNil)))) (sMeth 3 appAt (eFz (oDef (G ._law_small_line) [] (aCons (eVar 5) (aNil)))))))) (sRetV 3)))
abbrev b__law_blurred (G : Fn → FS) : FS := bodyF 2 8 (s__law_blurred G)
abbrev sc__law_whole_bets : Scope := defScope (top 50)
def N__law_whole_bets : List PySem.Str := ["_law_bets_here", "_law_scale", "_law_action", "_law_one"]
def s__law_whole_bets (G : Fn → FS) : SS := sSeq (sSet 1 (oFr (eC (.int 1)))) (sSeq (sFor (pSeq (eVar 0)) (gNm 2) (sFor (pSeq (eVar 2)) (gNm 3) (sSet 1 (oFr (eOp mulD (eOp divD (eVar 1) (eFz (oDef (G ._law_divisor) [] (aCons (eVar 1) (aCons (eIx (eVar 3) (eC (.int 1))) (aNil)))))) (eIx (eVar 3) (eC (.int 1)))))))) (sRet (oFr (eTup (aCons (eFz (oLc (pSeq (eVar 0)) (gNm 2) (tTrue) (eFz (oLc (pSeq (eVar 2)) (gNm 3) (tTrue) (eOp mulD (eIx (eVar 3) (eC (.int 0))) (eOp divD (eVar 1) (eIx (eVar 3) (eC (.int 1))))) [3])) [2])) (aCons (eVar 1) (aNil)))))))
abbrev b__law_whole_bets (G : Fn → FS) : FS := bodyF 1 3 (s__law_whole_bets G)
abbrev sc__law_worth : Scope := defScope (top 51)
def N__law_worth : List PySem.Str := ["_law_sheet_here", "_law_lean", "_law_bets_here", "_law_actions", "_law_many", "_law_scale", "_law_best", "_law_line", "_law_place", "_law_column", "_law_one", "_law_action", "_law_two"]
def s__law_worth (G : Fn → FS) : SS := sSeq (sAsg (gTp (gsCons (gNm 3) (gsCons (gNm 4) (gsNil)))) (eFz (oDef (G ._law_whole_bets) [] (aCons (eVar 2) (aNil))))) (sSeq (sAsg (gTp (gsCons (gNm 5) (gsCons (gNm 6) (gsNil)))) (eTup (aCons (eC (.int 1)) (aCons (eC (.int 0)) (aNil))))) (sSeq (sFor (pSeq (eVar 0)) (gNm 7) (sSet 5 (oFr (eOp mulD (eOp divD (eVar 5) (eFz (oDef (G ._law_divisor) [] (aCons (eVar 5) (aCons (eCall sumB (bCons (eVar 7) (aNil))) (aNil)))))) (eCall sumB (bCons (eVar 7) (aNil))))))) (sSeq (sFor (pRange1 (bCons (eCall lenB (bCons (eIx (eVar 0) (eC (.int 0))) (aNil))) (aNil))) (gNm 8) (sSeq (sSet 9 (oLc (pZip (bCons (eVar 1) (bCons (eVar 0) (aNil)))) (gTp (gsCons (gNm 10) (gsCons (gNm 7) (gsNil)))) (tTrue) (eOp mulD (eOp mulD (eVar 10) (eIx (eVar 7) (eVar 8))) (eOp divD (eVar 5) (eCall sumB (bCons (eVar 7) (aNil))))) [10, 7])) (sSeq (sFz 9) (sSet 6 (oFr (eOp addD (eVar 6) (eCall maxB (bCons (eFz (oLc (pSeq (eVar 3)) (gNm 11) (tTrue) (eCall sumB (bCons (eFz (oLc (pZip (bCons (eVar 9) (bCons (eVar 11) (aNil)))) (gTp (gsCons (gNm 10) (gsCons (gNm 12) (gsNil)))) (tTrue) (eOp mulD (eVar 10) (eVar 12)) [10, 12])) (aNil))) [11])) (aNil))))))))) (sRet (oDef (G ._law_low) [] (aCons (eVar 6) (aCons (eOp mulD (eOp mulD (eVar 5) (eVar 4)) (eCall sumB (bCons (eVar 1) (aNil)))) (aNil))))))))
abbrev b__law_worth (G : Fn → FS) : FS := bodyF 3 10 (s__law_worth G)
abbrev sc__law_bets : Scope := defScope (top 52)
def N__law_bets : List PySem.Str := ["_law_purse_here", "_law_many", "_law_found", "_law_turn", "_law_much", "_law_place"]
def s__law_bets (G : Fn → FS) : SS := sSeq (sSet 2 (oLst (aNil))) (sSeq (sFor (pRange1 (bCons (eOp addD (eC (.int 1)) (eFz (oDef (G ._law_pull) [] (aCons (eVar 0) (aCons (eC (.int 6)) (aNil)))))) (aNil))) (gNm 3) (sSeq (sSet 4 (oFr (eOp addD (eC (.int 1)) (eFz (oDef (G ._law_pull) [] (aCons (eVar 0) (aCons (eC (.int 2)) (aNil)))))))) (sMeth 2 appAt (eCall tupleB (bCons (eFz (oLc (pRange1 (bCons (eVar 1) (aNil))) (gNm 5) (tTrue) (eTup (aCons (eOp mulD (eOp subD (eFz (oDef (G ._law_pull) [] (aCons (eVar 0) (aCons (eC (.int 11)) (aNil))))) (eC (.int 5))) (eVar 4)) (aCons (eOp mulD (eOp addD (eC (.int 1)) (eFz (oDef (G ._law_pull) [] (aCons (eVar 0) (aCons (eC (.int 4)) (aNil)))))) (eVar 4)) (aNil)))) [5])) (aNil)))))) (sRet (oFr (eCall tupleB (bCons (eVar 2) (aNil))))))
abbrev b__law_bets (G : Fn → FS) : FS := bodyF 2 4 (s__law_bets G)
abbrev sc__law_shown_line : Scope := defScope (top 53)
def N__law_shown_line : List PySem.Str := ["_law_purse_here", "_law_line"]
def s__law_shown_line (G : Fn → FS) : SS := sRet (oFr (eIx (eFz (oDef (G ._law_shown) [] (aCons (eVar 0) (aCons (eLst (aCons (eVar 1) (aNil))) (aNil))))) (eC (.int 0))))
abbrev b__law_shown_line (G : Fn → FS) : FS := bodyF 2 0 (s__law_shown_line G)
abbrev sc__law_great_bets : Scope := defScope (top 54)
def N__law_great_bets : List PySem.Str := ["_law_purse_here", "_law_many", "_law_great", "_law_found", "_law_action"]
def s__law_great_bets (G : Fn → FS) : SS := sSeq (sSet 3 (oLst (aNil))) (sSeq (sFor (pSeq (eFz (oDef (G ._law_bets) [] (aCons (eVar 0) (aCons (eVar 1) (aNil)))))) (gNm 4) (sSeq (sIf (tTru (eVar 2)) (sSet 4 (oFr (eOp addD (eTup (aCons (eTup (aCons (eOp subD (eFz (oDef (G ._law_pull) [] (aCons (eVar 0) (aCons (eOp powD (eC (.int 10)) (eC (.int 59))) (aNil))))) (eOp powD (eC (.int 10)) (eC (.int 30)))) (aCons (eOp addD (eC (.int 1)) (eFz (oDef (G ._law_pull) [] (aCons (eVar 0) (aCons (eOp powD (eC (.int 10)) (eC (.int 59))) (aNil)))))) (aNil)))) (aNil))) (eSl (eVar 4) (iSome (eC (.int 1))) (iNone))))) (sNil)) (sMeth 3 appAt (eVar 4)))) (sRet (oFr (eCall tupleB (bCons (eVar 3) (aNil))))))
abbrev b__law_great_bets (G : Fn → FS) : FS := bodyF 3 2 (s__law_great_bets G)
abbrev sc__law_chain_right : Scope := defScope (top 55)
def N__law_chain_right : List PySem.Str := ["_law_purse_here", "_law_one", "_law_two", "_law_many", "_law_last"]
def s__law_chain_right (G : Fn → FS) : SS := sSeq (sSet 4 (oFr (eFz (oDef (G ._law_shown) [] (aCons (eVar 0) (aCons (eFz (oDef (G ._law_sheet) [] (aCons (eVar 0) (aCons (eVar 3) (aCons (eOp addD (eC (.int 1)) (eFz (oDef (G ._law_pull) [] (aCons (eVar 0) (aCons (eC (.int 6)) (aNil)))))) (aCons (eC (.bool false)) (aNil))))))) (aNil))))))) (sRet (oFr (eOp eqD (eFz (oDef (G .noisy) [] (aCons (eFz (oDef (G .noisy) [] (aCons (eVar 1) (aCons (eVar 2) (aNil))))) (aCons (eVar 4) (aNil))))) (eFz (oDef (G .noisy) [] (aCons (eVar 1) (aCons (eFz (oDef (G .noisy) [] (aCons (eVar 2) (aCons (eVar 4) (aNil))))) (aNil))))))))
abbrev b__law_chain_right (G : Fn → FS) : FS := bodyF 4 1 (s__law_chain_right G)
abbrev sc__law_single_right : Scope := defScope (top 56)
def N__law_single_right : List PySem.Str := ["_law_sheet_here", "_law_lean", "_law_bets_here", "_law_found", "_law_actions", "_law_scale", "_law_best", "_law_action", "_law_one", "_law_two"]
def s__law_single_right (G : Fn → FS) : SS := sSeq (sAsg (gTp (gsCons (gNm 4) (gsCons (gNm 5) (gsNil)))) (eFz (oDef (G ._law_whole_bets) [] (aCons (eVar 2) (aNil))))) (sSeq (sSet 6 (oFr (eCall maxB (bCons (eFz (oLc (pSeq (eVar 4)) (gNm 7) (tTrue) (eCall sumB (bCons (eFz (oLc (pZip (bCons (eVar 1) (bCons (eVar 7) (aNil)))) (gTp (gsCons (gNm 8) (gsCons (gNm 9) (gsNil)))) (tTrue) (eOp mulD (eVar 8) (eVar 9)) [8, 9])) (aNil))) [7])) (aNil))))) (sRet (oFr (eOr (eOp gtD (eCall lenB (bCons (eIx (eVar 0) (eC (.int 0))) (aNil))) (eC (.int 1))) (eOp eqD (eVar 3) (eFz (oDef (G ._law_low) [] (aCons (eVar 6) (aCons (eOp mulD (eVar 5) (eCall sumB (bCons (eVar 1) (aNil)))) (aNil))))))))))
abbrev b__law_single_right (G : Fn → FS) : FS := bodyF 4 6 (s__law_single_right G)
abbrev sc__law_right : Scope := defScope (top 57)
def N__law_right : List PySem.Str := ["_law_purse_here", "_law_great", "_law_most", "_law_rows", "_law_columns", "_law_later", "_law_sheet_here", "_law_blur", "_law_one", "_law_two", "_law_blurred_here", "_law_due", "_law_lean", "_law_bets_here", "_law_shown_here", "_law_found", "_law_plain", "_law_less", "_law_turn", "_law_place"]
def s__law_right (G : Fn → FS) : SS := sSeq (sPar 1 2 (aCons (eOp eqD (eFz (oDef (G ._law_pull) [] (aCons (eVar 0) (aCons (eC (.int 5)) (aNil))))) (eC (.int 0))) (aCons (eC (.int 6)) (aNil)))) (sSeq (sIf (tTru (eVar 1)) (sSet 2 (oFr (eC (.int 3)))) (sNil)) (sSeq (sPar3 3 4 5 (aCons (eOp addD (eC (.int 1)) (eFz (oDef (G ._law_pull) [] (aCons (eVar 0) (aCons (eVar 2) (aNil)))))) (aCons (eOp addD (eC (.int 1)) (eFz (oDef (G ._law_pull) [] (aCons (eVar 0) (aCons (eVar 2) (aNil)))))) (aCons (eOp addD (eC (.int 1)) (eFz (oDef (G ._law_pull) [] (aCons (eVar 0) (aCons (eVar 2) (aNil)))))) (aNil))))) (sSeq (sPar 6 7 (aCons (eFz (oDef (G ._law_sheet) [] (aCons (eVar 0) (aCons (eVar 3) (aCons (eVar 4) (aCons (eVar 1) (aNil))))))) (aCons (eFz (oDef (G ._law_sheet) [] (aCons (eVar 0) (aCons (eVar 4) (aCons (eVar 5) (aCons (eAnd (eVar 1) (eOp eqD (eFz (oDef (G ._law_pull) [] (aCons (eVar 0) (aCons (eC (.int 2)) (aNil))))) (eC (.int 0)))) (aNil))))))) (aNil)))) (sSeq (sPar3 8 9 10 (aCons (eFz (oDef (G ._law_shown) [] (aCons (eVar 0) (aCons (eVar 6) (aNil))))) (aCons (eFz (oDef (G ._law_shown) [] (aCons (eVar 0) (aCons (eVar 7) (aNil))))) (aCons (eFz (oDef (G ._law_blurred) [] (aCons (eVar 6) (aCons (eVar 7) (aNil))))) (aNil))))) (sSeq (sSet 11 (oFr (eCall reprW (bCons (eFz (oDef (G ._law_low_sheet) [] (aCons (eVar 10) (aNil)))) (aNil))))) (sSeq (sIf (tOrD (tBool (eOp neD (eCall reprW (bCons (eFz (oDef (G .noisy) [] (aCons (eVar 8) (aCons (eVar 9) (aNil))))) (aNil))) (eVar 11))) (tBool (eOp neD (eCall reprW (bCons (eFz (oDefK (G .noisy) 2 [1, 0] (aCons (eVar 9) (aCons (eVar 8) (aNil))))) (aNil))) (eVar 11)))) (sRet (oFr (eC (.bool false)))) (sNil)) (sSeq (sSet 12 (oFr (eFz (oDef (G ._law_weights) [] (aCons (eVar 0) (aCons (eVar 3) (aCons (eVar 1) (aNil)))))))) (sSeq (sPar 13 14 (aCons (eFz (oDef (G ._law_great_bets) [] (aCons (eVar 0) (aCons (eVar 3) (aCons (eVar 1) (aNil)))))) (aCons (eFz (oDef (G ._law_shown_line) [] (aCons (eVar 0) (aCons (eVar 12) (aNil))))) (aNil)))) (sSeq (sSet 15 (oFr (eFz (oDef (G .news_worth) [] (aCons (eVar 8) (aCons (eVar 14) (aCons (eVar 13) (aNil)))))))) (sSeq (sIf (tOrD (tBool (eOp neD (eCall reprW (bCons (eVar 15) (aNil))) (eCall reprW (bCons (eFz (oDef (G ._law_worth) [] (aCons (eVar 6) (aCons (eVar 12) (aCons (eVar 13) (aNil)))))) (aNil))))) (tBool (eOp neD (eCall reprW (bCons (eFz (oDefK (G .news_worth) 3 [2, 1, 0] (aCons (eVar 13) (aCons (eVar 14) (aCons (eVar 8) (aNil)))))) (aNil))) (eCall reprW (bCons (eVar 15) (aNil)))))) (sRet (oFr (eC (.bool false)))) (sNil)) (sSeq (sSet 16 (oFr (eCall tupleB (bCons (eFz (oLc (pRange1 (bCons (eVar 4) (aNil))) (gNm 18) (tTrue) (eCall tupleB (bCons (eFz (oLc (pRange1 (bCons (eVar 4) (aNil))) (gNm 19) (tTrue) (eTup (aCons (eCall intB (bCons (eOp eqD (eVar 19) (eVar 18)) (aNil))) (aCons (eC (.int 1)) (aNil)))) [19])) (aNil))) [18])) (aNil))))) (sSeq (sIf (tOrD (tBool (eOp neD (eCall reprW (bCons (eFz (oDef (G .noisy) [] (aCons (eVar 8) (aCons (eVar 16) (aNil))))) (aNil))) (eCall reprW (bCons (eFz (oDef (G ._law_low_sheet) [] (aCons (eVar 6) (aNil)))) (aNil))))) (tNotD (tTru (eFz (oDef (G ._law_single_right) [] (aCons (eVar 6) (aCons (eVar 12) (aCons (eVar 13) (aCons (eVar 15) (aNil)))))))))) (sRet (oFr (eC (.bool false)))) (sNil)) (sSeq (sIf (tTru (eVar 1)) (sRet (oFr (eC (.bool true)))) (sNil)) (sSeq (sSet 17 (oFr (eFz (oDef (G .news_worth) [] (aCons (eFz (oDef (G ._law_low_sheet) [] (aCons (eVar 10) (aNil)))) (aCons (eVar 14) (aCons (eVar 13) (aNil)))))))) (sRet (oFr (eAnd (eOp leD (eOp mulD (eIx (eVar 17) (eC (.int 0))) (eIx (eVar 15) (eC (.int 1)))) (eOp mulD (eIx (eVar 15) (eC (.int 0))) (eIx (eVar 17) (eC (.int 1))))) (eFz (oDef (G ._law_chain_right) [] (aCons (eVar 0) (aCons (eVar 8) (aCons (eVar 9) (aCons (eVar 5) (aNil))))))))))))))))))))))))
abbrev b__law_right (G : Fn → FS) : FS := bodyF 1 19 (s__law_right G)
abbrev sc_law : Scope := defScope (top 58)
def N_law : List PySem.Str := ["_law_script", "_law_k"]
def s_law (G : Fn → FS) : SS := sSeq (sFor (pRange1 (bCons (eCall maxB (bCons (eC (.int 1)) (bCons (eCall minB (bCons (eC (.int 3)) (bCons (eCall lenB (bCons (eVar 0) (aNil))) (aNil)))) (aNil)))) (aNil))) (gNm 1) (sIf (tNotD (tTru (eFz (oDef (G ._law_right) [] (aCons (eCel (oDef (G ._law_purse) [] (aCons (eVar 0) (aCons (eVar 1) (aNil))))) (aNil)))))) (sRet (oFr (eC (.bool false)))) (sNil))) (sRet (oFr (eC (.bool true))))
abbrev b_law (G : Fn → FS) : FS := bodyF 1 1 (s_law G)
def body (G : Fn → FS) : Fn → FS
  | .greatest_divisor => b_greatest_divisor G
  | .least_multiple => b_least_multiple G
  | .lowest => b_lowest G
  | .times => b_times G
  | .is_less => b_is_less G
  | .common_below => b_common_below G
  | .numbers_of => b_numbers_of G
  | .total => b_total G
  | .total_of_products => b_total_of_products G
  | .is_integer => b_is_integer G
  | .is_fraction => b_is_fraction G
  | .is_fractions => b_is_fractions G
  | .lowered => b_lowered G
  | .is_shared => b_is_shared G
  | .is_game => b_is_game G
  | .need_game => b_need_game G
  | .need_game_of => b_need_game_of G
  | .is_leaning => b_is_leaning G
  | .need_leaning => b_need_leaning G
  | .greatest_of => b_greatest_of G
  | .best_sum => b_best_sum G
  | .news_or_none => b_news_or_none G
  | .need_news => b_need_news G
  | .product_of => b_product_of G
  | .noisy => b_noisy G
  | .worth_of => b_worth_of G
  | .news_worth => b_news_worth G
  | ._law_purse => b__law_purse G
  | ._law_pull => b__law_pull G
  | ._law_pick => b__law_pick G
  | ._law_divisor => b__law_divisor G
  | ._law_low => b__law_low G
  | ._law_weights => b__law_weights G
  | ._law_sheet => b__law_sheet G
  | ._law_shown => b__law_shown G
  | ._law_low_sheet => b__law_low_sheet G
  | ._law_small_line => b__law_small_line G
  | ._law_blurred => b__law_blurred G
  | ._law_whole_bets => b__law_whole_bets G
  | ._law_worth => b__law_worth G
  | ._law_bets => b__law_bets G
  | ._law_shown_line => b__law_shown_line G
  | ._law_great_bets => b__law_great_bets G
  | ._law_chain_right => b__law_chain_right G
  | ._law_single_right => b__law_single_right G
  | ._law_right => b__law_right G
  | .law => b_law G
def sem : Nat → Fn → FS
  | 0 => fun _ _ _ => .bad
  | n + 1 => body (sem n)
theorem e_greatest_divisor {n : Nat} {x0 x1 : Val} {cs : Cs} : sem (n + 1) .greatest_divisor [x0, x1] cs = bodyR (s_greatest_divisor (sem n) [some (.fr x0), some (.fr x1), none, none, none] cs) := rfl
theorem e_least_multiple {n : Nat} {x0 x1 : Val} {cs : Cs} : sem (n + 1) .least_multiple [x0, x1] cs = bodyR (s_least_multiple (sem n) [some (.fr x0), some (.fr x1)] cs) := rfl
theorem e_lowest {n : Nat} {x0 x1 : Val} {cs : Cs} : sem (n + 1) .lowest [x0, x1] cs = bodyR (s_lowest (sem n) [some (.fr x0), some (.fr x1), none] cs) := rfl
theorem e_times {n : Nat} {x0 x1 : Val} {cs : Cs} : sem (n + 1) .times [x0, x1] cs = bodyR (s_times (sem n) [some (.fr x0), some (.fr x1)] cs) := rfl
theorem e_is_less {n : Nat} {x0 x1 : Val} {cs : Cs} : sem (n + 1) .is_less [x0, x1] cs = bodyR (s_is_less (sem n) [some (.fr x0), some (.fr x1)] cs) := rfl
theorem e_common_below {n : Nat} {x0 : Val} {cs : Cs} : sem (n + 1) .common_below [x0] cs = bodyR (s_common_below (sem n) [some (.fr x0), none, none] cs) := rfl
theorem e_numbers_of {n : Nat} {x0 : Val} {cs : Cs} : sem (n + 1) .numbers_of [x0] cs = bodyR (s_numbers_of (sem n) [some (.fr x0), none, none] cs) := rfl
theorem e_total {n : Nat} {x0 : Val} {cs : Cs} : sem (n + 1) .total [x0] cs = bodyR (s_total (sem n) [some (.fr x0), none] cs) := rfl
theorem e_total_of_products {n : Nat} {x0 x1 : Val} {cs : Cs} : sem (n + 1) .total_of_products [x0, x1] cs = bodyR (s_total_of_products (sem n) [some (.fr x0), some (.fr x1), none, none, none] cs) := rfl
theorem e_is_integer {n : Nat} {x0 x1 x2 : Val} {cs : Cs} : sem (n + 1) .is_integer [x0, x1, x2] cs = bodyR (s_is_integer (sem n) [some (.fr x0), some (.fr x1), some (.fr x2)] cs) := rfl
theorem e_is_fraction {n : Nat} {x0 : Val} {cs : Cs} : sem (n + 1) .is_fraction [x0] cs = bodyR (s_is_fraction (sem n) [some (.fr x0)] cs) := rfl
theorem e_is_fractions {n : Nat} {x0 : Val} {cs : Cs} : sem (n + 1) .is_fractions [x0] cs = bodyR (s_is_fractions (sem n) [some (.fr x0), none] cs) := rfl
theorem e_lowered {n : Nat} {x0 : Val} {cs : Cs} : sem (n + 1) .lowered [x0] cs = bodyR (s_lowered (sem n) [some (.fr x0), none] cs) := rfl
theorem e_is_shared {n : Nat} {x0 : Val} {cs : Cs} : sem (n + 1) .is_shared [x0] cs = bodyR (s_is_shared (sem n) [some (.fr x0), none] cs) := rfl
theorem e_is_game {n : Nat} {x0 : Val} {cs : Cs} : sem (n + 1) .is_game [x0] cs = bodyR (s_is_game (sem n) [some (.fr x0), none] cs) := rfl
theorem e_need_game {n : Nat} {x0 : Val} {cs : Cs} : sem (n + 1) .need_game [x0] cs = bodyR (s_need_game (sem n) [some (.fr x0), none] cs) := rfl
theorem e_need_game_of {n : Nat} {x0 x1 : Val} {cs : Cs} : sem (n + 1) .need_game_of [x0, x1] cs = bodyR (s_need_game_of (sem n) [some (.fr x0), some (.fr x1)] cs) := rfl
theorem e_is_leaning {n : Nat} {x0 : Val} {cs : Cs} : sem (n + 1) .is_leaning [x0] cs = bodyR (s_is_leaning (sem n) [some (.fr x0)] cs) := rfl
theorem e_need_leaning {n : Nat} {x0 : Val} {cs : Cs} : sem (n + 1) .need_leaning [x0] cs = bodyR (s_need_leaning (sem n) [some (.fr x0)] cs) := rfl
theorem e_greatest_of {n : Nat} {x0 : Val} {cs : Cs} : sem (n + 1) .greatest_of [x0] cs = bodyR (s_greatest_of (sem n) [some (.fr x0), none, none] cs) := rfl
theorem e_best_sum {n : Nat} {x0 x1 : Val} {cs : Cs} : sem (n + 1) .best_sum [x0, x1] cs = bodyR (s_best_sum (sem n) [some (.fr x0), some (.fr x1), none] cs) := rfl
theorem e_news_or_none {n : Nat} {x0 : Val} {cs : Cs} : sem (n + 1) .news_or_none [x0] cs = bodyR (s_news_or_none (sem n) [some (.fr x0), none] cs) := rfl
theorem e_need_news {n : Nat} {x0 : Val} {cs : Cs} : sem (n + 1) .need_news [x0] cs = bodyR (s_need_news (sem n) [some (.fr x0), none] cs) := rfl
theorem e_product_of {n : Nat} {x0 x1 : Val} {cs : Cs} : sem (n + 1) .product_of [x0, x1] cs = bodyR (s_product_of (sem n) [some (.fr x0), some (.fr x1), none, none, none, none] cs) := rfl
theorem e_noisy {n : Nat} {x0 x1 : Val} {cs : Cs} : sem (n + 1) .noisy [x0, x1] cs = bodyR (s_noisy (sem n) [some (.fr x0), some (.fr x1), none, none] cs) := rfl
theorem e_worth_of {n : Nat} {x0 x1 x2 : Val} {cs : Cs} : sem (n + 1) .worth_of [x0, x1, x2] cs = bodyR (s_worth_of (sem n) [some (.fr x0), some (.fr x1), some (.fr x2), none, none, none, none] cs) := rfl
theorem e_news_worth {n : Nat} {x0 x1 x2 : Val} {cs : Cs} : sem (n + 1) .news_worth [x0, x1, x2] cs = bodyR (s_news_worth (sem n) [some (.fr x0), some (.fr x1), some (.fr x2), none, none, none] cs) := rfl
theorem e__law_purse {n : Nat} {x0 x1 : Val} {cs : Cs} : sem (n + 1) ._law_purse [x0, x1] cs = bodyR (s__law_purse (sem n) [some (.fr x0), some (.fr x1), none] cs) := rfl
theorem e__law_pull {n : Nat} {x0 x1 : Val} {cs : Cs} : sem (n + 1) ._law_pull [x0, x1] cs = bodyR (s__law_pull (sem n) [some (.fr x0), some (.fr x1), none, none] cs) := rfl
theorem e__law_pick {n : Nat} {x0 x1 : Val} {cs : Cs} : sem (n + 1) ._law_pick [x0, x1] cs = bodyR (s__law_pick (sem n) [some (.fr x0), some (.fr x1)] cs) := rfl
theorem e__law_divisor {n : Nat} {x0 x1 : Val} {cs : Cs} : sem (n + 1) ._law_divisor [x0, x1] cs = bodyR (s__law_divisor (sem n) [some (.fr x0), some (.fr x1)] cs) := rfl
theorem e__law_low {n : Nat} {x0 x1 : Val} {cs : Cs} : sem (n + 1) ._law_low [x0, x1] cs = bodyR (s__law_low (sem n) [some (.fr x0), some (.fr x1), none] cs) := rfl
theorem e__law_weights {n : Nat} {x0 x1 x2 : Val} {cs : Cs} : sem (n + 1) ._law_weights [x0, x1, x2] cs = bodyR (s__law_weights (sem n) [some (.fr x0), some (.fr x1), some (.fr x2), none, none] cs) := rfl
theorem e__law_sheet {n : Nat} {x0 x1 x2 x3 : Val} {cs : Cs} : sem (n + 1) ._law_sheet [x0, x1, x2, x3] cs = bodyR (s__law_sheet (sem n) [some (.fr x0), some (.fr x1), some (.fr x2), some (.fr x3), none] cs) := rfl
theorem e__law_shown {n : Nat} {x0 x1 : Val} {cs : Cs} : sem (n + 1) ._law_shown [x0, x1] cs = bodyR (s__law_shown (sem n) [some (.fr x0), some (.fr x1), none, none, none, none] cs) := rfl
theorem e__law_low_sheet {n : Nat} {x0 : Val} {cs : Cs} : sem (n + 1) ._law_low_sheet [x0] cs = bodyR (s__law_low_sheet (sem n) [some (.fr x0), none, none] cs) := rfl
theorem e__law_small_line {n : Nat} {x0 : Val} {cs : Cs} : sem (n + 1) ._law_small_line [x0] cs = bodyR (s__law_small_line (sem n) [some (.fr x0), none, none] cs) := rfl
theorem e__law_blurred {n : Nat} {x0 x1 : Val} {cs : Cs} : sem (n + 1) ._law_blurred [x0, x1] cs = bodyR (s__law_blurred (sem n) [some (.fr x0), some (.fr x1), none, none, none, none, none, none, none, none] cs) := rfl
theorem e__law_whole_bets {n : Nat} {x0 : Val} {cs : Cs} : sem (n + 1) ._law_whole_bets [x0] cs = bodyR (s__law_whole_bets (sem n) [some (.fr x0), none, none, none] cs) := rfl
theorem e__law_worth {n : Nat} {x0 x1 x2 : Val} {cs : Cs} : sem (n + 1) ._law_worth [x0, x1, x2] cs = bodyR (s__law_worth (sem n) [some (.fr x0), some (.fr x1), some (.fr x2), none, none, none, none, none, none, none, none, none, none] cs) := rfl
theorem e__law_bets {n : Nat} {x0 x1 : Val} {cs : Cs} : sem (n + 1) ._law_bets [x0, x1] cs = bodyR (s__law_bets (sem n) [some (.fr x0), some (.fr x1), none, none, none, none] cs) := rfl
theorem e__law_shown_line {n : Nat} {x0 x1 : Val} {cs : Cs} : sem (n + 1) ._law_shown_line [x0, x1] cs = bodyR (s__law_shown_line (sem n) [some (.fr x0), some (.fr x1)] cs) := rfl
theorem e__law_great_bets {n : Nat} {x0 x1 x2 : Val} {cs : Cs} : sem (n + 1) ._law_great_bets [x0, x1, x2] cs = bodyR (s__law_great_bets (sem n) [some (.fr x0), some (.fr x1), some (.fr x2), none, none] cs) := rfl
theorem e__law_chain_right {n : Nat} {x0 x1 x2 x3 : Val} {cs : Cs} : sem (n + 1) ._law_chain_right [x0, x1, x2, x3] cs = bodyR (s__law_chain_right (sem n) [some (.fr x0), some (.fr x1), some (.fr x2), some (.fr x3), none] cs) := rfl
theorem e__law_single_right {n : Nat} {x0 x1 x2 x3 : Val} {cs : Cs} : sem (n + 1) ._law_single_right [x0, x1, x2, x3] cs = bodyR (s__law_single_right (sem n) [some (.fr x0), some (.fr x1), some (.fr x2), some (.fr x3), none, none, none, none, none, none] cs) := rfl
theorem e__law_right {n : Nat} {x0 : Val} {cs : Cs} : sem (n + 1) ._law_right [x0] cs = bodyR (s__law_right (sem n) [some (.fr x0), none, none, none, none, none, none, none, none, none, none, none, none, none, none, none, none, none, none, none] cs) := rfl
theorem e_law {n : Nat} {x0 : Val} {cs : Cs} : sem (n + 1) .law [x0] cs = bodyR (s_law (sem n) [some (.fr x0), none] cs) := rfl
theorem nd_greatest_divisor : N_greatest_divisor.Nodup := by decide +kernel
theorem nd_least_multiple : N_least_multiple.Nodup := by decide +kernel
theorem nd_lowest : N_lowest.Nodup := by decide +kernel
theorem nd_times : N_times.Nodup := by decide +kernel
theorem nd_is_less : N_is_less.Nodup := by decide +kernel
theorem nd_common_below : N_common_below.Nodup := by decide +kernel
theorem nd_numbers_of : N_numbers_of.Nodup := by decide +kernel
theorem nd_total : N_total.Nodup := by decide +kernel
theorem nd_total_of_products : N_total_of_products.Nodup := by decide +kernel
theorem nd_is_integer : N_is_integer.Nodup := by decide +kernel
theorem nd_is_fraction : N_is_fraction.Nodup := by decide +kernel
theorem nd_is_fractions : N_is_fractions.Nodup := by decide +kernel
theorem nd_lowered : N_lowered.Nodup := by decide +kernel
theorem nd_is_shared : N_is_shared.Nodup := by decide +kernel
theorem nd_is_game : N_is_game.Nodup := by decide +kernel
theorem nd_need_game : N_need_game.Nodup := by decide +kernel
theorem nd_need_game_of : N_need_game_of.Nodup := by decide +kernel
theorem nd_is_leaning : N_is_leaning.Nodup := by decide +kernel
theorem nd_need_leaning : N_need_leaning.Nodup := by decide +kernel
theorem nd_greatest_of : N_greatest_of.Nodup := by decide +kernel
theorem nd_best_sum : N_best_sum.Nodup := by decide +kernel
theorem nd_news_or_none : N_news_or_none.Nodup := by decide +kernel
theorem nd_need_news : N_need_news.Nodup := by decide +kernel
theorem nd_product_of : N_product_of.Nodup := by decide +kernel
theorem nd_noisy : N_noisy.Nodup := by decide +kernel
theorem nd_worth_of : N_worth_of.Nodup := by decide +kernel
theorem nd_news_worth : N_news_worth.Nodup := by decide +kernel
theorem nd__law_purse : N__law_purse.Nodup := by decide +kernel
theorem nd__law_pull : N__law_pull.Nodup := by decide +kernel
theorem nd__law_pick : N__law_pick.Nodup := by decide +kernel
theorem nd__law_divisor : N__law_divisor.Nodup := by decide +kernel
theorem nd__law_low : N__law_low.Nodup := by decide +kernel
theorem nd__law_weights : N__law_weights.Nodup := by decide +kernel
theorem nd__law_sheet : N__law_sheet.Nodup := by decide +kernel
theorem nd__law_shown : N__law_shown.Nodup := by decide +kernel
theorem nd__law_low_sheet : N__law_low_sheet.Nodup := by decide +kernel
theorem nd__law_small_line : N__law_small_line.Nodup := by decide +kernel
theorem nd__law_blurred : N__law_blurred.Nodup := by decide +kernel
theorem nd__law_whole_bets : N__law_whole_bets.Nodup := by decide +kernel
theorem nd__law_worth : N__law_worth.Nodup := by decide +kernel
theorem nd__law_bets : N__law_bets.Nodup := by decide +kernel
theorem nd__law_shown_line : N__law_shown_line.Nodup := by decide +kernel
theorem nd__law_great_bets : N__law_great_bets.Nodup := by decide +kernel
theorem nd__law_chain_right : N__law_chain_right.Nodup := by decide +kernel
theorem nd__law_single_right : N__law_single_right.Nodup := by decide +kernel
theorem nd__law_right : N__law_right.Nodup := by decide +kernel
theorem nd_law : N_law.Nodup := by decide +kernel
structure Xs (K : PySem.W.Frag) (mg : PySem.Str → Option Value) : Prop where
  b_abs : mg "abs" = none
  b_bool : mg "bool" = none
  b_int : mg "int" = none
  b_isinstance : mg "isinstance" = none
  b_len : mg "len" = none
  b_list : mg "list" = none
  b_max : mg "max" = none
  b_min : mg "min" = none
  b_range : mg "range" = none
  b_repr : mg "repr" = none
  b_sum : mg "sum" = none
  b_tuple : mg "tuple" = none
  b_zip : mg "zip" = none
  g_ONE : GlobD K mg "ONE" g_ONE
def arN : Fn → Nat
  | .greatest_divisor => 2
  | .least_multiple => 2
  | .lowest => 2
  | .times => 2
  | .is_less => 2
  | .common_below => 1
  | .numbers_of => 1
  | .total => 1
  | .total_of_products => 2
  | .is_integer => 3
  | .is_fraction => 1
  | .is_fractions => 1
  | .lowered => 1
  | .is_shared => 1
  | .is_game => 1
  | .need_game => 1
  | .need_game_of => 2
  | .is_leaning => 1
  | .need_leaning => 1
  | .greatest_of => 1
  | .best_sum => 2
  | .news_or_none => 1
  | .need_news => 1
  | .product_of => 2
  | .noisy => 2
  | .worth_of => 3
  | .news_worth => 3
  | ._law_purse => 2
  | ._law_pull => 2
  | ._law_pick => 2
  | ._law_divisor => 2
  | ._law_low => 2
  | ._law_weights => 3
  | ._law_sheet => 4
  | ._law_shown => 2
  | ._law_low_sheet => 1
  | ._law_small_line => 1
  | ._law_blurred => 2
  | ._law_whole_bets => 1
  | ._law_worth => 3
  | ._law_bets => 2
  | ._law_shown_line => 2
  | ._law_great_bets => 3
  | ._law_chain_right => 4
  | ._law_single_right => 4
  | ._law_right => 1
  | .law => 1
structure Calls (K : PySem.W.Frag) (mg : PySem.Str → Option Value) (P : Program) (w : World) (base : Heap) (k : Nat) (G : Fn → FS) : Prop where
  ar : ∀ f xs cs, G f xs cs = .bad ∨ xs.length = arN f
  c__law_bets_0 : FnD K mg P w base k "_law_bets" 2 [] (G ._law_bets)
  c__law_blurred_0 : FnD K mg P w base k "_law_blurred" 2 [] (G ._law_blurred)
  c__law_chain_right_0 : FnD K mg P w base k "_law_chain_right" 4 [] (G ._law_chain_right)
  c__law_divisor_0 : FnD K mg P w base k "_law_divisor" 2 [] (G ._law_divisor)
  c__law_great_bets_0 : FnD K mg P w base k "_law_great_bets" 3 [] (G ._law_great_bets)
  c__law_low_0 : FnD K mg P w base k "_law_low" 2 [] (G ._law_low)
  c__law_low_sheet_0 : FnD K mg P w base k "_law_low_sheet" 1 [] (G ._law_low_sheet)
  c__law_pick_0 : FnD K mg P w base k "_law_pick" 2 [] (G ._law_pick)
  c__law_pull_0 : FnD K mg P w base k "_law_pull" 2 [] (G ._law_pull)
  c__law_purse_0 : FnD K mg P w base k "_law_purse" 2 [] (G ._law_purse)
  c__law_right_0 : FnD K mg P w base k "_law_right" 1 [] (G ._law_right)
  c__law_sheet_0 : FnD K mg P w base k "_law_sheet" 4 [] (G ._law_sheet)
  c__law_shown_0 : FnD K mg P w base k "_law_shown" 2 [] (G ._law_shown)
  c__law_shown_line_0 : FnD K mg P w base k "_law_shown_line" 2 [] (G ._law_shown_line)
  c__law_single_right_0 : FnD K mg P w base k "_law_single_right" 4 [] (G ._law_single_right)
  c__law_small_line_0 : FnD K mg P w base k "_law_small_line" 1 [] (G ._law_small_line)
  c__law_weights_0 : FnD K mg P w base k "_law_weights" 3 [] (G ._law_weights)
  c__law_whole_bets_0 : FnD K mg P w base k "_law_whole_bets" 1 [] (G ._law_whole_bets)
  c__law_worth_0 : FnD K mg P w base k "_law_worth" 3 [] (G ._law_worth)
  c_best_sum_0 : FnD K mg P w base k "best_sum" 2 [] (G .best_sum)
  c_common_below_0 : FnD K mg P w base k "common_below" 1 [] (G .common_below)
  c_greatest_divisor_0 : FnD K mg P w base k "greatest_divisor" 2 [] (G .greatest_divisor)
  c_greatest_of_0 : FnD K mg P w base k "greatest_of" 1 [] (G .greatest_of)
  c_is_fraction_0 : FnD K mg P w base k "is_fraction" 1 [] (G .is_fraction)
  c_is_fractions_0 : FnD K mg P w base k "is_fractions" 1 [] (G .is_fractions)
  c_is_game_0 : FnD K mg P w base k "is_game" 1 [] (G .is_game)
  c_is_integer_1 : FnD K mg P w base k "is_integer" 3 [(.d .none)] (G .is_integer)
  c_is_integer_2 : FnD K mg P w base k "is_integer" 3 [(.d .none), (.d .none)] (G .is_integer)
  c_is_leaning_0 : FnD K mg P w base k "is_leaning" 1 [] (G .is_leaning)
  c_is_less_0 : FnD K mg P w base k "is_less" 2 [] (G .is_less)
  c_is_shared_0 : FnD K mg P w base k "is_shared" 1 [] (G .is_shared)
  c_least_multiple_0 : FnD K mg P w base k "least_multiple" 2 [] (G .least_multiple)
  c_lowered_0 : FnD K mg P w base k "lowered" 1 [] (G .lowered)
  c_lowest_0 : FnD K mg P w base k "lowest" 2 [] (G .lowest)
  c_need_game_0 : FnD K mg P w base k "need_game" 1 [] (G .need_game)
  c_need_game_of_0 : FnD K mg P w base k "need_game_of" 2 [] (G .need_game_of)
  c_need_leaning_0 : FnD K mg P w base k "need_leaning" 1 [] (G .need_leaning)
  c_need_news_0 : FnD K mg P w base k "need_news" 1 [] (G .need_news)
  c_news_or_none_0 : FnD K mg P w base k "news_or_none" 1 [] (G .news_or_none)
  c_news_worth_0 : FnD K mg P w base k "news_worth" 3 [] (G .news_worth)
  c_noisy_0 : FnD K mg P w base k "noisy" 2 [] (G .noisy)
  c_numbers_of_0 : FnD K mg P w base k "numbers_of" 1 [] (G .numbers_of)
  c_product_of_0 : FnD K mg P w base k "product_of" 2 [] (G .product_of)
  c_times_0 : FnD K mg P w base k "times" 2 [] (G .times)
  c_total_0 : FnD K mg P w base k "total" 1 [] (G .total)
  c_total_of_products_0 : FnD K mg P w base k "total_of_products" 2 [] (G .total_of_products)
  c_worth_of_0 : FnD K mg P w base k "worth_of" 3 [] (G .worth_of)
  k_news_worth_2_1_0 : FnK K mg P w base k "news_worth" 3 ["game", "leaning", "news"] [2, 1, 0] (G .news_worth)
  k_noisy_1_0 : FnK K mg P w base k "noisy" 2 ["noise", "news"] [1, 0] (G .noisy)
section
variable {K : PySem.W.Frag} {mg : PySem.Str → Option Value} {P : Program} {w : World} {base : Heap} {k : Nat} {G : Fn → FS}
theorem d_greatest_divisor (X : Xs K mg) (C : Calls K mg P w base k G) : DSs (cfOf K mg P w base N_greatest_divisor sc_greatest_divisor k) (defBody (top 8)) (s_greatest_divisor G) := by
  unfold s_greatest_divisor
  exact (dss_cons (ds_set 2 (do_of (de_callB cd_abs X.b_abs (db_cons (de_var 0) db_nil))) nd_greatest_divisor) (dss_cons (ds_set 3 (do_of (de_callB cd_abs X.b_abs (db_cons (de_var 1) db_nil))) nd_greatest_divisor) (dss_cons (ds_while (dt_cmp od_gtI (de_var 3) de_int) (dss_cons (ds_set 4 (do_of (de_op od_subI (de_var 2) (de_op od_mul (de_op od_divI (de_var 2) (de_var 3)) (de_var 3)))) nd_greatest_divisor) (dss_cons (ds_set 2 (do_of (de_var 3)) nd_greatest_divisor) (dss_one (ds_set 3 (do_of (de_var 4)) nd_greatest_divisor))))) (dss_one (ds_retV 2)))))
theorem d_least_multiple (X : Xs K mg) (C : Calls K mg P w base k G) : DSs (cfOf K mg P w base N_least_multiple sc_least_multiple k) (defBody (top 9)) (s_least_multiple G) := by
  unfold s_least_multiple
  exact (dss_one (ds_ret (do_of (de_op od_mul (de_op od_divI (de_var 0) (de_fz (do_fn C.c_greatest_divisor_0 (C.ar .greatest_divisor) rfl (da_cons (de_var 0) (da_cons (de_var 1) da_nil))))) (de_var 1)))))
theorem d_lowest (X : Xs K mg) (C : Calls K mg P w base k G) : DSs (cfOf K mg P w base N_lowest sc_lowest k) (defBody (top 10)) (s_lowest G) := by
  unfold s_lowest
  exact (dss_cons (ds_set 2 (do_of (de_fz (do_fn C.c_greatest_divisor_0 (C.ar .greatest_divisor) rfl (da_cons (de_var 0) (da_cons (de_var 1) da_nil))))) nd_lowest) (dss_cons (ds_if (dt_cmp od_ltI (de_var 1) de_int) (dss_one (ds_set 2 (do_of (de_neg (de_var 2))) nd_lowest)) dss_nil) (dss_one (ds_ret (do_of (de_tup (da_cons (de_op od_divI (de_var 0) (de_var 2)) (da_cons (de_op od_divI (de_var 1) (de_var 2)) da_nil))))))))
theorem d_times (X : Xs K mg) (C : Calls K mg P w base k G) : DSs (cfOf K mg P w base N_times sc_times k) (defBody (top 11)) (s_times G) := by
  unfold s_times
  exact (dss_one (ds_ret (do_fn C.c_lowest_0 (C.ar .lowest) rfl (da_cons (de_op od_mul (de_ix (de_var 0) de_int) (de_ix (de_var 1) de_int)) (da_cons (de_op od_mul (de_ix (de_var 0) de_int) (de_ix (de_var 1) de_int)) da_nil)))))
theorem d_is_less (X : Xs K mg) (C : Calls K mg P w base k G) : DSs (cfOf K mg P w base N_is_less sc_is_less k) (defBody (top 12)) (s_is_less G) := by
  unfold s_is_less
  exact (dss_one (ds_ret (do_of (de_cmp od_ltI (de_op od_mul (de_ix (de_var 0) de_int) (de_ix (de_var 1) de_int)) (de_op od_mul (de_ix (de_var 1) de_int) (de_ix (de_var 0) de_int))))))
theorem d_common_below (X : Xs K mg) (C : Calls K mg P w base k G) : DSs (cfOf K mg P w base N_common_below sc_common_below k) (defBody (top 13)) (s_common_below G) := by
  unfold s_common_below
  exact (dss_cons (ds_set 1 (do_of de_int) nd_common_below) (dss_cons (ds_for rfl (dp_seq (de_var 0)) (dg_name 2 nd_common_below) (dss_one (ds_if (dt_cmp od_ne (de_ix (de_var 2) de_int) de_int) (dss_fz 1 (dss_one (ds_set 1 (do_fn C.c_least_multiple_0 (C.ar .least_multiple) rfl (da_cons (de_var 1) (da_cons (de_ix (de_var 2) de_int) da_nil))) nd_common_below))) dss_nil))) (dss_one (ds_retV 1))))
theorem d_numbers_of (X : Xs K mg) (C : Calls K mg P w base k G) : DSs (cfOf K mg P w base N_numbers_of sc_numbers_of k) (defBody (top 14)) (s_numbers_of G) := by
  unfold s_numbers_of
  exact (dss_cons (ds_set 1 (do_of (de_fz (do_fn C.c_common_below_0 (C.ar .common_below) rfl (da_cons (de_var 0) da_nil)))) nd_numbers_of) (dss_one (ds_ret (do_lc (own := [("fraction", 2)]) rfl nd_numbers_of (by show BlkOk N_numbers_of sc_numbers_of _ _; exact ⟨rfl, by decide +kernel, by decide +kernel, by decide +kernel, by decide +kernel⟩) (dp_seq (de_var 0)) (dg_name 2 nd_numbers_of) dts_nil (de_op od_mul (de_ix (de_var 2) de_int) (de_op od_divI (de_var 1) (de_ix (de_var 2) de_int)))))))
theorem d_total (X : Xs K mg) (C : Calls K mg P w base k G) : DSs (cfOf K mg P w base N_total sc_total k) (defBody (top 15)) (s_total G) := by
  unfold s_total
  exact (dss_cons (ds_set 1 (do_of (de_callT cd_list X.b_list (db_cons (de_var 0) db_nil))) nd_total) (dss_one (ds_ret (do_fn C.c_lowest_0 (C.ar .lowest) rfl (da_cons (de_callB (cd_sum rfl) X.b_sum (db_cons (de_fz (do_fn C.c_numbers_of_0 (C.ar .numbers_of) rfl (da_cons (de_var 1) da_nil))) db_nil)) (da_cons (de_fz (do_fn C.c_common_below_0 (C.ar .common_below) rfl (da_cons (de_var 1) da_nil))) da_nil))))))
theorem d_total_of_products (X : Xs K mg) (C : Calls K mg P w base k G) : DSs (cfOf K mg P w base N_total_of_products sc_total_of_products k) (defBody (top 16)) (s_total_of_products G) := by
  unfold s_total_of_products
  exact (dss_cons (ds_setLc 2 (own := [("one", 3), ("other", 4)]) rfl nd_total_of_products (by show BlkOk N_total_of_products sc_total_of_products _ _; exact ⟨rfl, by decide +kernel, by decide +kernel, by decide +kernel, by decide +kernel⟩) (dp_zip X.b_zip (db_cons (de_var 0) (db_cons (de_var 1) db_nil))) (dg_tup rfl (dgs_cons (dg_name 3 nd_total_of_products) (dgs_cons (dg_name 4 nd_total_of_products) dgs_nil)) (gs_lenS (gs_lenS gs_len0))) (dts_one (DW.dt (dw_and (dt_cmp od_ne (de_ix (de_var 3) de_int) de_int) (dw_and1 (dt_cmp od_ne (de_ix (de_var 4) de_int) de_int))))) (de_tup (da_cons (de_op od_mul (de_ix (de_var 3) de_int) (de_ix (de_var 4) de_int)) (da_cons (de_op od_mul (de_ix (de_var 3) de_int) (de_ix (de_var 4) de_int)) da_nil))) rfl rfl rfl rfl) (dss_fz 2 (dss_one (ds_ret (do_fn C.c_total_0 (C.ar .total) rfl (da_cons (de_var 2) da_nil))))))
theorem d_is_integer (X : Xs K mg) (C : Calls K mg P w base k G) : DSs (cfOf K mg P w base N_is_integer sc_is_integer k) (defBody (top 18)) (s_is_integer G) := by
  unfold s_is_integer
  exact (dss_cons (ds_if (DW.dt (dw_or (dt_not (dt_truth (de_isi .int X.b_isinstance X.b_int (de_var 0)))) (dw_or1 (dt_truth (de_isi .bool X.b_isinstance X.b_bool (de_var 0)))))) (dss_one (ds_ret (do_of de_bl))) dss_nil) (dss_one (ds_ret (do_of (de_and (de_or (de_cmp od_is (de_var 1) de_non) (de_one (de_cmp od_geI (de_var 0) (de_var 1)))) (de_one (de_or (de_cmp od_is (de_var 2) de_non) (de_one (de_cmp od_leI (de_var 0) (de_var 2))))))))))
theorem d_is_fraction (X : Xs K mg) (C : Calls K mg P w base k G) : DSs (cfOf K mg P w base N_is_fraction sc_is_fraction k) (defBody (top 19)) (s_is_fraction G) := by
  unfold s_is_fraction
  exact (dss_one (ds_ret (do_of (de_and (de_isi .tuple X.b_isinstance X.b_tuple (de_var 0)) (de_and (de_cmp od_eq (de_callB cd_len X.b_len (db_cons (de_var 0) db_nil)) de_int) (de_and (de_fz (do_fn C.c_is_integer_2 (C.ar .is_integer) rfl (da_cons (de_ix (de_var 0) de_int) da_nil))) (de_one (de_fz (do_fn C.c_is_integer_1 (C.ar .is_integer) rfl (da_cons (de_ix (de_var 0) de_int) (da_cons de_int da_nil)))))))))))
theorem d_is_fractions (X : Xs K mg) (C : Calls K mg P w base k G) : DSs (cfOf K mg P w base N_is_fractions sc_is_fractions k) (defBody (top 21)) (s_is_fractions G) := by
  unfold s_is_fractions
  exact (dss_one (ds_ret (do_of (de_and (de_isi .tuple X.b_isinstance X.b_tuple (de_var 0)) (de_and (de_cmp od_gtI (de_callB cd_len X.b_len (db_cons (de_var 0) db_nil)) de_int) (de_one (de_cmp od_notIn de_bl (de_fz (do_lc (own := [("one", 1)]) rfl nd_is_fractions (by show BlkOk N_is_fractions sc_is_fractions _ _; exact ⟨rfl, by decide +kernel, by decide +kernel, by decide +kernel, by decide +kernel⟩) (dp_seq (de_var 0)) (dg_name 1 nd_is_fractions) dts_nil (de_fz (do_fn C.c_is_fraction_0 (C.ar .is_fraction) rfl (da_cons (de_var 1) da_nil))))))))))))
theorem d_lowered (X : Xs K mg) (C : Calls K mg P w base k G) : DSs (cfOf K mg P w base N_lowered sc_lowered k) (defBody (top 22)) (s_lowered G) := by
  unfold s_lowered
  exact (dss_one (ds_ret (do_of (de_callT cd_tuple X.b_tuple (db_cons (de_fz (do_lc (own := [("one", 1)]) rfl nd_lowered (by show BlkOk N_lowered sc_lowered _ _; exact ⟨rfl, by decide +kernel, by decide +kernel, by decide +kernel, by decide +kernel⟩) (dp_seq (de_var 0)) (dg_name 1 nd_lowered) dts_nil (de_fz (do_fn C.c_lowest_0 (C.ar .lowest) rfl (da_cons (de_ix (de_var 1) de_int) (da_cons (de_ix (de_var 1) de_int) da_nil)))))) db_nil)))))
theorem d_is_shared (X : Xs K mg) (C : Calls K mg P w base k G) : DSs (cfOf K mg P w base N_is_shared sc_is_shared k) (defBody (top 23)) (s_is_shared G) := by
  unfold s_is_shared
  exact (dss_one (ds_ret (do_of (de_and (de_cmp od_notIn de_bl (de_fz (do_lc (own := [("one", 1)]) rfl nd_is_shared (by show BlkOk N_is_shared sc_is_shared _ _; exact ⟨rfl, by decide +kernel, by decide +kernel, by decide +kernel, by decide +kernel⟩) (dp_seq (de_var 0)) (dg_name 1 nd_is_shared) dts_nil (de_cmp od_geI (de_ix (de_var 1) de_int) de_int)))) (de_one (de_cmp od_eq (de_fz (do_fn C.c_total_0 (C.ar .total) rfl (da_cons (de_callT cd_list X.b_list (db_cons (de_var 0) db_nil)) da_nil))) (de_glob X.g_ONE)))))))
theorem d_is_game (X : Xs K mg) (C : Calls K mg P w base k G) : DSs (cfOf K mg P w base N_is_game sc_is_game k) (defBody (top 24)) (s_is_game G) := by
  unfold s_is_game
  exact (dss_cons (ds_if (DW.dt (dw_or (dt_not (dt_truth (de_isi .tuple X.b_isinstance X.b_tuple (de_var 0)))) (dw_or1 (dt_not (dt_chain od_leI od_leI de_int (de_callB cd_len X.b_len (db_cons (de_var 0) db_nil)) de_int))))) (dss_one (ds_ret (do_of de_bl))) dss_nil) (dss_cons (ds_for rfl (dp_seq (de_var 0)) (dg_name 1 nd_is_game) (dss_one (ds_if (DW.dt (dw_or (dt_not (dt_truth (de_fz (do_fn C.c_is_fractions_0 (C.ar .is_fractions) rfl (da_cons (de_var 1) da_nil))))) (dw_or1 (dt_cmp od_ne (de_callB cd_len X.b_len (db_cons (de_var 1) db_nil)) (de_callB cd_len X.b_len (db_cons (de_ix (de_var 0) de_int) db_nil)))))) (dss_one (ds_ret (do_of de_bl))) dss_nil))) (dss_one (ds_ret (do_of de_bl)))))
theorem d_need_game (X : Xs K mg) (C : Calls K mg P w base k G) : DSs (cfOf K mg P w base N_need_game sc_need_game k) (defBody (top 25)) (s_need_game G) := by
  unfold s_need_game
  exact (dss_cons (ds_if (dt_not (dt_truth (de_fz (do_fn C.c_is_game_0 (C.ar .is_game) rfl (da_cons (de_var 0) da_nil))))) (dss_one ds_bad) dss_nil) (dss_one (ds_ret (do_of (de_callT cd_tuple X.b_tuple (db_cons (de_fz (do_lc (own := [("action", 1)]) rfl nd_need_game (by show BlkOk N_need_game sc_need_game _ _; exact ⟨rfl, by decide +kernel, by decide +kernel, by decide +kernel, by decide +kernel⟩) (dp_seq (de_var 0)) (dg_name 1 nd_need_game) dts_nil (de_fz (do_fn C.c_lowered_0 (C.ar .lowered) rfl (da_cons (de_var 1) da_nil))))) db_nil))))))
theorem d_need_game_of (X : Xs K mg) (C : Calls K mg P w base k G) : DSs (cfOf K mg P w base N_need_game_of sc_need_game_of k) (defBody (top 26)) (s_need_game_of G) := by
  unfold s_need_game_of
  exact (dss_one (ds_if (dt_cmp od_ne (de_callB cd_len X.b_len (db_cons (de_ix (de_var 0) de_int) db_nil)) (de_var 1)) (dss_one ds_bad) dss_nil))
theorem d_is_leaning (X : Xs K mg) (C : Calls K mg P w base k G) : DSs (cfOf K mg P w base N_is_leaning sc_is_leaning k) (defBody (top 27)) (s_is_leaning G) := by
  unfold s_is_leaning
  exact (dss_one (ds_ret (do_of (de_and (de_fz (do_fn C.c_is_fractions_0 (C.ar .is_fractions) rfl (da_cons (de_var 0) da_nil))) (de_one (de_fz (do_fn C.c_is_shared_0 (C.ar .is_shared) rfl (da_cons (de_fz (do_fn C.c_lowered_0 (C.ar .lowered) rfl (da_cons (de_var 0) da_nil))) da_nil))))))))
theorem d_need_leaning (X : Xs K mg) (C : Calls K mg P w base k G) : DSs (cfOf K mg P w base N_need_leaning sc_need_leaning k) (defBody (top 28)) (s_need_leaning G) := by
  unfold s_need_leaning
  exact (dss_cons (ds_if (dt_not (dt_truth (de_fz (do_fn C.c_is_leaning_0 (C.ar .is_leaning) rfl (da_cons (de_var 0) da_nil))))) (dss_one ds_bad) dss_nil) (dss_one (ds_ret (do_fn C.c_lowered_0 (C.ar .lowered) rfl (da_cons (de_var 0) da_nil)))))
theorem d_greatest_of (X : Xs K mg) (C : Calls K mg P w base k G) : DSs (cfOf K mg P w base N_greatest_of sc_greatest_of k) (defBody (top 29)) (s_greatest_of G) := by
  unfold s_greatest_of
  exact (dss_cons (ds_set 1 (do_of (de_ix (de_var 0) de_int)) nd_greatest_of) (dss_cons (ds_for rfl (dp_seq (de_var 0)) (dg_name 2 nd_greatest_of) (dss_fz 1 (dss_one (ds_if (dt_truth (de_fz (do_fn C.c_is_less_0 (C.ar .is_less) rfl (da_cons (de_var 1) (da_cons (de_var 2) da_nil))))) (dss_one (ds_set 1 (do_of (de_var 2)) nd_greatest_of)) dss_nil)))) (dss_one (ds_retV 1))))
theorem d_best_sum (X : Xs K mg) (C : Calls K mg P w base k G) : DSs (cfOf K mg P w base N_best_sum sc_best_sum k) (defBody (top 30)) (s_best_sum G) := by
  unfold s_best_sum
  exact (dss_one (ds_ret (do_fn C.c_greatest_of_0 (C.ar .greatest_of) rfl (da_cons (de_fz (do_lc (own := [("action", 2)]) rfl nd_best_sum (by show BlkOk N_best_sum sc_best_sum _ _; exact ⟨rfl, by decide +kernel, by decide +kernel, by decide +kernel, by decide +kernel⟩) (dp_seq (de_var 0)) (dg_name 2 nd_best_sum) dts_nil (de_fz (do_fn C.c_total_of_products_0 (C.ar .total_of_products) rfl (da_cons (de_var 1) (da_cons (de_callT cd_list X.b_list (db_cons (de_var 2) db_nil)) da_nil)))))) da_nil))))
theorem d_news_or_none (X : Xs K mg) (C : Calls K mg P w base k G) : DSs (cfOf K mg P w base N_news_or_none sc_news_or_none k) (defBody (top 32)) (s_news_or_none G) := by
  unfold s_news_or_none
  exact (dss_cons (ds_if (DW.dt (dw_or (dt_not (dt_truth (de_isi .tuple X.b_isinstance X.b_tuple (de_var 0)))) (dw_or1 (dt_not (dt_chain od_leI od_leI de_int (de_callB cd_len X.b_len (db_cons (de_var 0) db_nil)) de_int))))) (dss_one (ds_ret (do_of de_non))) dss_nil) (dss_cons (ds_for rfl (dp_seq (de_var 0)) (dg_name 1 nd_news_or_none) (dss_one (ds_if (DW.dt (dw_or (dt_not (dt_truth (de_fz (do_fn C.c_is_fractions_0 (C.ar .is_fractions) rfl (da_cons (de_var 1) da_nil))))) (dw_or (dt_cmp od_gtI (de_callB cd_len X.b_len (db_cons (de_var 1) db_nil)) de_int) (dw_or (dt_cmp od_ne (de_callB cd_len X.b_len (db_cons (de_var 1) db_nil)) (de_callB cd_len X.b_len (db_cons (de_ix (de_var 0) de_int) db_nil))) (dw_or1 (dt_not (dt_truth (de_fz (do_fn C.c_is_shared_0 (C.ar .is_shared) rfl (da_cons (de_fz (do_fn C.c_lowered_0 (C.ar .lowered) rfl (da_cons (de_var 1) da_nil))) da_nil)))))))))) (dss_one (ds_ret (do_of de_non))) dss_nil))) (dss_one (ds_ret (do_of (de_callT cd_tuple X.b_tuple (db_cons (de_fz (do_lc (own := [("row", 1)]) rfl nd_news_or_none (by show BlkOk N_news_or_none sc_news_or_none _ _; exact ⟨rfl, by decide +kernel, by decide +kernel, by decide +kernel, by decide +kernel⟩) (dp_seq (de_var 0)) (dg_name 1 nd_news_or_none) dts_nil (de_fz (do_fn C.c_lowered_0 (C.ar .lowered) rfl (da_cons (de_var 1) da_nil))))) db_nil)))))))
theorem d_need_news (X : Xs K mg) (C : Calls K mg P w base k G) : DSs (cfOf K mg P w base N_need_news sc_need_news k) (defBody (top 33)) (s_need_news G) := by
  unfold s_need_news
  exact (dss_cons (ds_set 1 (do_fn C.c_news_or_none_0 (C.ar .news_or_none) rfl (da_cons (de_var 0) da_nil)) nd_need_news) (dss_cons (ds_if (dt_cmp od_is (de_var 1) de_non) (dss_one ds_bad) dss_nil) (dss_one (ds_retV 1))))
theorem d_product_of (X : Xs K mg) (C : Calls K mg P w base k G) : DSs (cfOf K mg P w base N_product_of sc_product_of k) (defBody (top 34)) (s_product_of G) := by
  unfold s_product_of
  exact (dss_cons (ds_setC 2 (do_lc (own := [("place", 3)]) rfl nd_product_of (by show BlkOk N_product_of sc_product_of _ _; exact ⟨rfl, by decide +kernel, by decide +kernel, by decide +kernel, by decide +kernel⟩) (dp_range1 X.b_range (db_cons (de_callB cd_len X.b_len (db_cons (de_ix (de_var 1) de_int) db_nil)) db_nil)) (dg_name 3 nd_product_of) dts_nil (de_fz (do_lc (own := [("row", 4)]) rfl nd_product_of (by show BlkOk N_product_of (relS _ sc_product_of) _ _; exact ⟨rfl, by decide +kernel, by decide +kernel, by decide +kernel, by decide +kernel⟩) (dp_seq (de_var 1)) (dg_name 4 nd_product_of) dts_nil (de_ix (de_var 4) (de_var 3))))) nd_product_of) (dss_fz 2 (dss_one (ds_ret (do_of (de_callT cd_tuple X.b_tuple (db_cons (de_fz (do_lc (own := [("row", 4)]) rfl nd_product_of (by show BlkOk N_product_of sc_product_of _ _; exact ⟨rfl, by decide +kernel, by decide +kernel, by decide +kernel, by decide +kernel⟩) (dp_seq (de_var 0)) (dg_name 4 nd_product_of) dts_nil (de_callT cd_tuple X.b_tuple (db_cons (de_fz (do_lc (own := [("column", 5)]) rfl nd_product_of (by show BlkOk N_product_of (relS _ sc_product_of) _ _; exact ⟨rfl, by decide +kernel, by decide +kernel, by decide +kernel, by decide +kernel⟩) (dp_seq (de_var 2)) (dg_name 5 nd_product_of) dts_nil (de_fz (do_fn C.c_total_of_products_0 (C.ar .total_of_products) rfl (da_cons (de_callT cd_list X.b_list (db_cons (de_var 4) db_nil)) (da_cons (de_var 5) da_nil)))))) db_nil)))) db_nil)))))))
theorem d_noisy (X : Xs K mg) (C : Calls K mg P w base k G) : DSs (cfOf K mg P w base N_noisy sc_noisy k) (defBody (top 35)) (s_noisy G) := by
  unfold s_noisy
  exact (dss_cons (ds_par 2 3 rfl nd_noisy rfl (da_cons (de_fz (do_fn C.c_need_news_0 (C.ar .need_news) rfl (da_cons (de_var 0) da_nil))) (da_cons (de_fz (do_fn C.c_news_or_none_0 (C.ar .news_or_none) rfl (da_cons (de_var 1) da_nil))) da_nil))) (dss_cons (ds_if (DW.dt (dw_or (dt_cmp od_is (de_var 3) de_non) (dw_or1 (dt_cmp od_ne (de_callB cd_len X.b_len (db_cons (de_var 3) db_nil)) (de_callB cd_len X.b_len (db_cons (de_ix (de_var 2) de_int) db_nil)))))) (dss_one ds_bad) dss_nil) (dss_one (ds_ret (do_fn C.c_product_of_0 (C.ar .product_of) rfl (da_cons (de_var 2) (da_cons (de_var 3) da_nil)))))))
theorem d_worth_of (X : Xs K mg) (C : Calls K mg P w base k G) : DSs (cfOf K mg P w base N_worth_of sc_worth_of k) (defBody (top 36)) (s_worth_of G) := by
  unfold s_worth_of
  exact (dss_cons (ds_set 3 (do_lst da_nil) nd_worth_of) (dss_cons (ds_for rfl (dp_range1 X.b_range (db_cons (de_callB cd_len X.b_len (db_cons (de_ix (de_var 0) de_int) db_nil)) db_nil)) (dg_name 4 nd_worth_of) (dss_one (ds_append 3 (de_fz (do_fn C.c_best_sum_0 (C.ar .best_sum) rfl (da_cons (de_var 2) (da_cons (de_fz (do_lc (own := [("one", 5), ("row", 6)]) rfl nd_worth_of (by show BlkOk N_worth_of sc_worth_of _ _; exact ⟨rfl, by decide +kernel, by decide +kernel, by decide +kernel, by decide +kernel⟩) (dp_zip X.b_zip (db_cons (de_var 1) (db_cons (de_var 0) db_nil))) (dg_tup rfl (dgs_cons (dg_name 5 nd_worth_of) (dgs_cons (dg_name 6 nd_worth_of) dgs_nil)) (gs_lenS (gs_lenS gs_len0))) dts_nil (de_fz (do_fn C.c_times_0 (C.ar .times) rfl (da_cons (de_var 5) (da_cons (de_ix (de_var 6) (de_var 4)) da_nil)))))) da_nil))))))) (dss_fz 3 (dss_one (ds_ret (do_fn C.c_total_0 (C.ar .total) rfl (da_cons (de_var 3) da_nil)))))))
theorem d_news_worth (X : Xs K mg) (C : Calls K mg P w base k G) : DSs (cfOf K mg P w base N_news_worth sc_news_worth k) (defBody (top 37)) (s_news_worth G) := by
  unfold s_news_worth
  exact (dss_cons (ds_par3 3 4 5 rfl nd_news_worth rfl (da_cons (de_fz (do_fn C.c_need_news_0 (C.ar .need_news) rfl (da_cons (de_var 0) da_nil))) (da_cons (de_fz (do_fn C.c_need_leaning_0 (C.ar .need_leaning) rfl (da_cons (de_var 1) da_nil))) (da_cons (de_fz (do_fn C.c_need_game_0 (C.ar .need_game) rfl (da_cons (de_var 2) da_nil))) da_nil)))) (dss_cons (ds_if (dt_cmp od_ne (de_callB cd_len X.b_len (db_cons (de_var 4) db_nil)) (de_callB cd_len X.b_len (db_cons (de_var 3) db_nil))) (dss_one ds_bad) dss_nil) (dss_cons (ds_expr (de_fz (do_fn C.c_need_game_of_0 (C.ar .need_game_of) rfl (da_cons (de_var 5) (da_cons (de_callB cd_len X.b_len (db_cons (de_var 3) db_nil)) da_nil))))) (dss_one (ds_ret (do_fn C.c_worth_of_0 (C.ar .worth_of) rfl (da_cons (de_var 3) (da_cons (de_var 4) (da_cons (de_var 5) da_nil)))))))))
theorem d__law_purse (X : Xs K mg) (C : Calls K mg P w base k G) : DSs (cfOf K mg P w base N__law_purse sc__law_purse k) (defBody (top 39)) (s__law_purse G) := by
  unfold s__law_purse
  exact (dss_cons (ds_set 2 (do_of de_int) nd__law_purse) (dss_cons (ds_if (dt_cmp od_ltI (de_var 1) (de_callB cd_len X.b_len (db_cons (de_var 0) db_nil))) (dss_one (ds_set 2 (do_of (de_ix (de_var 0) (de_var 1))) nd__law_purse)) dss_nil) (dss_one (ds_ret (do_lst (da_cons (de_callB (cd_max rfl) X.b_max (db_cons de_int (db_cons (de_op od_subI (de_var 2) (de_op od_powI de_int de_int)) db_nil))) (da_cons (de_op od_add (de_op od_add (de_op od_modI (de_callT cd_int X.b_int (db_cons (de_var 2) db_nil)) (de_op od_add (de_op od_powI de_int de_int) de_int)) (de_op od_mul de_int (de_var 1))) de_int) (da_cons de_int da_nil))))))))
theorem d__law_pull (X : Xs K mg) (C : Calls K mg P w base k G) : DSs (cfOf K mg P w base N__law_pull sc__law_pull k) (defBody (top 40)) (s__law_pull G) := by
  unfold s__law_pull
  exact (dss_cons (ds_if (dt_cmp od_gtI (de_ix (de_var 0) de_int) de_int) (dss_cons (ds_set 2 (do_of (de_op od_modI (de_callT cd_int X.b_int (db_cons (de_ix (de_var 0) de_int) db_nil)) (de_var 1))) nd__law_pull) (dss_cons (ds_put 0 (de_op od_divI (de_ix (de_var 0) de_int) (de_var 1)) de_int) (dss_one (ds_retV 2)))) dss_nil) (dss_cons (ds_put 0 (de_op od_add (de_ix (de_var 0) de_int) de_int) de_int) (dss_cons (ds_set 3 (do_of (de_op od_modI (de_callT cd_int X.b_int (db_cons (de_op od_powW (de_op od_add (de_ix (de_var 0) de_int) (de_op od_mul de_int (de_ix (de_var 0) de_int))) de_int) db_nil)) (de_op od_add (de_op od_powI de_int de_int) de_int))) nd__law_pull) (dss_cons (ds_set 3 (do_of (de_op od_modI (de_callT cd_int X.b_int (db_cons (de_op od_add (de_op od_mul (de_var 3) (de_var 3)) (de_op od_mul de_int (de_ix (de_var 0) de_int))) db_nil)) (de_op od_add (de_op od_powI de_int de_int) de_int))) nd__law_pull) (dss_one (ds_ret (do_of (de_op od_modI (de_callT cd_int X.b_int (db_cons (de_op od_divI (de_var 3) (de_op od_powI de_int de_int)) db_nil)) (de_var 1)))))))))
theorem d__law_pick (X : Xs K mg) (C : Calls K mg P w base k G) : DSs (cfOf K mg P w base N__law_pick sc__law_pick k) (defBody (top 41)) (s__law_pick G) := by
  unfold s__law_pick
  exact (dss_one (ds_ret (do_of (de_ix (de_var 1) (de_fz (do_fn C.c__law_pull_0 (C.ar ._law_pull) rfl (da_cons (de_var 0) (da_cons (de_callB cd_len X.b_len (db_cons (de_var 1) db_nil)) da_nil))))))))
theorem d__law_divisor (X : Xs K mg) (C : Calls K mg P w base k G) : DSs (cfOf K mg P w base N__law_divisor sc__law_divisor k) (defBody (top 42)) (s__law_divisor G) := by
  unfold s__law_divisor
  exact (dss_cons (ds_while (dt_cmp od_gtI (de_var 1) de_int) (dss_one (ds_par 0 1 rfl nd__law_divisor rfl (da_cons (de_var 1) (da_cons (de_op od_modI (de_callT cd_int X.b_int (db_cons (de_var 0) db_nil)) (de_var 1)) da_nil))))) (dss_one (ds_ret (do_of (de_var 0)))))
theorem d__law_low (X : Xs K mg) (C : Calls K mg P w base k G) : DSs (cfOf K mg P w base N__law_low sc__law_low k) (defBody (top 43)) (s__law_low G) := by
  unfold s__law_low
  exact (dss_cons (ds_set 2 (do_of (de_fz (do_fn C.c__law_divisor_0 (C.ar ._law_divisor) rfl (da_cons (de_callB cd_abs X.b_abs (db_cons (de_var 0) db_nil)) (da_cons (de_var 1) da_nil))))) nd__law_low) (dss_one (ds_ret (do_of (de_tup (da_cons (de_op od_divI (de_var 0) (de_var 2)) (da_cons (de_op od_divI (de_var 1) (de_var 2)) da_nil)))))))
theorem d__law_weights (X : Xs K mg) (C : Calls K mg P w base k G) : DSs (cfOf K mg P w base N__law_weights sc__law_weights k) (defBody (top 44)) (s__law_weights G) := by
  unfold s__law_weights
  exact (dss_cons (ds_setLc 3 (own := [("_law_turn", 4)]) rfl nd__law_weights (by show BlkOk N__law_weights sc__law_weights _ _; exact ⟨rfl, by decide +kernel, by decide +kernel, by decide +kernel, by decide +kernel⟩) (dp_range1 X.b_range (db_cons (de_var 1) db_nil)) (dg_name 4 nd__law_weights) dts_nil (de_fz (do_fn C.c__law_pick_0 (C.ar ._law_pick) rfl (da_cons (de_var 0) (da_cons (de_lst (da_cons de_int (da_cons de_int (da_cons de_int (da_cons de_int (da_cons de_int (da_cons de_int (da_cons de_int (da_cons (de_op od_add de_int (de_fz (do_fn C.c__law_pull_0 (C.ar ._law_pull) rfl (da_cons (de_var 0) (da_cons de_int da_nil))))) da_nil))))))))) da_nil)))) rfl rfl rfl rfl) (dss_cons (ds_if (dt_truth (de_var 2)) (dss_one (ds_setLc 3 (own := [("_law_turn", 4)]) rfl nd__law_weights (by show BlkOk N__law_weights sc__law_weights _ _; exact ⟨rfl, by decide +kernel, by decide +kernel, by decide +kernel, by decide +kernel⟩) (dp_range1 X.b_range (db_cons (de_var 1) db_nil)) (dg_name 4 nd__law_weights) dts_nil (de_fz (do_fn C.c__law_pull_0 (C.ar ._law_pull) rfl (da_cons (de_var 0) (da_cons (de_op od_powI de_int de_int) da_nil)))) rfl rfl rfl rfl)) dss_nil) (dss_cons (ds_if (dt_cmp od_eq (de_callB (cd_sum rfl) X.b_sum (db_cons (de_var 3) db_nil)) de_int) (dss_one (ds_put 3 de_int (de_fz (do_fn C.c__law_pull_0 (C.ar ._law_pull) rfl (da_cons (de_var 0) (da_cons (de_var 1) da_nil)))))) dss_nil) (dss_one (ds_retV 3)))))
theorem d__law_sheet (X : Xs K mg) (C : Calls K mg P w base k G) : DSs (cfOf K mg P w base N__law_sheet sc__law_sheet k) (defBody (top 45)) (s__law_sheet G) := by
  unfold s__law_sheet
  exact (dss_one (ds_ret (do_lc (own := [("_law_turn", 4)]) rfl nd__law_sheet (by show BlkOk N__law_sheet sc__law_sheet _ _; exact ⟨rfl, by decide +kernel, by decide +kernel, by decide +kernel, by decide +kernel⟩) (dp_range1 X.b_range (db_cons (de_var 1) db_nil)) (dg_name 4 nd__law_sheet) dts_nil (de_fz (do_fn C.c__law_weights_0 (C.ar ._law_weights) rfl (da_cons (de_var 0) (da_cons (de_var 2) (da_cons (de_var 3) da_nil))))))))
theorem d__law_shown (X : Xs K mg) (C : Calls K mg P w base k G) : DSs (cfOf K mg P w base N__law_shown sc__law_shown k) (defBody (top 46)) (s__law_shown G) := by
  unfold s__law_shown
  exact (dss_cons (ds_set 2 (do_lst da_nil) nd__law_shown) (dss_cons (ds_for rfl (dp_seq (de_var 1)) (dg_name 3 nd__law_shown) (dss_cons (ds_set 4 (do_of (de_op od_add de_int (de_fz (do_fn C.c__law_pull_0 (C.ar ._law_pull) rfl (da_cons (de_var 0) (da_cons de_int da_nil)))))) nd__law_shown) (dss_one (ds_append 2 (de_callT cd_tuple X.b_tuple (db_cons (de_fz (do_lc (own := [("_law_weight", 5)]) rfl nd__law_shown (by show BlkOk N__law_shown sc__law_shown _ _; exact ⟨rfl, by decide +kernel, by decide +kernel, by decide +kernel, by decide +kernel⟩) (dp_seq (de_var 3)) (dg_name 5 nd__law_shown) dts_nil (de_tup (da_cons (de_op od_mul (de_var 5) (de_var 4)) (da_cons (de_op od_mul (de_callB (cd_sum rfl) X.b_sum (db_cons (de_var 3) db_nil)) (de_var 4)) da_nil))))) db_nil)))))) (dss_one (ds_ret (do_of (de_callT cd_tuple X.b_tuple (db_cons (de_var 2) db_nil)))))))
theorem d__law_low_sheet (X : Xs K mg) (C : Calls K mg P w base k G) : DSs (cfOf K mg P w base N__law_low_sheet sc__law_low_sheet k) (defBody (top 47)) (s__law_low_sheet G) := by
  unfold s__law_low_sheet
  exact (dss_one (ds_ret (do_of (de_callT cd_tuple X.b_tuple (db_cons (de_fz (do_lc (own := [("_law_line", 1)]) rfl nd__law_low_sheet (by show BlkOk N__law_low_sheet sc__law_low_sheet _ _; exact ⟨rfl, by decide +kernel, by decide +kernel, by decide +kernel, by decide +kernel⟩) (dp_seq (de_var 0)) (dg_name 1 nd__law_low_sheet) dts_nil (de_callT cd_tuple X.b_tuple (db_cons (de_fz (do_lc (own := [("_law_weight", 2)]) rfl nd__law_low_sheet (by show BlkOk N__law_low_sheet (relS _ sc__law_low_sheet) _ _; exact ⟨rfl, by decide +kernel, by decide +kernel, by decide +kernel, by decide +kernel⟩) (dp_seq (de_var 1)) (dg_name 2 nd__law_low_sheet) dts_nil (de_fz (do_fn C.c__law_low_0 (C.ar ._law_low) rfl (da_cons (de_var 2) (da_cons (de_callB (cd_sum rfl) X.b_sum (db_cons (de_var 1) db_nil)) da_nil)))))) db_nil)))) db_nil)))))
theorem d__law_small_line (X : Xs K mg) (C : Calls K mg P w base k G) : DSs (cfOf K mg P w base N__law_small_line sc__law_small_line k) (defBody (top 48)) (s__law_small_line G) := by
  unfold s__law_small_line
  exact (dss_cons (ds_set 1 (do_of de_int) nd__law_small_line) (dss_cons (ds_for rfl (dp_seq (de_var 0)) (dg_name 2 nd__law_small_line) (dss_one (ds_set 1 (do_of (de_fz (do_fn C.c__law_divisor_0 (C.ar ._law_divisor) rfl (da_cons (de_var 1) (da_cons (de_var 2) da_nil))))) nd__law_small_line))) (dss_one (ds_ret (do_lc (own := [("_law_weight", 2)]) rfl nd__law_small_line (by show BlkOk N__law_small_line sc__law_small_line _ _; exact ⟨rfl, by decide +kernel, by decide +kernel, by decide +kernel, by decide +kernel⟩) (dp_seq (de_var 0)) (dg_name 2 nd__law_small_line) dts_nil (de_op od_divI (de_var 2) (de_var 1)))))))
theorem d__law_blurred (X : Xs K mg) (C : Calls K mg P w base k G) : DSs (cfOf K mg P w base N__law_blurred sc__law_blurred k) (defBody (top 49)) (s__law_blurred G) := by
  unfold s__law_blurred
  exact (dss_cons (ds_parOC 2 3 rfl nd__law_blurred (.inl rfl) (do_of de_int) (do_lst da_nil)) (dss_cons (ds_for rfl (dp_seq (de_var 1)) (dg_name 4 nd__law_blurred) (dss_one (ds_set 2 (do_of (de_op od_mul (de_op od_divI (de_var 2) (de_fz (do_fn C.c__law_divisor_0 (C.ar ._law_divisor) rfl (da_cons (de_var 2) (da_cons (de_callB (cd_sum rfl) X.b_sum (db_cons (de_var 4) db_nil)) da_nil))))) (de_callB (cd_sum rfl) X.b_sum (db_cons (de_var 4) db_nil)))) nd__law_blurred))) (dss_cons (ds_for rfl (dp_seq (de_var 0)) (dg_name 4 nd__law_blurred) (dss_cons (ds_set 5 (do_of (de_op od_mul (de_lst (da_cons de_int da_nil)) (de_callB cd_len X.b_len (db_cons (de_ix (de_var 1) de_int) db_nil)))) nd__law_blurred) (dss_cons (ds_for rfl (dp_zip X.b_zip (db_cons (de_var 4) (db_cons (de_var 1) db_nil))) (dg_tup rfl (dgs_cons (dg_name 6 nd__law_blurred) (dgs_cons (dg_name 7 nd__law_blurred) dgs_nil)) (gs_lenS (gs_lenS gs_len0))) (dss_cons (ds_setLc 5 (own := [("_law_one", 8), ("_law_two", 9)]) rfl nd__law_blurred (by show BlkOk N__law_blurred sc__law_blurred _ _; exact ⟨rfl, by decide +kernel, by decide +kernel, by decide +kernel, by decide +kernel⟩) (dp_zip X.b_zip (db_cons (de_var 5) (db_cons (de_var 7) db_nil))) (dg_tup rfl (dgs_cons (dg_name 8 nd__law_blurred) (dgs_cons (dg_name 9 nd__law_blurred) dgs_nil)) (gs_lenS (gs_lenS gs_len0))) dts_nil (de_op od_add (de_var 8) (de_op od_mul (de_op od_mul (de_var 6) (de_var 9)) (de_op od_divI (de_var 2) (de_callB (cd_sum rfl) X.b_sum (db_cons (de_var 7) db_nil))))) rfl rfl rfl rfl) (dss_fz 5 dss_nil))) (dss_one (ds_append 3 (de_fz (do_fn C.c__law_small_line_0 (C.ar ._law_small_line) rfl (da_cons (de_var 5) da_nil)))))))) (dss_one (ds_retV 3)))))
theorem d__law_whole_bets (X : Xs K mg) (C : Calls K mg P w base k G) : DSs (cfOf K mg P w base N__law_whole_bets sc__law_whole_bets k) (defBody (top 50)) (s__law_whole_bets G) := by
  unfold s__law_whole_bets
  exact (dss_cons (ds_set 1 (do_of de_int) nd__law_whole_bets) (dss_cons (ds_for rfl (dp_seq (de_var 0)) (dg_name 2 nd__law_whole_bets) (dss_one (ds_for rfl (dp_seq (de_var 2)) (dg_name 3 nd__law_whole_bets) (dss_one (ds_set 1 (do_of (de_op od_mul (de_op od_divI (de_var 1) (de_fz (do_fn C.c__law_divisor_0 (C.ar ._law_divisor) rfl (da_cons (de_var 1) (da_cons (de_ix (de_var 3) de_int) da_nil))))) (de_ix (de_var 3) de_int))) nd__law_whole_bets))))) (dss_one (ds_ret (do_of (de_tup (da_cons (de_fz (do_lc (own := [("_law_action", 2)]) rfl nd__law_whole_bets (by show BlkOk N__law_whole_bets sc__law_whole_bets _ _; exact ⟨rfl, by decide +kernel, by decide +kernel, by decide +kernel, by decide +kernel⟩) (dp_seq (de_var 0)) (dg_name 2 nd__law_whole_bets) dts_nil (de_fz (do_lc (own := [("_law_one", 3)]) rfl nd__law_whole_bets (by show BlkOk N__law_whole_bets (relS _ sc__law_whole_bets) _ _; exact ⟨rfl, by decide +kernel, by decide +kernel, by decide +kernel, by decide +kernel⟩) (dp_seq (de_var 2)) (dg_name 3 nd__law_whole_bets) dts_nil (de_op od_mul (de_ix (de_var 3) de_int) (de_op od_divI (de_var 1) (de_ix (de_var 3) de_int))))))) (da_cons (de_var 1) da_nil))))))))
theorem d__law_worth (X : Xs K mg) (C : Calls K mg P w base k G) : DSs (cfOf K mg P w base N__law_worth sc__law_worth k) (defBody (top 51)) (s__law_worth G) := by
  unfold s__law_worth
  exact (dss_cons (ds_asg (de_fz (do_fn C.c__law_whole_bets_0 (C.ar ._law_whole_bets) rfl (da_cons (de_var 2) da_nil))) (dg_tup rfl (dgs_cons (dg_name 3 nd__law_worth) (dgs_cons (dg_name 4 nd__law_worth) dgs_nil)) (gs_lenS (gs_lenS gs_len0)))) (dss_cons (ds_asg2C (.inl rfl) (de_tup (da_cons de_int (da_cons de_int da_nil))) (dg_tup rfl (dgs_cons (dg_name 5 nd__law_worth) (dgs_cons (dg_name 6 nd__law_worth) dgs_nil)) (gs_lenS (gs_lenS gs_len0)))) (dss_cons (ds_for rfl (dp_seq (de_var 0)) (dg_name 7 nd__law_worth) (dss_one (ds_set 5 (do_of (de_op od_mul (de_op od_divI (de_var 5) (de_fz (do_fn C.c__law_divisor_0 (C.ar ._law_divisor) rfl (da_cons (de_var 5) (da_cons (de_callB (cd_sum rfl) X.b_sum (db_cons (de_var 7) db_nil)) da_nil))))) (de_callB (cd_sum rfl) X.b_sum (db_cons (de_var 7) db_nil)))) nd__law_worth))) (dss_cons (ds_for rfl (dp_range1 X.b_range (db_cons (de_callB cd_len X.b_len (db_cons (de_ix (de_var 0) de_int) db_nil)) db_nil)) (dg_name 8 nd__law_worth) (dss_cons (ds_setC 9 (do_lc (own := [("_law_one", 10), ("_law_line", 7)]) rfl nd__law_worth (by show BlkOk N__law_worth sc__law_worth _ _; exact ⟨rfl, by decide +kernel, by decide +kernel, by decide +kernel, by decide +kernel⟩) (dp_zip X.b_zip (db_cons (de_var 1) (db_cons (de_var 0) db_nil))) (dg_tup rfl (dgs_cons (dg_name 10 nd__law_worth) (dgs_cons (dg_name 7 nd__law_worth) dgs_nil)) (gs_lenS (gs_lenS gs_len0))) dts_nil (de_op od_mul (de_op od_mul (de_var 10) (de_ix (de_var 7) (de_var 8))) (de_op od_divI (de_var 5) (de_callB (cd_sum rfl) X.b_sum (db_cons (de_var 7) db_nil))))) nd__law_worth) (dss_fz 9 (dss_one (ds_set 6 (do_of (de_op od_add (de_var 6) (de_callB (cd_max rfl) X.b_max (db_cons (de_fz (do_lc (own := [("_law_action", 11)]) rfl nd__law_worth (by show BlkOk N__law_worth sc__law_worth _ _; exact ⟨rfl, by decide +kernel, by decide +kernel, by decide +kernel, by decide +kernel⟩) (dp_seq (de_var 3)) (dg_name 11 nd__law_worth) dts_nil (de_callB (cd_sum rfl) X.b_sum (db_cons (de_fz (do_lc (own := [("_law_one", 10), ("_law_two", 12)]) rfl nd__law_worth (by show BlkOk N__law_worth (relS _ sc__law_worth) _ _; exact ⟨rfl, by decide +kernel, by decide +kernel, by decide +kernel, by decide +kernel⟩) (dp_zip X.b_zip (db_cons (de_var 9) (db_cons (de_var 11) db_nil))) (dg_tup rfl (dgs_cons (dg_name 10 nd__law_worth) (dgs_cons (dg_name 12 nd__law_worth) dgs_nil)) (gs_lenS (gs_lenS gs_len0))) dts_nil (de_op od_mul (de_var 10) (de_var 12)))) db_nil)))) db_nil)))) nd__law_worth))))) (dss_one (ds_ret (do_fn C.c__law_low_0 (C.ar ._law_low) rfl (da_cons (de_var 6) (da_cons (de_op od_mul (de_op od_mul (de_var 5) (de_var 4)) (de_callB (cd_sum rfl) X.b_sum (db_cons (de_var 1) db_nil))) da_nil)))))))))
theorem d__law_bets (X : Xs K mg) (C : Calls K mg P w base k G) : DSs (cfOf K mg P w base N__law_bets sc__law_bets k) (defBody (top 52)) (s__law_bets G) := by
  unfold s__law_bets
  exact (dss_cons (ds_set 2 (do_lst da_nil) nd__law_bets) (dss_cons (ds_for rfl (dp_range1 X.b_range (db_cons (de_op od_add de_int (de_fz (do_fn C.c__law_pull_0 (C.ar ._law_pull) rfl (da_cons (de_var 0) (da_cons de_int da_nil))))) db_nil)) (dg_name 3 nd__law_bets) (dss_cons (ds_set 4 (do_of (de_op od_add de_int (de_fz (do_fn C.c__law_pull_0 (C.ar ._law_pull) rfl (da_cons (de_var 0) (da_cons de_int da_nil)))))) nd__law_bets) (dss_one (ds_append 2 (de_callT cd_tuple X.b_tuple (db_cons (de_fz (do_lc (own := [("_law_place", 5)]) rfl nd__law_bets (by show BlkOk N__law_bets sc__law_bets _ _; exact ⟨rfl, by decide +kernel, by decide +kernel, by decide +kernel, by decide +kernel⟩) (dp_range1 X.b_range (db_cons (de_var 1) db_nil)) (dg_name 5 nd__law_bets) dts_nil (de_tup (da_cons (de_op od_mul (de_op od_subI (de_fz (do_fn C.c__law_pull_0 (C.ar ._law_pull) rfl (da_cons (de_var 0) (da_cons de_int da_nil)))) de_int) (de_var 4)) (da_cons (de_op od_mul (de_op od_add de_int (de_fz (do_fn C.c__law_pull_0 (C.ar ._law_pull) rfl (da_cons (de_var 0) (da_cons de_int da_nil))))) (de_var 4)) da_nil))))) db_nil)))))) (dss_one (ds_ret (do_of (de_callT cd_tuple X.b_tuple (db_cons (de_var 2) db_nil)))))))
theorem d__law_shown_line (X : Xs K mg) (C : Calls K mg P w base k G) : DSs (cfOf K mg P w base N__law_shown_line sc__law_shown_line k) (defBody (top 53)) (s__law_shown_line G) := by
  unfold s__law_shown_line
  exact (dss_one (ds_ret (do_of (de_ix (de_fz (do_fn C.c__law_shown_0 (C.ar ._law_shown) rfl (da_cons (de_var 0) (da_cons (de_lst (da_cons (de_var 1) da_nil)) da_nil)))) de_int))))
theorem d__law_great_bets (X : Xs K mg) (C : Calls K mg P w base k G) : DSs (cfOf K mg P w base N__law_great_bets sc__law_great_bets k) (defBody (top 54)) (s__law_great_bets G) := by
  unfold s__law_great_bets
  exact (dss_cons (ds_set 3 (do_lst da_nil) nd__law_great_bets) (dss_cons (ds_for rfl (dp_seq (de_fz (do_fn C.c__law_bets_0 (C.ar ._law_bets) rfl (da_cons (de_var 0) (da_cons (de_var 1) da_nil))))) (dg_name 4 nd__law_great_bets) (dss_cons (ds_if (dt_truth (de_var 2)) (dss_one (ds_set 4 (do_of (de_op od_add (de_tup (da_cons (de_tup (da_cons (de_op od_subI (de_fz (do_fn C.c__law_pull_0 (C.ar ._law_pull) rfl (da_cons (de_var 0) (da_cons (de_op od_powI de_int de_int) da_nil)))) (de_op od_powI de_int de_int)) (da_cons (de_op od_add de_int (de_fz (do_fn C.c__law_pull_0 (C.ar ._law_pull) rfl (da_cons (de_var 0) (da_cons (de_op od_powI de_int de_int) da_nil))))) da_nil))) da_nil)) (de_slice (de_var 4) (di_some de_int) di_none))) nd__law_great_bets)) dss_nil) (dss_one (ds_append 3 (de_var 4))))) (dss_one (ds_ret (do_of (de_callT cd_tuple X.b_tuple (db_cons (de_var 3) db_nil)))))))
theorem d__law_chain_right (X : Xs K mg) (C : Calls K mg P w base k G) : DSs (cfOf K mg P w base N__law_chain_right sc__law_chain_right k) (defBody (top 55)) (s__law_chain_right G) := by
  unfold s__law_chain_right
  exact (dss_cons (ds_set 4 (do_of (de_fz (do_fn C.c__law_shown_0 (C.ar ._law_shown) rfl (da_cons (de_var 0) (da_cons (de_fz (do_fn C.c__law_sheet_0 (C.ar ._law_sheet) rfl (da_cons (de_var 0) (da_cons (de_var 3) (da_cons (de_op od_add de_int (de_fz (do_fn C.c__law_pull_0 (C.ar ._law_pull) rfl (da_cons (de_var 0) (da_cons de_int da_nil))))) (da_cons de_bl da_nil)))))) da_nil))))) nd__law_chain_right) (dss_one (ds_ret (do_of (de_cmp od_eq (de_fz (do_fn C.c_noisy_0 (C.ar .noisy) rfl (da_cons (de_fz (do_fn C.c_noisy_0 (C.ar .noisy) rfl (da_cons (de_var 1) (da_cons (de_var 2) da_nil)))) (da_cons (de_var 4) da_nil)))) (de_fz (do_fn C.c_noisy_0 (C.ar .noisy) rfl (da_cons (de_var 1) (da_cons (de_fz (do_fn C.c_noisy_0 (C.ar .noisy) rfl (da_cons (de_var 2) (da_cons (de_var 4) da_nil)))) da_nil)))))))))
theorem d__law_single_right (X : Xs K mg) (C : Calls K mg P w base k G) : DSs (cfOf K mg P w base N__law_single_right sc__law_single_right k) (defBody (top 56)) (s__law_single_right G) := by
  unfold s__law_single_right
  exact (dss_cons (ds_asg (de_fz (do_fn C.c__law_whole_bets_0 (C.ar ._law_whole_bets) rfl (da_cons (de_var 2) da_nil))) (dg_tup rfl (dgs_cons (dg_name 4 nd__law_single_right) (dgs_cons (dg_name 5 nd__law_single_right) dgs_nil)) (gs_lenS (gs_lenS gs_len0)))) (dss_cons (ds_set 6 (do_of (de_callB (cd_max rfl) X.b_max (db_cons (de_fz (do_lc (own := [("_law_action", 7)]) rfl nd__law_single_right (by show BlkOk N__law_single_right sc__law_single_right _ _; exact ⟨rfl, by decide +kernel, by decide +kernel, by decide +kernel, by decide +kernel⟩) (dp_seq (de_var 4)) (dg_name 7 nd__law_single_right) dts_nil (de_callB (cd_sum rfl) X.b_sum (db_cons (de_fz (do_lc (own := [("_law_one", 8), ("_law_two", 9)]) rfl nd__law_single_right (by show BlkOk N__law_single_right (relS _ sc__law_single_right) _ _; exact ⟨rfl, by decide +kernel, by decide +kernel, by decide +kernel, by decide +kernel⟩) (dp_zip X.b_zip (db_cons (de_var 1) (db_cons (de_var 7) db_nil))) (dg_tup rfl (dgs_cons (dg_name 8 nd__law_single_right) (dgs_cons (dg_name 9 nd__law_single_right) dgs_nil)) (gs_lenS (gs_lenS gs_len0))) dts_nil (de_op od_mul (de_var 8) (de_var 9)))) db_nil)))) db_nil))) nd__law_single_right) (dss_one (ds_ret (do_of (de_or (de_cmp od_gtI (de_callB cd_len X.b_len (db_cons (de_ix (de_var 0) de_int) db_nil)) de_int) (de_one (de_cmp od_eq (de_var 3) (de_fz (do_fn C.c__law_low_0 (C.ar ._law_low) rfl (da_cons (de_var 6) (da_cons (de_op od_mul (de_var 5) (de_callB (cd_sum rfl) X.b_sum (db_cons (de_var 1) db_nil))) da_nil))))))))))))
theorem d__law_right (X : Xs K mg) (C : Calls K mg P w base k G) : DSs (cfOf K mg P w base N__law_right sc__law_right k) (defBody (top 57)) (s__law_right G) := by
  unfold s__law_right
  exact (dss_cons (ds_par 1 2 rfl nd__law_right rfl (da_cons (de_cmp od_eq (de_fz (do_fn C.c__law_pull_0 (C.ar ._law_pull) rfl (da_cons (de_var 0) (da_cons de_int da_nil)))) de_int) (da_cons de_int da_nil))) (dss_cons (ds_if (dt_truth (de_var 1)) (dss_one (ds_set 2 (do_of de_int) nd__law_right)) dss_nil) (dss_cons (ds_par3C 3 4 5 rfl nd__law_right (.inr (.inl rfl)) (da_cons (de_op od_add de_int (de_fz (do_fn C.c__law_pull_0 (C.ar ._law_pull) rfl (da_cons (de_var 0) (da_cons (de_var 2) da_nil))))) (da_cons (de_op od_add de_int (de_fz (do_fn C.c__law_pull_0 (C.ar ._law_pull) rfl (da_cons (de_var 0) (da_cons (de_var 2) da_nil))))) (da_cons (de_op od_add de_int (de_fz (do_fn C.c__law_pull_0 (C.ar ._law_pull) rfl (da_cons (de_var 0) (da_cons (de_var 2) da_nil))))) da_nil)))) (dss_cons (ds_par 6 7 rfl nd__law_right rfl (da_cons (de_fz (do_fn C.c__law_sheet_0 (C.ar ._law_sheet) rfl (da_cons (de_var 0) (da_cons (de_var 3) (da_cons (de_var 4) (da_cons (de_var 1) da_nil)))))) (da_cons (de_fz (do_fn C.c__law_sheet_0 (C.ar ._law_sheet) rfl (da_cons (de_var 0) (da_cons (de_var 4) (da_cons (de_var 5) (da_cons (de_and (de_var 1) (de_one (de_cmp od_eq (de_fz (do_fn C.c__law_pull_0 (C.ar ._law_pull) rfl (da_cons (de_var 0) (da_cons de_int da_nil)))) de_int))) da_nil)))))) da_nil))) (dss_cons (ds_par3 8 9 10 rfl nd__law_right rfl (da_cons (de_fz (do_fn C.c__law_shown_0 (C.ar ._law_shown) rfl (da_cons (de_var 0) (da_cons (de_var 6) da_nil)))) (da_cons (de_fz (do_fn C.c__law_shown_0 (C.ar ._law_shown) rfl (da_cons (de_var 0) (da_cons (de_var 7) da_nil)))) (da_cons (de_fz (do_fn C.c__law_blurred_0 (C.ar ._law_blurred) rfl (da_cons (de_var 6) (da_cons (de_var 7) da_nil)))) da_nil)))) (dss_cons (ds_set 11 (do_of (de_callB (cd_reprW rfl) X.b_repr (db_cons (de_fz (do_fn C.c__law_low_sheet_0 (C.ar ._law_low_sheet) rfl (da_cons (de_var 10) da_nil))) db_nil))) nd__law_right) (dss_cons (ds_if (DW.dt (dw_or (dt_cmp od_ne (de_callB (cd_reprW rfl) X.b_repr (db_cons (de_fz (do_fn C.c_noisy_0 (C.ar .noisy) rfl (da_cons (de_var 8) (da_cons (de_var 9) da_nil)))) db_nil)) (de_var 11)) (dw_or1 (dt_cmp od_ne (de_callB (cd_reprW rfl) X.b_repr (db_cons (de_fz (do_defK C.k_noisy_1_0 rfl (dk_cons (de_var 9) (dk_cons (de_var 8) dk_nil)))) db_nil)) (de_var 11))))) (dss_one (ds_ret (do_of de_bl))) dss_nil) (dss_cons (ds_set 12 (do_of (de_fz (do_fn C.c__law_weights_0 (C.ar ._law_weights) rfl (da_cons (de_var 0) (da_cons (de_var 3) (da_cons (de_var 1) da_nil)))))) nd__law_right) (dss_cons (ds_par 13 14 rfl nd__law_right rfl (da_cons (de_fz (do_fn C.c__law_great_bets_0 (C.ar ._law_great_bets) rfl (da_cons (de_var 0) (da_cons (de_var 3) (da_cons (de_var 1) da_nil))))) (da_cons (de_fz (do_fn C.c__law_shown_line_0 (C.ar ._law_shown_line) rfl (da_cons (de_var 0) (da_cons (de_var 12) da_nil)))) da_nil))) (dss_cons (ds_set 15 (do_of (de_fz (do_fn C.c_news_worth_0 (C.ar .news_worth) rfl (da_cons (de_var 8) (da_cons (de_var 14) (da_cons (de_var 13) da_nil)))))) nd__law_right) (dss_cons (ds_if (DW.dt (dw_or (dt_cmp od_ne (de_callB (cd_reprW rfl) X.b_repr (db_cons (de_var 15) db_nil)) (de_callB (cd_reprW rfl) X.b_repr (db_cons (de_fz (do_fn C.c__law_worth_0 (C.ar ._law_worth) rfl (da_cons (de_var 6) (da_cons (de_var 12) (da_cons (de_var 13) da_nil))))) db_nil))) (dw_or1 (dt_cmp od_ne (de_callB (cd_reprW rfl) X.b_repr (db_cons (de_fz (do_defK C.k_news_worth_2_1_0 rfl (dk_cons (de_var 13) (dk_cons (de_var 14) (dk_cons (de_var 8) dk_nil))))) db_nil)) (de_callB (cd_reprW rfl) X.b_repr (db_cons (de_var 15) db_nil)))))) (dss_one (ds_ret (do_of de_bl))) dss_nil) (dss_cons (ds_set 16 (do_of (de_callT cd_tuple X.b_tuple (db_cons (de_fz (do_lc (own := [("_law_turn", 18)]) rfl nd__law_right (by show BlkOk N__law_right sc__law_right _ _; exact ⟨rfl, by decide +kernel, by decide +kernel, by decide +kernel, by decide +kernel⟩) (dp_range1 X.b_range (db_cons (de_var 4) db_nil)) (dg_name 18 nd__law_right) dts_nil (de_callT cd_tuple X.b_tuple (db_cons (de_fz (do_lc (own := [("_law_place", 19)]) rfl nd__law_right (by show BlkOk N__law_right (relS _ sc__law_right) _ _; exact ⟨rfl, by decide +kernel, by decide +kernel, by decide +kernel, by decide +kernel⟩) (dp_range1 X.b_range (db_cons (de_var 4) db_nil)) (dg_name 19 nd__law_right) dts_nil (de_tup (da_cons (de_callT cd_int X.b_int (db_cons (de_cmp od_eq (de_var 19) (de_var 18)) db_nil)) (da_cons de_int da_nil))))) db_nil)))) db_nil))) nd__law_right) (dss_cons (ds_if (DW.dt (dw_or (dt_cmp od_ne (de_callB (cd_reprW rfl) X.b_repr (db_cons (de_fz (do_fn C.c_noisy_0 (C.ar .noisy) rfl (da_cons (de_var 8) (da_cons (de_var 16) da_nil)))) db_nil)) (de_callB (cd_reprW rfl) X.b_repr (db_cons (de_fz (do_fn C.c__law_low_sheet_0 (C.ar ._law_low_sheet) rfl (da_cons (de_var 6) da_nil))) db_nil))) (dw_or1 (dt_not (dt_truth (de_fz (do_fn C.c__law_single_right_0 (C.ar ._law_single_right) rfl (da_cons (de_var 6) (da_cons (de_var 12) (da_cons (de_var 13) (da_cons (de_var 15) da_nil))))))))))) (dss_one (ds_ret (do_of de_bl))) dss_nil) (dss_cons (ds_if (dt_truth (de_var 1)) (dss_one (ds_ret (do_of de_bl))) dss_nil) (dss_cons (ds_set 17 (do_of (de_fz (do_fn C.c_news_worth_0 (C.ar .news_worth) rfl (da_cons (de_fz (do_fn C.c__law_low_sheet_0 (C.ar ._law_low_sheet) rfl (da_cons (de_var 10) da_nil))) (da_cons (de_var 14) (da_cons (de_var 13) da_nil)))))) nd__law_right) (dss_one (ds_ret (do_of (de_and (de_cmp od_leI (de_op od_mul (de_ix (de_var 17) de_int) (de_ix (de_var 15) de_int)) (de_op od_mul (de_ix (de_var 15) de_int) (de_ix (de_var 17) de_int))) (de_one (de_fz (do_fn C.c__law_chain_right_0 (C.ar ._law_chain_right) rfl (da_cons (de_var 0) (da_cons (de_var 8) (da_cons (de_var 9) (da_cons (de_var 5) da_nil))))))))))))))))))))))))))
theorem d_law (X : Xs K mg) (C : Calls K mg P w base k G) : DSs (cfOf K mg P w base N_law sc_law k) (defBody (top 58)) (s_law G) := by
  unfold s_law
  exact (dss_cons (ds_for rfl (dp_range1 X.b_range (db_cons (de_callB (cd_max rfl) X.b_max (db_cons de_int (db_cons (de_callB (cd_min rfl) X.b_min (db_cons de_int (db_cons (de_callB cd_len X.b_len (db_cons (de_var 0) db_nil)) db_nil))) db_nil))) db_nil)) (dg_name 1 nd_law) (dss_one (ds_if (dt_not (dt_truth (de_fz (do_fn C.c__law_right_0 (C.ar ._law_right) rfl (da_cons (de_cel (do_fn C.c__law_purse_0 (C.ar ._law_purse) rfl (da_cons (de_var 0) (da_cons (de_var 1) da_nil)))) da_nil))))) (dss_one (ds_ret (do_of de_bl))) dss_nil))) (dss_one (ds_ret (do_of de_bl))))
end
theorem fs_greatest_divisor : FnScope N_greatest_divisor ["one", "other"] sc_greatest_divisor := ⟨rfl, rfl, rfl, nd_greatest_divisor, rfl, by decide +kernel, by decide +kernel⟩
theorem fs_least_multiple : FnScope N_least_multiple ["one", "other"] sc_least_multiple := ⟨rfl, rfl, rfl, nd_least_multiple, rfl, by decide +kernel, by decide +kernel⟩
theorem fs_lowest : FnScope N_lowest ["above", "below"] sc_lowest := ⟨rfl, rfl, rfl, nd_lowest, rfl, by decide +kernel, by decide +kernel⟩
theorem fs_times : FnScope N_times ["one", "other"] sc_times := ⟨rfl, rfl, rfl, nd_times, rfl, by decide +kernel, by decide +kernel⟩
theorem fs_is_less : FnScope N_is_less ["one", "other"] sc_is_less := ⟨rfl, rfl, rfl, nd_is_less, rfl, by decide +kernel, by decide +kernel⟩
theorem fs_common_below : FnScope N_common_below ["fractions"] sc_common_below := ⟨rfl, rfl, rfl, nd_common_below, rfl, by decide +kernel, by decide +kernel⟩
theorem fs_numbers_of : FnScope N_numbers_of ["fractions"] sc_numbers_of := ⟨rfl, rfl, rfl, nd_numbers_of, rfl, by decide +kernel, by decide +kernel⟩
theorem fs_total : FnScope N_total ["fractions"] sc_total := ⟨rfl, rfl, rfl, nd_total, rfl, by decide +kernel, by decide +kernel⟩
theorem fs_total_of_products : FnScope N_total_of_products ["ones", "others"] sc_total_of_products := ⟨rfl, rfl, rfl, nd_total_of_products, rfl, by decide +kernel, by decide +kernel⟩
theorem fs_is_integer : FnScope N_is_integer ["thing", "low", "high"] sc_is_integer := ⟨rfl, rfl, rfl, nd_is_integer, rfl, by decide +kernel, by decide +kernel⟩
theorem fs_is_fraction : FnScope N_is_fraction ["thing"] sc_is_fraction := ⟨rfl, rfl, rfl, nd_is_fraction, rfl, by decide +kernel, by decide +kernel⟩
theorem fs_is_fractions : FnScope N_is_fractions ["thing"] sc_is_fractions := ⟨rfl, rfl, rfl, nd_is_fractions, rfl, by decide +kernel, by decide +kernel⟩
theorem fs_lowered : FnScope N_lowered ["fractions"] sc_lowered := ⟨rfl, rfl, rfl, nd_lowered, rfl, by decide +kernel, by decide +kernel⟩
theorem fs_is_shared : FnScope N_is_shared ["fractions"] sc_is_shared := ⟨rfl, rfl, rfl, nd_is_shared, rfl, by decide +kernel, by decide +kernel⟩
theorem fs_is_game : FnScope N_is_game ["thing"] sc_is_game := ⟨rfl, rfl, rfl, nd_is_game, rfl, by decide +kernel, by decide +kernel⟩
theorem fs_need_game : FnScope N_need_game ["thing"] sc_need_game := ⟨rfl, rfl, rfl, nd_need_game, rfl, by decide +kernel, by decide +kernel⟩
theorem fs_need_game_of : FnScope N_need_game_of ["game", "many"] sc_need_game_of := ⟨rfl, rfl, rfl, nd_need_game_of, rfl, by decide +kernel, by decide +kernel⟩
theorem fs_is_leaning : FnScope N_is_leaning ["thing"] sc_is_leaning := ⟨rfl, rfl, rfl, nd_is_leaning, rfl, by decide +kernel, by decide +kernel⟩
theorem fs_need_leaning : FnScope N_need_leaning ["thing"] sc_need_leaning := ⟨rfl, rfl, rfl, nd_need_leaning, rfl, by decide +kernel, by decide +kernel⟩
theorem fs_greatest_of : FnScope N_greatest_of ["fractions"] sc_greatest_of := ⟨rfl, rfl, rfl, nd_greatest_of, rfl, by decide +kernel, by decide +kernel⟩
theorem fs_best_sum : FnScope N_best_sum ["game", "weights"] sc_best_sum := ⟨rfl, rfl, rfl, nd_best_sum, rfl, by decide +kernel, by decide +kernel⟩
theorem fs_news_or_none : FnScope N_news_or_none ["thing"] sc_news_or_none := ⟨rfl, rfl, rfl, nd_news_or_none, rfl, by decide +kernel, by decide +kernel⟩
theorem fs_need_news : FnScope N_need_news ["thing"] sc_need_news := ⟨rfl, rfl, rfl, nd_need_news, rfl, by decide +kernel, by decide +kernel⟩
theorem fs_product_of : FnScope N_product_of ["news", "noise"] sc_product_of := ⟨rfl, rfl, rfl, nd_product_of, rfl, by decide +kernel, by decide +kernel⟩
theorem fs_noisy : FnScope N_noisy ["news", "noise"] sc_noisy := ⟨rfl, rfl, rfl, nd_noisy, rfl, by decide +kernel, by decide +kernel⟩
theorem fs_worth_of : FnScope N_worth_of ["news", "leaning", "game"] sc_worth_of := ⟨rfl, rfl, rfl, nd_worth_of, rfl, by decide +kernel, by decide +kernel⟩
theorem fs_news_worth : FnScope N_news_worth ["news", "leaning", "game"] sc_news_worth := ⟨rfl, rfl, rfl, nd_news_worth, rfl, by decide +kernel, by decide +kernel⟩
theorem fs__law_purse : FnScope N__law_purse ["_law_script", "_law_k"] sc__law_purse := ⟨rfl, rfl, rfl, nd__law_purse, rfl, by decide +kernel, by decide +kernel⟩
theorem fs__law_pull : FnScope N__law_pull ["_law_purse_here", "_law_many"] sc__law_pull := ⟨rfl, rfl, rfl, nd__law_pull, rfl, by decide +kernel, by decide +kernel⟩
theorem fs__law_pick : FnScope N__law_pick ["_law_purse_here", "_law_items"] sc__law_pick := ⟨rfl, rfl, rfl, nd__law_pick, rfl, by decide +kernel, by decide +kernel⟩
theorem fs__law_divisor : FnScope N__law_divisor ["_law_one", "_law_twin"] sc__law_divisor := ⟨rfl, rfl, rfl, nd__law_divisor, rfl, by decide +kernel, by decide +kernel⟩
theorem fs__law_low : FnScope N__law_low ["_law_above", "_law_below"] sc__law_low := ⟨rfl, rfl, rfl, nd__law_low, rfl, by decide +kernel, by decide +kernel⟩
theorem fs__law_weights : FnScope N__law_weights ["_law_purse_here", "_law_many", "_law_great"] sc__law_weights := ⟨rfl, rfl, rfl, nd__law_weights, rfl, by decide +kernel, by decide +kernel⟩
theorem fs__law_sheet : FnScope N__law_sheet ["_law_purse_here", "_law_rows", "_law_columns", "_law_great"] sc__law_sheet := ⟨rfl, rfl, rfl, nd__law_sheet, rfl, by decide +kernel, by decide +kernel⟩
theorem fs__law_shown : FnScope N__law_shown ["_law_purse_here", "_law_sheet_here"] sc__law_shown := ⟨rfl, rfl, rfl, nd__law_shown, rfl, by decide +kernel, by decide +kernel⟩
theorem fs__law_low_sheet : FnScope N__law_low_sheet ["_law_sheet_here"] sc__law_low_sheet := ⟨rfl, rfl, rfl, nd__law_low_sheet, rfl, by decide +kernel, by decide +kernel⟩
theorem fs__law_small_line : FnScope N__law_small_line ["_law_line"] sc__law_small_line := ⟨rfl, rfl, rfl, nd__law_small_line, rfl, by decide +kernel, by decide +kernel⟩
theorem fs__law_blurred : FnScope N__law_blurred ["_law_sheet_here", "_law_blur"] sc__law_blurred := ⟨rfl, rfl, rfl, nd__law_blurred, rfl, by decide +kernel, by decide +kernel⟩
theorem fs__law_whole_bets : FnScope N__law_whole_bets ["_law_bets_here"] sc__law_whole_bets := ⟨rfl, rfl, rfl, nd__law_whole_bets, rfl, by decide +kernel, by decide +kernel⟩
theorem fs__law_worth : FnScope N__law_worth ["_law_sheet_here", "_law_lean", "_law_bets_here"] sc__law_worth := ⟨rfl, rfl, rfl, nd__law_worth, rfl, by decide +kernel, by decide +kernel⟩
theorem fs__law_bets : FnScope N__law_bets ["_law_purse_here", "_law_many"] sc__law_bets := ⟨rfl, rfl, rfl, nd__law_bets, rfl, by decide +kernel, by decide +kernel⟩
theorem fs__law_shown_line : FnScope N__law_shown_line ["_law_purse_here", "_law_line"] sc__law_shown_line := ⟨rfl, rfl, rfl, nd__law_shown_line, rfl, by decide +kernel, by decide +kernel⟩
theorem fs__law_great_bets : FnScope N__law_great_bets ["_law_purse_here", "_law_many", "_law_great"] sc__law_great_bets := ⟨rfl, rfl, rfl, nd__law_great_bets, rfl, by decide +kernel, by decide +kernel⟩
theorem fs__law_chain_right : FnScope N__law_chain_right ["_law_purse_here", "_law_one", "_law_two", "_law_many"] sc__law_chain_right := ⟨rfl, rfl, rfl, nd__law_chain_right, rfl, by decide +kernel, by decide +kernel⟩
theorem fs__law_single_right : FnScope N__law_single_right ["_law_sheet_here", "_law_lean", "_law_bets_here", "_law_found"] sc__law_single_right := ⟨rfl, rfl, rfl, nd__law_single_right, rfl, by decide +kernel, by decide +kernel⟩
theorem fs__law_right : FnScope N__law_right ["_law_purse_here"] sc__law_right := ⟨rfl, rfl, rfl, nd__law_right, rfl, by decide +kernel, by decide +kernel⟩
theorem fs_law : FnScope N_law ["_law_script"] sc_law := ⟨rfl, rfl, rfl, nd_law, rfl, by decide +kernel, by decide +kernel⟩
structure Ds (K : PySem.W.Frag) (mg : PySem.Str → Option Value) : Prop where
  f_greatest_divisor : ∃ a fd, mg "greatest_divisor" = some (.ref a) ∧ FunD K "greatest_divisor" "greatest_divisor" (defArgs (top 8)) (defBody (top 8)) sc_greatest_divisor [] [] a fd
  f_least_multiple : ∃ a fd, mg "least_multiple" = some (.ref a) ∧ FunD K "least_multiple" "least_multiple" (defArgs (top 9)) (defBody (top 9)) sc_least_multiple [] [] a fd
  f_lowest : ∃ a fd, mg "lowest" = some (.ref a) ∧ FunD K "lowest" "lowest" (defArgs (top 10)) (defBody (top 10)) sc_lowest [] [] a fd
  f_times : ∃ a fd, mg "times" = some (.ref a) ∧ FunD K "times" "times" (defArgs (top 11)) (defBody (top 11)) sc_times [] [] a fd
  f_is_less : ∃ a fd, mg "is_less" = some (.ref a) ∧ FunD K "is_less" "is_less" (defArgs (top 12)) (defBody (top 12)) sc_is_less [] [] a fd
  f_common_below : ∃ a fd, mg "common_below" = some (.ref a) ∧ FunD K "common_below" "common_below" (defArgs (top 13)) (defBody (top 13)) sc_common_below [] [] a fd
  f_numbers_of : ∃ a fd, mg "numbers_of" = some (.ref a) ∧ FunD K "numbers_of" "numbers_of" (defArgs (top 14)) (defBody (top 14)) sc_numbers_of [] [] a fd
  f_total : ∃ a fd, mg "total" = some (.ref a) ∧ FunD K "total" "total" (defArgs (top 15)) (defBody (top 15)) sc_total [] [] a fd
  f_total_of_products : ∃ a fd, mg "total_of_products" = some (.ref a) ∧ FunD K "total_of_products" "total_of_products" (defArgs (top 16)) (defBody (top 16)) sc_total_of_products [] [] a fd
  f_is_integer : ∃ a fd, mg "is_integer" = some (.ref a) ∧ FunD K "is_integer" "is_integer" (defArgs (top 18)) (defBody (top 18)) sc_is_integer [V.non, V.non] [] a fd
  f_is_fraction : ∃ a fd, mg "is_fraction" = some (.ref a) ∧ FunD K "is_fraction" "is_fraction" (defArgs (top 19)) (defBody (top 19)) sc_is_fraction [] [] a fd
  f_is_fractions : ∃ a fd, mg "is_fractions" = some (.ref a) ∧ FunD K "is_fractions" "is_fractions" (defArgs (top 21)) (defBody (top 21)) sc_is_fractions [] [] a fd
  f_lowered : ∃ a fd, mg "lowered" = some (.ref a) ∧ FunD K "lowered" "lowered" (defArgs (top 22)) (defBody (top 22)) sc_lowered [] [] a fd
  f_is_shared : ∃ a fd, mg "is_shared" = some (.ref a) ∧ FunD K "is_shared" "is_shared" (defArgs (top 23)) (defBody (top 23)) sc_is_shared [] [] a fd
  f_is_game : ∃ a fd, mg "is_game" = some (.ref a) ∧ FunD K "is_game" "is_game" (defArgs (top 24)) (defBody (top 24)) sc_is_game [] [] a fd
  f_need_game : ∃ a fd, mg "need_game" = some (.ref a) ∧ FunD K "need_game" "need_game" (defArgs (top 25)) (defBody (top 25)) sc_need_game [] [] a fd
  f_need_game_of : ∃ a fd, mg "need_game_of" = some (.ref a) ∧ FunD K "need_game_of" "need_game_of" (defArgs (top 26)) (defBody (top 26)) sc_need_game_of [] [] a fd
  f_is_leaning : ∃ a fd, mg "is_leaning" = some (.ref a) ∧ FunD K "is_leaning" "is_leaning" (defArgs (top 27)) (defBody (top 27)) sc_is_leaning [] [] a fd
  f_need_leaning : ∃ a fd, mg "need_leaning" = some (.ref a) ∧ FunD K "need_leaning" "need_leaning" (defArgs (top 28)) (defBody (top 28)) sc_need_leaning [] [] a fd
  f_greatest_of : ∃ a fd, mg "greatest_of" = some (.ref a) ∧ FunD K "greatest_of" "greatest_of" (defArgs (top 29)) (defBody (top 29)) sc_greatest_of [] [] a fd
  f_best_sum : ∃ a fd, mg "best_sum" = some (.ref a) ∧ FunD K "best_sum" "best_sum" (defArgs (top 30)) (defBody (top 30)) sc_best_sum [] [] a fd
  f_news_or_none : ∃ a fd, mg "news_or_none" = some (.ref a) ∧ FunD K "news_or_none" "news_or_none" (defArgs (top 32)) (defBody (top 32)) sc_news_or_none [] [] a fd
  f_need_news : ∃ a fd, mg "need_news" = some (.ref a) ∧ FunD K "need_news" "need_news" (defArgs (top 33)) (defBody (top 33)) sc_need_news [] [] a fd
  f_product_of : ∃ a fd, mg "product_of" = some (.ref a) ∧ FunD K "product_of" "product_of" (defArgs (top 34)) (defBody (top 34)) sc_product_of [] [] a fd
  f_noisy : ∃ a fd, mg "noisy" = some (.ref a) ∧ FunD K "noisy" "noisy" (defArgs (top 35)) (defBody (top 35)) sc_noisy [] [] a fd
  f_worth_of : ∃ a fd, mg "worth_of" = some (.ref a) ∧ FunD K "worth_of" "worth_of" (defArgs (top 36)) (defBody (top 36)) sc_worth_of [] [] a fd
  f_news_worth : ∃ a fd, mg "news_worth" = some (.ref a) ∧ FunD K "news_worth" "news_worth" (defArgs (top 37)) (defBody (top 37)) sc_news_worth [] [] a fd
  f__law_purse : ∃ a fd, mg "_law_purse" = some (.ref a) ∧ FunD K "_law_purse" "_law_purse" (defArgs (top 39)) (defBody (top 39)) sc__law_purse [] [] a fd
  f__law_pull : ∃ a fd, mg "_law_pull" = some (.ref a) ∧ FunD K "_law_pull" "_law_pull" (defArgs (top 40)) (defBody (top 40)) sc__law_pull [] [] a fd
  f__law_pick : ∃ a fd, mg "_law_pick" = some (.ref a) ∧ FunD K "_law_pick" "_law_pick" (defArgs (top 41)) (defBody (top 41)) sc__law_pick [] [] a fd
  f__law_divisor : ∃ a fd, mg "_law_divisor" = some (.ref a) ∧ FunD K "_law_divisor" "_law_divisor" (defArgs (top 42)) (defBody (top 42)) sc__law_divisor [] [] a fd
  f__law_low : ∃ a fd, mg "_law_low" = some (.ref a) ∧ FunD K "_law_low" "_law_low" (defArgs (top 43)) (defBody (top 43)) sc__law_low [] [] a fd
  f__law_weights : ∃ a fd, mg "_law_weights" = some (.ref a) ∧ FunD K "_law_weights" "_law_weights" (defArgs (top 44)) (defBody (top 44)) sc__law_weights [] [] a fd
  f__law_sheet : ∃ a fd, mg "_law_sheet" = some (.ref a) ∧ FunD K "_law_sheet" "_law_sheet" (defArgs (top 45)) (defBody (top 45)) sc__law_sheet [] [] a fd
  f__law_shown : ∃ a fd, mg "_law_shown" = some (.ref a) ∧ FunD K "_law_shown" "_law_shown" (defArgs (top 46)) (defBody (top 46)) sc__law_shown [] [] a fd
  f__law_low_sheet : ∃ a fd, mg "_law_low_sheet" = some (.ref a) ∧ FunD K "_law_low_sheet" "_law_low_sheet" (defArgs (top 47)) (defBody (top 47)) sc__law_low_sheet [] [] a fd
  f__law_small_line : ∃ a fd, mg "_law_small_line" = some (.ref a) ∧ FunD K "_law_small_line" "_law_small_line" (defArgs (top 48)) (defBody (top 48)) sc__law_small_line [] [] a fd
  f__law_blurred : ∃ a fd, mg "_law_blurred" = some (.ref a) ∧ FunD K "_law_blurred" "_law_blurred" (defArgs (top 49)) (defBody (top 49)) sc__law_blurred [] [] a fd
  f__law_whole_bets : ∃ a fd, mg "_law_whole_bets" = some (.ref a) ∧ FunD K "_law_whole_bets" "_law_whole_bets" (defArgs (top 50)) (defBody (top 50)) sc__law_whole_bets [] [] a fd
  f__law_worth : ∃ a fd, mg "_law_worth" = some (.ref a) ∧ FunD K "_law_worth" "_law_worth" (defArgs (top 51)) (defBody (top 51)) sc__law_worth [] [] a fd
  f__law_bets : ∃ a fd, mg "_law_bets" = some (.ref a) ∧ FunD K "_law_bets" "_law_bets" (defArgs (top 52)) (defBody (top 52)) sc__law_bets [] [] a fd
  f__law_shown_line : ∃ a fd, mg "_law_shown_line" = some (.ref a) ∧ FunD K "_law_shown_line" "_law_shown_line" (defArgs (top 53)) (defBody (top 53)) sc__law_shown_line [] [] a fd
  f__law_great_bets : ∃ a fd, mg "_law_great_bets" = some (.ref a) ∧ FunD K "_law_great_bets" "_law_great_bets" (defArgs (top 54)) (defBody (top 54)) sc__law_great_bets [] [] a fd
  f__law_chain_right : ∃ a fd, mg "_law_chain_right" = some (.ref a) ∧ FunD K "_law_chain_right" "_law_chain_right" (defArgs (top 55)) (defBody (top 55)) sc__law_chain_right [] [] a fd
  f__law_single_right : ∃ a fd, mg "_law_single_right" = some (.ref a) ∧ FunD K "_law_single_right" "_law_single_right" (defArgs (top 56)) (defBody (top 56)) sc__law_single_right [] [] a fd
  f__law_right : ∃ a fd, mg "_law_right" = some (.ref a) ∧ FunD K "_law_right" "_law_right" (defArgs (top 57)) (defBody (top 57)) sc__law_right [] [] a fd
  f_law : ∃ a fd, mg "law" = some (.ref a) ∧ FunD K "law" "law" (defArgs (top 58)) (defBody (top 58)) sc_law [] [] a fd
section
variable {K : PySem.W.Frag} {mg : PySem.Str → Option Value} {P : Program} {w : World} {base : Heap}
def FnAll (K : PySem.W.Frag) (mg : PySem.Str → Option Value) (P : Program) (w : World) (base : Heap) (n : Nat) (G : Fn → FS) : Fn → Prop
  | .greatest_divisor => ∀ a fd, FunD K "greatest_divisor" "greatest_divisor" (defArgs (top 8)) (defBody (top 8)) sc_greatest_divisor [] [] a fd → FnG P w K mg base (L2.CX P w) n a fd ["one", "other"] (spOf K mg 2 (G .greatest_divisor))
  | .least_multiple => ∀ a fd, FunD K "least_multiple" "least_multiple" (defArgs (top 9)) (defBody (top 9)) sc_least_multiple [] [] a fd → FnG P w K mg base (L2.CX P w) n a fd ["one", "other"] (spOf K mg 2 (G .least_multiple))
  | .lowest => ∀ a fd, FunD K "lowest" "lowest" (defArgs (top 10)) (defBody (top 10)) sc_lowest [] [] a fd → FnG P w K mg base (L2.CX P w) n a fd ["above", "below"] (spOf K mg 2 (G .lowest))
  | .times => ∀ a fd, FunD K "times" "times" (defArgs (top 11)) (defBody (top 11)) sc_times [] [] a fd → FnG P w K mg base (L2.CX P w) n a fd ["one", "other"] (spOf K mg 2 (G .times))
  | .is_less => ∀ a fd, FunD K "is_less" "is_less" (defArgs (top 12)) (defBody (top 12)) sc_is_less [] [] a fd → FnG P w K mg base (L2.CX P w) n a fd ["one", "other"] (spOf K mg 2 (G .is_less))
  | .common_below => ∀ a fd, FunD K "common_below" "common_below" (defArgs (top 13)) (defBody (top 13)) sc_common_below [] [] a fd → FnG P w K mg base (L2.CX P w) n a fd ["fractions"] (spOf K mg 1 (G .common_below))
  | .numbers_of => ∀ a fd, FunD K "numbers_of" "numbers_of" (defArgs (top 14)) (defBody (top 14)) sc_numbers_of [] [] a fd → FnG P w K mg base (L2.CX P w) n a fd ["fractions"] (spOf K mg 1 (G .numbers_of))
  | .total => ∀ a fd, FunD K "total" "total" (defArgs (top 15)) (defBody (top 15)) sc_total [] [] a fd → FnG P w K mg base (L2.CX P w) n a fd ["fractions"] (spOf K mg 1 (G .total))
  | .total_of_products => ∀ a fd, FunD K "total_of_products" "total_of_products" (defArgs (top 16)) (defBody (top 16)) sc_total_of_products [] [] a fd → FnG P w K mg base (L2.CX P w) n a fd ["ones", "others"] (spOf K mg 2 (G .total_of_products))
  | .is_integer => ∀ a fd, FunD K "is_integer" "is_integer" (defArgs (top 18)) (defBody (top 18)) sc_is_integer [V.non, V.non] [] a fd → FnG P w K mg base (L2.CX P w) n a fd ["thing", "low", "high"] (spOf K mg 3 (G .is_integer))
  | .is_fraction => ∀ a fd, FunD K "is_fraction" "is_fraction" (defArgs (top 19)) (defBody (top 19)) sc_is_fraction [] [] a fd → FnG P w K mg base (L2.CX P w) n a fd ["thing"] (spOf K mg 1 (G .is_fraction))
  | .is_fractions => ∀ a fd, FunD K "is_fractions" "is_fractions" (defArgs (top 21)) (defBody (top 21)) sc_is_fractions [] [] a fd → FnG P w K mg base (L2.CX P w) n a fd ["thing"] (spOf K mg 1 (G .is_fractions))
  | .lowered => ∀ a fd, FunD K "lowered" "lowered" (defArgs (top 22)) (defBody (top 22)) sc_lowered [] [] a fd → FnG P w K mg base (L2.CX P w) n a fd ["fractions"] (spOf K mg 1 (G .lowered))
  | .is_shared => ∀ a fd, FunD K "is_shared" "is_shared" (defArgs (top 23)) (defBody (top 23)) sc_is_shared [] [] a fd → FnG P w K mg base (L2.CX P w) n a fd ["fractions"] (spOf K mg 1 (G .is_shared))
  | .is_game => ∀ a fd, FunD K "is_game" "is_game" (defArgs (top 24)) (defBody (top 24)) sc_is_game [] [] a fd → FnG P w K mg base (L2.CX P w) n a fd ["thing"] (spOf K mg 1 (G .is_game))
  | .need_game => ∀ a fd, FunD K "need_game" "need_game" (defArgs (top 25)) (defBody (top 25)) sc_need_game [] [] a fd → FnG P w K mg base (L2.CX P w) n a fd ["thing"] (spOf K mg 1 (G .need_game))
  | .need_game_of => ∀ a fd, FunD K "need_game_of" "need_game_of" (defArgs (top 26)) (defBody (top 26)) sc_need_game_of [] [] a fd → FnG P w K mg base (L2.CX P w) n a fd ["game", "many"] (spOf K mg 2 (G .need_game_of))
  | .is_leaning => ∀ a fd, FunD K "is_leaning" "is_leaning" (defArgs (top 27)) (defBody (top 27)) sc_is_leaning [] [] a fd → FnG P w K mg base (L2.CX P w) n a fd ["thing"] (spOf K mg 1 (G .is_leaning))
  | .need_leaning => ∀ a fd, FunD K "need_leaning" "need_leaning" (defArgs (top 28)) (defBody (top 28)) sc_need_leaning [] [] a fd → FnG P w K mg base (L2.CX P w) n a fd ["thing"] (spOf K mg 1 (G .need_leaning))
  | .greatest_of => ∀ a fd, FunD K "greatest_of" "greatest_of" (defArgs (top 29)) (defBody (top 29)) sc_greatest_of [] [] a fd → FnG P w K mg base (L2.CX P w) n a fd ["fractions"] (spOf K mg 1 (G .greatest_of))
  | .best_sum => ∀ a fd, FunD K "best_sum" "best_sum" (defArgs (top 30)) (defBody (top 30)) sc_best_sum [] [] a fd → FnG P w K mg base (L2.CX P w) n a fd ["game", "weights"] (spOf K mg 2 (G .best_sum))
  | .news_or_none => ∀ a fd, FunD K "news_or_none" "news_or_none" (defArgs (top 32)) (defBody (top 32)) sc_news_or_none [] [] a fd → FnG P w K mg base (L2.CX P w) n a fd ["thing"] (spOf K mg 1 (G .news_or_none))
  | .need_news => ∀ a fd, FunD K "need_news" "need_news" (defArgs (top 33)) (defBody (top 33)) sc_need_news [] [] a fd → FnG P w K mg base (L2.CX P w) n a fd ["thing"] (spOf K mg 1 (G .need_news))
  | .product_of => ∀ a fd, FunD K "product_of" "product_of" (defArgs (top 34)) (defBody (top 34)) sc_product_of [] [] a fd → FnG P w K mg base (L2.CX P w) n a fd ["news", "noise"] (spOf K mg 2 (G .product_of))
  | .noisy => ∀ a fd, FunD K "noisy" "noisy" (defArgs (top 35)) (defBody (top 35)) sc_noisy [] [] a fd → FnG P w K mg base (L2.CX P w) n a fd ["news", "noise"] (spOf K mg 2 (G .noisy))
  | .worth_of => ∀ a fd, FunD K "worth_of" "worth_of" (defArgs (top 36)) (defBody (top 36)) sc_worth_of [] [] a fd → FnG P w K mg base (L2.CX P w) n a fd ["news", "leaning", "game"] (spOf K mg 3 (G .worth_of))
  | .news_worth => ∀ a fd, FunD K "news_worth" "news_worth" (defArgs (top 37)) (defBody (top 37)) sc_news_worth [] [] a fd → FnG P w K mg base (L2.CX P w) n a fd ["news", "leaning", "game"] (spOf K mg 3 (G .news_worth))
  | ._law_purse => ∀ a fd, FunD K "_law_purse" "_law_purse" (defArgs (top 39)) (defBody (top 39)) sc__law_purse [] [] a fd → FnG P w K mg base (L2.CX P w) n a fd ["_law_script", "_law_k"] (spOf K mg 2 (G ._law_purse))
  | ._law_pull => ∀ a fd, FunD K "_law_pull" "_law_pull" (defArgs (top 40)) (defBody (top 40)) sc__law_pull [] [] a fd → FnG P w K mg base (L2.CX P w) n a fd ["_law_purse_here", "_law_many"] (spOf K mg 2 (G ._law_pull))
  | ._law_pick => ∀ a fd, FunD K "_law_pick" "_law_pick" (defArgs (top 41)) (defBody (top 41)) sc__law_pick [] [] a fd → FnG P w K mg base (L2.CX P w) n a fd ["_law_purse_here", "_law_items"] (spOf K mg 2 (G ._law_pick))
  | ._law_divisor => ∀ a fd, FunD K "_law_divisor" "_law_divisor" (defArgs (top 42)) (defBody (top 42)) sc__law_divisor [] [] a fd → FnG P w K mg base (L2.CX P w) n a fd ["_law_one", "_law_twin"] (spOf K mg 2 (G ._law_divisor))
  | ._law_low => ∀ a fd, FunD K "_law_low" "_law_low" (defArgs (top 43)) (defBody (top 43)) sc__law_low [] [] a fd → FnG P w K mg base (L2.CX P w) n a fd ["_law_above", "_law_below"] (spOf K mg 2 (G ._law_low))
  | ._law_weights => ∀ a fd, FunD K "_law_weights" "_law_weights" (defArgs (top 44)) (defBody (top 44)) sc__law_weights [] [] a fd → FnG P w K mg base (L2.CX P w) n a fd ["_law_purse_here", "_law_many", "_law_great"] (spOf K mg 3 (G ._law_weights))
  | ._law_sheet => ∀ a fd, FunD K "_law_sheet" "_law_sheet" (defArgs (top 45)) (defBody (top 45)) sc__law_sheet [] [] a fd → FnG P w K mg base (L2.CX P w) n a fd ["_law_purse_here", "_law_rows", "_law_columns", "_law_great"] (spOf K mg 4 (G ._law_sheet))
  | ._law_shown => ∀ a fd, FunD K "_law_shown" "_law_shown" (defArgs (top 46)) (defBody (top 46)) sc__law_shown [] [] a fd → FnG P w K mg base (L2.CX P w) n a fd ["_law_purse_here", "_law_sheet_here"] (spOf K mg 2 (G ._law_shown))
  | ._law_low_sheet => ∀ a fd, FunD K "_law_low_sheet" "_law_low_sheet" (defArgs (top 47)) (defBody (top 47)) sc__law_low_sheet [] [] a fd → FnG P w K mg base (L2.CX P w) n a fd ["_law_sheet_here"] (spOf K mg 1 (G ._law_low_sheet))
  | ._law_small_line => ∀ a fd, FunD K "_law_small_line" "_law_small_line" (defArgs (top 48)) (defBody (top 48)) sc__law_small_line [] [] a fd → FnG P w K mg base (L2.CX P w) n a fd ["_law_line"] (spOf K mg 1 (G ._law_small_line))
  | ._law_blurred => ∀ a fd, FunD K "_law_blurred" "_law_blurred" (defArgs (top 49)) (defBody (top 49)) sc__law_blurred [] [] a fd → FnG P w K mg base (L2.CX P w) n a fd ["_law_sheet_here", "_law_blur"] (spOf K mg 2 (G ._law_blurred))
  | ._law_whole_bets => ∀ a fd, FunD K "_law_whole_bets" "_law_whole_bets" (defArgs (top 50)) (defBody (top 50)) sc__law_whole_bets [] [] a fd → FnG P w K mg base (L2.CX P w) n a fd ["_law_bets_here"] (spOf K mg 1 (G ._law_whole_bets))
  | ._law_worth => ∀ a fd, FunD K "_law_worth" "_law_worth" (defArgs (top 51)) (defBody (top 51)) sc__law_worth [] [] a fd → FnG P w K mg base (L2.CX P w) n a fd ["_law_sheet_here", "_law_lean", "_law_bets_here"] (spOf K mg 3 (G ._law_worth))
  | ._law_bets => ∀ a fd, FunD K "_law_bets" "_law_bets" (defArgs (top 52)) (defBody (top 52)) sc__law_bets [] [] a fd → FnG P w K mg base (L2.CX P w) n a fd ["_law_purse_here", "_law_many"] (spOf K mg 2 (G ._law_bets))
  | ._law_shown_line => ∀ a fd, FunD K "_law_shown_line" "_law_shown_line" (defArgs (top 53)) (defBody (top 53)) sc__law_shown_line [] [] a fd → FnG P w K mg base (L2.CX P w) n a fd ["_law_purse_here", "_law_line"] (spOf K mg 2 (G ._law_shown_line))
  | ._law_great_bets => ∀ a fd, FunD K "_law_great_bets" "_law_great_bets" (defArgs (top 54)) (defBody (top 54)) sc__law_great_bets [] [] a fd → FnG P w K mg base (L2.CX P w) n a fd ["_law_purse_here", "_law_many", "_law_great"] (spOf K mg 3 (G ._law_great_bets))
  | ._law_chain_right => ∀ a fd, FunD K "_law_chain_right" "_law_chain_right" (defArgs (top 55)) (defBody (top 55)) sc__law_chain_right [] [] a fd → FnG P w K mg base (L2.CX P w) n a fd ["_law_purse_here", "_law_one", "_law_two", "_law_many"] (spOf K mg 4 (G ._law_chain_right))
  | ._law_single_right => ∀ a fd, FunD K "_law_single_right" "_law_single_right" (defArgs (top 56)) (defBody (top 56)) sc__law_single_right [] [] a fd → FnG P w K mg base (L2.CX P w) n a fd ["_law_sheet_here", "_law_lean", "_law_bets_here", "_law_found"] (spOf K mg 4 (G ._law_single_right))
  | ._law_right => ∀ a fd, FunD K "_law_right" "_law_right" (defArgs (top 57)) (defBody (top 57)) sc__law_right [] [] a fd → FnG P w K mg base (L2.CX P w) n a fd ["_law_purse_here"] (spOf K mg 1 (G ._law_right))
  | .law => ∀ a fd, FunD K "law" "law" (defArgs (top 58)) (defBody (top 58)) sc_law [] [] a fd → FnG P w K mg base (L2.CX P w) n a fd ["_law_script"] (spOf K mg 1 (G .law))
theorem calls_of {n : Nat} {G : Fn → FS} (D : Ds K mg) (ar : ∀ f xs cs, G f xs cs = .bad ∨ xs.length = arN f) (I : ∀ f, FnAll K mg P w base n G f) : Calls K mg P w base n G := by
  refine ⟨ar, ?_, ?_, ?_, ?_, ?_, ?_, ?_, ?_, ?_, ?_, ?_, ?_, ?_, ?_, ?_, ?_, ?_, ?_, ?_, ?_, ?_, ?_, ?_, ?_, ?_, ?_, ?_, ?_, ?_, ?_, ?_, ?_, ?_, ?_, ?_, ?_, ?_, ?_, ?_, ?_, ?_, ?_, ?_, ?_, ?_, ?_, ?_, ?_, ?_⟩
  · obtain ⟨a, fd, gm, F⟩ := D.f__law_bets
    exact ⟨a, fd, _, [], [], gm, F.kp, rfl, F.bindsN (fun _ _ _ _ _ _ us hl => match us, hl with | [_, _], _ => rfl), .nil, fun _ _ => .nil, I ._law_bets a fd F⟩
  · obtain ⟨a, fd, gm, F⟩ := D.f__law_blurred
    exact ⟨a, fd, _, [], [], gm, F.kp, rfl, F.bindsN (fun _ _ _ _ _ _ us hl => match us, hl with | [_, _], _ => rfl), .nil, fun _ _ => .nil, I ._law_blurred a fd F⟩
  · obtain ⟨a, fd, gm, F⟩ := D.f__law_chain_right
    exact ⟨a, fd, _, [], [], gm, F.kp, rfl, F.bindsN (fun _ _ _ _ _ _ us hl => match us, hl with | [_, _, _, _], _ => rfl), .nil, fun _ _ => .nil, I ._law_chain_right a fd F⟩
  · obtain ⟨a, fd, gm, F⟩ := D.f__law_divisor
    exact ⟨a, fd, _, [], [], gm, F.kp, rfl, F.bindsN (fun _ _ _ _ _ _ us hl => match us, hl with | [_, _], _ => rfl), .nil, fun _ _ => .nil, I ._law_divisor a fd F⟩
  · obtain ⟨a, fd, gm, F⟩ := D.f__law_great_bets
    exact ⟨a, fd, _, [], [], gm, F.kp, rfl, F.bindsN (fun _ _ _ _ _ _ us hl => match us, hl with | [_, _, _], _ => rfl), .nil, fun _ _ => .nil, I ._law_great_bets a fd F⟩
  · obtain ⟨a, fd, gm, F⟩ := D.f__law_low
    exact ⟨a, fd, _, [], [], gm, F.kp, rfl, F.bindsN (fun _ _ _ _ _ _ us hl => match us, hl with | [_, _], _ => rfl), .nil, fun _ _ => .nil, I ._law_low a fd F⟩
  · obtain ⟨a, fd, gm, F⟩ := D.f__law_low_sheet
    exact ⟨a, fd, _, [], [], gm, F.kp, rfl, F.bindsN (fun _ _ _ _ _ _ us hl => match us, hl with | [_], _ => rfl), .nil, fun _ _ => .nil, I ._law_low_sheet a fd F⟩
  · obtain ⟨a, fd, gm, F⟩ := D.f__law_pick
    exact ⟨a, fd, _, [], [], gm, F.kp, rfl, F.bindsN (fun _ _ _ _ _ _ us hl => match us, hl with | [_, _], _ => rfl), .nil, fun _ _ => .nil, I ._law_pick a fd F⟩
  · obtain ⟨a, fd, gm, F⟩ := D.f__law_pull
    exact ⟨a, fd, _, [], [], gm, F.kp, rfl, F.bindsN (fun _ _ _ _ _ _ us hl => match us, hl with | [_, _], _ => rfl), .nil, fun _ _ => .nil, I ._law_pull a fd F⟩
  · obtain ⟨a, fd, gm, F⟩ := D.f__law_purse
    exact ⟨a, fd, _, [], [], gm, F.kp, rfl, F.bindsN (fun _ _ _ _ _ _ us hl => match us, hl with | [_, _], _ => rfl), .nil, fun _ _ => .nil, I ._law_purse a fd F⟩
  · obtain ⟨a, fd, gm, F⟩ := D.f__law_right
    exact ⟨a, fd, _, [], [], gm, F.kp, rfl, F.bindsN (fun _ _ _ _ _ _ us hl => match us, hl with | [_], _ => rfl), .nil, fun _ _ => .nil, I ._law_right a fd F⟩
  · obtain ⟨a, fd, gm, F⟩ := D.f__law_sheet
    exact ⟨a, fd, _, [], [], gm, F.kp, rfl, F.bindsN (fun _ _ _ _ _ _ us hl => match us, hl with | [_, _, _, _], _ => rfl), .nil, fun _ _ => .nil, I ._law_sheet a fd F⟩
  · obtain ⟨a, fd, gm, F⟩ := D.f__law_shown
    exact ⟨a, fd, _, [], [], gm, F.kp, rfl, F.bindsN (fun _ _ _ _ _ _ us hl => match us, hl with | [_, _], _ => rfl), .nil, fun _ _ => .nil, I ._law_shown a fd F⟩
  · obtain ⟨a, fd, gm, F⟩ := D.f__law_shown_line
    exact ⟨a, fd, _, [], [], gm, F.kp, rfl, F.bindsN (fun _ _ _ _ _ _ us hl => match us, hl with | [_, _], _ => rfl), .nil, fun _ _ => .nil, I ._law_shown_line a fd F⟩
  · obtain ⟨a, fd, gm, F⟩ := D.f__law_single_right
    exact ⟨a, fd, _, [], [], gm, F.kp, rfl, F.bindsN (fun _ _ _ _ _ _ us hl => match us, hl with | [_, _, _, _], _ => rfl), .nil, fun _ _ => .nil, I ._law_single_right a fd F⟩
  · obtain ⟨a, fd, gm, F⟩ := D.f__law_small_line
    exact ⟨a, fd, _, [], [], gm, F.kp, rfl, F.bindsN (fun _ _ _ _ _ _ us hl => match us, hl with | [_], _ => rfl), .nil, fun _ _ => .nil, I ._law_small_line a fd F⟩
  · obtain ⟨a, fd, gm, F⟩ := D.f__law_weights
    exact ⟨a, fd, _, [], [], gm, F.kp, rfl, F.bindsN (fun _ _ _ _ _ _ us hl => match us, hl with | [_, _, _], _ => rfl), .nil, fun _ _ => .nil, I ._law_weights a fd F⟩
  · obtain ⟨a, fd, gm, F⟩ := D.f__law_whole_bets
    exact ⟨a, fd, _, [], [], gm, F.kp, rfl, F.bindsN (fun _ _ _ _ _ _ us hl => match us, hl with | [_], _ => rfl), .nil, fun _ _ => .nil, I ._law_whole_bets a fd F⟩
  · obtain ⟨a, fd, gm, F⟩ := D.f__law_worth
    exact ⟨a, fd, _, [], [], gm, F.kp, rfl, F.bindsN (fun _ _ _ _ _ _ us hl => match us, hl with | [_, _, _], _ => rfl), .nil, fun _ _ => .nil, I ._law_worth a fd F⟩
  · obtain ⟨a, fd, gm, F⟩ := D.f_best_sum
    exact ⟨a, fd, _, [], [], gm, F.kp, rfl, F.bindsN (fun _ _ _ _ _ _ us hl => match us, hl with | [_, _], _ => rfl), .nil, fun _ _ => .nil, I .best_sum a fd F⟩
  · obtain ⟨a, fd, gm, F⟩ := D.f_common_below
    exact ⟨a, fd, _, [], [], gm, F.kp, rfl, F.bindsN (fun _ _ _ _ _ _ us hl => match us, hl with | [_], _ => rfl), .nil, fun _ _ => .nil, I .common_below a fd F⟩
  · obtain ⟨a, fd, gm, F⟩ := D.f_greatest_divisor
    exact ⟨a, fd, _, [], [], gm, F.kp, rfl, F.bindsN (fun _ _ _ _ _ _ us hl => match us, hl with | [_, _], _ => rfl), .nil, fun _ _ => .nil, I .greatest_divisor a fd F⟩
  · obtain ⟨a, fd, gm, F⟩ := D.f_greatest_of
    exact ⟨a, fd, _, [], [], gm, F.kp, rfl, F.bindsN (fun _ _ _ _ _ _ us hl => match us, hl with | [_], _ => rfl), .nil, fun _ _ => .nil, I .greatest_of a fd F⟩
  · obtain ⟨a, fd, gm, F⟩ := D.f_is_fraction
    exact ⟨a, fd, _, [], [], gm, F.kp, rfl, F.bindsN (fun _ _ _ _ _ _ us hl => match us, hl with | [_], _ => rfl), .nil, fun _ _ => .nil, I .is_fraction a fd F⟩
  · obtain ⟨a, fd, gm, F⟩ := D.f_is_fractions
    exact ⟨a, fd, _, [], [], gm, F.kp, rfl, F.bindsN (fun _ _ _ _ _ _ us hl => match us, hl with | [_], _ => rfl), .nil, fun _ _ => .nil, I .is_fractions a fd F⟩
  · obtain ⟨a, fd, gm, F⟩ := D.f_is_game
    exact ⟨a, fd, _, [], [], gm, F.kp, rfl, F.bindsN (fun _ _ _ _ _ _ us hl => match us, hl with | [_], _ => rfl), .nil, fun _ _ => .nil, I .is_game a fd F⟩
  · obtain ⟨a, fd, gm, F⟩ := D.f_is_integer
    obtain ⟨ds, hv, hb⟩ := F.binds1 (ps := ["thing", "low", "high"]) 2 1 (by simp) rfl (fun _ _ _ _ _ _ _ us its h1 h2 => match us, its, h1, h2 with | [_, _], [_, _], _, _ => ⟨_, rfl, rfl⟩)
    exact ⟨a, fd, _, _, ds, gm, F.kp, rfl, hb, hv, fun ρ G0 => .cons (at_non (K := K) (G := G0)) (.nil), I .is_integer a fd F⟩
  · obtain ⟨a, fd, gm, F⟩ := D.f_is_integer
    obtain ⟨ds, hv, hb⟩ := F.binds1 (ps := ["thing", "low", "high"]) 1 0 (by simp) rfl (fun _ _ _ _ _ _ _ us its h1 h2 => match us, its, h1, h2 with | [_], [_, _], _, _ => ⟨_, rfl, rfl⟩)
    exact ⟨a, fd, _, _, ds, gm, F.kp, rfl, hb, hv, fun ρ G0 => .cons (at_non (K := K) (G := G0)) (.cons (at_non (K := K) (G := G0)) (.nil)), I .is_integer a fd F⟩
  · obtain ⟨a, fd, gm, F⟩ := D.f_is_leaning
    exact ⟨a, fd, _, [], [], gm, F.kp, rfl, F.bindsN (fun _ _ _ _ _ _ us hl => match us, hl with | [_], _ => rfl), .nil, fun _ _ => .nil, I .is_leaning a fd F⟩
  · obtain ⟨a, fd, gm, F⟩ := D.f_is_less
    exact ⟨a, fd, _, [], [], gm, F.kp, rfl, F.bindsN (fun _ _ _ _ _ _ us hl => match us, hl with | [_, _], _ => rfl), .nil, fun _ _ => .nil, I .is_less a fd F⟩
  · obtain ⟨a, fd, gm, F⟩ := D.f_is_shared
    exact ⟨a, fd, _, [], [], gm, F.kp, rfl, F.bindsN (fun _ _ _ _ _ _ us hl => match us, hl with | [_], _ => rfl), .nil, fun _ _ => .nil, I .is_shared a fd F⟩
  · obtain ⟨a, fd, gm, F⟩ := D.f_least_multiple
    exact ⟨a, fd, _, [], [], gm, F.kp, rfl, F.bindsN (fun _ _ _ _ _ _ us hl => match us, hl with | [_, _], _ => rfl), .nil, fun _ _ => .nil, I .least_multiple a fd F⟩
  · obtain ⟨a, fd, gm, F⟩ := D.f_lowered
    exact ⟨a, fd, _, [], [], gm, F.kp, rfl, F.bindsN (fun _ _ _ _ _ _ us hl => match us, hl with | [_], _ => rfl), .nil, fun _ _ => .nil, I .lowered a fd F⟩
  · obtain ⟨a, fd, gm, F⟩ := D.f_lowest
    exact ⟨a, fd, _, [], [], gm, F.kp, rfl, F.bindsN (fun _ _ _ _ _ _ us hl => match us, hl with | [_, _], _ => rfl), .nil, fun _ _ => .nil, I .lowest a fd F⟩
  · obtain ⟨a, fd, gm, F⟩ := D.f_need_game
    exact ⟨a, fd, _, [], [], gm, F.kp, rfl, F.bindsN (fun _ _ _ _ _ _ us hl => match us, hl with | [_], _ => rfl), .nil, fun _ _ => .nil, I .need_game a fd F⟩
  · obtain ⟨a, fd, gm, F⟩ := D.f_need_game_of
    exact ⟨a, fd, _, [], [], gm, F.kp, rfl, F.bindsN (fun _ _ _ _ _ _ us hl => match us, hl with | [_, _], _ => rfl), .nil, fun _ _ => .nil, I .need_game_of a fd F⟩
  · obtain ⟨a, fd, gm, F⟩ := D.f_need_leaning
    exact ⟨a, fd, _, [], [], gm, F.kp, rfl, F.bindsN (fun _ _ _ _ _ _ us hl => match us, hl with | [_], _ => rfl), .nil, fun _ _ => .nil, I .need_leaning a fd F⟩
  · obtain ⟨a, fd, gm, F⟩ := D.f_need_news
    exact ⟨a, fd, _, [], [], gm, F.kp, rfl, F.bindsN (fun _ _ _ _ _ _ us hl => match us, hl with | [_], _ => rfl), .nil, fun _ _ => .nil, I .need_news a fd F⟩
  · obtain ⟨a, fd, gm, F⟩ := D.f_news_or_none
    exact ⟨a, fd, _, [], [], gm, F.kp, rfl, F.bindsN (fun _ _ _ _ _ _ us hl => match us, hl with | [_], _ => rfl), .nil, fun _ _ => .nil, I .news_or_none a fd F⟩
  · obtain ⟨a, fd, gm, F⟩ := D.f_news_worth
    exact ⟨a, fd, _, [], [], gm, F.kp, rfl, F.bindsN (fun _ _ _ _ _ _ us hl => match us, hl with | [_, _, _], _ => rfl), .nil, fun _ _ => .nil, I .news_worth a fd F⟩
  · obtain ⟨a, fd, gm, F⟩ := D.f_noisy
    exact ⟨a, fd, _, [], [], gm, F.kp, rfl, F.bindsN (fun _ _ _ _ _ _ us hl => match us, hl with | [_, _], _ => rfl), .nil, fun _ _ => .nil, I .noisy a fd F⟩
  · obtain ⟨a, fd, gm, F⟩ := D.f_numbers_of
    exact ⟨a, fd, _, [], [], gm, F.kp, rfl, F.bindsN (fun _ _ _ _ _ _ us hl => match us, hl with | [_], _ => rfl), .nil, fun _ _ => .nil, I .numbers_of a fd F⟩
  · obtain ⟨a, fd, gm, F⟩ := D.f_product_of
    exact ⟨a, fd, _, [], [], gm, F.kp, rfl, F.bindsN (fun _ _ _ _ _ _ us hl => match us, hl with | [_, _], _ => rfl), .nil, fun _ _ => .nil, I .product_of a fd F⟩
  · obtain ⟨a, fd, gm, F⟩ := D.f_times
    exact ⟨a, fd, _, [], [], gm, F.kp, rfl, F.bindsN (fun _ _ _ _ _ _ us hl => match us, hl with | [_, _], _ => rfl), .nil, fun _ _ => .nil, I .times a fd F⟩
  · obtain ⟨a, fd, gm, F⟩ := D.f_total
    exact ⟨a, fd, _, [], [], gm, F.kp, rfl, F.bindsN (fun _ _ _ _ _ _ us hl => match us, hl with | [_], _ => rfl), .nil, fun _ _ => .nil, I .total a fd F⟩
  · obtain ⟨a, fd, gm, F⟩ := D.f_total_of_products
    exact ⟨a, fd, _, [], [], gm, F.kp, rfl, F.bindsN (fun _ _ _ _ _ _ us hl => match us, hl with | [_, _], _ => rfl), .nil, fun _ _ => .nil, I .total_of_products a fd F⟩
  · obtain ⟨a, fd, gm, F⟩ := D.f_worth_of
    exact ⟨a, fd, _, [], [], gm, F.kp, rfl, F.bindsN (fun _ _ _ _ _ _ us hl => match us, hl with | [_, _, _], _ => rfl), .nil, fun _ _ => .nil, I .worth_of a fd F⟩
  · obtain ⟨a, fd, gm, F⟩ := D.f_news_worth
    have I2 := I .news_worth a fd F
    obtain ⟨oc, od, dV, kV, doc, pm, an, cdv, ct, osl, rfl, lk, hcd, hD, hK⟩ := F.ex
    rcases hD with ⟨_, rfl⟩ | ⟨z, _⟩
    · exact ⟨a, _, _, gm, F.kp, rfl, rfl, by decide, fun s ws _ hl => match ws, hl with | [_, _, _], _ => .of_eq rfl, I2⟩
    · exact absurd rfl z
  · obtain ⟨a, fd, gm, F⟩ := D.f_noisy
    have I2 := I .noisy a fd F
    obtain ⟨oc, od, dV, kV, doc, pm, an, cdv, ct, osl, rfl, lk, hcd, hD, hK⟩ := F.ex
    rcases hD with ⟨_, rfl⟩ | ⟨z, _⟩
    · exact ⟨a, _, _, gm, F.kp, rfl, rfl, by decide, fun s ws _ hl => match ws, hl with | [_, _], _ => .of_eq rfl, I2⟩
    · exact absurd rfl z
theorem sem_ar : ∀ n f xs cs, sem n f xs cs = .bad ∨ xs.length = arN f
  | 0, _, _, _ => .inl rfl
  | n + 1, f, xs, cs => by cases f <;> exact bodyF_ar xs cs
theorem all_ok (X : Xs K mg) (D : Ds K mg) : ∀ n f, FnAll K mg P w base n (sem n) f
  | 0, f => by cases f <;> (intro a fd _; exact fn_bad rfl)
  | n + 1, f => by
    have C := calls_of D (sem_ar n) (all_ok X D n)
    cases f
    · exact fun a fd F => fn_sound (m := 3) F fs_greatest_divisor rfl rfl (d_greatest_divisor X C)
    · exact fun a fd F => fn_sound (m := 0) F fs_least_multiple rfl rfl (d_least_multiple X C)
    · exact fun a fd F => fn_sound (m := 1) F fs_lowest rfl rfl (d_lowest X C)
    · exact fun a fd F => fn_sound (m := 0) F fs_times rfl rfl (d_times X C)
    · exact fun a fd F => fn_sound (m := 0) F fs_is_less rfl rfl (d_is_less X C)
    · exact fun a fd F => fn_sound (m := 2) F fs_common_below rfl rfl (d_common_below X C)
    · exact fun a fd F => fn_sound (m := 2) F fs_numbers_of rfl rfl (d_numbers_of X C)
    · exact fun a fd F => fn_sound (m := 1) F fs_total rfl rfl (d_total X C)
    · exact fun a fd F => fn_sound (m := 3) F fs_total_of_products rfl rfl (d_total_of_products X C)
    · exact fun a fd F => fn_sound (m := 0) F fs_is_integer rfl rfl (d_is_integer X C)
    · exact fun a fd F => fn_sound (m := 0) F fs_is_fraction rfl rfl (d_is_fraction X C)
    · exact fun a fd F => fn_sound (m := 1) F fs_is_fractions rfl rfl (d_is_fractions X C)
    · exact fun a fd F => fn_sound (m := 1) F fs_lowered rfl rfl (d_lowered X C)
    · exact fun a fd F => fn_sound (m := 1) F fs_is_shared rfl rfl (d_is_shared X C)
    · exact fun a fd F => fn_sound (m := 1) F fs_is_game rfl rfl (d_is_game X C)
    · exact fun a fd F => fn_sound (m := 1) F fs_need_game rfl rfl (d_need_game X C)
    · exact fun a fd F => fn_sound (m := 0) F fs_need_game_of rfl rfl (d_need_game_of X C)
    · exact fun a fd F => fn_sound (m := 0) F fs_is_leaning rfl rfl (d_is_leaning X C)
    · exact fun a fd F => fn_sound (m := 0) F fs_need_leaning rfl rfl (d_need_leaning X C)
    · exact fun a fd F => fn_sound (m := 2) F fs_greatest_of rfl rfl (d_greatest_of X C)
    · exact fun a fd F => fn_sound (m := 1) F fs_best_sum rfl rfl (d_best_sum X C)
    · exact fun a fd F => fn_sound (m := 1) F fs_news_or_none rfl rfl (d_news_or_none X C)
    · exact fun a fd F => fn_sound (m := 1) F fs_need_news rfl rfl (d_need_news X C)
    · exact fun a fd F => fn_sound (m := 4) F fs_product_of rfl rfl (d_product_of X C)
    · exact fun a fd F => fn_sound (m := 2) F fs_noisy rfl rfl (d_noisy X C)
    · exact fun a fd F => fn_sound (m := 4) F fs_worth_of rfl rfl (d_worth_of X C)
    · exact fun a fd F => fn_sound (m := 3) F fs_news_worth rfl rfl (d_news_worth X C)
    · exact fun a fd F => fn_sound (m := 1) F fs__law_purse rfl rfl (d__law_purse X C)
    · exact fun a fd F => fn_sound (m := 2) F fs__law_pull rfl rfl (d__law_pull X C)
    · exact fun a fd F => fn_sound (m := 0) F fs__law_pick rfl rfl (d__law_pick X C)
    · exact fun a fd F => fn_sound (m := 0) F fs__law_divisor rfl rfl (d__law_divisor X C)
    · exact fun a fd F => fn_sound (m := 1) F fs__law_low rfl rfl (d__law_low X C)
    · exact fun a fd F => fn_sound (m := 2) F fs__law_weights rfl rfl (d__law_weights X C)
    · exact fun a fd F => fn_sound (m := 1) F fs__law_sheet rfl rfl (d__law_sheet X C)
    · exact fun a fd F => fn_sound (m := 4) F fs__law_shown rfl rfl (d__law_shown X C)
    · exact fun a fd F => fn_sound (m := 2) F fs__law_low_sheet rfl rfl (d__law_low_sheet X C)
    · exact fun a fd F => fn_sound (m := 2) F fs__law_small_line rfl rfl (d__law_small_line X C)
    · exact fun a fd F => fn_sound (m := 8) F fs__law_blurred rfl rfl (d__law_blurred X C)
    · exact fun a fd F => fn_sound (m := 3) F fs__law_whole_bets rfl rfl (d__law_whole_bets X C)
    · exact fun a fd F => fn_sound (m := 10) F fs__law_worth rfl rfl (d__law_worth X C)
    · exact fun a fd F => fn_sound (m := 4) F fs__law_bets rfl rfl (d__law_bets X C)
    · exact fun a fd F => fn_sound (m := 0) F fs__law_shown_line rfl rfl (d__law_shown_line X C)
    · exact fun a fd F => fn_sound (m := 2) F fs__law_great_bets rfl rfl (d__law_great_bets X C)
    · exact fun a fd F => fn_sound (m := 1) F fs__law_chain_right rfl rfl (d__law_chain_right X C)
    · exact fun a fd F => fn_sound (m := 6) F fs__law_single_right rfl rfl (d__law_single_right X C)
    · exact fun a fd F => fn_sound (m := 19) F fs__law_right rfl rfl (d__law_right X C)
    · exact fun a fd F => fn_sound (m := 1) F fs_law rfl rfl (d_law X C)
end
def dfs : List He.DefD := [⟨("greatest_divisor", none), "greatest_divisor", "greatest_divisor", defArgs (top 8), defBody (top 8), sc_greatest_divisor, [], []⟩, ⟨("least_multiple", none), "least_multiple", "least_multiple", defArgs (top 9), defBody (top 9), sc_least_multiple, [], []⟩, ⟨("lowest", none), "lowest", "lowest", defArgs (top 10), defBody (top 10), sc_lowest, [], []⟩, ⟨("times", none), "times", "times", defArgs (top 11), defBody (top 11), sc_times, [], []⟩, ⟨("is_less", none), "is_less", "is_less", defArgs (top 12), defBody (top 12), sc_is_less, [], []⟩, ⟨("common_below", none), "common_below", "common_below", defArgs (top 13), defBody (top 13), sc_common_below, [], []⟩, ⟨("numbers_of", none), "numbers_of", "numbers_of", defArgs (top 14), defBody (top 14), sc_numbers_of, [], []⟩, ⟨("total", none), "total", "total", defArgs (top 15), defBody (top 15), sc_total, [], []⟩, ⟨("total_of_products", none), "total_of_products", "total_of_products", defArgs (top 16), defBody (top 16), sc_total_of_products, [], []⟩, ⟨("is_integer", none), "is_integer", "is_integer", defArgs (top 18), defBody (top 18), sc_is_integer, [.non, .non], []⟩, ⟨("is_fraction", none), "is_fraction", "is_fraction", defArgs (top 19), defBody (top 19), sc_is_fraction, [], []⟩, ⟨("is_fractions", none), "is_fractions", "is_fractions", defArgs (top 21), defBody (top 21), sc_is_fractions, [], []⟩, ⟨("lowered", none), "lowered", "lowered", defArgs (top 22), defBody (top 22), sc_lowered, [], []⟩, ⟨("is_shared", none), "is_shared", "is_shared", defArgs (top 23), defBody (top 23), sc_is_shared, [], []⟩, ⟨("is_game", none), "is_game", "is_game", defArgs (top 24), defBody (top 24), sc_is_game, [], []⟩, ⟨("need_game", none), "need_game", "need_game", defArgs (top 25), defBody (top 25), sc_need_game, [], []⟩, ⟨("need_game_of", none), "need_game_of", "need_game_of", defArgs (top 26), defBody (top 26), sc_need_game_of, [], []⟩, ⟨("is_leaning", none), "is_leaning", "is_leaning", defArgs (top 27), defBody (top 27), sc_is_leaning, [], []⟩, ⟨("need_leaning", none), "need_leaning", "need_leaning", defArgs (top 28), defBody (top 28), sc_need_leaning, [], []⟩, ⟨("greatest_of", none), "greatest_of", "greatest_of", defArgs (top 29), defBody (top 29), sc_greatest_of, [], []⟩, ⟨("best_sum", none), "best_sum", "best_sum", defArgs (top 30), defBody (top 30), sc_best_sum, [], []⟩, ⟨("news_or_none", none), "news_or_none", "news_or_none", defArgs (top 32), defBody (top 32), sc_news_or_none, [], []⟩, ⟨("need_news", none), "need_news", "need_news", defArgs (top 33), defBody (top 33), sc_need_news, [], []⟩, ⟨("product_of", none), "product_of", "product_of", defArgs (top 34), defBody (top 34), sc_product_of, [], []⟩, ⟨("noisy", none), "noisy", "noisy", defArgs (top 35), defBody (top 35), sc_noisy, [], []⟩, ⟨("worth_of", none), "worth_of", "worth_of", defArgs (top 36), defBody (top 36), sc_worth_of, [], []⟩, ⟨("news_worth", none), "news_worth", "news_worth", defArgs (top 37), defBody (top 37), sc_news_worth, [], []⟩, ⟨("_law_purse", none), "_law_purse", "_law_purse", defArgs (top 39), defBody (top 39), sc__law_purse, [], []⟩, ⟨("_law_pull", none), "_law_pull", "_law_pull", defArgs (top 40), defBody (top 40), sc__law_pull, [], []⟩, ⟨("_law_pick", none), "_law_pick", "_law_pick", defArgs (top 41), defBody (top 41), sc__law_pick, [], []⟩, ⟨("_law_divisor", none), "_law_divisor", "_law_divisor", defArgs (top 42), defBody (top 42), sc__law_divisor, [], []⟩, ⟨("_law_low", none), "_law_low", "_law_low", defArgs (top 43), defBody (top 43), sc__law_low, [], []⟩, ⟨("_law_weights", none), "_law_weights", "_law_weights", defArgs (top 44), defBody (top 44), sc__law_weights, [], []⟩, ⟨("_law_sheet", none), "_law_sheet", "_law_sheet", defArgs (top 45), defBody (top 45), sc__law_sheet, [], []⟩, ⟨("_law_shown", none), "_law_shown", "_law_shown", defArgs (top 46), defBody (top 46), sc__law_shown, [], []⟩, ⟨("_law_low_sheet", none), "_law_low_sheet", "_law_low_sheet", defArgs (top 47), defBody (top 47), sc__law_low_sheet, [], []⟩, ⟨("_law_small_line", none), "_law_small_line", "_law_small_line", defArgs (top 48), defBody (top 48), sc__law_small_line, [], []⟩, ⟨("_law_blurred", none), "_law_blurred", "_law_blurred", defArgs (top 49), defBody (top 49), sc__law_blurred, [], []⟩, ⟨("_law_whole_bets", none), "_law_whole_bets", "_law_whole_bets", defArgs (top 50), defBody (top 50), sc__law_whole_bets, [], []⟩, ⟨("_law_worth", none), "_law_worth", "_law_worth", defArgs (top 51), defBody (top 51), sc__law_worth, [], []⟩, ⟨("_law_bets", none), "_law_bets", "_law_bets", defArgs (top 52), defBody (top 52), sc__law_bets, [], []⟩, ⟨("_law_shown_line", none), "_law_shown_line", "_law_shown_line", defArgs (top 53), defBody (top 53), sc__law_shown_line, [], []⟩, ⟨("_law_great_bets", none), "_law_great_bets", "_law_great_bets", defArgs (top 54), defBody (top 54), sc__law_great_bets, [], []⟩, ⟨("_law_chain_right", none), "_law_chain_right", "_law_chain_right", defArgs (top 55), defBody (top 55), sc__law_chain_right, [], []⟩, ⟨("_law_single_right", none), "_law_single_right", "_law_single_right", defArgs (top 56), defBody (top 56), sc__law_single_right, [], []⟩, ⟨("_law_right", none), "_law_right", "_law_right", defArgs (top 57), defBody (top 57), sc__law_right, [], []⟩, ⟨("law", none), "law", "law", defArgs (top 58), defBody (top 58), sc_law, [], []⟩]
def fcs : List He.Fa := [.glo "greatest_divisor", .glo "least_multiple", .glo "lowest", .glo "times", .glo "is_less", .glo "common_below", .glo "numbers_of", .glo "total", .glo "total_of_products", .glo "is_integer", .glo "is_fraction", .glo "is_fractions", .glo "lowered", .glo "is_shared", .glo "is_game", .glo "need_game", .glo "need_game_of", .glo "is_leaning", .glo "need_leaning", .glo "greatest_of", .glo "best_sum", .glo "news_or_none", .glo "need_news", .glo "product_of", .glo "noisy", .glo "worth_of", .glo "news_worth", .glo "_law_purse", .glo "_law_pull", .glo "_law_pick", .glo "_law_divisor", .glo "_law_low", .glo "_law_weights", .glo "_law_sheet", .glo "_law_shown", .glo "_law_low_sheet", .glo "_law_small_line", .glo "_law_blurred", .glo "_law_whole_bets", .glo "_law_worth", .glo "_law_bets", .glo "_law_shown_line", .glo "_law_great_bets", .glo "_law_chain_right", .glo "_law_single_right", .glo "_law_right", .glo "law", .free "abs", .free "bool", .free "int", .free "isinstance", .free "len", .free "list", .free "max", .free "min", .free "range", .free "repr", .free "sum", .free "tuple", .free "zip", .glo "ONE"]
def xfs : List XF := []
def tbs : Tb := [("ONE", [(.int 1), (.int 1)])]
def loose_0 : List PySem.Str := ["ChanceError", "BadLeaning", "BadGame", "BadNews", "BadNoise", "ONE", "greatest_divisor", "least_multiple", "lowest", "times", "is_less", "common_below", "numbers_of", "total", "total_of_products", "is_integer", "is_fraction", "is_fractions", "lowered", "is_shared", "is_game", "need_game", "need_game_of", "is_leaning", "need_leaning", "greatest_of", "best_sum", "news_or_none", "need_news", "product_of"]
def loose_30 : List PySem.Str := ["noisy", "worth_of", "news_worth", "_law_purse", "_law_pull", "_law_pick", "_law_divisor", "_law_low", "_law_weights", "_law_sheet", "_law_shown", "_law_low_sheet", "_law_small_line", "_law_blurred", "_law_whole_bets", "_law_worth", "_law_bets", "_law_shown_line", "_law_great_bets", "_law_chain_right", "_law_single_right", "_law_right"]
def loose : List PySem.Str := loose_0 ++ loose_30

abbrev Rr : PySem.W.OpenRow := PySem.W.OpenLaw.row Rw
abbrev hk : PySem.W.Hook := hookX 4 fcs dfs tbs xfs
def ob (s : PySem.W.SharedT) : He.AlD × Bool × Bool := obsX 4 fcs dfs tbs xfs (HandSHeadRun.getT s)
theorem ob_eq (s : PySem.W.SharedT) : ob s = hk.obs s.abs := obsX_eq (HandSHeadRun.getT_eq s)
theorem run (w : World) : HandSHeadRun.RunEq Rr (PySem.W.view Rr.prog [58]) hk ob 20000 loose w := by
  intro os
  kernel_rfl
section
variable {P : Program} {w : World} {K : PySem.W.Frag} {h : Heap} {mg : PySem.Str → Option Value}
theorem xs_of (X : K.In h) (G : h.Ns mainGlobals mg) (c : He.SaysD fcs dfs K) (t : tbOk tbs K = true) (t2 : xfOk xfs K = true) : Xs K mg := by
  exact ⟨He.free_ok X G (c.fact 47 (f := .free "abs") rfl),
    He.free_ok X G (c.fact 48 (f := .free "bool") rfl),
    He.free_ok X G (c.fact 49 (f := .free "int") rfl),
    He.free_ok X G (c.fact 50 (f := .free "isinstance") rfl),
    He.free_ok X G (c.fact 51 (f := .free "len") rfl),
    He.free_ok X G (c.fact 52 (f := .free "list") rfl),
    He.free_ok X G (c.fact 53 (f := .free "max") rfl),
    He.free_ok X G (c.fact 54 (f := .free "min") rfl),
    He.free_ok X G (c.fact 55 (f := .free "range") rfl),
    He.free_ok X G (c.fact 56 (f := .free "repr") rfl),
    He.free_ok X G (c.fact 57 (f := .free "sum") rfl),
    He.free_ok X G (c.fact 58 (f := .free "tuple") rfl),
    He.free_ok X G (c.fact 59 (f := .free "zip") rfl),
    glob_tup t 0 rfl (He.glo_ok X G (c.fact 60 (f := .glo "ONE") rfl))⟩
theorem ds_of (X : K.In h) (G : h.Ns mainGlobals mg) (c : He.SaysD fcs dfs K) : Ds K mg := by
  refine ⟨?_, ?_, ?_, ?_, ?_, ?_, ?_, ?_, ?_, ?_, ?_, ?_, ?_, ?_, ?_, ?_, ?_, ?_, ?_, ?_, ?_, ?_, ?_, ?_, ?_, ?_, ?_, ?_, ?_, ?_, ?_, ?_, ?_, ?_, ?_, ?_, ?_, ?_, ?_, ?_, ?_, ?_, ?_, ?_, ?_, ?_, ?_⟩
  · obtain ⟨fd, F⟩ := c.def_ 0 rfl
    exact ⟨_, fd, He.glo_ok X G (c.fact 0 (f := .glo "greatest_divisor") rfl), F⟩
  · obtain ⟨fd, F⟩ := c.def_ 1 rfl
    exact ⟨_, fd, He.glo_ok X G (c.fact 1 (f := .glo "least_multiple") rfl), F⟩
  · obtain ⟨fd, F⟩ := c.def_ 2 rfl
    exact ⟨_, fd, He.glo_ok X G (c.fact 2 (f := .glo "lowest") rfl), F⟩
  · obtain ⟨fd, F⟩ := c.def_ 3 rfl
    exact ⟨_, fd, He.glo_ok X G (c.fact 3 (f := .glo "times") rfl), F⟩
  · obtain ⟨fd, F⟩ := c.def_ 4 rfl
    exact ⟨_, fd, He.glo_ok X G (c.fact 4 (f := .glo "is_less") rfl), F⟩
  · obtain ⟨fd, F⟩ := c.def_ 5 rfl
    exact ⟨_, fd, He.glo_ok X G (c.fact 5 (f := .glo "common_below") rfl), F⟩
  · obtain ⟨fd, F⟩ := c.def_ 6 rfl
    exact ⟨_, fd, He.glo_ok X G (c.fact 6 (f := .glo "numbers_of") rfl), F⟩
  · obtain ⟨fd, F⟩ := c.def_ 7 rfl
    exact ⟨_, fd, He.glo_ok X G (c.fact 7 (f := .glo "total") rfl), F⟩
  · obtain ⟨fd, F⟩ := c.def_ 8 rfl
    exact ⟨_, fd, He.glo_ok X G (c.fact 8 (f := .glo "total_of_products") rfl), F⟩
  · obtain ⟨fd, F⟩ := c.def_ 9 rfl
    exact ⟨_, fd, He.glo_ok X G (c.fact 9 (f := .glo "is_integer") rfl), F⟩
  · obtain ⟨fd, F⟩ := c.def_ 10 rfl
    exact ⟨_, fd, He.glo_ok X G (c.fact 10 (f := .glo "is_fraction") rfl), F⟩
  · obtain ⟨fd, F⟩ := c.def_ 11 rfl
    exact ⟨_, fd, He.glo_ok X G (c.fact 11 (f := .glo "is_fractions") rfl), F⟩
  · obtain ⟨fd, F⟩ := c.def_ 12 rfl
    exact ⟨_, fd, He.glo_ok X G (c.fact 12 (f := .glo "lowered") rfl), F⟩
  · obtain ⟨fd, F⟩ := c.def_ 13 rfl
    exact ⟨_, fd, He.glo_ok X G (c.fact 13 (f := .glo "is_shared") rfl), F⟩
  · obtain ⟨fd, F⟩ := c.def_ 14 rfl
    exact ⟨_, fd, He.glo_ok X G (c.fact 14 (f := .glo "is_game") rfl), F⟩
  · obtain ⟨fd, F⟩ := c.def_ 15 rfl
    exact ⟨_, fd, He.glo_ok X G (c.fact 15 (f := .glo "need_game") rfl), F⟩
  · obtain ⟨fd, F⟩ := c.def_ 16 rfl
    exact ⟨_, fd, He.glo_ok X G (c.fact 16 (f := .glo "need_game_of") rfl), F⟩
  · obtain ⟨fd, F⟩ := c.def_ 17 rfl
    exact ⟨_, fd, He.glo_ok X G (c.fact 17 (f := .glo "is_leaning") rfl), F⟩
  · obtain ⟨fd, F⟩ := c.def_ 18 rfl
    exact ⟨_, fd, He.glo_ok X G (c.fact 18 (f := .glo "need_leaning") rfl), F⟩
  · obtain ⟨fd, F⟩ := c.def_ 19 rfl
    exact ⟨_, fd, He.glo_ok X G (c.fact 19 (f := .glo "greatest_of") rfl), F⟩
  · obtain ⟨fd, F⟩ := c.def_ 20 rfl
    exact ⟨_, fd, He.glo_ok X G (c.fact 20 (f := .glo "best_sum") rfl), F⟩
  · obtain ⟨fd, F⟩ := c.def_ 21 rfl
    exact ⟨_, fd, He.glo_ok X G (c.fact 21 (f := .glo "news_or_none") rfl), F⟩
  · obtain ⟨fd, F⟩ := c.def_ 22 rfl
    exact ⟨_, fd, He.glo_ok X G (c.fact 22 (f := .glo "need_news") rfl), F⟩
  · obtain ⟨fd, F⟩ := c.def_ 23 rfl
    exact ⟨_, fd, He.glo_ok X G (c.fact 23 (f := .glo "product_of") rfl), F⟩
  · obtain ⟨fd, F⟩ := c.def_ 24 rfl
    exact ⟨_, fd, He.glo_ok X G (c.fact 24 (f := .glo "noisy") rfl), F⟩
  · obtain ⟨fd, F⟩ := c.def_ 25 rfl
    exact ⟨_, fd, He.glo_ok X G (c.fact 25 (f := .glo "worth_of") rfl), F⟩
  · obtain ⟨fd, F⟩ := c.def_ 26 rfl
    exact ⟨_, fd, He.glo_ok X G (c.fact 26 (f := .glo "news_worth") rfl), F⟩
  · obtain ⟨fd, F⟩ := c.def_ 27 rfl
    exact ⟨_, fd, He.glo_ok X G (c.fact 27 (f := .glo "_law_purse") rfl), F⟩
  · obtain ⟨fd, F⟩ := c.def_ 28 rfl
    exact ⟨_, fd, He.glo_ok X G (c.fact 28 (f := .glo "_law_pull") rfl), F⟩
  · obtain ⟨fd, F⟩ := c.def_ 29 rfl
    exact ⟨_, fd, He.glo_ok X G (c.fact 29 (f := .glo "_law_pick") rfl), F⟩
  · obtain ⟨fd, F⟩ := c.def_ 30 rfl
    exact ⟨_, fd, He.glo_ok X G (c.fact 30 (f := .glo "_law_divisor") rfl), F⟩
  · obtain ⟨fd, F⟩ := c.def_ 31 rfl
    exact ⟨_, fd, He.glo_ok X G (c.fact 31 (f := .glo "_law_low") rfl), F⟩
  · obtain ⟨fd, F⟩ := c.def_ 32 rfl
    exact ⟨_, fd, He.glo_ok X G (c.fact 32 (f := .glo "_law_weights") rfl), F⟩
  · obtain ⟨fd, F⟩ := c.def_ 33 rfl
    exact ⟨_, fd, He.glo_ok X G (c.fact 33 (f := .glo "_law_sheet") rfl), F⟩
  · obtain ⟨fd, F⟩ := c.def_ 34 rfl
    exact ⟨_, fd, He.glo_ok X G (c.fact 34 (f := .glo "_law_shown") rfl), F⟩
  · obtain ⟨fd, F⟩ := c.def_ 35 rfl
    exact ⟨_, fd, He.glo_ok X G (c.fact 35 (f := .glo "_law_low_sheet") rfl), F⟩
  · obtain ⟨fd, F⟩ := c.def_ 36 rfl
    exact ⟨_, fd, He.glo_ok X G (c.fact 36 (f := .glo "_law_small_line") rfl), F⟩
  · obtain ⟨fd, F⟩ := c.def_ 37 rfl
    exact ⟨_, fd, He.glo_ok X G (c.fact 37 (f := .glo "_law_blurred") rfl), F⟩
  · obtain ⟨fd, F⟩ := c.def_ 38 rfl
    exact ⟨_, fd, He.glo_ok X G (c.fact 38 (f := .glo "_law_whole_bets") rfl), F⟩
  · obtain ⟨fd, F⟩ := c.def_ 39 rfl
    exact ⟨_, fd, He.glo_ok X G (c.fact 39 (f := .glo "_law_worth") rfl), F⟩
  · obtain ⟨fd, F⟩ := c.def_ 40 rfl
    exact ⟨_, fd, He.glo_ok X G (c.fact 40 (f := .glo "_law_bets") rfl), F⟩
  · obtain ⟨fd, F⟩ := c.def_ 41 rfl
    exact ⟨_, fd, He.glo_ok X G (c.fact 41 (f := .glo "_law_shown_line") rfl), F⟩
  · obtain ⟨fd, F⟩ := c.def_ 42 rfl
    exact ⟨_, fd, He.glo_ok X G (c.fact 42 (f := .glo "_law_great_bets") rfl), F⟩
  · obtain ⟨fd, F⟩ := c.def_ 43 rfl
    exact ⟨_, fd, He.glo_ok X G (c.fact 43 (f := .glo "_law_chain_right") rfl), F⟩
  · obtain ⟨fd, F⟩ := c.def_ 44 rfl
    exact ⟨_, fd, He.glo_ok X G (c.fact 44 (f := .glo "_law_single_right") rfl), F⟩
  · obtain ⟨fd, F⟩ := c.def_ 45 rfl
    exact ⟨_, fd, He.glo_ok X G (c.fact 45 (f := .glo "_law_right") rfl), F⟩
  · obtain ⟨fd, F⟩ := c.def_ 46 rfl
    exact ⟨_, fd, He.glo_ok X G (c.fact 46 (f := .glo "law") rfl), F⟩
end
def fuel : Nat := 30
abbrev LawAll : Prop := ∀ (ns : List Int), ns.length ≤ 63 → ∃ cs, sem fuel .law [.lk (ns.map PyData.int)] [] = .ok (.fr (.d (.bool true))) cs
end
end LW
end
section
set_option Elab.async false
set_option linter.all false
set_option maxRecDepth 100000
set_option maxHeartbeats 0
set_option autoImplicit false
open PySem PySem.W PySem.Calls PyProof.Rows
theorem LW.fin_of (LA : LW.LawAll) : PySem.Challenge.rw_alikechances_k83_noise_on_news.Holds := by
  w_on; o_law
  refine HandSHeadRun.head_any (r := OpenLaw.row PySem.Challenge.rw_alikechances_k83_noise_on_news) (q := view (OpenLaw.row PySem.Challenge.rw_alikechances_k83_noise_on_news).prog [58]) (H := LW.hk) (ob := LW.ob) (M := 20000) (loose := LW.loose) (d := HandSHeadRun.topDef (OpenLaw.row PySem.Challenge.rw_alikechances_k83_noise_on_news).prog 58) (kwd := []) LW.ob_eq
    (by kernel_rfl) (fun s => by kernel_rfl) LW.run (by kernel_rfl) (by kernel_rfl) (by kernel_rfl) (by rfl) (by first | assumption | decide +kernel) (by decide +kernel) ⟨rfl, rfl, rfl, rfl, rfl, by decide +kernel⟩ ?hw ?hc
  case hw => w_witness2
  case hc =>
    refine DL.walk_G (l := PySem.Challenge.rw_alikechances_k83_noise_on_news) (n := 63) (k := LW.fuel) (x := "_law_script") (CX := L2.CX0) rfl (by decide) (by kernel_rfl) ⟨⟨rfl, by decide, by decide⟩, rfl⟩ ?F (fun _ _ _ _ z => z)
    intro w mg fa h Y G hmg0
    obtain ⟨K, KX, c, t, t2⟩ := Y
    have hmg : mg ("law" : PySem.Str) = some (.ref fa) := by
      have e : (HandSHeadRun.topDef (OpenLaw.row PySem.Challenge.rw_alikechances_k83_noise_on_news).prog 58).name = ("law" : PySem.Str) := by kernel_rfl
      rw [← e]
      exact hmg0
    have X := LW.xs_of KX G c t t2
    have D := LW.ds_of KX G c
    obtain ⟨a, fd, gm, F⟩ := D.f_law
    cases hmg.symm.trans gm
    have b := L2.FunD.bindsA (ps := ["_law_script"]) F fun _ _ _ _ _ _ us hl => match us, hl with | [_], _ => rfl
    exact ⟨K, fd, fun vs H Q _ => DL.spOf K mg 1 (LW.sem LW.fuel .law) vs H Q fun _ _ _ => False, KX, fun s v => b s [v] rfl, fun H a ns hl _ hS => DL.law_sp (n := 63) (LA ns hl) hS, fun base _ _ => DL.fn_closed (LW.all_ok X D LW.fuel .law fa fd F)⟩
end
section
set_option Elab.async false
set_option linter.all false
set_option maxRecDepth 100000
set_option autoImplicit false
namespace LW
open PySem PySem.Spec PyProof.Rows L2 DL
/-! ### what expressions come to, put together part by part (no law in sight) -/
section
variable {sl sl' : Sl} {cs cs1 cs2 cs3 : Cs} {f g h : SE} {fa : SA} {x y z : PyData} {v w : Val} {i : Nat} {b c : Bool} {xs : List PyData}
theorem ea_nil : aNil sl cs = .ok (([] : List PyData).map Val.d) cs := rfl
theorem ea_cons (h : f sl cs = .ok (.d x) cs1) (h2 : fa sl cs1 = .ok (xs.map Val.d) cs2) : aCons f fa sl cs = .ok ((x :: xs).map Val.d) cs2 := by
  simp [h, h2]
theorem ea_lst (h : fa sl cs = .ok (xs.map Val.d) cs1) (hl : xs.length ≤ 16777216) : eLst fa sl cs = .ok (.d (.list xs)) cs1 := by
  simp [h, hl]
theorem ea_tup (h : fa sl cs = .ok (xs.map Val.d) cs1) (hl : xs.length ≤ 16777216) : eTup fa sl cs = .ok (.d (.tuple xs)) cs1 := by
  simp [h, hl]
theorem ea_olst (h : fa sl cs = .ok (xs.map Val.d) cs1) (hl : xs.length ≤ 16777216) : oLst fa sl cs = .ok (.ow (.list xs)) cs1 := by
  simp [h, hl]
/-- the arguments of a call, as values -/
theorem ev_cons (h : f sl cs = .ok v cs1) (hs : v.solid = true) {vs : List Val} (h2 : fa sl cs1 = .ok vs cs2) : aCons f fa sl cs = .ok (v :: vs) cs2 := by
  simp [h, hs, h2]
theorem ev_bcons (h : f sl cs = .ok v cs1) {vs : List Val} (h2 : fa sl cs1 = .ok vs cs2) : bCons f fa sl cs = .ok (v :: vs) cs2 := by
  simp [h, h2]
theorem ev_one (h : f sl cs = .ok v cs1) : bCons f aNil sl cs = .ok [v] cs1 := by
  simp [h]
theorem ec_b {gb : List Val → Cs → R Val} {vs : List Val} (h : fa sl cs = .ok vs cs1) (h2 : gb vs cs1 = .ok v cs2) : eCall gb fa sl cs = .ok v cs2 := by
  rw [ev_call, h, R.bind_ok, h2]
theorem ed_o {F : FS} {ds : List Val} {vs : List Val} {s : Slot} (h : fa sl cs = .ok vs cs1) (h2 : F (vs ++ ds) cs1 = .ok s cs2) : oDef F ds fa sl cs = .ok s cs2 := by
  rw [ev_def, h, R.bind_ok, h2]
theorem ed_call {F : FS} {vs : List Val} {s : Slot} (h : fa sl cs = .ok vs cs1) (h2 : F vs cs1 = .ok s cs2) : eFz (oDef F [] fa) sl cs = .ok (fz s) cs2 := by
  rw [ev_fz, ev_def, h, R.bind_ok, List.append_nil, h2, R.bind_ok]
theorem ea_def1 {F : FS} (h1 : sl[i]? = some (some (.fr v))) (hs : v.solid = true) (h2 : f sl cs = .ok (.d x) cs1) (h3 : F [v, .d x] cs1 = .ok (.fr (.d y)) cs2) : eFz (oDef F [] (aCons (eVar i) (aCons f aNil))) sl cs = .ok (.d y) cs2 := by
  simp [ev_var h1, hs, h2, h3]
theorem ee_op {o : PyData → PyData → Option PyData} (hf : f sl cs = .ok (.d x) cs1) (hg : g sl cs1 = .ok (.d y) cs2) (h : o x y = some z) : eOp o f g sl cs = .ok (.d z) cs2 := by
  simp [hf, hg, h]
theorem ee_ix (hf : f sl cs = .ok (.d x) cs1) (hg : g sl cs1 = .ok (.d y) cs2) (h : ixD (.d x) (.d y) cs2 = .ok v cs2) : eIx f g sl cs = .ok v cs2 := by
  simp only [ev_ix, hf, hg, R.bind_ok, h]
theorem ix_t {n : Int} (h : atI xs n = some x) : ixD (.d (.tuple xs)) (.d (.int n)) cs = .ok (.d x) cs := by simp [h]
theorem ix_l {n : Int} (h : atI xs n = some x) : ixD (.d (.list xs)) (.d (.int n)) cs = .ok (.d x) cs := by simp [h]
theorem te_b (hf : f sl cs = .ok (.d (.bool b)) cs1) : tBool f sl cs = .ok b cs1 := by
  simp [hf]
theorem te_tru (hf : f sl cs = .ok (.d (.bool b)) cs1) : tTru f sl cs = .ok b cs1 := by
  simp [hf]
theorem te_op {o : PyData → PyData → Option PyData} (hf : f sl cs = .ok (.d x) cs1) (hg : g sl cs1 = .ok (.d y) cs2) (h : o x y = some (.bool b)) : tBool (eOp o f g) sl cs = .ok b cs2 := te_b (ee_op hf hg h)
theorem te_and0 {t u : ST} (h : t sl cs = .ok false cs1) : tAndD t u sl cs = .ok false cs1 := by simp [h]
theorem te_and1 {t u : ST} (h : t sl cs = .ok true cs1) (h2 : u sl cs1 = .ok b cs2) : tAndD t u sl cs = .ok b cs2 := by simp [h, h2]
theorem te_or1 {t u : ST} (h : t sl cs = .ok true cs1) : tOrD t u sl cs = .ok true cs1 := by simp [h]
theorem te_or0 {t u : ST} (h : t sl cs = .ok false cs1) (h2 : u sl cs1 = .ok b cs2) : tOrD t u sl cs = .ok b cs2 := by simp [h, h2]
theorem te_not {t : ST} (h : t sl cs = .ok b cs1) : tNotD t sl cs = .ok (!b) cs1 := by simp [h]
theorem se_if1 {t : ST} {p q : SS} {r : RS} (h : t sl cs = .ok true cs1) (h2 : p sl cs1 = r) : sIf t p q sl cs = r := by
  rw [ev_sIf, h, R.go_ok, if_pos rfl, h2]
theorem se_if0 {t : ST} {p q : SS} {r : RS} (h : t sl cs = .ok false cs1) (h2 : q sl cs1 = r) : sIf t p q sl cs = r := by
  rw [ev_sIf, h, R.go_ok, if_neg (by decide), h2]
theorem se_pass {t : ST} {p : SS} (h : t sl cs = .ok false cs1) : sIf t p sNil sl cs = .nx sl cs1 := se_if0 h rfl
theorem oe_fr (h : f sl cs = .ok v cs1) (hs : v.solid = true) : oFr f sl cs = .ok (.fr v) cs1 := by
  simp [h, hs]
theorem se_set {fo : SO} {s : Slot} (h : fo sl cs = .ok s cs1) : sSet i fo sl cs = .nx (sl.set i (some s)) cs1 := by
  rw [ev_set, h, R.go_ok]
theorem se_setd (h : f sl cs = .ok (.d x) cs1) : sSet i (oFr f) sl cs = .nx (sl.set i (some (.fr (.d x)))) cs1 := se_set (oe_fr h rfl)
theorem se_ret (h : f sl cs = .ok (.d x) cs1) : sRet (oFr f) sl cs = .rt (.fr (.d x)) cs1 := by
  simp [h]
theorem se_step {p q : SS} {r : RS} (h : p sl cs = .nx sl' cs1) (h2 : q sl' cs1 = r) : sSeq p q sl cs = r := by
  rw [ev_seq, h, RS.seq_nx, h2]
theorem se_rt {p q : SS} {s : Slot} (h : p sl cs = .rt s cs1) : sSeq p q sl cs = .rt s cs1 := by
  rw [ev_seq, h]
  rfl
theorem se_ex {p q : SS} {e : Ex} (h : p sl cs = .ex e sl' cs1) : sSeq p q sl cs = .ex e sl' cs1 := by
  rw [ev_seq, h]
  rfl
theorem fz_o {fo : SO} {s : Slot} (h : fo sl cs = .ok s cs1) : eFz fo sl cs = .ok (fz s) cs1 := by
  rw [ev_fz, h, R.bind_ok]
theorem ee_if1 {t : ST} (h : t sl cs = .ok true cs1) (h2 : f sl cs1 = .ok v cs2) : eIf t f g sl cs = .ok v cs2 := by
  rw [ev_if, h, R.bind_ok, if_pos rfl, h2]
theorem ee_if0 {t : ST} (h : t sl cs = .ok false cs1) (h2 : g sl cs1 = .ok v cs2) : eIf t f g sl cs = .ok v cs2 := by
  rw [ev_if, h, R.bind_ok, if_neg (by decide), h2]
/-- a comprehension with a test, over parts -/
theorem lcL_filt {gt : Val → Sl → Option Sl} {tt : ST} {te : SE} {slB : Sl} {α : Type} {e k : α → PyData} {pr : α → Bool} : ∀ {l : List α}, (∀ a ∈ l, ∃ s, gt (.d (e a)) slB = some s ∧ tt s cs = .ok (pr a) cs ∧ te s cs = .ok (.d (k a)) cs) → lcL gt tt te slB ((l.map e).map Val.d) cs = .ok ((l.filter pr).map k) cs
  | [], _ => rfl
  | a :: l, h => by
    obtain ⟨s, h1, h2, h3⟩ := h a (by simp)
    have ih := lcL_filt (gt := gt) (tt := tt) (te := te) (slB := slB) (e := e) (k := k) (pr := pr) (l := l) fun y hy => h y (by simp [hy])
    simp only [List.map_cons]
    generalize (l.map e).map Val.d = vs at ih ⊢
    unfold lcL
    rw [h1]
    by_cases hp : pr a = true
    · simp [h2, h3, ih, noEx, hp]
    · rw [Bool.not_eq_true] at hp
      simp [h2, ih, noEx, hp]
end
end LW
end
section
set_option Elab.async false
set_option linter.all false
set_option maxRecDepth 100000
set_option autoImplicit false
namespace LW
open PySem PySem.Spec PyProof.Rows L2 DL
/-! ### a tactic that puts the combinators of E0 together -/
section
variable {sl sl' : Sl} {cs cs1 cs2 cs3 : Cs} {f g h : SE} {fa : SA} {x y z : PyData} {v w : Val} {i j : Nat} {b c : Bool} {xs : List PyData}
theorem v_cons (h : f sl cs = .ok v cs1) (hs : v.solid = true) {vs : List Val} (h2 : fa sl cs1 = .ok vs cs2) : aCons f fa sl cs = .ok (v :: vs) cs2 := ev_cons h hs h2
theorem v_nil : aNil sl cs = .ok [] cs := rfl
theorem v_tup {vs : List Val} (h : fa sl cs = .ok vs cs1) (h2 : mkD .tuple vs cs1 = .ok v cs1) : eTup fa sl cs = .ok v cs1 := by
  rw [ev_tup, h, R.bind_ok, h2]
theorem v_lst {vs : List Val} (h : fa sl cs = .ok vs cs1) (h2 : mkD .list vs cs1 = .ok v cs1) : eLst fa sl cs = .ok v cs1 := by
  rw [ev_lst, h, R.bind_ok, h2]
theorem v_olst {s : Slot} {vs : List Val} (h : fa sl cs = .ok vs cs1) (h2 : mkO vs cs1 = .ok s cs1) : oLst fa sl cs = .ok s cs1 := by
  rw [ev_oLst, h, R.bind_ok, h2]
theorem v_op {o : PyData → PyData → Option PyData} (hf : f sl cs = .ok v cs1) (hg : g sl cs1 = .ok w cs2) {u : Val} (h : op2 o v w cs2 = .ok u cs2) : eOp o f g sl cs = .ok u cs2 := by
  rw [ev_op, hf, R.bind_ok, hg, R.bind_ok, h]
theorem o_dd {o : PyData → PyData → Option PyData} (h : o x y = some z) : op2 o (.d x) (.d y) cs = .ok (.d z) cs := by
  rw [ev_op2, h]; rfl
theorem o_bd {o : PyData → PyData → Option PyData} (h : o x y = some z) : op2 o (.br x) (.d y) cs = .ok (.d z) cs := by
  rw [ev_op2bd, h]; rfl
theorem o_db {o : PyData → PyData → Option PyData} (h : o x y = some z) : op2 o (.d x) (.br y) cs = .ok (.d z) cs := by
  rw [ev_op2db, h]; rfl
theorem o_bb {o : PyData → PyData → Option PyData} (h : o x y = some z) : op2 o (.br x) (.br y) cs = .ok (.d z) cs := by
  rw [ev_op2bb, h]; rfl
theorem v_ix (hf : f sl cs = .ok v cs1) (hg : g sl cs1 = .ok w cs2) {u : Val} (h : ixD v w cs2 = .ok u cs2) : eIx f g sl cs = .ok u cs2 := by
  rw [ev_ix, hf, R.bind_ok, hg, R.bind_ok, h]
theorem x_t {n : Int} (h : atI xs n = some x) : ixD (.d (.tuple xs)) (.d (.int n)) cs = .ok (.d x) cs := by simp [h]
theorem x_l {n : Int} (h : atI xs n = some x) : ixD (.d (.list xs)) (.d (.int n)) cs = .ok (.d x) cs := by simp [h]
theorem x_b {n : Int} (h : atI xs n = some x) : ixD (.br (.list xs)) (.d (.int n)) cs = .ok (.d x) cs := by simp [h]
theorem x_c {n : Nat} {vs : List Val} {k : Int} (e : cs[n]? = some (.lst vs)) (ea : atI vs k = some v) (hs : v.solid = true) : ixD (.cel n) (.d (.int k)) cs = .ok v cs := ev_ixC e ea hs
theorem v_chain {o o' : PyData → PyData → Option PyData} {u : Val} (hf : f sl cs = .ok v cs1) (hg : g sl cs1 = .ok w cs2) (h1 : op2 o v w cs2 = .ok (.d (.bool true)) cs2) (hh : h sl cs2 = .ok u cs3) {r : Val} (h2 : op2 o' w u cs3 = .ok r cs3) : eChain o o' f g h sl cs = .ok r cs3 := by
  simp [hf, hg, h1, hh, h2]
theorem v_chain0 {o o' : PyData → PyData → Option PyData} (hf : f sl cs = .ok v cs1) (hg : g sl cs1 = .ok w cs2) (h1 : op2 o v w cs2 = .ok (.d (.bool false)) cs2) : eChain o o' f g h sl cs = .ok (.d (.bool false)) cs2 := by
  simp [hf, hg, h1]
theorem v_and1 (hf : f sl cs = .ok (.d (.bool true)) cs1) (hg : g sl cs1 = .ok v cs2) : eAnd f g sl cs = .ok v cs2 := by
  simp [hf, hg]
theorem v_and0 (hf : f sl cs = .ok (.d (.bool false)) cs1) : eAnd f g sl cs = .ok (.d (.bool false)) cs1 := by
  simp [hf]
theorem v_or0 (hf : f sl cs = .ok (.d (.bool false)) cs1) (hg : g sl cs1 = .ok v cs2) : eOr f g sl cs = .ok v cs2 := by
  simp [hf, hg]
theorem v_or1 (hf : f sl cs = .ok (.d (.bool true)) cs1) : eOr f g sl cs = .ok (.d (.bool true)) cs1 := by
  simp [hf]
theorem v_andb (hf : f sl cs = .ok (.d (.bool b)) cs1) {r : R Val} (h2 : (bif b then g sl cs1 else .ok (.d (.bool false)) cs1) = r) : eAnd f g sl cs = r := by
  cases b with
  | true => rw [ev_and, hf, R.bind_ok]; exact h2
  | false => rw [v_and0 hf]; exact h2
theorem v_orb (hf : f sl cs = .ok (.d (.bool b)) cs1) {r : R Val} (h2 : (bif b then .ok (.d (.bool true)) cs1 else g sl cs1) = r) : eOr f g sl cs = r := by
  cases b with
  | true => rw [v_or1 hf]; exact h2
  | false => rw [ev_or, hf, R.bind_ok]; exact h2
theorem v_not (hf : f sl cs = .ok (.d (.bool b)) cs1) : eNot f sl cs = .ok (.d (.bool (!b))) cs1 := by
  simp [hf]
theorem v_neg {n : Int} (hf : f sl cs = .ok (.d (.int n)) cs1) : eNeg f sl cs = .ok (.d (.int (-n))) cs1 := by
  simp [hf]
theorem v_rev (hf : f sl cs = .ok v cs1) (h : revV v cs1 = .ok w cs1) : eRev f sl cs = .ok w cs1 := by
  show (f sl cs).bind revV = _
  rw [hf, R.bind_ok, h]
theorem v_sl {l m : SI} {lo hi : Option Int} (hf : f sl cs = .ok v cs1) (hl : l sl cs1 = .ok lo cs2) (hm : m sl cs2 = .ok hi cs3) (h : sliceV v lo hi cs3 = .ok w cs3) : eSl f l m sl cs = .ok w cs3 := by
  rw [ev_sl, hf, R.bind_ok, hl, R.bind_ok, hm, R.bind_ok, h]
theorem i_none : iNone sl cs = .ok none cs := rfl
theorem i_some {n : Int} (hf : f sl cs = .ok (.d (.int n)) cs1) : iSome f sl cs = .ok (some n) cs1 := by
  rw [ev_iSome, hf]; rfl
theorem v_isi {t : Ty} (hf : f sl cs = .ok (.d x) cs1) (e : isiB t x = b) : eIsi t f sl cs = .ok (.d (.bool b)) cs1 := by
  rw [ev_isi, hf, ← e]; rfl
theorem isi_t {t : Ty} (h : isiB t x = true) : isiB t x = true := h
theorem isi_f {t : Ty} (h : isiB t x = false) : isiB t x = false := h
theorem isN_t (h : isNone x = true) : isNone x = true := h
theorem isN_f (h : isNone x = false) : isNone x = false := h
theorem v_call {gb : List Val → Cs → R Val} {vs : List Val} (h : fa sl cs = .ok vs cs1) (h2 : gb vs cs1 = .ok v cs2) : eCall gb fa sl cs = .ok v cs2 := ec_b h h2
theorem v_if1 {t : DL.ST} (h : t sl cs = .ok true cs1) (h2 : f sl cs1 = .ok v cs2) : eIf t f g sl cs = .ok v cs2 := ee_if1 h h2
theorem v_if0 {t : DL.ST} (h : t sl cs = .ok false cs1) (h2 : g sl cs1 = .ok v cs2) : eIf t f g sl cs = .ok v cs2 := ee_if0 h h2
theorem v_fz {fo : SO} {s : Slot} (h : fo sl cs = .ok s cs1) (e : DL.fz s = v) : eFz fo sl cs = .ok v cs1 := by rw [← e]; exact fz_o h
theorem v_cel {fo : SO} {s : Slot} (h : fo sl cs = .ok s cs1) (h2 : celV s cs1 = .ok v cs2) : eCel fo sl cs = .ok v cs2 := by
  rw [ev_cel, h, R.bind_ok, h2]
theorem o_def {F : FS} {vs ds : List Val} {s : Slot} (h : fa sl cs = .ok vs cs1) (h2 : F (vs ++ ds) cs1 = .ok s cs2) : oDef F ds fa sl cs = .ok s cs2 := ed_o h h2
theorem o_def0 {F : FS} {vs : List Val} {s : Slot} (h : fa sl cs = .ok vs cs1) (h2 : F vs cs1 = .ok s cs2) : oDef F [] fa sl cs = .ok s cs2 := by
  rw [ev_def, h, R.bind_ok, List.append_nil, h2]
theorem o_defK {F : FS} {vs : List Val} {s : Slot} {m : Nat} {pm : List Nat} (h : fa sl cs = .ok vs cs1) (hm : vs.length = m) {ws : List Val} (he : pm.map (fun j => vs.getD j (.d .none)) = ws) (h2 : F ws cs1 = .ok s cs2) : oDefK F m pm fa sl cs = .ok s cs2 := by
  rw [ev_defK, h, R.bind_ok, if_pos hm, he, h2]
theorem o_call {gb : List Val → Cs → R Slot} {vs : List Val} {s : Slot} (h : fa sl cs = .ok vs cs1) (h2 : gb vs cs1 = .ok s cs2) : oCall gb fa sl cs = .ok s cs2 := by
  rw [ev_ocall, h, R.bind_ok, h2]
theorem o_fr (h : f sl cs = .ok v cs1) (hs : v.solid = true) : oFr f sl cs = .ok (.fr v) cs1 := oe_fr h hs
theorem o_star (h : f sl cs = .ok v cs1) (e : starI v = some xs) {ys : List Val} (h2 : fa sl cs1 = .ok ys cs2) : aStar f fa sl cs = .ok (xs.map Val.d ++ ys) cs2 := by
  show (f sl cs).bind _ = _
  rw [h, R.bind_ok, e]
  show (fa sl cs1).bind _ = _
  rw [h2]
  rfl
theorem t_and1 {t u : DL.ST} (h : t sl cs = .ok true cs1) (h2 : u sl cs1 = .ok b cs2) : tAndD t u sl cs = .ok b cs2 := te_and1 h h2
theorem t_and0 {t u : DL.ST} (h : t sl cs = .ok false cs1) : tAndD t u sl cs = .ok false cs1 := te_and0 h
theorem t_or1 {t u : DL.ST} (h : t sl cs = .ok true cs1) : tOrD t u sl cs = .ok true cs1 := te_or1 h
theorem t_or0 {t u : DL.ST} (h : t sl cs = .ok false cs1) (h2 : u sl cs1 = .ok b cs2) : tOrD t u sl cs = .ok b cs2 := te_or0 h h2
theorem t_andb {t u : DL.ST} (h : t sl cs = .ok b cs1) {r : R Bool} (h2 : (bif b then u sl cs1 else .ok false cs1) = r) : tAndD t u sl cs = r := by
  cases b with
  | true => rw [ev_tAnd, h, R.bind_ok, if_pos rfl]; exact h2
  | false => rw [ev_tAnd, h, R.bind_ok, if_neg (by decide)]; exact h2
theorem t_orb {t u : DL.ST} (h : t sl cs = .ok b cs1) {r : R Bool} (h2 : (bif b then .ok true cs1 else u sl cs1) = r) : tOrD t u sl cs = r := by
  cases b with
  | true => rw [ev_tOr, h, R.bind_ok, if_pos rfl]; exact h2
  | false => rw [ev_tOr, h, R.bind_ok, if_neg (by decide)]; exact h2
theorem t_not {t : DL.ST} (h : t sl cs = .ok b cs1) (e : (!b) = c) : tNotD t sl cs = .ok c cs1 := by rw [← e]; exact te_not h
theorem t_b (hf : f sl cs = .ok (.d (.bool b)) cs1) : tBool f sl cs = .ok b cs1 := te_b hf
theorem t_tru (hf : f sl cs = .ok v cs1) (e : truV v cs1 = some b) : tTru f sl cs = .ok b cs1 := by
  rw [ev_tTru, hf, R.bind_ok, e]; rfl
theorem v_ifb {t : DL.ST} (h : t sl cs = .ok b cs1) {r : R Val} (h2 : (bif b then f sl cs1 else g sl cs1) = r) : eIf t f g sl cs = r := by
  cases b with
  | true => rw [ev_if, h, R.bind_ok, if_pos rfl]; exact h2
  | false => rw [ev_if, h, R.bind_ok, if_neg (by decide)]; exact h2
theorem s_ifb {t : DL.ST} {p q : SS} {r : RS} (h : t sl cs = .ok b cs1) (h2 : (bif b then p sl cs1 else q sl cs1) = r) : sIf t p q sl cs = r := by
  cases b with
  | true => exact se_if1 h h2
  | false => exact se_if0 h h2
theorem s_set {fo : SO} {s : Slot} (h : fo sl cs = .ok s cs1) (e : sl.set i (some s) = sl') : sSet i fo sl cs = .nx sl' cs1 := by rw [← e]; exact se_set h
theorem s_ret {fo : SO} {s : Slot} (h : fo sl cs = .ok s cs1) : sRet fo sl cs = .rt s cs1 := by rw [ev_ret, h, R.go_ok]
theorem s_retV {s : Slot} (e : sl[i]? = some (some s)) : sRetV i sl cs = .rt s cs := ev_retV e
theorem s_expr (h : f sl cs = .ok v cs1) : sExpr f sl cs = .nx sl cs1 := by rw [ev_expr, h, R.go_ok]
theorem s_fz {s : Slot} (e : sl[i]? = some (some s)) (ez : DL.fz s = v) (e2 : sl.set i (some (.fr v)) = sl') : sFz i sl cs = .nx sl' cs := by rw [← e2, ← ez]; exact ev_sFz e
theorem s_asg {gt : Val → Sl → Option Sl} (h : f sl cs = .ok v cs1) (hs : v.solid = true) (e : gt v sl = some sl') : sAsg gt f sl cs = .nx sl' cs1 := by
  rw [ev_sAsg, h, R.go_ok, if_pos hs, e]
theorem s_par {fa : SA} (h : fa sl cs = .ok [v, w] cs1) (e : (sl.set i (some (.fr v))).set j (some (.fr w)) = sl') : sPar i j fa sl cs = .nx sl' cs1 := by
  unfold sPar
  rw [h, R.go_ok, ← e]
theorem s_aug {o : PyData → PyData → Option PyData} (e : sl[i]? = some (some (.fr v))) (hf : f sl cs = .ok w cs1) {u : Val} (h : op2 o v w cs1 = .ok u cs1) (hs : u.solid = true) (e2 : sl.set i (some (.fr u)) = sl') : sAug i o f sl cs = .nx sl' cs1 := by
  unfold sAug
  rw [e]
  simp only [hf, R.go_ok, h, hs, if_true, e2]
theorem s_for {it : SA} {gt : Val → Sl → Option Sl} {p : SS} {vs : List Val} {r : RS} (h : it sl cs = .ok vs cs1) (h2 : forL gt p vs sl cs1 = r) : sFor it gt p sl cs = r := by
  rw [ev_sFor, h, R.go_ok, h2]
theorem p_seq {f : SE} {vs : List Val} (h : f sl cs = .ok v cs1) (h2 : seqV v cs1 = .ok vs cs1) : pSeq f sl cs = .ok vs cs1 := by
  rw [ev_pSeq, h, R.bind_ok, h2]
theorem p_rng {n : Nat} (h : fa sl cs = .ok [.d (.int n)] cs1) (hn : inB (n : Int) = true) : pRange1 fa sl cs = .ok (rangeL 0 n) cs1 := by
  rw [ev_pR1, h, R.bind_ok]
  show (if inB (n : Int) = true then R.ok (rangeL 0 (n : Int).toNat) cs1 else .bad) = _
  rw [if_pos hn, Int.toNat_natCast]
theorem s_seq {p q : SS} {r0 r : RS} (h : p sl cs = r0) (h2 : r0.seq q = r) : sSeq p q sl cs = r := by rw [ev_seq, h, h2]
theorem q_nx {q : SS} {r : RS} (h : q sl cs = r) : (RS.nx sl cs).seq q = r := by rw [RS.seq_nx, h]
theorem q_rt {q : SS} {s : Slot} : (RS.rt s cs).seq q = .rt s cs := rfl
theorem q_ex {q : SS} {e : Ex} : (RS.ex e sl cs).seq q = .ex e sl cs := rfl
theorem s_nil : sNil sl cs = .nx sl cs := rfl
theorem b_nx : bodyR (.nx sl cs) = .ok (.fr (.d .none)) cs := rfl
theorem b_rt {s : Slot} : bodyR (.rt s cs) = .ok s cs := rfl
theorem b_ex {e : Ex} : bodyR (.ex e sl cs) = .ex e cs := rfl
theorem b_body {r0 : RS} {r : R Slot} {r1 : RS} (h : r1 = r0) (h2 : bodyR r0 = r) : bodyR r1 = r := by rw [h, h2]
theorem fz_fr : DL.fz (.fr v) = v := rfl
theorem fz_ow : DL.fz (.ow x) = .d x := rfl
theorem not_t : (!true) = false := rfl
theorem not_f : (!false) = true := rfl
theorem dats_nil : datsOf [] = some [] := rfl
theorem dats_cons {vs : List Val} (h : datsOf vs = some xs) : datsOf (.d x :: vs) = some (x :: xs) := by rw [ev_datsC, h]; rfl
theorem dats_map : datsOf (xs.map Val.d) = some xs := ev_dats
theorem dats_app {vs : List Val} {ys : List PyData} (h : datsOf vs = some ys) : datsOf (xs.map Val.d ++ vs) = some (xs ++ ys) := by
  induction xs with
  | nil => exact h
  | cons x xs ih => exact dats_cons ih
theorem mk_t {vs : List Val} (h : datsOf vs = some xs) (hl : xs.length ≤ 16777216) : mkD .tuple vs cs = .ok (.d (.tuple xs)) cs := by
  rw [ev_mkT, h]
  exact if_pos hl
theorem mk_l {vs : List Val} (h : datsOf vs = some xs) (hl : xs.length ≤ 16777216) : mkD .list vs cs = .ok (.d (.list xs)) cs := by
  rw [ev_mkL, h]
  exact if_pos hl
theorem mk_o {vs : List Val} (h : datsOf vs = some xs) (hl : xs.length ≤ 16777216) : mkO vs cs = .ok (.ow (.list xs)) cs := by
  rw [ev_mkO, h]
  exact if_pos hl
theorem eqw (a c : PySem.Str) (ha : PyData.strOk a = true) (hc : PyData.strOk c = true) : eqD (.str a) (.str c) = some (.bool (a == c)) := by
  show (if eqOk (.str a) (.str c) = true then some (PyData.bool (PyData.eqv (.str a) (.str c))) else none) = _
  have e : PyData.eqv (.str a) (.str c) = (a == c) := by unfold PyData.eqv; rfl
  rw [if_pos (by simp [eqOk, PyData.canLay0, PyData.depth, ha, hc]), e]
theorem eqw_t {a c : PySem.Str} (h : (PyData.strOk a && (PyData.strOk c && (a == c))) = true) : eqD (.str a) (.str c) = some (.bool true) := by
  simp only [Bool.and_eq_true] at h
  rw [eqw a c h.1 h.2.1, h.2.2]
theorem eqw_f {a c : PySem.Str} (h : (PyData.strOk a && (PyData.strOk c && !(a == c))) = true) : eqD (.str a) (.str c) = some (.bool false) := by
  simp only [Bool.and_eq_true, Bool.not_eq_true'] at h
  rw [eqw a c h.1 h.2.1, h.2.2]
theorem new (a c : PySem.Str) (ha : PyData.strOk a = true) (hc : PyData.strOk c = true) : neD (.str a) (.str c) = some (.bool (!(a == c))) := by
  show (if eqOk (.str a) (.str c) = true then some (PyData.bool (!PyData.eqv (.str a) (.str c))) else none) = _
  have e : PyData.eqv (.str a) (.str c) = (a == c) := by unfold PyData.eqv; rfl
  rw [if_pos (by simp [eqOk, PyData.canLay0, PyData.depth, ha, hc]), e]
theorem new_f {a c : PySem.Str} (h : (PyData.strOk a && (PyData.strOk c && (a == c))) = true) : neD (.str a) (.str c) = some (.bool false) := by
  simp only [Bool.and_eq_true] at h
  rw [new a c h.1 h.2.1, h.2.2]; rfl
theorem new_t {a c : PySem.Str} (h : (PyData.strOk a && (PyData.strOk c && !(a == c))) = true) : neD (.str a) (.str c) = some (.bool true) := by
  simp only [Bool.and_eq_true, Bool.not_eq_true'] at h
  rw [new a c h.1 h.2.1, h.2.2]; rfl
theorem strs_all : ∀ {xs : List PyData} {ls : List PySem.Str}, strsOf xs = some ls → xs = ls.map PyData.str
  | [], ls, h => by simp [strsOf] at h; subst h; rfl
  | x :: xs, ls, h => by
    cases x <;> simp [strsOf] at h
    obtain ⟨l, h1, rfl⟩ := h
    rw [strs_all h1]
    rfl
theorem lay_strs : ∀ {ls : List PySem.Str}, ls.all PyData.strOk = true → PyData.canLayAll0 (ls.map PyData.str) = true
  | [], _ => rfl
  | l :: ls, h => by
    simp only [List.all_cons, Bool.and_eq_true] at h
    simp [PyData.canLayAll0, PyData.canLay0, h.1, lay_strs h.2]
theorem in_w {a : PySem.Str} {t : PyData} {xs : List PyData} {ls : List PySem.Str} (e : t = .tuple xs ∨ t = .list xs) (h1 : strsOf xs = some ls) (ha : PyData.strOk a = true) (hl : ls.all PyData.strOk = true) : inD (.str a) t = some (.bool (ls.any fun z => z == a)) := by
  have hx := strs_all h1
  subst hx
  have c2 : PyData.canLay0 (.str a) = true := ha
  have c3 : (PyData.str a).depth = 0 := by simp [PyData.depth]
  have c4 := lay_strs hl
  have e2 : inSeqD (.str a) t = some (ls.map PyData.str) := by
    unfold inSeqD
    rcases e with rfl | rfl <;> simp [c2, c3, c4]
  show ((inSeqD (.str a) t).map fun ds => PyData.bool (ds.any fun z => PyData.eqv z (.str a))).or _ = _
  rw [e2]
  show some (PyData.bool ((ls.map PyData.str).any fun z => PyData.eqv z (.str a))) = _
  rw [List.any_map]
  congr 2
theorem inw_t {a : PySem.Str} {t : PyData} {xs : List PyData} {ls : List PySem.Str} (e : t = .tuple xs) (h1 : strsOf xs = some ls) (h : (PyData.strOk a && (ls.all PyData.strOk && (ls.any fun z => z == a))) = true) : inD (.str a) t = some (.bool true) := by
  simp only [Bool.and_eq_true] at h
  rw [in_w (.inl e) h1 h.1 h.2.1, h.2.2]
theorem inw_f {a : PySem.Str} {t : PyData} {xs : List PyData} {ls : List PySem.Str} (e : t = .tuple xs) (h1 : strsOf xs = some ls) (h : (PyData.strOk a && (ls.all PyData.strOk && !(ls.any fun z => z == a))) = true) : inD (.str a) t = some (.bool false) := by
  simp only [Bool.and_eq_true, Bool.not_eq_true'] at h
  rw [in_w (.inl e) h1 h.1 h.2.1, h.2.2]
theorem nin_w {a : PySem.Str} {t : PyData} {xs : List PyData} {ls : List PySem.Str} (e : t = .tuple xs ∨ t = .list xs) (h1 : strsOf xs = some ls) (ha : PyData.strOk a = true) (hl : ls.all PyData.strOk = true) : notInD (.str a) t = some (.bool (!ls.any fun z => z == a)) := by
  have hx := strs_all h1
  subst hx
  have c2 : PyData.canLay0 (.str a) = true := ha
  have c3 : (PyData.str a).depth = 0 := by simp [PyData.depth]
  have c4 := lay_strs hl
  have e2 : inSeqD (.str a) t = some (ls.map PyData.str) := by
    unfold inSeqD
    rcases e with rfl | rfl <;> simp [c2, c3, c4]
  show ((inSeqD (.str a) t).map fun ds => PyData.bool (!ds.any fun z => PyData.eqv z (.str a))).or _ = _
  rw [e2]
  show some (PyData.bool (!(ls.map PyData.str).any fun z => PyData.eqv z (.str a))) = _
  rw [List.any_map]
  congr 2
theorem ninw_t {a : PySem.Str} {t : PyData} {xs : List PyData} {ls : List PySem.Str} (e : t = .tuple xs) (h1 : strsOf xs = some ls) (h : (PyData.strOk a && (ls.all PyData.strOk && !(ls.any fun z => z == a))) = true) : notInD (.str a) t = some (.bool true) := by
  simp only [Bool.and_eq_true, Bool.not_eq_true'] at h
  rw [nin_w (.inl e) h1 h.1 h.2.1, h.2.2]; rfl
theorem ninw_f {a : PySem.Str} {t : PyData} {xs : List PyData} {ls : List PySem.Str} (e : t = .tuple xs) (h1 : strsOf xs = some ls) (h : (PyData.strOk a && (ls.all PyData.strOk && (ls.any fun z => z == a))) = true) : notInD (.str a) t = some (.bool false) := by
  simp only [Bool.and_eq_true] at h
  rw [nin_w (.inl e) h1 h.1 h.2.1, h.2.2]; rfl
theorem some_t {o : Option PyData} (h : o = some (.bool true)) : o = some (.bool true) := h
theorem some_f {o : Option PyData} (h : o = some (.bool false)) : o = some (.bool false) := h
theorem cond_t {α : Type} {a c r : α} (h : a = r) : (bif true then a else c) = r := h
theorem cond_f {α : Type} {a c r : α} (h : c = r) : (bif false then a else c) = r := h
theorem lt_t {a k : Int} (h : a < k) : ltD (.int a) (.int k) = some (.bool true) := by simp [ltD, cT, h]
theorem lt_f {a k : Int} (h : k ≤ a) : ltD (.int a) (.int k) = some (.bool false) := by simp [ltD, cT]; omega
theorem le_t {a k : Int} (h : a ≤ k) : leD (.int a) (.int k) = some (.bool true) := by simp [leD, cT, h]
theorem le_f {a k : Int} (h : k < a) : leD (.int a) (.int k) = some (.bool false) := by simp [leD, cT]; omega
theorem gt_t {a k : Int} (h : k < a) : gtD (.int a) (.int k) = some (.bool true) := by simp [gtD, cT, h]
theorem gt_f {a k : Int} (h : a ≤ k) : gtD (.int a) (.int k) = some (.bool false) := by simp [gtD, cT]; omega
theorem ge_t {a k : Int} (h : k ≤ a) : geD (.int a) (.int k) = some (.bool true) := by simp [geD, cT, h]
theorem ge_f {a k : Int} (h : a < k) : geD (.int a) (.int k) = some (.bool false) := by simp [geD, cT]; omega
theorem eq_i (a k : Int) : eqD (.int a) (.int k) = some (.bool (a == k)) := by
  simp [eqOk, PyData.canLay0, PyData.eqv, PyData.depth]
theorem eq_t {a k : Int} (h : a = k) : eqD (.int a) (.int k) = some (.bool true) := by rw [eq_i]; simp [h]
theorem eq_f {a k : Int} (h : a ≠ k) : eqD (.int a) (.int k) = some (.bool false) := by rw [eq_i]; simp [h]
theorem ne_i (a k : Int) : neD (.int a) (.int k) = some (.bool (!(a == k))) := by
  simp [eqOk, PyData.canLay0, PyData.eqv, PyData.depth]
theorem ne_t {a k : Int} (h : a ≠ k) : neD (.int a) (.int k) = some (.bool true) := by rw [ne_i]; simp [h]
theorem ne_f {a k : Int} (h : a = k) : neD (.int a) (.int k) = some (.bool false) := by rw [ne_i]; simp [h]
end
end LW
end
section
set_option Elab.async false
set_option linter.all false
set_option maxRecDepth 100000
set_option autoImplicit false
namespace LW
open PySem PySem.Spec PyProof.Rows L2 DL
/-! what all laws use: walks over lists and ranges -/
theorem succ_of {N k : Nat} (h : k + 1 ≤ N) : ∃ n, N = n + 1 ∧ k ≤ n := ⟨N - 1, by omega, by omega⟩
theorem range_ev {fa : SA} {sl : Sl} {cs cs1 : Cs} {n : Nat} (h : fa sl cs = .ok [.d (.int n)] cs1) (hn : n ≤ 16777216) : pRange1 fa sl cs = .ok (rangeL 0 n) cs1 := by
  have hb : inB (n : Int) = true := by
    unfold inB
    simp only [Bool.and_eq_true, decide_eq_true_eq]
    exact ⟨by omega, by omega⟩
  have rv : rangeV1 [.d (.int n)] cs1 = .ok (rangeL 0 n) cs1 := by
    show (if inB (n : Int) = true then R.ok (rangeL 0 (n : Int).toNat) cs1 else .bad) = _
    rw [if_pos hb, Int.toNat_natCast]
  unfold pRange1
  rw [h, R.bind_ok, rv]
theorem lc_ev {it : SA} {g : Val → Sl → Option Sl} {tt : ST} {te : SE} {vs : List Nat} {sl : Sl} {cs cs1 cs2 : Cs} {xs : List Val} {ys : List PyData} (h1 : it sl cs = .ok xs cs1) (hl : xs.length ≤ 16777216) (h2 : lcL g tt te (blkSl sl vs) xs cs1 = .ok ys cs2) : oLc it g tt te vs sl cs = .ok (.ow (.list ys)) cs2 := by
  unfold oLc
  rw [h1, R.bind_ok, if_pos hl, h2]
  rfl
theorem range_cel {lo : Int} {n : Nat} {x : Val} (h : x ∈ rangeL lo n) : ∃ i : Int, x = .d (.int i) := by
  simp only [rangeL, List.mem_map] at h
  obtain ⟨i, _, rfl⟩ := h
  exact ⟨_, rfl⟩
theorem range_len {lo : Int} {n : Nat} : (rangeL lo n).length = n := by simp [rangeL]
theorem sPut_cel {i n j : Nat} {fv fx : SE} {sl : Sl} {cs : Cs} {xs : List Val} {k : Int} {v : Val} (e1 : sl[i]? = some (some (.fr (.cel n)))) (e2 : fv sl cs = .ok v cs) (e3 : fx sl cs = .ok (.d (.int k)) cs) (e4 : cs[n]? = some (.lst xs)) (e5 : ixN xs.length k = some j) (hv : v.solid = true) :
    sPut i fv fx sl cs = .nx sl (cs.set n (.lst (xs.set j v))) := by
  have l : lstAt i sl cs = some xs := by
    unfold lstAt
    rw [e1]
    dsimp only
    rw [e4]
  unfold sPut
  rw [e2]
  simp only [R.go_ok, l, e3]
  unfold setAt
  simp only [e5, hv, if_true]
  unfold put2 lstPut
  simp only [e1, e4]
theorem intsOf_map : ∀ l : List Int, intsOf (l.map PyData.int) = some l
  | [] => rfl
  | a :: l => by simp [intsOf, intsOf_map l]
theorem cut_map {α β : Type} (f : α → β) (xs : List α) (lo hi : Option Int) : cut (xs.map f) lo hi = (cut xs lo hi).map f := by
  unfold cut
  rw [List.length_map, List.map_drop.symm, List.map_take.symm]
/-! ### comprehensions, put together -/
theorem lcL_pair {g : Val → Sl → Option Sl} {tt : DL.ST} {te : SE} {slB : Sl} {cs : Cs} : ∀ {xs : List Val} {ys : List PyData}, Paired (fun x y => ∃ s, g x slB = some s ∧ tt s cs = .ok true cs ∧ te s cs = .ok (.d y) cs) xs ys → lcL g tt te slB xs cs = .ok ys cs
  | _, _, .nil => rfl
  | _, _, .cons h t => by
    obtain ⟨s, h1, h2, h3⟩ := h
    have ih := lcL_pair t
    unfold lcL
    rw [h1]
    simp [h2, h3, ih, noEx]
/-- over parts: each one to its own -/
theorem lc_map {α : Type} {e k : α → PyData} {g : Val → Sl → Option Sl} {tt : DL.ST} {te : SE} {slB : Sl} {cs : Cs} : ∀ {l : List α}, (∀ a ∈ l, ∃ s, g (.d (e a)) slB = some s ∧ tt s cs = .ok true cs ∧ te s cs = .ok (.d (k a)) cs) → lcL g tt te slB ((l.map e).map Val.d) cs = .ok (l.map k) cs
  | [], _ => rfl
  | a :: l, h => by
    obtain ⟨s, h1, h2, h3⟩ := h a (by simp)
    have ih := lc_map (e := e) (k := k) (g := g) (tt := tt) (te := te) (slB := slB) (cs := cs) (l := l) fun b hb => h b (by simp [hb])
    simp only [List.map_cons]
    generalize (l.map e).map Val.d = vs at ih ⊢
    unfold lcL
    rw [h1]
    simp [h2, h3, ih, noEx]
theorem lc_rng {i n : Nat} {fa : SA} {te : SE} {vs : List Nat} {sl : Sl} {cs cs1 : Cs} {f : Nat → PyData} (h1 : fa sl cs = .ok [.d (.int n)] cs1) (hn : n ≤ 16777216) (h : ∀ k, k < n → te ((blkSl sl vs).set i (some (.fr (.d (.int (k : Int)))))) cs1 = .ok (.d (f k)) cs1) : oLc (pRange1 fa) (gNm i) tTrue te vs sl cs = .ok (.ow (.list ((List.range n).map f))) cs1 := by
  refine lc_ev (xs := rangeL 0 n) (cs1 := cs1) (range_ev h1 hn) (by rw [range_len]; omega) (lcL_pair ?_)
  have go : ∀ (l : List Nat), (∀ k ∈ l, k < n) → Paired (fun x y => ∃ s, gNm i x (blkSl sl vs) = some s ∧ tTrue s cs1 = .ok true cs1 ∧ te s cs1 = .ok (.d y) cs1) (l.map fun k : Nat => Val.d (PyData.int (k : Int))) (l.map f) := by
    intro l
    induction l with
    | nil => intro _; exact .nil
    | cons k l ih => intro hk; exact .cons ⟨_, rfl, rfl, h k (hk k (by simp))⟩ (ih fun q hq => hk q (by simp [hq]))
  have er : rangeL 0 n = (List.range n).map fun k : Nat => Val.d (PyData.int (k : Int)) := by
    unfold rangeL
    simp
  rw [er]
  exact go _ fun k hk => List.mem_range.mp hk
theorem rng_map {α β : Type} {l : List α} {n : Nat} (hn : n = l.length) {g : α → β} {f : Nat → β} (h : ∀ k (hk : k < l.length), f k = g l[k]) : (List.range n).map f = l.map g := by
  subst hn
  refine List.ext_getElem (by simp) fun i h1 h2 => ?_
  simp only [List.getElem_map, List.getElem_range]
  rw [h i (by simpa using h2)]
/-- a comprehension's turn that may change cells -/
theorem lc_step {g : Val → Sl → Option Sl} {te : SE} {slB s : Sl} {x : Val} {y : PyData} {xs : List Val} {ys : List PyData} {cs cs1 cs2 : Cs} (h1 : g x slB = some s) (h2 : te s cs = .ok (.d y) cs1) (h3 : lcL g tTrue te slB xs cs1 = .ok ys cs2) : lcL g tTrue te slB (x :: xs) cs = .ok (y :: ys) cs2 := by
  unfold lcL
  rw [h1]
  simp [tTrue, h2, h3, noEx]
theorem s_app {i : Nat} {f : SE} {sl sl' : Sl} {cs cs' : Cs} {ds : List PyData} {v : PyData} (hs : sl[i]? = some (some (.ow (.list ds)))) (hf : f sl cs = .ok (.d v) cs') (hl : ds.length < 16777216) (e : sl.set i (some (.ow (.list (ds ++ [v])))) = sl') : sMeth i appAt f sl cs = .nx sl' cs' := by
  subst e
  have l1 : ∀ cs, lstAt i sl cs = some (ds.map Val.d) := fun cs => by
    unfold lstAt
    rw [hs]
  have l2 : appAt (ds.map Val.d) (.d v) = some (ds.map Val.d ++ [.d v]) := by
    unfold appAt
    rw [if_pos ⟨by rw [List.length_map]; exact hl, rfl⟩]
  have dsn : ∀ ds : List PyData, datsOf (ds.map Val.d ++ [.d v]) = some (ds ++ [v]) := fun ds => by
    induction ds with
    | nil => rfl
    | cons x ds ih => simp [ih]
  have l3 : lstPut i (ds.map Val.d ++ [.d v]) sl cs' = some (sl.set i (some (.ow (.list (ds ++ [v])))), cs') := by
    unfold lstPut
    rw [hs]
    simp only [dsn, Option.map_some]
  unfold sMeth
  simp only [l1, hf, R.go_ok, l2, put2, l3]
theorem s_putc {i n j : Nat} {fv fx : SE} {sl : Sl} {cs cs' : Cs} {xs ys : List Val} {k : Int} {v : Val} (e1 : sl[i]? = some (some (.fr (.cel n)))) (e4 : cs[n]? = some (.lst xs)) (e2 : fv sl cs = .ok v cs) (hv : v.solid = true) (e3 : fx sl cs = .ok (.d (.int k)) cs) (e5 : ixN xs.length k = some j) (e6 : xs.set j v = ys) (e7 : cs.set n (.lst ys) = cs') : sPut i fv fx sl cs = .nx sl cs' := by
  subst e6 e7
  exact sPut_cel e1 e2 e3 e4 e5 hv
theorem f_cons {g : Val → Sl → Option Sl} {body : SS} {x : Val} {xs : List Val} {sl sl1 sl2 : Sl} {cs cs2 : Cs} {r : RS} (h1 : g x sl = some sl1) (h2 : body sl1 cs = .nx sl2 cs2) (h3 : forL g body xs sl2 cs2 = r) : forL g body (x :: xs) sl cs = r := by
  rw [forL.eq_2]
  simp only [h1, h2, h3]
theorem f_nil {g : Val → Sl → Option Sl} {body : SS} {sl : Sl} {cs : Cs} : forL g body [] sl cs = .nx sl cs := rfl
theorem at_lit {α : Type} {xs : List α} {n : Nat} {x : α} {j : Int} (hj : j = (n : Int)) (h : xs[n]? = some x) : atI xs j = some x := by
  rw [hj]
  exact DL.atI_nat h
theorem add_str {a b : PySem.Str} (h : a.length + b.length ≤ 16777216) : addD (.str a) (.str b) = some (.str (a ++ b)) := by
  unfold addD gI gAddS
  simp [h]
theorem ix_str {s : PySem.Str} {j : Int} {c : Nat} {cs : Cs} (hl : s.length ≤ 16777216) (h : atI s.cps.toList j = some c) : ixD (.d (.str s)) (.d (.int j)) cs = .ok (.d (.str ⟨#[c]⟩)) cs := by
  rw [ev_ixS, if_pos hl, h]
  rfl
theorem add_l {a b : List PyData} (h : a.length + b.length ≤ 16777216) : addD (.list a) (.list b) = some (.list (a ++ b)) := by
  unfold addD gI gAddS gAddT gAddL
  simp [h]
theorem add_t {a b : List PyData} (h : a.length + b.length ≤ 16777216) : addD (.tuple a) (.tuple b) = some (.tuple (a ++ b)) := by
  unfold addD gI gAddS gAddT
  simp [h]
theorem max_ev {xs : List Int} {m : Int} {cs : Cs} (h : DL.maxOf xs = some m) : maxB [.d (.list (xs.map PyData.int))] cs = .ok (.d (.int m)) cs := by
  show R.of (((intsL [.d (.list (xs.map PyData.int))]).bind DL.maxOf).map fun n => Val.d (.int n)) cs = _
  have e : intsL [.d (.list (xs.map PyData.int))] = some xs := intsOf_map xs
  rw [e]
  show R.of ((DL.maxOf xs).map fun n => Val.d (.int n)) cs = _
  rw [h]
  rfl
theorem sum_ev {xs : List Int} {cs : Cs} : sumB [.d (.list (xs.map PyData.int))] cs = .ok (.d (.int xs.sum)) cs := by
  show R.of ((intsL [.d (.list (xs.map PyData.int))]).map fun ns => Val.d (.int ns.sum)) cs = _
  have e : intsL [.d (.list (xs.map PyData.int))] = some xs := intsOf_map xs
  rw [e]
  rfl
end LW
end
section
set_option Elab.async false
set_option linter.all false
set_option maxRecDepth 100000
set_option autoImplicit false
namespace LW
open PySem PySem.Spec PyProof.Rows L2 DL
set_option maxHeartbeats 4000000
local macro_rules | `(tactic| fold_depth) => `(tactic| first
  | ((with_reducible show _ = _); with_reducible assumption)
  | ((with_reducible apply DL.ev_var); exact rfl)
  | apply_assumption (transparency := .reducible) (symm := false) (exfalso := false) only [DL.ev_c, LW.cond_t, LW.cond_f, LW.v_nil, LW.v_cons, LW.ev_bcons, LW.v_op, LW.o_dd, LW.o_bd, LW.o_db, LW.o_bb, LW.v_ix, LW.x_t, LW.x_l, LW.x_b, LW.x_c, LW.v_tup, LW.v_lst, LW.v_olst, LW.v_andb, LW.v_orb, LW.v_not, LW.v_neg, LW.v_rev, LW.v_sl, LW.i_none, LW.i_some, LW.v_isi, LW.v_call, LW.v_fz, LW.v_cel, LW.o_def0, LW.o_def, LW.o_defK, LW.o_call, LW.o_fr, LW.o_star, LW.t_b, LW.t_tru, LW.t_not, LW.t_andb, LW.t_orb, LW.v_ifb, LW.s_seq, LW.q_nx, LW.q_rt, LW.q_ex, LW.s_nil, LW.s_ifb, LW.s_set, LW.s_ret, LW.s_retV, LW.s_expr, LW.s_fz, LW.s_asg, LW.s_par, LW.s_aug, LW.s_for, LW.p_seq, LW.fz_fr, LW.fz_ow, LW.not_t, LW.not_f, LW.dats_nil, LW.dats_map, LW.dats_cons, LW.dats_app, LW.mk_t, LW.mk_l, LW.mk_o]
  | ((with_reducible apply DL.ev_own); exact rfl)
  | ((with_reducible show getElem? _ _ = _); exact rfl)
  | ((with_reducible show DL.gTp _ _ _ = _); simp only [DL.ev_gTp, DL.ev_gTpL, DL.ev_gsCons, DL.ev_gNm, DL.ev_gsNil, Option.bind_some, List.set_cons_succ, List.set_cons_zero]; exact rfl)
  | ((with_reducible show List.set _ _ _ = _); simp only [List.set_cons_succ, List.set_cons_zero]; exact rfl)
  | ((with_reducible show List.map _ _ = _); simp only [List.map_cons, List.map_nil, List.getD_cons_succ, List.getD_cons_zero]; exact rfl)
  | ((with_reducible show List.length _ ≤ _); first | with_reducible assumption | exact Nat.le_of_ble_eq_true rfl)
  | ((with_reducible show DL.isiB _ _ = _); first | exact LW.isi_t rfl | exact LW.isi_f rfl)
  | ((with_reducible show DL.isNone _ = _); first | exact LW.isN_t rfl | exact LW.isN_f rfl)
  | ((with_reducible show DL.eqD (PySem.PyData.str _) (PySem.PyData.str _) = _); first | exact LW.eqw_t (by decide +kernel) | exact LW.eqw_f (by decide +kernel))
  | ((with_reducible show DL.neD (PySem.PyData.str _) (PySem.PyData.str _) = _); first | exact LW.new_t (by decide +kernel) | exact LW.new_f (by decide +kernel))
  | ((with_reducible show DL.inD (PySem.PyData.str _) _ = _); first | exact LW.inw_t rfl rfl (by decide +kernel) | exact LW.inw_f rfl rfl (by decide +kernel))
  | ((with_reducible show DL.notInD (PySem.PyData.str _) _ = _); first | exact LW.ninw_t rfl rfl (by decide +kernel) | exact LW.ninw_f rfl rfl (by decide +kernel))
  | ((with_reducible show DL.eqD (PySem.PyData.int _) (PySem.PyData.int _) = _); first | exact LW.eq_t (by first | rfl | omega) | exact LW.eq_f (by first | omega | (simp; done) | (simp; omega)))
  | ((with_reducible show DL.neD (PySem.PyData.int _) (PySem.PyData.int _) = _); first | exact LW.ne_f (by first | rfl | omega) | exact LW.ne_t (by first | omega | (simp; done) | (simp; omega)))
  | ((with_reducible show DL.ltD (PySem.PyData.int _) (PySem.PyData.int _) = _); first | exact LW.lt_t (by first | omega | (simp; done) | (simp; omega)) | exact LW.lt_f (by first | omega | (simp; done) | (simp; omega)))
  | ((with_reducible show DL.leD (PySem.PyData.int _) (PySem.PyData.int _) = _); first | exact LW.le_t (by first | omega | (simp; done) | (simp; omega)) | exact LW.le_f (by first | omega | (simp; done) | (simp; omega)))
  | ((with_reducible show DL.gtD (PySem.PyData.int _) (PySem.PyData.int _) = _); first | exact LW.gt_t (by first | omega | (simp; done) | (simp; omega)) | exact LW.gt_f (by first | omega | (simp; done) | (simp; omega)))
  | ((with_reducible show DL.geD (PySem.PyData.int _) (PySem.PyData.int _) = _); first | exact LW.ge_t (by first | omega | (simp; done) | (simp; omega)) | exact LW.ge_f (by first | omega | (simp; done) | (simp; omega)))
  | exact rfl)
/-! ### how great numbers are -/
def Bd (k : Nat) (i : Int) : Prop := i.natAbs < 2 ^ k
theorem Bd.mono {j k : Nat} {i : Int} (h : Bd j i) (q : j ≤ k) : Bd k i := Nat.lt_of_lt_of_le h (Nat.pow_le_pow_right (by decide) q)
theorem Bd.mul {j k : Nat} {a b : Int} (h : Bd j a) (q : Bd k b) : Bd (j + k) (a * b) := by
  unfold Bd at *
  rw [Int.natAbs_mul, Nat.pow_add]
  exact Nat.mul_lt_mul'' h q
theorem Bd.neg {j : Nat} {a : Int} (h : Bd j a) : Bd j (-a) := by
  unfold Bd at *
  rwa [Int.natAbs_neg]
theorem Bd.le {j : Nat} {a b : Int} (h : Bd j a) (q : b.natAbs ≤ a.natAbs) : Bd j b := Nat.lt_of_le_of_lt q h
theorem Bd.log {j : Nat} {a : Int} (h : Bd j a) : a.natAbs.log2 ≤ j := by
  by_cases h0 : a.natAbs = 0
  · rw [h0]; exact Nat.zero_le _
  · exact Nat.le_of_lt ((Nat.log2_lt h0).mpr h)
theorem Bd.add {j : Nat} {a b : Int} (h : Bd j a) (q : Bd j b) : Bd (j + 1) (a + b) := by
  unfold Bd at *
  rw [Nat.pow_succ]
  omega
theorem Bd.dvd {j : Nat} {a b : Int} (h : Bd j a) (h0 : a ≠ 0) (q : b ∣ a) : Bd j b := h.le (Nat.le_of_dvd (by omega) (Int.natAbs_dvd_natAbs.mpr q))
theorem mul_ev {j k : Nat} {a b : Int} (h : Bd j a) (q : Bd k b) (hl : j + k ≤ 999998) : mulD (.int a) (.int b) = some (.int (a * b)) := by
  have h1 := h.log
  have h2 := q.log
  have c : cMul a b = true := by unfold cMul; exact decide_eq_true (by omega)
  unfold mulD gI
  simp [c]
theorem div_ev {k : Nat} {a b : Int} (h0 : 0 < b) (q : Bd k b) (hk : k ≤ 8999) : divD (.int a) (.int b) = some (.int (a / b)) := by
  have h2 := q.log
  have c : cDiv a b = true := by
    unfold cDiv
    rw [decide_eq_true h0, decide_eq_true (by omega)]
    rfl
  unfold divD gI
  simp [c]
theorem mod_ev {a b : Int} (h0 : 0 < b) : modD (.int a) (.int b) = some (.int (a % b)) := by
  have c : cMod a b = true := decide_eq_true h0
  unfold modD gI
  simp [c]
theorem sub_ev {a b : Int} : subD (.int a) (.int b) = some (.int (a - b)) := by simp [subD, gI, cT]
theorem add_ev {a b : Int} : addD (.int a) (.int b) = some (.int (a + b)) := by simp [addD, gI, cT]
theorem abs_ev {a : Int} {cs : Cs} : absB [.d (.int a)] cs = .ok (.d (.int (a.natAbs : Int))) cs := by
  have e : (if a < 0 then -a else a) = (a.natAbs : Int) := by split <;> omega
  show R.ok (Val.d (.int (if a < 0 then -a else a))) cs = _
  rw [e]
/-! ### the greatest divisor -/
def gdT : DL.ST := tBool (eOp gtD (eVar 3) (eC (.int 0)))
def gdB : SS := sSeq (sSet 4 (oFr (eOp subD (eVar 2) (eOp mulD (eOp divD (eVar 2) (eVar 3)) (eVar 3))))) (sSeq (sSet 2 (oFr (eVar 3))) (sSet 3 (oFr (eVar 4))))
theorem gd_turn {x y : Option DL.Slot} {a b : Nat} {r : Option DL.Slot} {cs : Cs} (hb : 0 < b) (h1 : Bd 8000 (a : Int)) (h2 : Bd 8000 (b : Int)) : gdB [x, y, some (.fr (.d (.int (a : Int)))), some (.fr (.d (.int (b : Int)))), r] cs = .nx [x, y, some (.fr (.d (.int (b : Int)))), some (.fr (.d (.int ((a % b : Nat) : Int)))), some (.fr (.d (.int ((a % b : Nat) : Int))))] cs := by
  have d1 := div_ev (a := a) (show (0 : Int) < b by omega) h2 (by decide)
  have q0 : Bd 8000 ((a : Int) / (b : Int)) := h1.le (by
    rw [← Int.natCast_ediv, Int.natAbs_natCast, Int.natAbs_natCast]
    exact Nat.div_le_self _ _)
  have d2 := mul_ev q0 h2 (by decide)
  have d3 := sub_ev (a := (a : Int)) (b := (a : Int) / (b : Int) * (b : Int))
  have e : (a : Int) - (a : Int) / (b : Int) * (b : Int) = ((a % b : Nat) : Int) := by
    rw [Int.natCast_emod]
    have := Int.emod_add_mul_ediv (a : Int) (b : Int)
    rw [Int.mul_comm] at this
    omega
  rw [e] at d3
  generalize ((a % b : Nat) : Int) = R at *
  generalize (a : Int) / (b : Int) = Q at *
  generalize Q * (b : Int) = QB at *
  generalize (a : Int) = A at *
  generalize (b : Int) = B at *
  unfold gdB
  repeat' fold_depth
theorem gd_loop {x y : Option DL.Slot} {cs : Cs} : ∀ (k b a : Nat) (r : Option DL.Slot), b ≤ k → Bd 8000 (a : Int) → Bd 8000 (b : Int) → ∃ r', whileN gdT gdB (k + 1) [x, y, some (.fr (.d (.int (a : Int)))), some (.fr (.d (.int (b : Int)))), r] cs = .nx [x, y, some (.fr (.d (.int (Nat.gcd a b : Nat)))), some (.fr (.d (.int 0))), r'] cs := by
  intro k
  induction k with
  | zero =>
    intro b a r hb h1 h2
    have : b = 0 := by omega
    subst this
    refine ⟨r, ?_⟩
    rw [Nat.gcd_zero_right]
    have t : gdT [x, y, some (.fr (.d (.int (a : Int)))), some (.fr (.d (.int ((0 : Nat) : Int)))), r] cs = .ok false cs := t_b (v_op (ev_var rfl) rfl (o_dd (gt_f (by omega))))
    rw [whileN.eq_2, t]
    rfl
  | succ k ih =>
    intro b a r hb h1 h2
    by_cases h0 : b = 0
    · subst h0
      refine ⟨r, ?_⟩
      rw [Nat.gcd_zero_right]
      have t : gdT [x, y, some (.fr (.d (.int (a : Int)))), some (.fr (.d (.int ((0 : Nat) : Int)))), r] cs = .ok false cs := t_b (v_op (ev_var rfl) rfl (o_dd (gt_f (by omega))))
      rw [whileN.eq_2, t]
      rfl
    · have hlt : a % b < b := Nat.mod_lt _ (by omega)
      have t : gdT [x, y, some (.fr (.d (.int (a : Int)))), some (.fr (.d (.int (b : Int)))), r] cs = .ok true cs := t_b (v_op (ev_var rfl) rfl (o_dd (gt_t (by omega))))
      have tn := gd_turn (x := x) (y := y) (r := r) (cs := cs) (show 0 < b by omega) h1 h2
      obtain ⟨r', e⟩ := ih (a % b) b (some (.fr (.d (.int ((a % b : Nat) : Int))))) (by omega) h2 (h2.le (by rw [Int.natAbs_natCast, Int.natAbs_natCast]; omega))
      refine ⟨r', ?_⟩
      have g : Nat.gcd a b = Nat.gcd b (a % b) := by rw [Nat.gcd_comm a b, Nat.gcd_rec b a, Nat.gcd_comm]
      rw [g, whileN.eq_2, t, R.go_ok, if_pos rfl, tn]
      exact e
theorem gd_ok {a b : Int} (h1 : Bd 8000 a) (h2 : Bd 8000 b) {N : Nat} (hN : 1 ≤ N) (cs : Cs) : sem N .greatest_divisor [.d (.int a), .d (.int b)] cs = .ok (.fr (.d (.int (Int.gcd a b : Nat)))) cs := by
  obtain ⟨n, rfl⟩ : ∃ n, N = n + 1 := ⟨N - 1, by omega⟩
  obtain ⟨r', e⟩ := gd_loop (x := some (.fr (.d (.int a)))) (y := some (.fr (.d (.int b)))) (cs := cs) b.natAbs b.natAbs a.natAbs none (Nat.le_refl _) (by unfold Bd at *; rwa [Int.natAbs_natCast]) (by unfold Bd at *; rwa [Int.natAbs_natCast])
  have w : sWhile gdT gdB [some (.fr (.d (.int a))), some (.fr (.d (.int b))), some (.fr (.d (.int (a.natAbs : Int)))), some (.fr (.d (.int (b.natAbs : Int)))), none] cs = _ := (sWhile_of (by rw [e]; simp)).trans e
  have a1 := abs_ev (a := a) (cs := cs)
  have a2 := abs_ev (a := b) (cs := cs)
  have o : s_greatest_divisor (sem n) [some (.fr (.d (.int a))), some (.fr (.d (.int b))), none, none, none] cs = .rt (.fr (.d (.int (Int.gcd a b : Nat)))) cs := by
    show sSeq (sSet 2 (oFr (eCall absB (bCons (eVar 0) (aNil))))) (sSeq (sSet 3 (oFr (eCall absB (bCons (eVar 1) (aNil))))) (sSeq (sWhile gdT gdB) (sRetV 2))) _ _ = _
    exact se_step (s_set (o_fr (v_call (ev_bcons (ev_var rfl) v_nil) a1) rfl) rfl) (se_step (s_set (o_fr (v_call (ev_bcons (ev_var rfl) v_nil) a2) rfl) rfl) (se_step w (s_retV rfl)))
  rw [e_greatest_divisor]
  exact congrArg bodyR o
end LW
end
section
set_option Elab.async false
set_option linter.all false
set_option maxRecDepth 100000
set_option autoImplicit false
namespace LW
open PySem PySem.Spec PyProof.Rows L2 DL
set_option maxHeartbeats 4000000
local macro_rules | `(tactic| fold_depth) => `(tactic| first
  | ((with_reducible show _ = _); with_reducible assumption)
  | ((with_reducible apply DL.ev_var); exact rfl)
  | apply_assumption (transparency := .reducible) (symm := false) (exfalso := false) only [DL.ev_c, LW.cond_t, LW.cond_f, LW.v_nil, LW.v_cons, LW.ev_bcons, LW.v_op, LW.o_dd, LW.o_bd, LW.o_db, LW.o_bb, LW.v_ix, LW.x_t, LW.x_l, LW.x_b, LW.x_c, LW.v_tup, LW.v_lst, LW.v_olst, LW.v_andb, LW.v_orb, LW.v_not, LW.v_neg, LW.v_rev, LW.v_sl, LW.i_none, LW.i_some, LW.v_isi, LW.v_call, LW.v_fz, LW.v_cel, LW.o_def0, LW.o_def, LW.o_defK, LW.o_call, LW.o_fr, LW.o_star, LW.t_b, LW.t_tru, LW.t_not, LW.t_andb, LW.t_orb, LW.v_ifb, LW.s_seq, LW.q_nx, LW.q_rt, LW.q_ex, LW.s_nil, LW.s_ifb, LW.s_set, LW.s_ret, LW.s_retV, LW.s_expr, LW.s_fz, LW.s_asg, LW.s_par, LW.s_aug, LW.s_for, LW.p_seq, LW.fz_fr, LW.fz_ow, LW.not_t, LW.not_f, LW.dats_nil, LW.dats_map, LW.dats_cons, LW.dats_app, LW.mk_t, LW.mk_l, LW.mk_o]
  | ((with_reducible apply DL.ev_own); exact rfl)
  | ((with_reducible show getElem? _ _ = _); exact rfl)
  | ((with_reducible show DL.gTp _ _ _ = _); simp only [DL.ev_gTp, DL.ev_gTpL, DL.ev_gsCons, DL.ev_gNm, DL.ev_gsNil, Option.bind_some, List.set_cons_succ, List.set_cons_zero]; exact rfl)
  | ((with_reducible show List.set _ _ _ = _); simp only [List.set_cons_succ, List.set_cons_zero]; exact rfl)
  | ((with_reducible show List.map _ _ = _); simp only [List.map_cons, List.map_nil, List.getD_cons_succ, List.getD_cons_zero]; exact rfl)
  | ((with_reducible show List.length _ ≤ _); first | with_reducible assumption | exact Nat.le_of_ble_eq_true rfl)
  | ((with_reducible show DL.isiB _ _ = _); first | exact LW.isi_t rfl | exact LW.isi_f rfl)
  | ((with_reducible show DL.isNone _ = _); first | exact LW.isN_t rfl | exact LW.isN_f rfl)
  | ((with_reducible show DL.eqD (PySem.PyData.str _) (PySem.PyData.str _) = _); first | exact LW.eqw_t (by decide +kernel) | exact LW.eqw_f (by decide +kernel))
  | ((with_reducible show DL.neD (PySem.PyData.str _) (PySem.PyData.str _) = _); first | exact LW.new_t (by decide +kernel) | exact LW.new_f (by decide +kernel))
  | ((with_reducible show DL.inD (PySem.PyData.str _) _ = _); first | exact LW.inw_t rfl rfl (by decide +kernel) | exact LW.inw_f rfl rfl (by decide +kernel))
  | ((with_reducible show DL.notInD (PySem.PyData.str _) _ = _); first | exact LW.ninw_t rfl rfl (by decide +kernel) | exact LW.ninw_f rfl rfl (by decide +kernel))
  | ((with_reducible show DL.eqD (PySem.PyData.int _) (PySem.PyData.int _) = _); first | exact LW.eq_t (by first | rfl | omega) | exact LW.eq_f (by first | omega | (simp; done) | (simp; omega)))
  | ((with_reducible show DL.neD (PySem.PyData.int _) (PySem.PyData.int _) = _); first | exact LW.ne_f (by first | rfl | omega) | exact LW.ne_t (by first | omega | (simp; done) | (simp; omega)))
  | ((with_reducible show DL.ltD (PySem.PyData.int _) (PySem.PyData.int _) = _); first | exact LW.lt_t (by first | omega | (simp; done) | (simp; omega)) | exact LW.lt_f (by first | omega | (simp; done) | (simp; omega)))
  | ((with_reducible show DL.leD (PySem.PyData.int _) (PySem.PyData.int _) = _); first | exact LW.le_t (by first | omega | (simp; done) | (simp; omega)) | exact LW.le_f (by first | omega | (simp; done) | (simp; omega)))
  | ((with_reducible show DL.gtD (PySem.PyData.int _) (PySem.PyData.int _) = _); first | exact LW.gt_t (by first | omega | (simp; done) | (simp; omega)) | exact LW.gt_f (by first | omega | (simp; done) | (simp; omega)))
  | ((with_reducible show DL.geD (PySem.PyData.int _) (PySem.PyData.int _) = _); first | exact LW.ge_t (by first | omega | (simp; done) | (simp; omega)) | exact LW.ge_f (by first | omega | (simp; done) | (simp; omega)))
  | exact rfl)
/-! ### fractions -/
abbrev Fr := Int × Nat
def frD (f : Fr) : PyData := .tuple [.int f.1, .int (f.2 : Int)]
def low (a : Int) (d : Nat) : Fr := (a / (Nat.gcd a.natAbs d : Nat), d / Nat.gcd a.natAbs d)
theorem gcd_pos {a : Int} {d : Nat} (h : 0 < d) : 0 < Nat.gcd a.natAbs d := Nat.gcd_pos_of_pos_right _ h
theorem low_pos {a : Int} {d : Nat} (h : 0 < d) : 0 < (low a d).2 := Nat.div_pos (Nat.le_of_dvd h (Nat.gcd_dvd_right _ _)) (gcd_pos h)
theorem low_dvd {a : Int} {d : Nat} : (low a d).2 ∣ d := Nat.div_dvd_of_dvd (Nat.gcd_dvd_right _ _)
theorem low_scale {a : Int} {d k : Nat} (hk : 0 < k) (h : 0 < d) : low (a * k) (d * k) = low a d := by
  have g : Nat.gcd (a * (k : Int)).natAbs (d * k) = Nat.gcd a.natAbs d * k := by rw [Int.natAbs_mul, Int.natAbs_natCast, Nat.gcd_mul_right]
  unfold low
  rw [g]
  refine Prod.ext ?_ ?_
  · show a * (k : Int) / ((Nat.gcd a.natAbs d * k : Nat) : Int) = _
    rw [Int.natCast_mul, Int.mul_ediv_mul_of_pos_left _ _ (by omega)]
  · show d * k / (Nat.gcd a.natAbs d * k) = _
    exact Nat.mul_div_mul_right _ _ hk
/-- the same share: the same lowest terms -/
theorem low_eq {a b : Int} {d e : Nat} (hd : 0 < d) (he : 0 < e) (h : a * e = b * d) : low a d = low b e := by
  rw [← low_scale (a := a) he hd, ← low_scale (a := b) hd he, h, Nat.mul_comm]
theorem low_val {a : Int} {d : Nat} (h : 0 < d) : (low a d).1 * d = a * (low a d).2 := by
  have g1 : ((Nat.gcd a.natAbs d : Nat) : Int) ∣ a := by
    rw [← Int.natAbs_dvd_natAbs, Int.natAbs_natCast]
    exact Nat.gcd_dvd_left _ _
  have g2 := Nat.gcd_dvd_right a.natAbs d
  have gp := gcd_pos (a := a) h
  unfold low
  generalize Nat.gcd a.natAbs d = g at *
  obtain ⟨x, rfl⟩ := g1
  obtain ⟨y, rfl⟩ := g2
  show (g : Int) * x / (g : Int) * ((g * y : Nat) : Int) = (g : Int) * x * ((g * y / g : Nat) : Int)
  rw [Int.mul_ediv_cancel_left _ (by omega), Nat.mul_div_cancel_left _ gp, Int.natCast_mul]
  rw [Int.mul_assoc, Int.mul_left_comm]
theorem low_low {a : Int} {d : Nat} (h : 0 < d) : low (low a d).1 (low a d).2 = low a d := low_eq (low_pos h) h (low_val h)
theorem low_cross {a b : Int} {d e : Nat} (hd : 0 < d) (he : 0 < e) (h : low a d = low b e) : a * e = b * d := by
  have h1 := low_val (a := a) hd
  have h2 := low_val (a := b) he
  have p := low_pos (a := b) he
  rw [h] at h1
  generalize low b e = l at *
  have e1 : l.1 * (d : Int) * e = a * l.2 * e := by rw [h1]
  have e2 : l.1 * (e : Int) * d = b * l.2 * d := by rw [h2]
  have e3 : l.1 * (d : Int) * e = l.1 * (e : Int) * d := by rw [Int.mul_assoc, Int.mul_comm (d : Int), Int.mul_assoc]
  have e4 : (l.2 : Int) * (a * e) = (l.2 : Int) * (b * d) := by
    rw [e3, e2] at e1
    rw [← Int.mul_assoc, ← Int.mul_assoc, Int.mul_comm (l.2 : Int), Int.mul_comm (l.2 : Int)]
    exact e1.symm
  exact Int.eq_of_mul_eq_mul_left (by omega) e4
theorem Bd.low1 {a : Int} {d k : Nat} (h : Bd k a) : Bd k (low a d).1 := h.le (by
  unfold low
  dsimp only
  rw [Int.natAbs_ediv_of_dvd (by rw [← Int.natAbs_dvd_natAbs, Int.natAbs_natCast]; exact Nat.gcd_dvd_left _ _), Int.natAbs_natCast]
  exact Nat.div_le_self _ _)
theorem Bd.low2 {a : Int} {d k : Nat} (h : Bd k (d : Int)) : Bd k ((low a d).2 : Int) := h.le (by
  rw [Int.natAbs_natCast, Int.natAbs_natCast]
  exact Nat.div_le_self _ _)
theorem gcd_bd {a : Int} {d k : Nat} (hd : 0 < d) (h : Bd k (d : Int)) : Bd k ((Nat.gcd a.natAbs d : Nat) : Int) := h.le (by
  rw [Int.natAbs_natCast, Int.natAbs_natCast]
  exact Nat.le_of_dvd hd (Nat.gcd_dvd_right _ _))
section
variable {N : Nat}
theorem lowest_ok {a : Int} {d : Nat} (hd : 0 < d) (h1 : Bd 8000 a) (h2 : Bd 8000 (d : Int)) (hN : 2 ≤ N) (cs : Cs) : sem N .lowest [.d (.int a), .d (.int (d : Int))] cs = .ok (.fr (.d (frD (low a d)))) cs := by
  obtain ⟨n, rfl⟩ : ∃ n, N = n + 1 := ⟨N - 1, by omega⟩
  have g := gd_ok h1 h2 (N := n) (by omega) cs
  have gp := gcd_pos (a := a) hd
  have e : Int.gcd a (d : Int) = Nat.gcd a.natAbs d := rfl
  rw [e] at g
  have gb := gcd_bd (a := a) hd h2
  have d1 := div_ev (a := a) (show (0 : Int) < (Nat.gcd a.natAbs d : Nat) by omega) gb (by decide)
  have d2 := div_ev (a := (d : Int)) (show (0 : Int) < (Nat.gcd a.natAbs d : Nat) by omega) gb (by decide)
  rw [← Int.natCast_ediv] at d2
  have l0 := lt_f (a := (d : Int)) (k := 0) (by omega)
  have o : s_lowest (sem n) [some (.fr (.d (.int a))), some (.fr (.d (.int (d : Int)))), none] cs = .rt (.fr (.d (frD (low a d)))) cs := by
    unfold s_lowest frD low
    dsimp only
    generalize ((d / Nat.gcd a.natAbs d : Nat) : Int) = X at *
    generalize a / ((Nat.gcd a.natAbs d : Nat) : Int) = Y at *
    generalize ((Nat.gcd a.natAbs d : Nat) : Int) = Z at *
    repeat' fold_depth
  rw [e_lowest]
  exact congrArg bodyR o
theorem times_ok {f g : Fr} (hf : 0 < f.2) (hg : 0 < g.2) (b1 : Bd 4000 f.1) (b2 : Bd 4000 (f.2 : Int)) (b3 : Bd 4000 g.1) (b4 : Bd 4000 (g.2 : Int)) (hN : 3 ≤ N) (cs : Cs) : sem N .times [.d (frD f), .d (frD g)] cs = .ok (.fr (.d (frD (low (f.1 * g.1) (f.2 * g.2))))) cs := by
  obtain ⟨n, rfl⟩ : ∃ n, N = n + 1 := ⟨N - 1, by omega⟩
  have m1 := mul_ev b1 b3 (by decide)
  have m2 := mul_ev b2 b4 (by decide)
  have bb := b2.mul b4
  rw [← Int.natCast_mul] at m2 bb
  have l := lowest_ok (a := f.1 * g.1) (d := f.2 * g.2) (N := n) (Nat.mul_pos hf hg) (b1.mul b3) bb (by omega) cs
  obtain ⟨fa, fd⟩ := f
  obtain ⟨ga, gd⟩ := g
  unfold frD at *
  dsimp only at *
  generalize ((fd * gd : Nat) : Int) = X at *
  generalize (PyData.tuple [.int (low (fa * ga) (fd * gd)).1, .int ((low (fa * ga) (fd * gd)).2 : Int)]) = T at *
  generalize fa * ga = Y at *
  generalize (fd : Int) = FD at *
  generalize (gd : Int) = GD at *
  have o : s_times (sem n) [some (.fr (.d (.tuple [.int fa, .int FD]))), some (.fr (.d (.tuple [.int ga, .int GD])))] cs = .rt (.fr (.d T)) cs := by
    unfold s_times
    repeat' fold_depth
  rw [e_times]
  exact congrArg bodyR o
theorem is_less_ok {f g : Fr} (b1 : Bd 8000 f.1) (b2 : Bd 8000 (f.2 : Int)) (b3 : Bd 8000 g.1) (b4 : Bd 8000 (g.2 : Int)) (hN : 1 ≤ N) (cs : Cs) : sem N .is_less [.d (frD f), .d (frD g)] cs = .ok (.fr (.d (.bool (decide (f.1 * g.2 < g.1 * f.2))))) cs := by
  obtain ⟨n, rfl⟩ : ∃ n, N = n + 1 := ⟨N - 1, by omega⟩
  have m1 := mul_ev b1 b4 (by decide)
  have m2 := mul_ev b3 b2 (by decide)
  have l : ltD (.int (f.1 * (g.2 : Int))) (.int (g.1 * (f.2 : Int))) = some (.bool (decide (f.1 * g.2 < g.1 * f.2))) := by simp [ltD, gI, cT]
  obtain ⟨fa, fd⟩ := f
  obtain ⟨ga, gd⟩ := g
  unfold frD at *
  dsimp only at *
  generalize decide (fa * (gd : Int) < ga * (fd : Int)) = T at *
  generalize fa * (gd : Int) = X at *
  generalize ga * (fd : Int) = Y at *
  generalize (fd : Int) = FD at *
  generalize (gd : Int) = GD at *
  have o : s_is_less (sem n) [some (.fr (.d (.tuple [.int fa, .int FD]))), some (.fr (.d (.tuple [.int ga, .int GD])))] cs = .rt (.fr (.d (.bool T))) cs := by
    unfold s_is_less
    repeat' fold_depth
  rw [e_is_less]
  exact congrArg bodyR o
theorem least_multiple_ok {a d : Nat} (hd : 0 < d) (ha : 0 < a) (b1 : Bd 8000 (a : Int)) (b2 : Bd 8000 (d : Int)) (hN : 2 ≤ N) (cs : Cs) : sem N .least_multiple [.d (.int (a : Int)), .d (.int (d : Int))] cs = .ok (.fr (.d (.int (Nat.lcm a d : Nat)))) cs := by
  obtain ⟨n, rfl⟩ : ∃ n, N = n + 1 := ⟨N - 1, by omega⟩
  have g := gd_ok b1 b2 (N := n) (by omega) cs
  have e : Int.gcd (a : Int) (d : Int) = Nat.gcd a d := rfl
  rw [e] at g
  have gp : 0 < Nat.gcd a d := Nat.gcd_pos_of_pos_right _ hd
  have gb : Bd 8000 ((Nat.gcd a d : Nat) : Int) := b2.le (by
    rw [Int.natAbs_natCast, Int.natAbs_natCast]
    exact Nat.le_of_dvd hd (Nat.gcd_dvd_right _ _))
  have d1 := div_ev (a := (a : Int)) (show (0 : Int) < (Nat.gcd a d : Nat) by omega) gb (by decide)
  rw [← Int.natCast_ediv] at d1
  have q : Bd 8000 ((a / Nat.gcd a d : Nat) : Int) := b1.le (by
    rw [Int.natAbs_natCast, Int.natAbs_natCast]
    exact Nat.div_le_self _ _)
  have m := mul_ev q b2 (by decide)
  have e2 : ((a / Nat.gcd a d : Nat) : Int) * (d : Int) = ((Nat.lcm a d : Nat) : Int) := by
    rw [← Int.natCast_mul]
    congr 1
    unfold Nat.lcm
    rw [Nat.mul_comm a d, Nat.mul_div_assoc _ (Nat.gcd_dvd_left _ _), Nat.mul_comm]
  rw [e2] at m
  generalize ((Nat.lcm a d : Nat) : Int) = L at *
  generalize ((a / Nat.gcd a d : Nat) : Int) = Q at *
  generalize ((Nat.gcd a d : Nat) : Int) = G at *
  have o : s_least_multiple (sem n) [some (.fr (.d (.int (a : Int)))), some (.fr (.d (.int (d : Int))))] cs = .rt (.fr (.d (.int L))) cs := by
    unfold s_least_multiple
    repeat' fold_depth
  rw [e_least_multiple]
  exact congrArg bodyR o
end
end LW
end
section
set_option Elab.async false
set_option linter.all false
set_option maxRecDepth 100000
set_option autoImplicit false
namespace LW
open PySem PySem.Spec PyProof.Rows L2 DL
set_option maxHeartbeats 4000000
local macro_rules | `(tactic| fold_depth) => `(tactic| first
  | ((with_reducible show _ = _); with_reducible assumption)
  | ((with_reducible apply DL.ev_var); exact rfl)
  | apply_assumption (transparency := .reducible) (symm := false) (exfalso := false) only [DL.ev_c, LW.cond_t, LW.cond_f, LW.v_nil, LW.v_cons, LW.ev_bcons, LW.v_op, LW.o_dd, LW.o_bd, LW.o_db, LW.o_bb, LW.v_ix, LW.x_t, LW.x_l, LW.x_b, LW.x_c, LW.v_tup, LW.v_lst, LW.v_olst, LW.v_andb, LW.v_orb, LW.v_not, LW.v_neg, LW.v_rev, LW.v_sl, LW.i_none, LW.i_some, LW.v_isi, LW.v_call, LW.v_fz, LW.v_cel, LW.o_def0, LW.o_def, LW.o_defK, LW.o_call, LW.o_fr, LW.o_star, LW.t_b, LW.t_tru, LW.t_not, LW.t_andb, LW.t_orb, LW.v_ifb, LW.s_seq, LW.q_nx, LW.q_rt, LW.q_ex, LW.s_nil, LW.s_ifb, LW.s_set, LW.s_ret, LW.s_retV, LW.s_expr, LW.s_fz, LW.s_asg, LW.s_par, LW.s_aug, LW.s_for, LW.p_seq, LW.fz_fr, LW.fz_ow, LW.not_t, LW.not_f, LW.dats_nil, LW.dats_map, LW.dats_cons, LW.dats_app, LW.mk_t, LW.mk_l, LW.mk_o]
  | ((with_reducible apply DL.ev_own); exact rfl)
  | ((with_reducible show getElem? _ _ = _); exact rfl)
  | ((with_reducible show DL.gTp _ _ _ = _); simp only [DL.ev_gTp, DL.ev_gTpL, DL.ev_gsCons, DL.ev_gNm, DL.ev_gsNil, Option.bind_some, List.set_cons_succ, List.set_cons_zero]; exact rfl)
  | ((with_reducible show List.set _ _ _ = _); simp only [List.set_cons_succ, List.set_cons_zero]; exact rfl)
  | ((with_reducible show List.map _ _ = _); simp only [List.map_cons, List.map_nil, List.getD_cons_succ, List.getD_cons_zero]; exact rfl)
  | ((with_reducible show List.length _ ≤ _); first | with_reducible assumption | exact Nat.le_of_ble_eq_true rfl)
  | ((with_reducible show DL.isiB _ _ = _); first | exact LW.isi_t rfl | exact LW.isi_f rfl)
  | ((with_reducible show DL.isNone _ = _); first | exact LW.isN_t rfl | exact LW.isN_f rfl)
  | ((with_reducible show DL.eqD (PySem.PyData.str _) (PySem.PyData.str _) = _); first | exact LW.eqw_t (by decide +kernel) | exact LW.eqw_f (by decide +kernel))
  | ((with_reducible show DL.neD (PySem.PyData.str _) (PySem.PyData.str _) = _); first | exact LW.new_t (by decide +kernel) | exact LW.new_f (by decide +kernel))
  | ((with_reducible show DL.inD (PySem.PyData.str _) _ = _); first | exact LW.inw_t rfl rfl (by decide +kernel) | exact LW.inw_f rfl rfl (by decide +kernel))
  | ((with_reducible show DL.notInD (PySem.PyData.str _) _ = _); first | exact LW.ninw_t rfl rfl (by decide +kernel) | exact LW.ninw_f rfl rfl (by decide +kernel))
  | ((with_reducible show DL.eqD (PySem.PyData.int _) (PySem.PyData.int _) = _); first | exact LW.eq_t (by first | rfl | omega) | exact LW.eq_f (by first | omega | (simp; done) | (simp; omega)))
  | ((with_reducible show DL.neD (PySem.PyData.int _) (PySem.PyData.int _) = _); first | exact LW.ne_f (by first | rfl | omega) | exact LW.ne_t (by first | omega | (simp; done) | (simp; omega)))
  | ((with_reducible show DL.ltD (PySem.PyData.int _) (PySem.PyData.int _) = _); first | exact LW.lt_t (by first | omega | (simp; done) | (simp; omega)) | exact LW.lt_f (by first | omega | (simp; done) | (simp; omega)))
  | ((with_reducible show DL.leD (PySem.PyData.int _) (PySem.PyData.int _) = _); first | exact LW.le_t (by first | omega | (simp; done) | (simp; omega)) | exact LW.le_f (by first | omega | (simp; done) | (simp; omega)))
  | ((with_reducible show DL.gtD (PySem.PyData.int _) (PySem.PyData.int _) = _); first | exact LW.gt_t (by first | omega | (simp; done) | (simp; omega)) | exact LW.gt_f (by first | omega | (simp; done) | (simp; omega)))
  | ((with_reducible show DL.geD (PySem.PyData.int _) (PySem.PyData.int _) = _); first | exact LW.ge_t (by first | omega | (simp; done) | (simp; omega)) | exact LW.ge_f (by first | omega | (simp; done) | (simp; omega)))
  | exact rfl)
def cbA : SS := sSet 1 (oFr (eC (.int 1)))
def cbBi : SA := pSeq (eVar 0)
def cbBb (G : Fn → FS) : SS := sIf (tBool (eOp neD (eIx (eVar 2) (eC (.int 1))) (eC (.int 1)))) (sSeq (sFz 1) (sSet 1 (oDef (G .least_multiple) [] (aCons (eVar 1) (aCons (eIx (eVar 2) (eC (.int 1))) (aNil)))))) (sNil)
def cbB (G : Fn → FS) : SS := sFor cbBi (gNm 2) (cbBb G)
def cbC : SS := sRetV 1
theorem cb_split (G : Fn → FS) : s_common_below G = sSeq cbA (sSeq (cbB G) cbC) := rfl
def common (fs : List Fr) : Nat := fs.foldl (fun B f => Nat.lcm B f.2) 1
def sumAt (D : Nat) (fs : List Fr) : Int := (fs.map fun f => f.1 * ((D / f.2 : Nat) : Int)).sum
def tot (fs : List Fr) : Fr := low (sumAt (common fs) fs) (common fs)
theorem foldl_lcm : ∀ (fs : List Fr) (B D : Nat), (∀ f ∈ fs, f.2 ∣ D) → B ∣ D → fs.foldl (fun B f => Nat.lcm B f.2) B ∣ D ∧ B ∣ fs.foldl (fun B f => Nat.lcm B f.2) B ∧ ∀ f ∈ fs, f.2 ∣ fs.foldl (fun B f => Nat.lcm B f.2) B
  | [], B, D, _, h => ⟨h, Nat.dvd_refl _, fun f hf => by simp at hf⟩
  | f :: fs, B, D, hf, h => by
    obtain ⟨h1, h2, h3⟩ := foldl_lcm fs (Nat.lcm B f.2) D (fun g hg => hf g (by simp [hg])) (Nat.lcm_dvd h (hf f (by simp)))
    refine ⟨h1, Nat.dvd_trans (Nat.dvd_lcm_left _ _) h2, fun g hg => ?_⟩
    rcases List.mem_cons.mp hg with rfl | hg
    · exact Nat.dvd_trans (Nat.dvd_lcm_right _ _) h2
    · exact h3 g hg
theorem common_dvd {fs : List Fr} {D : Nat} (h : ∀ f ∈ fs, f.2 ∣ D) : common fs ∣ D := (foldl_lcm fs 1 D h (Nat.one_dvd _)).1
theorem common_each {fs : List Fr} {f : Fr} (h : f ∈ fs) : f.2 ∣ common fs := (foldl_lcm fs 1 0 (fun _ _ => Nat.dvd_zero _) (Nat.dvd_zero _)).2.2 f h
theorem common_pos {fs : List Fr} (h : ∀ f ∈ fs, 0 < f.2) : 0 < common fs := by
  unfold common
  have : ∀ (fs : List Fr) (B : Nat), 0 < B → (∀ f ∈ fs, 0 < f.2) → 0 < fs.foldl (fun B f => Nat.lcm B f.2) B := by
    intro fs
    induction fs with
    | nil => intro B hB _; exact hB
    | cons f fs ih => intro B hB h; exact ih _ (Nat.lcm_pos hB (h f (by simp))) fun g hg => h g (by simp [hg])
  exact this fs 1 (by decide) h
theorem sumAt_mul {C k : Nat} : ∀ {fs : List Fr}, (∀ f ∈ fs, f.2 ∣ C) → sumAt (C * k) fs = sumAt C fs * k
  | [], _ => by simp [sumAt]
  | f :: fs, h => by
    have ih := sumAt_mul (C := C) (k := k) (fs := fs) fun g hg => h g (by simp [hg])
    unfold sumAt at *
    rw [List.map_cons, List.sum_cons, List.map_cons, List.sum_cons, ih, Nat.mul_div_right_comm (h f (by simp)), Int.natCast_mul, Int.add_mul, Int.mul_assoc]
/-- any common multiple does -/
theorem tot_any {fs : List Fr} {D : Nat} (h : ∀ f ∈ fs, 0 < f.2 ∧ f.2 ∣ D) (hD : 0 < D) : tot fs = low (sumAt D fs) D := by
  obtain ⟨k, hk⟩ := common_dvd fun f hf => (h f hf).2
  have cp := common_pos fun f hf => (h f hf).1
  have k0 : 0 < k := Nat.pos_of_ne_zero fun z => by rw [z, Nat.mul_zero] at hk; omega
  subst hk
  rw [sumAt_mul fun f hf => common_each hf, low_scale k0 cp]
  rfl
theorem sumAt_le {fs : List Fr} {D : Nat} (h : ∀ f ∈ fs, 0 < f.2 ∧ f.2 ∣ D) (hD : 0 < D) : (sumAt (common fs) fs).natAbs ≤ (sumAt D fs).natAbs := by
  obtain ⟨k, hk⟩ := common_dvd fun f hf => (h f hf).2
  have k0 : 0 < k := Nat.pos_of_ne_zero fun z => by rw [z, Nat.mul_zero] at hk; omega
  subst hk
  rw [sumAt_mul fun f hf => common_each hf, Int.natAbs_mul, Int.natAbs_natCast]
  exact Nat.le_mul_of_pos_right _ k0
theorem Bd.nat {k D B : Nat} (h : Bd k (D : Int)) (q : B ≤ D) : Bd k (B : Int) := h.le (by rw [Int.natAbs_natCast, Int.natAbs_natCast]; exact q)
theorem cb_loop {N D : Nat} {t : Option DL.Slot} {cs : Cs} (hN : 2 ≤ N) (D0 : 0 < D) (bD : Bd 8000 (D : Int)) : ∀ (fs : List Fr) (B : Nat) (x : Option DL.Slot), (∀ f ∈ fs, 0 < f.2 ∧ f.2 ∣ D) → 0 < B → B ∣ D →
    ∃ x', forL (gNm 2) (cbBb (sem N)) (fs.map fun f => Val.d (frD f)) [t, some (.fr (.d (.int (B : Int)))), x] cs = .nx [t, some (.fr (.d (.int ((fs.foldl (fun B f => Nat.lcm B f.2) B : Nat) : Int)))), x'] cs
  | [], B, x, _, _, _ => ⟨x, rfl⟩
  | f :: fs, B, x, h, B0, hB => by
    obtain ⟨h1, h2⟩ := h f (by simp)
    obtain ⟨x', e⟩ := cb_loop hN D0 bD fs (Nat.lcm B f.2) (some (.fr (.d (frD f)))) (fun g hg => h g (by simp [hg])) (Nat.lcm_pos B0 h1) (Nat.lcm_dvd hB h2)
    refine ⟨x', ?_⟩
    rw [List.map_cons, List.foldl_cons]
    refine f_cons (sl1 := [t, some (.fr (.d (.int (B : Int)))), some (.fr (.d (frD f)))]) rfl ?_ e
    have lm := least_multiple_ok h1 B0 (bD.nat (Nat.le_of_dvd D0 hB)) (bD.nat (Nat.le_of_dvd D0 h2)) hN cs
    unfold frD at *
    by_cases h1' : f.2 = 1
    · have n1 := ne_f (a := (f.2 : Int)) (k := 1) (by omega)
      have e1 : Nat.lcm B f.2 = B := by rw [h1', Nat.lcm_one_right]
      rw [e1]
      generalize (f.2 : Int) = FD at *
      generalize (B : Int) = BB at *
      unfold cbBb
      repeat' fold_depth
    · have n1 := ne_t (a := (f.2 : Int)) (k := 1) (by omega)
      generalize ((Nat.lcm B f.2 : Nat) : Int) = L at *
      generalize (f.2 : Int) = FD at *
      generalize (B : Int) = BB at *
      unfold cbBb
      repeat' fold_depth
section
variable {N D : Nat} {fs : List Fr} {v : Val}
theorem common_ok (hN : 3 ≤ N) (D0 : 0 < D) (bD : Bd 8000 (D : Int)) (h : ∀ f ∈ fs, 0 < f.2 ∧ f.2 ∣ D) (cs : Cs) (hs : seqV v cs = .ok (fs.map fun f => Val.d (frD f)) cs) : sem N .common_below [v] cs = .ok (.fr (.d (.int ((common fs : Nat) : Int)))) cs := by
  obtain ⟨n, rfl⟩ : ∃ n, N = n + 1 := ⟨N - 1, by omega⟩
  obtain ⟨x', e⟩ := cb_loop (N := n) (t := some (.fr v)) (cs := cs) (by omega) D0 bD fs 1 none h (by decide) (Nat.one_dvd _)
  have o : s_common_below (sem n) [some (.fr v), none, none] cs = .rt (.fr (.d (.int ((common fs : Nat) : Int)))) cs := by
    rw [cb_split]
    exact se_step (s_set (o_fr rfl rfl) rfl) (se_step (s_for (p_seq (ev_var rfl) hs) e) (s_retV rfl))
  rw [e_common_below]
  exact congrArg bodyR o
theorem numbers_ok (hN : 4 ≤ N) (D0 : 0 < D) (bD : Bd 8000 (D : Int)) (h : ∀ f ∈ fs, 0 < f.2 ∧ f.2 ∣ D) (hb : ∀ f ∈ fs, Bd 8000 f.1) (hl : fs.length ≤ 1000) (hv : v.solid = true) (cs : Cs) (hs : seqV v cs = .ok (fs.map fun f => Val.d (frD f)) cs) :
    sem N .numbers_of [v] cs = .ok (.ow (.list ((fs.map fun f => f.1 * ((common fs / f.2 : Nat) : Int)).map PyData.int))) cs := by
  obtain ⟨n, rfl⟩ : ∃ n, N = n + 1 := ⟨N - 1, by omega⟩
  have c := common_ok (N := n) (by omega) D0 bD h cs hs
  have cd := common_dvd fun f hf => (h f hf).2
  have cb : Bd 8000 ((common fs : Nat) : Int) := bD.nat (Nat.le_of_dvd D0 cd)
  have lc := lc_map (l := fs) (e := frD) (k := fun f => .int (f.1 * ((common fs / f.2 : Nat) : Int))) (g := gNm 2) (tt := tTrue) (te := eOp mulD (eIx (eVar 2) (eC (.int 0))) (eOp divD (eVar 1) (eIx (eVar 2) (eC (.int 1))))) (slB := blkSl [some (.fr v), some (.fr (.d (.int ((common fs : Nat) : Int)))), none] [2]) (cs := cs) fun f hf => by
    obtain ⟨h1, h2⟩ := h f hf
    have d1 := div_ev (a := ((common fs : Nat) : Int)) (show (0 : Int) < f.2 by omega) (bD.nat (Nat.le_of_dvd D0 h2)) (by decide)
    rw [← Int.natCast_ediv] at d1
    have m := mul_ev (hb f hf) (cb.nat (B := common fs / f.2) (Nat.div_le_self _ _)) (by decide)
    refine ⟨_, rfl, rfl, ?_⟩
    exact v_op (v_ix (ev_var rfl) rfl (x_t (at_lit (n := 0) rfl rfl))) (v_op (ev_var rfl) (v_ix (ev_var rfl) rfl (x_t (at_lit (n := 1) rfl rfl))) (o_dd d1)) (o_dd m)
  rw [List.map_map] at lc
  have i : pSeq (eVar 0) [some (.fr v), some (.fr (.d (.int ((common fs : Nat) : Int)))), none] cs = .ok (fs.map fun f => Val.d (frD f)) cs := p_seq (ev_var rfl) hs
  have q := lc_ev i (by rw [List.length_map]; omega) lc
  have o : s_numbers_of (sem n) [some (.fr v), none, none] cs = .rt (.ow (.list ((fs.map fun f => f.1 * ((common fs / f.2 : Nat) : Int)).map PyData.int))) cs := by
    rw [List.map_map]
    exact se_step (s_set (o_fr (v_fz (o_def0 (v_cons (ev_var rfl) hv v_nil) c) rfl) rfl) rfl) (s_ret q)
  rw [e_numbers_of]
  exact congrArg bodyR o
theorem total_ok (hN : 5 ≤ N) (D0 : 0 < D) (bD : Bd 8000 (D : Int)) (h : ∀ f ∈ fs, 0 < f.2 ∧ f.2 ∣ D) (hb : ∀ f ∈ fs, Bd 8000 f.1) (hl : fs.length ≤ 1000) (hS : Bd 8000 (sumAt D fs)) (cs : Cs) (hv : listB [v] cs = .ok (.d (.list (fs.map frD))) cs) :
    sem N .total [v] cs = .ok (.fr (.d (frD (tot fs)))) cs := by
  obtain ⟨n, rfl⟩ : ∃ n, N = n + 1 := ⟨N - 1, by omega⟩
  have sq : ∀ cs, seqV (.d (.list (fs.map frD))) cs = .ok (fs.map fun f => Val.d (frD f)) cs := fun cs => by
    show R.ok ((fs.map frD).map Val.d) cs = _
    rw [List.map_map]
    rfl
  have c := common_ok (N := n) (by omega) D0 bD h cs (sq cs)
  have m := numbers_ok (N := n) (by omega) D0 bD h hb hl rfl cs (sq cs)
  have s := sum_ev (xs := fs.map fun f => f.1 * ((common fs / f.2 : Nat) : Int)) (cs := cs)
  have cd := common_dvd fun f hf => (h f hf).2
  have cp := common_pos fun f hf => (h f hf).1
  have l := lowest_ok (N := n) (a := sumAt (common fs) fs) cp (hS.le (sumAt_le h D0)) (bD.nat (Nat.le_of_dvd D0 cd)) (by omega) cs
  have o : s_total (sem n) [some (.fr v), none] cs = .rt (.fr (.d (frD (tot fs)))) cs :=
    se_step (s_set (o_fr (v_call (ev_bcons (ev_var rfl) v_nil) hv) rfl) rfl) (s_ret (o_def0 (v_cons (v_call (ev_bcons (v_fz (o_def0 (v_cons (ev_var rfl) rfl v_nil) m) rfl) v_nil) s) rfl (v_cons (v_fz (o_def0 (v_cons (ev_var rfl) rfl v_nil) c) rfl) rfl v_nil)) l))
  rw [e_total]
  exact congrArg bodyR o
theorem list_l {l : List PyData} {cs : Cs} : listB [.d (.list l)] cs = .ok (.d (.list l)) cs := rfl
theorem list_t {l : List PyData} {cs : Cs} : listB [.d (.tuple l)] cs = .ok (.d (.list l)) cs := rfl
end
end LW
end
section
set_option Elab.async false
set_option linter.all false
set_option maxRecDepth 100000
set_option autoImplicit false
namespace LW
open PySem PySem.Spec PyProof.Rows L2 DL
set_option maxHeartbeats 4000000
local macro_rules | `(tactic| fold_depth) => `(tactic| first
  | ((with_reducible show _ = _); with_reducible assumption)
  | ((with_reducible apply DL.ev_var); exact rfl)
  | apply_assumption (transparency := .reducible) (symm := false) (exfalso := false) only [DL.ev_c, LW.cond_t, LW.cond_f, LW.v_nil, LW.v_cons, LW.ev_bcons, LW.v_op, LW.o_dd, LW.o_bd, LW.o_db, LW.o_bb, LW.v_ix, LW.x_t, LW.x_l, LW.x_b, LW.x_c, LW.v_tup, LW.v_lst, LW.v_olst, LW.v_andb, LW.v_orb, LW.v_not, LW.v_neg, LW.v_rev, LW.v_sl, LW.i_none, LW.i_some, LW.v_isi, LW.v_call, LW.v_fz, LW.v_cel, LW.o_def0, LW.o_def, LW.o_defK, LW.o_call, LW.o_fr, LW.o_star, LW.t_b, LW.t_tru, LW.t_not, LW.t_andb, LW.t_orb, LW.v_ifb, LW.s_seq, LW.q_nx, LW.q_rt, LW.q_ex, LW.s_nil, LW.s_ifb, LW.s_set, LW.s_ret, LW.s_retV, LW.s_expr, LW.s_fz, LW.s_asg, LW.s_par, LW.s_aug, LW.s_for, LW.p_seq, LW.fz_fr, LW.fz_ow, LW.not_t, LW.not_f, LW.dats_nil, LW.dats_map, LW.dats_cons, LW.dats_app, LW.mk_t, LW.mk_l, LW.mk_o]
  | ((with_reducible apply DL.ev_own); exact rfl)
  | ((with_reducible show getElem? _ _ = _); exact rfl)
  | ((with_reducible show DL.gTp _ _ _ = _); simp only [DL.ev_gTp, DL.ev_gTpL, DL.ev_gsCons, DL.ev_gNm, DL.ev_gsNil, Option.bind_some, List.set_cons_succ, List.set_cons_zero]; exact rfl)
  | ((with_reducible show List.set _ _ _ = _); simp only [List.set_cons_succ, List.set_cons_zero]; exact rfl)
  | ((with_reducible show List.map _ _ = _); simp only [List.map_cons, List.map_nil, List.getD_cons_succ, List.getD_cons_zero]; exact rfl)
  | ((with_reducible show List.length _ ≤ _); first | with_reducible assumption | exact Nat.le_of_ble_eq_true rfl)
  | ((with_reducible show DL.isiB _ _ = _); first | exact LW.isi_t rfl | exact LW.isi_f rfl)
  | ((with_reducible show DL.isNone _ = _); first | exact LW.isN_t rfl | exact LW.isN_f rfl)
  | ((with_reducible show DL.eqD (PySem.PyData.str _) (PySem.PyData.str _) = _); first | exact LW.eqw_t (by decide +kernel) | exact LW.eqw_f (by decide +kernel))
  | ((with_reducible show DL.neD (PySem.PyData.str _) (PySem.PyData.str _) = _); first | exact LW.new_t (by decide +kernel) | exact LW.new_f (by decide +kernel))
  | ((with_reducible show DL.inD (PySem.PyData.str _) _ = _); first | exact LW.inw_t rfl rfl (by decide +kernel) | exact LW.inw_f rfl rfl (by decide +kernel))
  | ((with_reducible show DL.notInD (PySem.PyData.str _) _ = _); first | exact LW.ninw_t rfl rfl (by decide +kernel) | exact LW.ninw_f rfl rfl (by decide +kernel))
  | ((with_reducible show DL.eqD (PySem.PyData.int _) (PySem.PyData.int _) = _); first | exact LW.eq_t (by first | rfl | omega) | exact LW.eq_f (by first | omega | (simp; done) | (simp; omega)))
  | ((with_reducible show DL.neD (PySem.PyData.int _) (PySem.PyData.int _) = _); first | exact LW.ne_f (by first | rfl | omega) | exact LW.ne_t (by first | omega | (simp; done) | (simp; omega)))
  | ((with_reducible show DL.ltD (PySem.PyData.int _) (PySem.PyData.int _) = _); first | exact LW.lt_t (by first | omega | (simp; done) | (simp; omega)) | exact LW.lt_f (by first | omega | (simp; done) | (simp; omega)))
  | ((with_reducible show DL.leD (PySem.PyData.int _) (PySem.PyData.int _) = _); first | exact LW.le_t (by first | omega | (simp; done) | (simp; omega)) | exact LW.le_f (by first | omega | (simp; done) | (simp; omega)))
  | ((with_reducible show DL.gtD (PySem.PyData.int _) (PySem.PyData.int _) = _); first | exact LW.gt_t (by first | omega | (simp; done) | (simp; omega)) | exact LW.gt_f (by first | omega | (simp; done) | (simp; omega)))
  | ((with_reducible show DL.geD (PySem.PyData.int _) (PySem.PyData.int _) = _); first | exact LW.ge_t (by first | omega | (simp; done) | (simp; omega)) | exact LW.ge_f (by first | omega | (simp; done) | (simp; omega)))
  | exact rfl)
def tpA : SS := sSet 2 (oLc (pZip (bCons (eVar 0) (bCons (eVar 1) (aNil)))) (gTp (gsCons (gNm 3) (gsCons (gNm 4) (gsNil)))) (tAndD (tBool (eOp neD (eIx (eVar 3) (eC (.int 0))) (eC (.int 0)))) (tBool (eOp neD (eIx (eVar 4) (eC (.int 0))) (eC (.int 0))))) (eTup (aCons (eOp mulD (eIx (eVar 3) (eC (.int 0))) (eIx (eVar 4) (eC (.int 0)))) (aCons (eOp mulD (eIx (eVar 3) (eC (.int 1))) (eIx (eVar 4) (eC (.int 1)))) (aNil)))) [3, 4])
def tpB : SS := sFz 2
def tpC (G : Fn → FS) : SS := sRet (oDef (G .total) [] (aCons (eVar 2) (aNil)))
theorem tp_split (G : Fn → FS) : s_total_of_products G = sSeq tpA (sSeq tpB (tpC G)) := rfl
theorem zipL_map {α β : Type} {f : α → PyData} {g : β → PyData} : ∀ {xs : List α} {ys : List β}, zipL (xs.map f) (ys.map g) = (xs.zip ys).map fun p => Val.d (.tuple [f p.1, g p.2])
  | [], _ => by simp [zipL]
  | _ :: _, [] => by simp [zipL]
  | x :: xs, y :: ys => by simp only [List.map_cons, zipL, List.zip_cons_cons, zipL_map (xs := xs)]
def mulF (p : Fr × Fr) : Fr := (p.1.1 * p.2.1, p.1.2 * p.2.2)
def pr2 (fs gs : List Fr) : List Fr := (fs.zip gs).map mulF
def nz (p : Fr × Fr) : Bool := !(p.1.1 == 0) && !(p.2.1 == 0)
theorem sumAt_nz {D : Nat} : ∀ (l : List (Fr × Fr)), sumAt D ((l.filter nz).map mulF) = sumAt D (l.map mulF)
  | [] => rfl
  | p :: l => by
    have ih := sumAt_nz (D := D) l
    unfold sumAt at *
    cases h : nz p with
    | true => simp only [List.filter_cons, h, if_true, List.map_cons, List.sum_cons, ih]
    | false =>
      have z : (mulF p).1 = 0 := by
        unfold nz at h
        unfold mulF
        simp only [Bool.and_eq_false_iff, Bool.not_eq_false', beq_iff_eq] at h
        rcases h with h | h <;> simp [h]
      simp only [List.filter_cons, h, Bool.false_eq_true, if_false, List.map_cons, List.sum_cons, ih, z, Int.zero_mul, Int.zero_add]
def DenOk (D : Nat) (fs : List Fr) : Prop := ∀ f ∈ fs, 0 < f.2 ∧ f.2 ∣ D
def Bds (k : Nat) (fs : List Fr) : Prop := ∀ f ∈ fs, Bd k f.1 ∧ Bd k (f.2 : Int)
theorem tp_lc {fs gs : List Fr} (h1 : Bds 4000 fs) (h2 : Bds 4000 gs) (hl : fs.length ≤ 1000) {v w : Val} {cs : Cs} (hz : zipV [v, w] cs = .ok ((fs.zip gs).map fun p => Val.d (.tuple [frD p.1, frD p.2])) cs) :
    tpA [some (.fr v), some (.fr w), none, none, none] cs = .nx [some (.fr v), some (.fr w), some (.ow (.list ((((fs.zip gs).filter nz).map mulF).map frD))), none, none] cs := by
  have lc := lcL_filt (l := fs.zip gs) (e := fun p => .tuple [frD p.1, frD p.2]) (k := fun p => frD (mulF p)) (pr := nz) (gt := gTp (gsCons (gNm 3) (gsCons (gNm 4) (gsNil)))) (tt := tAndD (tBool (eOp neD (eIx (eVar 3) (eC (.int 0))) (eC (.int 0)))) (tBool (eOp neD (eIx (eVar 4) (eC (.int 0))) (eC (.int 0)))))
    (te := eTup (aCons (eOp mulD (eIx (eVar 3) (eC (.int 0))) (eIx (eVar 4) (eC (.int 0)))) (aCons (eOp mulD (eIx (eVar 3) (eC (.int 1))) (eIx (eVar 4) (eC (.int 1)))) (aNil)))) (slB := blkSl [some (.fr v), some (.fr w), none, none, none] [3, 4]) (cs := cs) fun p hp => by
    obtain ⟨f, g⟩ := p
    obtain ⟨q1, q2⟩ := List.of_mem_zip hp
    have b1 := h1 f q1
    have b2 := h2 g q2
    have m1 := mul_ev b1.1 b2.1 (by decide)
    have m2 := mul_ev b1.2 b2.2 (by decide)
    rw [← Int.natCast_mul] at m2
    have n1 := ne_i f.1 0
    have n2 := ne_i g.1 0
    obtain ⟨fa, fd⟩ := f
    obtain ⟨ga, gd⟩ := g
    unfold frD mulF nz
    dsimp only at *
    refine ⟨[some (.fr v), some (.fr w), none, some (.fr (.d (.tuple [.int fa, .int (fd : Int)]))), some (.fr (.d (.tuple [.int ga, .int (gd : Int)])))], by simp [blkSl, wipeS, unOwn], ?_, ?_⟩
    · have t1 : tBool (eOp neD (eIx (eVar 3) (eC (.int 0))) (eC (.int 0))) [some (.fr v), some (.fr w), none, some (.fr (.d (.tuple [.int fa, .int (fd : Int)]))), some (.fr (.d (.tuple [.int ga, .int (gd : Int)])))] cs = .ok (!(fa == 0)) cs := t_b (v_op (v_ix (ev_var rfl) rfl (x_t (at_lit (n := 0) rfl rfl))) rfl (o_dd n1))
      have t2 : tBool (eOp neD (eIx (eVar 4) (eC (.int 0))) (eC (.int 0))) [some (.fr v), some (.fr w), none, some (.fr (.d (.tuple [.int fa, .int (fd : Int)]))), some (.fr (.d (.tuple [.int ga, .int (gd : Int)])))] cs = .ok (!(ga == 0)) cs := t_b (v_op (v_ix (ev_var rfl) rfl (x_t (at_lit (n := 0) rfl rfl))) rfl (o_dd n2))
      cases hb : !(fa == 0) with
      | false => rw [hb] at t1; exact t_and0 t1
      | true => rw [hb] at t1; exact t_and1 t1 t2
    · generalize ((fd * gd : Nat) : Int) = X at *
      generalize fa * ga = Y at *
      generalize (fd : Int) = FD at *
      generalize (gd : Int) = GD at *
      repeat' fold_depth
  rw [List.map_map] at lc
  have i : pZip (bCons (eVar 0) (bCons (eVar 1) (aNil))) [some (.fr v), some (.fr w), none, none, none] cs = .ok ((fs.zip gs).map fun p => Val.d (.tuple [frD p.1, frD p.2])) cs := by
    show ((bCons (eVar 0) (bCons (eVar 1) (aNil))) _ cs).bind zipV = _
    rw [ev_bcons (ev_var rfl) (ev_bcons (ev_var rfl) v_nil), R.bind_ok, hz]
  have hl2 : (fs.zip gs).length ≤ 1000 := by rw [List.length_zip]; omega
  have q := lc_ev i (by rw [List.length_map]; omega) lc
  rw [List.map_map]
  exact s_set q rfl
theorem dot_ok {N D : Nat} {fs gs : List Fr} (hN : 6 ≤ N) (D0 : 0 < D) (bD : Bd 8000 (D : Int)) (h : DenOk D (pr2 fs gs)) (h1 : Bds 4000 fs) (h2 : Bds 4000 gs) (hl : fs.length ≤ 1000) (hS : Bd 8000 (sumAt D (pr2 fs gs))) {v w : Val} {cs : Cs} (hz : zipV [v, w] cs = .ok ((fs.zip gs).map fun p => Val.d (.tuple [frD p.1, frD p.2])) cs) :
    sem N .total_of_products [v, w] cs = .ok (.fr (.d (frD (low (sumAt D (pr2 fs gs)) D)))) cs := by
  obtain ⟨n, rfl⟩ : ∃ n, N = n + 1 := ⟨N - 1, by omega⟩
  have hf : ∀ f ∈ ((fs.zip gs).filter nz).map mulF, f ∈ pr2 fs gs := fun f hf => by
    obtain ⟨p, hp, rfl⟩ := List.mem_map.mp hf
    exact List.mem_map_of_mem (List.mem_filter.mp hp).1
  have h' : DenOk D (((fs.zip gs).filter nz).map mulF) := fun f q => h f (hf f q)
  have hS' : Bd 8000 (sumAt D (((fs.zip gs).filter nz).map mulF)) := by rw [sumAt_nz]; exact hS
  have t := total_ok (N := n) (by omega) D0 bD h' (fun f q => by
    obtain ⟨p, hp, rfl⟩ := List.mem_map.mp q
    obtain ⟨q1, q2⟩ := List.of_mem_zip (List.mem_filter.mp hp).1
    exact (h1 _ q1).1.mul (h2 _ q2).1) (by
      rw [List.length_map]
      refine Nat.le_trans (List.length_filter_le _ _) ?_
      rw [List.length_zip]; omega) hS' cs (v := .d (.list ((((fs.zip gs).filter nz).map mulF).map frD))) list_l
  rw [tot_any h' D0, sumAt_nz] at t
  have o : s_total_of_products (sem n) [some (.fr v), some (.fr w), none, none, none] cs = .rt (.fr (.d (frD (low (sumAt D (pr2 fs gs)) D)))) cs := by
    rw [tp_split]
    exact se_step (tp_lc h1 h2 hl hz) (se_step (s_fz rfl rfl rfl) (s_ret (o_def0 (v_cons (ev_var rfl) rfl v_nil) t)))
  rw [e_total_of_products]
  exact congrArg bodyR o
theorem zip_ll {fs gs : List Fr} {cs : Cs} : zipV [.d (.list (fs.map frD)), .d (.list (gs.map frD))] cs = .ok ((fs.zip gs).map fun p => Val.d (.tuple [frD p.1, frD p.2])) cs := by
  show R.ok (zipL _ _) cs = _
  rw [zipL_map]
end LW
end
section
set_option Elab.async false
set_option linter.all false
set_option maxRecDepth 100000
set_option autoImplicit false
namespace LW
open PySem PySem.Spec PyProof.Rows L2 DL
/-! ### fractions as numbers -/
def ofQ (q : Rat) : Fr := (q.num, q.den)
def fv (f : Fr) : Rat := mkRat f.1 f.2
theorem low_q {a : Int} {d : Nat} (h : 0 < d) : low a d = ofQ (mkRat a d) := by
  unfold low ofQ
  rw [Rat.num_mkRat, Rat.den_mkRat, if_neg (by omega), if_neg (by omega), Nat.gcd_comm]
theorem fv_ofQ (q : Rat) : fv (ofQ q) = q := Rat.mkRat_self q
theorem ofQ_pos (q : Rat) : 0 < (ofQ q).2 := Nat.pos_of_ne_zero q.den_nz
theorem fv_div (f : Fr) : fv f = (f.1 : Rat) / (f.2 : Rat) := Rat.mkRat_eq_div _ _
theorem nq {d : Nat} (h : 0 < d) : (d : Rat) ≠ 0 := fun e => by
  have := Rat.natCast_eq_zero_iff.mp e
  omega
theorem mk_add (a b : Int) (d : Nat) : mkRat (a + b) d = mkRat a d + mkRat b d := by
  rw [Rat.mkRat_eq_div, Rat.mkRat_eq_div, Rat.mkRat_eq_div, Rat.intCast_add, Rat.div_def, Rat.div_def, Rat.div_def, Rat.add_mul]
theorem sumAt_q {D : Nat} (hD : 0 < D) : ∀ {fs : List Fr}, (∀ f ∈ fs, 0 < f.2 ∧ f.2 ∣ D) → mkRat (sumAt D fs) D = (fs.map fv).sum
  | [], _ => by simp [sumAt]
  | f :: fs, h => by
    have ih := sumAt_q hD (fs := fs) fun g hg => h g (by simp [hg])
    obtain ⟨h1, k, hk⟩ := h f (by simp)
    unfold sumAt at *
    have k0 : 0 < k := Nat.pos_of_ne_zero fun z => by rw [z, Nat.mul_zero] at hk; omega
    rw [List.map_cons, List.sum_cons, List.map_cons, List.sum_cons, mk_add, ih]
    congr 1
    subst hk
    rw [Nat.mul_div_cancel_left _ h1]
    exact Rat.mkRat_mul_right (by omega)
def denP (fs : List Fr) : Nat := (fs.map (·.2)).foldr (· * ·) 1
theorem denP_pos : ∀ {fs : List Fr}, (∀ f ∈ fs, 0 < f.2) → 0 < denP fs
  | [], _ => Nat.one_pos
  | f :: fs, h => Nat.mul_pos (h f (by simp)) (denP_pos (fs := fs) fun g hg => h g (by simp [hg]))
theorem denP_dvd : ∀ {fs : List Fr} {f : Fr}, f ∈ fs → f.2 ∣ denP fs
  | g :: fs, f, h => by
    rcases List.mem_cons.mp h with rfl | h
    · exact Nat.dvd_mul_right _ _
    · exact Nat.dvd_trans (denP_dvd h) (Nat.dvd_mul_left _ _)
theorem sumAt_mulL {d C : Nat} (hd : 0 < d) : ∀ {fs : List Fr}, (∀ f ∈ fs, f.2 ∣ C) → sumAt (d * C) fs = d * sumAt C fs
  | [], _ => by simp [sumAt]
  | f :: fs, h => by
    have ih := sumAt_mulL (d := d) (C := C) hd (fs := fs) fun g hg => h g (by simp [hg])
    unfold sumAt at *
    rw [List.map_cons, List.sum_cons, List.map_cons, List.sum_cons, ih, Nat.mul_div_assoc _ (h f (by simp)), Int.natCast_mul, Int.mul_add, Int.mul_left_comm]
theorem denP_bd {k : Nat} : ∀ {fs : List Fr}, Bds k fs → Bd (fs.length * (k + 1) + 1) (denP fs : Int) ∧ ((∀ f ∈ fs, 0 < f.2) → Bd (fs.length * (k + 1) + 1) (sumAt (denP fs) fs))
  | [], _ => by
    have e : denP [] = 1 := rfl
    rw [e]
    refine ⟨?_, fun _ => ?_⟩
    · unfold Bd; simp
    · unfold Bd sumAt; simp
  | f :: fs, h => by
    obtain ⟨h1, h2⟩ := denP_bd (k := k) (fs := fs) fun g hg => h g (by simp [hg])
    obtain ⟨b1, b2⟩ := h f (by simp)
    have e : denP (f :: fs) = f.2 * denP fs := rfl
    have le : (f :: fs).length * (k + 1) + 1 = (k + (fs.length * (k + 1) + 1)) + 1 := by
      rw [List.length_cons, Nat.succ_mul]; omega
    rw [e, le]
    refine ⟨?_, fun h0 => ?_⟩
    · rw [Int.natCast_mul]
      exact (b2.mul h1).mono (by omega)
    · have f0 := h0 f (by simp)
      have s2 := h2 fun g hg => h0 g (by simp [hg])
      have e2 : sumAt (f.2 * denP fs) (f :: fs) = f.1 * (denP fs : Int) + f.2 * sumAt (denP fs) fs := by
        rw [← sumAt_mulL f0 (fun g hg => denP_dvd hg)]
        unfold sumAt
        rw [List.map_cons, List.sum_cons, Nat.mul_div_cancel_left _ f0]
      rw [e2]
      exact (b1.mul h1).add (b2.mul s2)
/-- numbers that are not too great -/
def Bq (k : Nat) (q : Rat) : Prop := Bd k q.num ∧ Bd k (q.den : Int)
theorem Bq.mono {j k : Nat} {q : Rat} (h : Bq j q) (l : j ≤ k) : Bq k q := ⟨h.1.mono l, h.2.mono l⟩
theorem Bq.mk {k d : Nat} {a : Int} (h0 : 0 < d) (h1 : Bd k a) (h2 : Bd k (d : Int)) : Bq k (mkRat a d) := by
  have e := low_q (a := a) h0
  have e1 : (mkRat a d).num = (low a d).1 := by rw [e]; rfl
  have e2 : (mkRat a d).den = (low a d).2 := by rw [e]; rfl
  unfold Bq
  rw [e1, e2]
  exact ⟨h1.low1, h2.low2⟩
theorem Bq.sum {k : Nat} {fs : List Fr} (h : Bds k fs) (h0 : ∀ f ∈ fs, 0 < f.2) : Bq (fs.length * (k + 1) + 1) (fs.map fv).sum := by
  rw [← sumAt_q (denP_pos h0) fun f hf => ⟨h0 f hf, denP_dvd hf⟩]
  exact Bq.mk (denP_pos h0) ((denP_bd h).2 h0) (denP_bd h).1
theorem Bq.sumq {k n : Nat} {qs : List Rat} (h : ∀ q ∈ qs, Bq k q) (hn : qs.length ≤ n) : Bq (n * (k + 1) + 1) qs.sum := by
  have e : (qs.map ofQ).map fv = qs := by
    rw [List.map_map]
    exact (List.map_congr_left fun q _ => fv_ofQ q).trans (List.map_id _)
  have b := Bq.sum (k := k) (fs := qs.map ofQ) (fun f hf => by
    obtain ⟨q, hq, rfl⟩ := List.mem_map.mp hf
    exact h q hq) (fun f hf => by
    obtain ⟨q, hq, rfl⟩ := List.mem_map.mp hf
    exact ofQ_pos q)
  rw [e, List.length_map] at b
  exact b.mono (Nat.add_le_add_right (Nat.mul_le_mul_right _ hn) 1)
theorem Bq.mul {j k : Nat} {p q : Rat} (h : Bq j p) (g : Bq k q) : Bq (j + k) (p * q) := by
  rw [Rat.mul_def']
  refine Bq.mk (Nat.mul_pos (ofQ_pos p) (ofQ_pos q)) (h.1.mul g.1) ?_
  rw [Int.natCast_mul]
  exact h.2.mul g.2
def dotQ : List Rat → List Rat → Rat
  | x :: xs, y :: ys => x * y + dotQ xs ys
  | _, _ => 0
theorem fv_mul (f g : Fr) : fv (f.1 * g.1, f.2 * g.2) = fv f * fv g := by
  unfold fv
  exact (Rat.mkRat_mul_mkRat _ _ _ _).symm
theorem dot_zip : ∀ (fs gs : List Fr), (((fs.zip gs).map fun p => (p.1.1 * p.2.1, p.1.2 * p.2.2)).map fv).sum = dotQ (fs.map fv) (gs.map fv)
  | [], _ => rfl
  | _ :: _, [] => rfl
  | f :: fs, g :: gs => by
    simp only [List.zip_cons_cons, List.map_cons, List.sum_cons, dotQ]
    rw [dot_zip fs gs]
    have := fv_mul f g
    rw [this]
/-! ### sums over places -/
def S (n : Nat) (f : Nat → Rat) : Rat := ((List.range n).map f).sum
section
variable {n m : Nat} {f g : Nat → Rat}
theorem S_zero (f : Nat → Rat) : S 0 f = 0 := rfl
theorem rsum_app : ∀ (a b : List Rat), (a ++ b).sum = a.sum + b.sum
  | [], b => (Rat.zero_add _).symm
  | x :: a, b => by rw [List.cons_append, List.sum_cons, List.sum_cons, rsum_app a b, Rat.add_assoc]
theorem S_succ (n : Nat) (f : Nat → Rat) : S (n + 1) f = S n f + f n := by
  unfold S
  rw [List.range_succ, List.map_append, rsum_app, List.map_singleton, List.sum_singleton]
theorem S_congr (h : ∀ k, k < n → f k = g k) : S n f = S n g := by
  unfold S
  congr 1
  exact List.map_congr_left fun k hk => h k (List.mem_range.mp hk)
theorem S_add : ∀ (n : Nat) (f g : Nat → Rat), S n (fun k => f k + g k) = S n f + S n g
  | 0, _, _ => by rw [S_zero, S_zero, S_zero, Rat.add_zero]
  | n + 1, f, g => by
    rw [S_succ, S_succ, S_succ, S_add n]
    generalize S n f = a
    generalize S n g = b
    rw [Rat.add_assoc, Rat.add_assoc, Rat.add_left_comm b]
theorem S_mulL (c : Rat) : ∀ (n : Nat) (f : Nat → Rat), S n (fun k => c * f k) = c * S n f
  | 0, _ => by simp [S_zero]
  | n + 1, f => by rw [S_succ, S_succ, S_mulL c n, Rat.mul_add]
theorem S_mulR (c : Rat) : ∀ (n : Nat) (f : Nat → Rat), S n (fun k => f k * c) = S n f * c
  | 0, _ => by simp [S_zero]
  | n + 1, f => by rw [S_succ, S_succ, S_mulR c n, Rat.add_mul]
theorem S_0 : ∀ (n : Nat), S n (fun _ => 0) = 0
  | 0 => rfl
  | n + 1 => by rw [S_succ, S_0 n, Rat.add_zero]
theorem S_comm : ∀ (n m : Nat) (f : Nat → Nat → Rat), S n (fun i => S m fun j => f i j) = S m fun j => S n fun i => f i j
  | 0, m, f => (S_0 m).symm
  | n + 1, m, f => by
    rw [S_succ, S_comm n m f, ← S_add]
    exact S_congr fun k _ => (S_succ n _).symm
theorem S_le : ∀ (n : Nat) {f g : Nat → Rat}, (∀ k, k < n → f k ≤ g k) → S n f ≤ S n g
  | 0, f, g, _ => by rw [S_zero, S_zero]; exact Rat.le_refl
  | n + 1, f, g, h => by
    rw [S_succ, S_succ]
    exact Rat.le_trans (Rat.add_le_add_right.mpr (S_le n fun k hk => h k (by omega))) (Rat.add_le_add_left.mpr (h n (by omega)))
theorem S_nonneg (h : ∀ k, k < n → 0 ≤ f k) : 0 ≤ S n f := by
  rw [← S_0 n]
  exact S_le n h
/-- one place alone -/
theorem S_one : ∀ (n : Nat) (k : Nat) (f : Nat → Rat), k < n → (∀ j, j < n → j ≠ k → f j = 0) → S n f = f k
  | 0, _, _, h, _ => by omega
  | n + 1, k, f, h, h0 => by
    rw [S_succ]
    by_cases e : k = n
    · subst e
      rw [S_congr (g := fun _ => 0) fun j hj => h0 j (by omega) (by omega), S_0, Rat.zero_add]
    · rw [S_one n k f (by omega) fun j hj hk => h0 j (by omega) hk, h0 n (by omega) (by omega), Rat.add_zero]
end
/-! integers -/
def SI (n : Nat) (f : Nat → Int) : Int := ((List.range n).map f).sum
theorem isum_app (a b : List Int) : (a ++ b).sum = a.sum + b.sum := by simp
theorem SI_succ (n : Nat) (f : Nat → Int) : SI (n + 1) f = SI n f + f n := by
  unfold SI
  rw [List.range_succ, List.map_append, isum_app]
  simp
theorem SI_q : ∀ (n : Nat) (f : Nat → Int), ((SI n f : Int) : Rat) = S n fun k => (f k : Rat)
  | 0, _ => rfl
  | n + 1, f => by rw [SI_succ, S_succ, Rat.intCast_add, SI_q n]
theorem SI_congr {n : Nat} {f g : Nat → Int} (h : ∀ k, k < n → f k = g k) : SI n f = SI n g := by
  unfold SI
  congr 1
  exact List.map_congr_left fun k hk => h k (List.mem_range.mp hk)
theorem SI_nonneg : ∀ {n : Nat} {f : Nat → Int}, (∀ k, k < n → 0 ≤ f k) → 0 ≤ SI n f
  | 0, _, _ => Int.le_refl _
  | n + 1, f, h => by
    rw [SI_succ]
    have := SI_nonneg (n := n) (f := f) fun k hk => h k (by omega)
    have := h n (by omega)
    omega
theorem SI_mulR (c : Int) : ∀ (n : Nat) (f : Nat → Int), SI n (fun k => f k * c) = SI n f * c
  | 0, _ => by simp [SI]
  | n + 1, f => by rw [SI_succ, SI_succ, SI_mulR c n, Int.add_mul]
/-! ### the greatest one -/
def mx (b : Rat) : List Rat → Rat
  | [] => b
  | x :: xs => mx (if b < x then x else b) xs
theorem mx_ge : ∀ (l : List Rat) (b : Rat), b ≤ mx b l
  | [], b => Rat.le_refl
  | x :: xs, b => by
    unfold mx
    refine Rat.le_trans ?_ (mx_ge xs _)
    split
    · rename_i h; exact Rat.le_of_lt h
    · exact Rat.le_refl
theorem mx_mem_ge : ∀ (l : List Rat) (b x : Rat), x ∈ l → x ≤ mx b l
  | y :: ys, b, x, h => by
    unfold mx
    rcases List.mem_cons.mp h with rfl | h
    · refine Rat.le_trans ?_ (mx_ge ys _)
      split
      · exact Rat.le_refl
      · rename_i h; exact Rat.not_lt.mp h
    · exact mx_mem_ge ys _ x h
theorem mx_mem : ∀ (l : List Rat) (b : Rat), mx b l = b ∨ mx b l ∈ l
  | [], b => .inl rfl
  | y :: ys, b => by
    unfold mx
    rcases mx_mem ys (if b < y then y else b) with h | h
    · rw [h]
      split
      · exact .inr (by simp)
      · exact .inl rfl
    · exact .inr (by simp [h])
/-- the greatest of some, one or more -/
def MX (n : Nat) (f : Nat → Rat) : Rat := mx (f 0) ((List.range n).map f)
theorem MX_ge {n k : Nat} {f : Nat → Rat} (h : k < n) : f k ≤ MX n f := mx_mem_ge _ _ _ (List.mem_map.mpr ⟨k, List.mem_range.mpr h, rfl⟩)
theorem MX_at {n : Nat} {f : Nat → Rat} (h : 0 < n) : ∃ k, k < n ∧ MX n f = f k := by
  rcases mx_mem ((List.range n).map f) (f 0) with e | e
  · exact ⟨0, h, e⟩
  · obtain ⟨k, hk, e⟩ := List.mem_map.mp e
    exact ⟨k, List.mem_range.mp hk, e.symm⟩
theorem MX_is {n : Nat} {f : Nat → Rat} {c : Rat} (h : 0 < n) (h1 : ∀ k, k < n → f k ≤ c) (h2 : ∃ k, k < n ∧ f k = c) : MX n f = c := by
  obtain ⟨k, hk, e⟩ := MX_at (f := f) h
  obtain ⟨j, hj, e2⟩ := h2
  refine Rat.le_antisymm ?_ ?_
  · rw [e]; exact h1 k hk
  · rw [← e2]; exact MX_ge hj
theorem MX_congr {n : Nat} {f g : Nat → Rat} (hn : 0 < n) (h : ∀ k, k < n → f k = g k) : MX n f = MX n g := by
  unfold MX
  rw [h 0 hn]
  congr 1
  exact List.map_congr_left fun k hk => h k (List.mem_range.mp hk)
theorem MX_mul {n : Nat} {f : Nat → Rat} {c : Rat} (hn : 0 < n) (hc : 0 ≤ c) : MX n (fun k => f k * c) = MX n f * c := by
  refine MX_is hn (fun k hk => Rat.mul_le_mul_of_nonneg_right (MX_ge hk) hc) ?_
  obtain ⟨k, hk, e⟩ := MX_at (f := f) hn
  exact ⟨k, hk, by rw [e]⟩
/-! ### news: what is told behind a noise, and what it is worth -/
abbrev Mat := Nat → Nat → Rat
def prodM (m : Nat) (N B : Mat) : Mat := fun i j => S m fun k => N i k * B k j
/-- n rows, m columns, a actions -/
def worthM (n m a : Nat) (N : Mat) (L : Nat → Rat) (G : Mat) : Rat := S m fun j => MX a fun t => S n fun i => L i * N i j * G t i
theorem prod_assoc (m l : Nat) (N B C : Mat) (i j : Nat) : prodM l (prodM m N B) C i j = prodM m N (prodM l B C) i j := by
  unfold prodM
  have h1 : S l (fun k => (S m fun q => N i q * B q k) * C k j) = S l fun k => S m fun q => N i q * B q k * C k j := S_congr fun k _ => (S_mulR _ _ _).symm
  have h2 : S m (fun q => N i q * S l fun k => B q k * C k j) = S m fun q => S l fun k => N i q * B q k * C k j := S_congr fun q _ => by
    rw [← S_mulL]
    exact S_congr fun k _ => (Rat.mul_assoc _ _ _).symm
  rw [h1, h2, S_comm]
theorem prod_row (m l : Nat) (N B : Mat) (i : Nat) (h : ∀ k, k < m → S l (B k) = 1) : S l (prodM m N B i) = S m (N i) := by
  have h1 : S l (prodM m N B i) = S m fun k => S l fun j => N i k * B k j := S_comm l m _
  rw [h1]
  exact S_congr fun k hk => by rw [S_mulL, h k hk, Rat.mul_one]
theorem prod_pos {m : Nat} {N B : Mat} {i j : Nat} (h1 : ∀ k, k < m → 0 ≤ N i k) (h2 : ∀ k, k < m → 0 ≤ B k j) : 0 ≤ prodM m N B i j := S_nonneg fun k hk => Rat.mul_nonneg (h1 k hk) (h2 k hk)
/-- news told on are worth at most what the news are -/
theorem worth_prod (n m l a : Nat) (N B : Mat) (L : Nat → Rat) (G : Mat) (ha : 0 < a) (h0 : ∀ k j, k < m → j < l → 0 ≤ B k j) (h1 : ∀ k, k < m → S l (B k) = 1) : worthM n l a (prodM m N B) L G ≤ worthM n m a N L G := by
  unfold worthM
  have e : S m (fun k => MX a fun t => S n fun i => L i * N i k * G t i) = S l fun j => S m fun k => B k j * MX a fun t => S n fun i => L i * N i k * G t i := by
    rw [S_comm]
    exact S_congr fun k hk => by rw [S_mulR, h1 k hk, Rat.one_mul]
  rw [e]
  refine S_le l fun j hj => ?_
  obtain ⟨t, ht, et⟩ := MX_at (f := fun t => S n fun i => L i * prodM m N B i j * G t i) ha
  rw [et]
  have e2 : S n (fun i => L i * prodM m N B i j * G t i) = S m fun k => B k j * S n fun i => L i * N i k * G t i := by
    have h3 : ∀ k, B k j * S n (fun i => L i * N i k * G t i) = S n fun i => B k j * (L i * N i k * G t i) := fun k => (S_mulL _ _ _).symm
    simp only [h3]
    rw [S_comm]
    refine S_congr fun i _ => ?_
    unfold prodM
    rw [← S_mulL, ← S_mulR]
    refine S_congr fun k _ => ?_
    rw [Rat.mul_comm (B k j), ← Rat.mul_assoc (L i), Rat.mul_assoc (L i * N i k), Rat.mul_comm (B k j), ← Rat.mul_assoc]
  rw [e2]
  exact S_le m fun k hk => Rat.mul_le_mul_of_nonneg_left (MX_ge (f := fun t => S n fun i => L i * N i k * G t i) ht) (h0 k j hk hj)
end LW
end
section
set_option Elab.async false
set_option linter.all false
set_option maxRecDepth 100000
set_option autoImplicit false
namespace LW
open PySem PySem.Spec PyProof.Rows L2 DL
/-! ### the program's sums, as numbers -/
section
variable {N k : Nat} {fs : List Fr} {v : Val}
theorem tot_q {fs : List Fr} (h0 : ∀ f ∈ fs, 0 < f.2) : tot fs = ofQ (fs.map fv).sum := by
  have hd : ∀ f ∈ fs, 0 < f.2 ∧ f.2 ∣ denP fs := fun f hf => ⟨h0 f hf, denP_dvd hf⟩
  rw [tot_any hd (denP_pos h0), low_q (denP_pos h0), sumAt_q (denP_pos h0) hd]
theorem total_q (hN : 5 ≤ N) (h0 : ∀ f ∈ fs, 0 < f.2) (hb : Bds k fs) (hl : fs.length ≤ 100) (hk : fs.length * (k + 1) + 1 ≤ 8000) (hk2 : k ≤ 8000) (cs : Cs) (hv : listB [v] cs = .ok (.d (.list (fs.map frD))) cs) :
    sem N .total [v] cs = .ok (.fr (.d (frD (ofQ (fs.map fv).sum)))) cs := by
  have hd : ∀ f ∈ fs, 0 < f.2 ∧ f.2 ∣ denP fs := fun f hf => ⟨h0 f hf, denP_dvd hf⟩
  obtain ⟨b1, b2⟩ := denP_bd hb
  rw [← tot_q h0]
  exact total_ok hN (denP_pos h0) (b1.mono hk) hd (fun f hf => (hb f hf).1.mono hk2) (by omega) ((b2 h0).mono hk) cs hv
theorem dot_q {gs : List Fr} {j : Nat} {w : Val} (hN : 6 ≤ N) (h0 : ∀ f ∈ fs, 0 < f.2) (g0 : ∀ f ∈ gs, 0 < f.2) (h1 : Bds k fs) (h2 : Bds j gs) (hk1 : k ≤ 4000) (hk2 : j ≤ 4000) {m : Nat} (hm : fs.length ≤ m) (hl : m ≤ 100) (hk : m * (k + j + 1) + 1 ≤ 8000) {cs : Cs} (hz : zipV [v, w] cs = .ok ((fs.zip gs).map fun p => Val.d (.tuple [frD p.1, frD p.2])) cs) :
    sem N .total_of_products [v, w] cs = .ok (.fr (.d (frD (ofQ (dotQ (fs.map fv) (gs.map fv)))))) cs := by
  have p0 : ∀ f ∈ pr2 fs gs, 0 < f.2 := fun f hf => by
    obtain ⟨p, hp, rfl⟩ := List.mem_map.mp hf
    obtain ⟨q1, q2⟩ := List.of_mem_zip hp
    exact Nat.mul_pos (h0 _ q1) (g0 _ q2)
  have pb : Bds (k + j) (pr2 fs gs) := fun f hf => by
    obtain ⟨p, hp, rfl⟩ := List.mem_map.mp hf
    obtain ⟨q1, q2⟩ := List.of_mem_zip hp
    refine ⟨(h1 _ q1).1.mul (h2 _ q2).1, ?_⟩
    show Bd (k + j) ((p.1.2 * p.2.2 : Nat) : Int)
    rw [Int.natCast_mul]
    exact (h1 _ q1).2.mul (h2 _ q2).2
  have pl : (pr2 fs gs).length ≤ m := by
    unfold pr2
    rw [List.length_map, List.length_zip]
    omega
  obtain ⟨b1, b2⟩ := denP_bd pb
  have le : (pr2 fs gs).length * (k + j + 1) + 1 ≤ 8000 := Nat.le_trans (Nat.add_le_add_right (Nat.mul_le_mul_right _ pl) 1) hk
  have hd : DenOk (denP (pr2 fs gs)) (pr2 fs gs) := fun f hf => ⟨p0 f hf, denP_dvd hf⟩
  have d := dot_ok (N := N) hN (denP_pos p0) (b1.mono le) hd (fun f hf => ⟨(h1 f hf).1.mono hk1, (h1 f hf).2.mono hk1⟩) (fun f hf => ⟨(h2 f hf).1.mono hk2, (h2 f hf).2.mono hk2⟩) (by omega) ((b2 p0).mono le) hz
  rw [low_q (denP_pos p0), sumAt_q (denP_pos p0) hd] at d
  have e : ((pr2 fs gs).map fv).sum = dotQ (fs.map fv) (gs.map fv) := dot_zip fs gs
  rw [e] at d
  exact d
end
/-! ### news as data: by places -/
def qD (q : Rat) : PyData := .tuple [.int q.num, .int (q.den : Int)]
theorem qD_fr (q : Rat) : frD (ofQ q) = qD q := rfl
abbrev tb {α : Type} (n : Nat) (f : Nat → α) : List α := (List.range n).map f
section
variable {α : Type} {n m : Nat}
theorem tb_len (f : Nat → α) : (tb n f).length = n := by simp
theorem tb_get {f : Nat → α} {k : Nat} (h : k < n) : (tb n f)[k]? = some (f k) := by simp [h]
theorem tb_at {f : Nat → α} {k : Nat} (h : k < n) : atI (tb n f) (k : Int) = some (f k) := DL.atI_nat (tb_get h)
theorem tb_map {β : Type} (f : Nat → α) (g : α → β) : (tb n f).map g = tb n fun k => g (f k) := by simp
theorem tb_congr {f g : Nat → α} (h : ∀ k, k < n → f k = g k) : tb n f = tb n g := List.map_congr_left fun k hk => h k (List.mem_range.mp hk)
theorem tb_mem {f : Nat → α} {x : α} (h : x ∈ tb n f) : ∃ k, k < n ∧ f k = x := by
  obtain ⟨k, hk, e⟩ := List.mem_map.mp h
  exact ⟨k, List.mem_range.mp hk, e⟩
theorem tb_succ (f : Nat → α) : tb (n + 1) f = tb n f ++ [f n] := by
  unfold tb
  rw [List.range_succ, List.map_append, List.map_singleton]
theorem tb_zip {β : Type} (f : Nat → α) (g : Nat → β) : (tb n f).zip (tb n g) = tb n fun k => (f k, g k) := by
  unfold tb
  rw [List.zip_map']
theorem tb_cons (f : Nat → α) : tb (n + 1) f = f 0 :: tb n fun k => f (k + 1) := by
  unfold tb
  rw [List.range_succ_eq_map, List.map_cons, List.map_map]
  rfl
theorem dotQ_tb : ∀ (n : Nat) (f g : Nat → Rat), dotQ (tb n f) (tb n g) = S n fun k => f k * g k
  | 0, _, _ => rfl
  | n + 1, f, g => by
    rw [tb_cons, tb_cons]
    unfold dotQ
    rw [dotQ_tb n]
    unfold S
    rw [List.range_succ_eq_map, List.map_cons, List.map_map, List.sum_cons]
    rfl
theorem tb_list : ∀ {l : List α} (d : α), l = tb l.length fun k => l.getD k d := fun {l} d => by
  refine List.ext_getElem (by simp) fun i h1 h2 => ?_
  simp [List.getD_eq_getElem?_getD, List.getElem?_eq_getElem h1]
end
end LW
end
section
set_option Elab.async false
set_option linter.all false
set_option maxRecDepth 100000
set_option autoImplicit false
namespace LW
open PySem PySem.Spec PyProof.Rows L2 DL
/-! ### data that == can compare -/
theorem eqvRefl (d : PyData) (h : d.canLay0 = true) : PyData.eqv d d = true := by first | exact PySem.PyData.eqv_refl d h | exact PySem.SeqAt.eqv_refl d h | exact PySem.eqv_refl d h | exact PyProof.Rows.eqv_refl d h | exact eqv_refl d h
structure Fit (x : PyData) (k : Nat) : Prop where
  lay : x.canLay0 = true
  dp : x.depth ≤ k
structure FitL (xs : List PyData) (k : Nat) : Prop where
  lay : PyData.canLayAll0 xs = true
  dp : PyData.depthAll xs ≤ k
theorem Fit.mono {x : PyData} {j k : Nat} (h : Fit x j) (q : j ≤ k) : Fit x k := ⟨h.lay, Nat.le_trans h.dp q⟩
theorem FitL.nil {k : Nat} : FitL [] k := ⟨rfl, Nat.zero_le _⟩
theorem FitL.cons {x : PyData} {xs : List PyData} {k : Nat} (h : Fit x k) (t : FitL xs k) : FitL (x :: xs) k := ⟨by simp [PyData.canLayAll0, h.lay, t.lay], by simp only [PyData.depthAll]; exact Nat.max_le.mpr ⟨h.dp, t.dp⟩⟩
theorem FitL.app {xs ys : List PyData} {k : Nat} (h : FitL xs k) (t : FitL ys k) : FitL (xs ++ ys) k := by
  induction xs with
  | nil => exact t
  | cons x xs ih =>
    obtain ⟨l, d⟩ := h
    simp only [PyData.canLayAll0, Bool.and_eq_true] at l
    simp only [PyData.depthAll] at d
    exact FitL.cons ⟨l.1, Nat.le_trans (Nat.le_max_left _ _) d⟩ (ih ⟨l.2, Nat.le_trans (Nat.le_max_right _ _) d⟩)
theorem FitL.map {α : Type} {f : α → PyData} {k : Nat} : ∀ {l : List α}, (∀ a ∈ l, Fit (f a) k) → FitL (l.map f) k
  | [], _ => FitL.nil
  | a :: l, h => FitL.cons (h a (by simp)) (FitL.map fun b hb => h b (by simp [hb]))
theorem FitL.tup {xs : List PyData} {k : Nat} (h : FitL xs k) : Fit (.tuple xs) (k + 1) := ⟨by simp only [PyData.canLay0]; exact h.lay, by simp only [PyData.depth]; exact Nat.succ_le_succ h.dp⟩
theorem FitL.lst {xs : List PyData} {k : Nat} (h : FitL xs k) : Fit (.list xs) (k + 1) := ⟨by simp only [PyData.canLay0]; exact h.lay, by simp only [PyData.depth]; exact Nat.succ_le_succ h.dp⟩
theorem Fit.int {i : Int} {k : Nat} : Fit (.int i) k := ⟨rfl, Nat.zero_le _⟩
theorem Fit.str {x : PySem.Str} {k : Nat} (h : PyData.strOk x = true) : Fit (.str x) k := ⟨h, Nat.zero_le _⟩
theorem fit_eqOk {x y : PyData} {k : Nat} (hx : Fit x k) (hy : y.canLay0 = true) (hk : k ≤ 150) : eqOk x y = true := by
  unfold eqOk
  simp only [hx.lay, hy, Bool.and_eq_true, decide_eq_true_eq, true_and]
  have := hx.dp
  omega
theorem ne_self {x : PyData} {k : Nat} (hx : Fit x k) (hk : k ≤ 150) : neD x x = some (.bool false) := by
  unfold neD
  rw [if_pos (fit_eqOk hx hx.lay hk), eqvRefl x hx.lay]
  rfl
theorem eq_self {x : PyData} {k : Nat} (hx : Fit x k) (hk : k ≤ 150) : eqD x x = some (.bool true) := by
  unfold eqD
  rw [if_pos (fit_eqOk hx hx.lay hk), eqvRefl x hx.lay]
theorem ne_of {x y : PyData} {k : Nat} (hx : Fit x k) (hy : y.canLay0 = true) (hk : k ≤ 150) : neD x y = some (.bool (!PyData.eqv x y)) := by
  unfold neD
  rw [if_pos (fit_eqOk hx hy hk)]
end LW
end
section
set_option Elab.async false
set_option linter.all false
set_option maxRecDepth 100000
set_option autoImplicit false
namespace LW
open PySem PySem.Spec PyProof.Rows L2 DL
set_option maxHeartbeats 4000000
local macro_rules | `(tactic| fold_depth) => `(tactic| first
  | ((with_reducible show _ = _); with_reducible assumption)
  | ((with_reducible apply DL.ev_var); exact rfl)
  | apply_assumption (transparency := .reducible) (symm := false) (exfalso := false) only [DL.ev_c, LW.cond_t, LW.cond_f, LW.v_nil, LW.v_cons, LW.ev_bcons, LW.v_op, LW.o_dd, LW.o_bd, LW.o_db, LW.o_bb, LW.v_ix, LW.x_t, LW.x_l, LW.x_b, LW.x_c, LW.v_tup, LW.v_lst, LW.v_olst, LW.v_andb, LW.v_orb, LW.v_not, LW.v_neg, LW.v_rev, LW.v_sl, LW.i_none, LW.i_some, LW.v_isi, LW.v_call, LW.v_fz, LW.v_cel, LW.o_def0, LW.o_def, LW.o_defK, LW.o_call, LW.o_fr, LW.o_star, LW.t_b, LW.t_tru, LW.t_not, LW.t_andb, LW.t_orb, LW.v_ifb, LW.s_seq, LW.q_nx, LW.q_rt, LW.q_ex, LW.s_nil, LW.s_ifb, LW.s_set, LW.s_ret, LW.s_retV, LW.s_expr, LW.s_fz, LW.s_asg, LW.s_par, LW.s_aug, LW.s_for, LW.p_seq, LW.fz_fr, LW.fz_ow, LW.not_t, LW.not_f, LW.dats_nil, LW.dats_map, LW.dats_cons, LW.dats_app, LW.mk_t, LW.mk_l, LW.mk_o]
  | ((with_reducible apply DL.ev_own); exact rfl)
  | ((with_reducible show getElem? _ _ = _); exact rfl)
  | ((with_reducible show DL.gTp _ _ _ = _); simp only [DL.ev_gTp, DL.ev_gTpL, DL.ev_gsCons, DL.ev_gNm, DL.ev_gsNil, Option.bind_some, List.set_cons_succ, List.set_cons_zero]; exact rfl)
  | ((with_reducible show List.set _ _ _ = _); simp only [List.set_cons_succ, List.set_cons_zero]; exact rfl)
  | ((with_reducible show List.map _ _ = _); simp only [List.map_cons, List.map_nil, List.getD_cons_succ, List.getD_cons_zero]; exact rfl)
  | ((with_reducible show List.length _ ≤ _); first | with_reducible assumption | exact Nat.le_of_ble_eq_true rfl)
  | ((with_reducible show DL.isiB _ _ = _); first | exact LW.isi_t rfl | exact LW.isi_f rfl)
  | ((with_reducible show DL.isNone _ = _); first | exact LW.isN_t rfl | exact LW.isN_f rfl)
  | ((with_reducible show DL.eqD (PySem.PyData.str _) (PySem.PyData.str _) = _); first | exact LW.eqw_t (by decide +kernel) | exact LW.eqw_f (by decide +kernel))
  | ((with_reducible show DL.neD (PySem.PyData.str _) (PySem.PyData.str _) = _); first | exact LW.new_t (by decide +kernel) | exact LW.new_f (by decide +kernel))
  | ((with_reducible show DL.inD (PySem.PyData.str _) _ = _); first | exact LW.inw_t rfl rfl (by decide +kernel) | exact LW.inw_f rfl rfl (by decide +kernel))
  | ((with_reducible show DL.notInD (PySem.PyData.str _) _ = _); first | exact LW.ninw_t rfl rfl (by decide +kernel) | exact LW.ninw_f rfl rfl (by decide +kernel))
  | ((with_reducible show DL.eqD (PySem.PyData.int _) (PySem.PyData.int _) = _); first | exact LW.eq_t (by first | rfl | omega) | exact LW.eq_f (by first | omega | (simp; done) | (simp; omega)))
  | ((with_reducible show DL.neD (PySem.PyData.int _) (PySem.PyData.int _) = _); first | exact LW.ne_f (by first | rfl | omega) | exact LW.ne_t (by first | omega | (simp; done) | (simp; omega)))
  | ((with_reducible show DL.ltD (PySem.PyData.int _) (PySem.PyData.int _) = _); first | exact LW.lt_t (by first | omega | (simp; done) | (simp; omega)) | exact LW.lt_f (by first | omega | (simp; done) | (simp; omega)))
  | ((with_reducible show DL.leD (PySem.PyData.int _) (PySem.PyData.int _) = _); first | exact LW.le_t (by first | omega | (simp; done) | (simp; omega)) | exact LW.le_f (by first | omega | (simp; done) | (simp; omega)))
  | ((with_reducible show DL.gtD (PySem.PyData.int _) (PySem.PyData.int _) = _); first | exact LW.gt_t (by first | omega | (simp; done) | (simp; omega)) | exact LW.gt_f (by first | omega | (simp; done) | (simp; omega)))
  | ((with_reducible show DL.geD (PySem.PyData.int _) (PySem.PyData.int _) = _); first | exact LW.ge_t (by first | omega | (simp; done) | (simp; omega)) | exact LW.ge_f (by first | omega | (simp; done) | (simp; omega)))
  | exact rfl)
/-! ### walks over rows by places -/
section
variable {n m i j : Nat} {a b e f : Nat → PyData} {fe te : SE} {fa : SA} {vs : List Nat} {sl : Sl} {cs : Cs} {v w : Val}
theorem seq_l {l : List PyData} : seqV (.d (.list l)) cs = .ok (l.map Val.d) cs := rfl
theorem seq_t {l : List PyData} : seqV (.d (.tuple l)) cs = .ok (l.map Val.d) cs := rfl
theorem lc_t (h1 : fe sl cs = .ok v cs) (h2 : seqV v cs = .ok ((tb n e).map Val.d) cs) (hn : n ≤ 1000) (h : ∀ k, k < n → te ((blkSl sl vs).set i (some (.fr (.d (e k))))) cs = .ok (.d (f k)) cs) : oLc (pSeq fe) (gNm i) tTrue te vs sl cs = .ok (.ow (.list (tb n f))) cs :=
  lc_ev (xs := (tb n e).map Val.d) (p_seq h1 h2) (by simp; omega) (lc_map fun k hk => ⟨_, rfl, rfl, h k (List.mem_range.mp hk)⟩)
theorem zip_self : ∀ l : List Nat, l.zip l = l.map fun k => (k, k)
  | [] => rfl
  | x :: l => by simp [zip_self l]
theorem zipL_tb : zipL (tb n a) (tb n b) = (tb n fun k => PyData.tuple [a k, b k]).map Val.d := by
  rw [zipL_map, zip_self, List.map_map, List.map_map]
  rfl
theorem zip_ll2 : zipV [.d (.list (tb n a)), .d (.list (tb n b))] cs = .ok ((tb n fun k => PyData.tuple [a k, b k]).map Val.d) cs := by
  show R.ok (zipL _ _) cs = _
  rw [zipL_tb]
theorem zip_tt : zipV [.d (.tuple (tb n a)), .d (.tuple (tb n b))] cs = .ok ((tb n fun k => PyData.tuple [a k, b k]).map Val.d) cs := by
  show R.ok (zipL _ _) cs = _
  rw [zipL_tb]
theorem lc_z (h1 : fa sl cs = .ok [v, w] cs) (hz : zipV [v, w] cs = .ok ((tb n fun k => PyData.tuple [a k, b k]).map Val.d) cs) (hn : n ≤ 1000) (h : ∀ k, k < n → te (((blkSl sl vs).set i (some (.fr (.d (a k))))).set j (some (.fr (.d (b k))))) cs = .ok (.d (f k)) cs) : oLc (pZip fa) (gTp (gsCons (gNm i) (gsCons (gNm j) gsNil))) tTrue te vs sl cs = .ok (.ow (.list (tb n f))) cs := by
  have h0 : pZip fa sl cs = .ok ((tb n fun k => PyData.tuple [a k, b k]).map Val.d) cs := by
    show (fa sl cs).bind zipV = _
    rw [h1, R.bind_ok, hz]
  exact lc_ev (xs := (tb n fun k => PyData.tuple [a k, b k]).map Val.d) h0 (by simp; omega) (lc_map (l := List.range n) (e := fun k => PyData.tuple [a k, b k]) (k := f) fun k hk => ⟨_, rfl, rfl, h k (List.mem_range.mp hk)⟩)
/-- a walk whose turns change nothing but the walk's own name -/
theorem for_same {α : Type} {e : α → PyData} {g : Val → Sl → Option Sl} {body : SS} {mk : Option DL.Slot → Sl} (hg : ∀ v x, g v (mk x) = some (mk (some (.fr v)))) : ∀ (l : List α) (x : Option DL.Slot), (∀ a ∈ l, body (mk (some (.fr (.d (e a))))) cs = .nx (mk (some (.fr (.d (e a))))) cs) → ∃ x', forL g body ((l.map e).map Val.d) (mk x) cs = .nx (mk x') cs
  | [], x, _ => ⟨x, rfl⟩
  | a :: l, x, h => by
    obtain ⟨x', e'⟩ := for_same hg l (some (.fr (.d (e a)))) fun b hb => h b (by simp [hb])
    exact ⟨x', f_cons (hg _ _) (h a (by simp)) e'⟩
theorem noF : ∀ n : Nat, notInD (.bool false) (.list (tb n fun _ => .bool true)) = some (.bool true) := fun n => by
  have c : ∀ l : List Nat, PyData.canLayAll0 (l.map fun _ => PyData.bool true) = true ∧ ((l.map fun _ => PyData.bool true).any fun z => PyData.eqv z (.bool false)) = false := by
    intro l
    induction l with
    | nil => exact ⟨rfl, rfl⟩
    | cons x l ih =>
      refine ⟨?_, ?_⟩
      · simp only [List.map_cons, PyData.canLayAll0, ih.1]; rfl
      · simp only [List.map_cons, List.any_cons, ih.2]; rfl
  obtain ⟨c1, c2⟩ := c (List.range n)
  have e2 : inSeqD (.bool false) (.list (tb n fun _ => .bool true)) = some (tb n fun _ => .bool true) := by
    unfold inSeqD
    have c3 : (PyData.bool false).depth = 0 := by simp [PyData.depth]
    have c4 : (PyData.bool false).canLay0 = true := rfl
    simp [c1, c3, c4]
  show ((inSeqD (.bool false) (.list (tb n fun _ => .bool true))).map fun ds => PyData.bool (!ds.any fun z => PyData.eqv z (.bool false))).or _ = _
  rw [e2]
  show some (PyData.bool (!(List.map _ _).any _)) = _
  rw [c2]
  rfl
end
/-! ### what is handed in, and what is held -/
abbrev FrM := Nat → Nat → Fr
def frow (n : Nat) (F : Nat → Fr) : PyData := .tuple (tb n fun k => frD (F k))
def frows (n m : Nat) (F : FrM) : PyData := .tuple (tb n fun i => frow m (F i))
def qrow (n : Nat) (q : Nat → Rat) : PyData := .tuple (tb n fun k => qD (q k))
def qrows (n m : Nat) (N : Mat) : PyData := .tuple (tb n fun i => qrow m (N i))
theorem qrow_fr (n : Nat) (q : Nat → Rat) : qrow n q = frow n fun k => ofQ (q k) := rfl
theorem qrows_fr (n m : Nat) (q : Mat) : qrows n m q = frows n m fun i k => ofQ (q i k) := rfl
/-- a fraction with a number below above 0, not too great -/
def FrOk (k : Nat) (f : Fr) : Prop := 0 < f.2 ∧ Bd k f.1 ∧ Bd k (f.2 : Int)
theorem FrOk.q {k : Nat} {f : Fr} (h : FrOk k f) : Bq k (fv f) := Bq.mk h.1 h.2.1 h.2.2
theorem frOk_q {k : Nat} {q : Rat} (h : Bq k q) : FrOk k (ofQ q) := ⟨ofQ_pos q, h.1, h.2⟩
theorem FrOk.mono {j k : Nat} {f : Fr} (h : FrOk j f) (l : j ≤ k) : FrOk k f := ⟨h.1, h.2.1.mono l, h.2.2.mono l⟩
abbrev okB (b : Bool) (cs : Cs) : R DL.Slot := .ok (.fr (.d (.bool b))) cs
abbrev okD (x : PyData) (cs : Cs) : R DL.Slot := .ok (.fr (.d x)) cs
section
variable {N n m : Nat} {cs : Cs} {F : Nat → Fr} {q : Nat → Rat}
theorem is_int_0 {n : Nat} {i : Int} (cs : Cs) : sem (n + 1) .is_integer [.d (.int i), .d .none, .d .none] cs = okB true cs := by
  rw [e_is_integer]
  simp [s_is_integer, isiB, isNone, geD, leD, cT]
theorem is_int_1 {n : Nat} {i a : Int} (h : a ≤ i) (cs : Cs) : sem (n + 1) .is_integer [.d (.int i), .d (.int a), .d .none] cs = okB true cs := by
  rw [e_is_integer]
  simp [s_is_integer, isiB, isNone, geD, leD, cT, h]
theorem is_fraction_ok {f : Fr} (h : 0 < f.2) (hN : 2 ≤ N) (cs : Cs) : sem N .is_fraction [.d (frD f)] cs = okB true cs := by
  obtain ⟨n, rfl⟩ : ∃ n, N = n + 2 := ⟨N - 2, by omega⟩
  have i1 := is_int_0 (n := n) (i := f.1) cs
  have i2 := is_int_1 (n := n) (i := (f.2 : Int)) (a := 1) (by omega) cs
  have e2 : eqD (.int 2) (.int 2) = some (.bool true) := eq_t rfl
  have ln : lenB [.d (frD f)] cs = .ok (.d (.int 2)) cs := rfl
  have ty : isiB .tuple (frD f) = true := rfl
  have x0 : ixD (.d (frD f)) (.d (.int 0)) cs = .ok (.d (.int f.1)) cs := x_t (at_lit (n := 0) rfl rfl)
  have x1 : ixD (.d (frD f)) (.d (.int 1)) cs = .ok (.d (.int (f.2 : Int))) cs := x_t (at_lit (n := 1) rfl rfl)
  generalize frD f = T at *
  have o : s_is_fraction (sem (n + 1)) [some (.fr (.d T))] cs = .rt (.fr (.d (.bool true))) cs := by
    unfold s_is_fraction
    exact s_ret (o_fr (v_andb (v_isi (ev_var rfl) ty) (cond_t (v_andb (v_op (v_call (ev_bcons (ev_var rfl) v_nil) ln) rfl (o_dd e2)) (cond_t (v_andb (v_fz (o_def (v_cons (v_ix (ev_var rfl) DL.ev_c x0) rfl v_nil) i1) rfl) (cond_t (v_fz (o_def (v_cons (v_ix (ev_var rfl) DL.ev_c x1) rfl (v_cons DL.ev_c rfl v_nil)) i2) rfl))))))) rfl)
  rw [e_is_fraction]
  exact congrArg bodyR o
theorem len_t {l : List PyData} {n : Nat} (h : l.length = n) : lenB [.d (.tuple l)] cs = .ok (.d (.int (n : Int))) cs := by
  subst h; rfl
theorem len_l {l : List PyData} {n : Nat} (h : l.length = n) : lenB [.d (.list l)] cs = .ok (.d (.int (n : Int))) cs := by
  subst h; rfl
theorem is_fractions_ok (h : ∀ k, k < n → 0 < (F k).2) (h0 : 0 < n) (hn : n ≤ 1000) (hN : 3 ≤ N) (cs : Cs) : sem N .is_fractions [.d (frow n F)] cs = okB true cs := by
  obtain ⟨N, rfl⟩ : ∃ n, N = n + 1 := ⟨N - 1, by omega⟩
  have ft : ∀ k, k < n → sem N .is_fraction [.d (frD (F k))] cs = okB true cs := fun k hk => is_fraction_ok (h k hk) (by omega) cs
  have lc : oLc (pSeq (eVar 0)) (gNm 1) (tTrue) (eFz (oDef (sem N .is_fraction) [] (aCons (eVar 1) (aNil)))) [1] [some (.fr (.d (frow n F))), none] cs = .ok (.ow (.list (tb n fun _ => .bool true))) cs :=
    lc_t (e := fun k => frD (F k)) (v := .d (frow n F)) rfl rfl hn fun k hk => v_fz (o_def0 (v_cons rfl rfl v_nil) (ft k hk)) rfl
  have nf := noF n
  have ln : lenB [.d (frow n F)] cs = .ok (.d (.int (n : Int))) cs := len_t (tb_len _)
  have g0 := gt_t (a := (n : Int)) (k := 0) (by omega)
  have ty : isiB .tuple (frow n F) = true := rfl
  generalize frow n F = T at *
  have o : s_is_fractions (sem N) [some (.fr (.d T)), none] cs = .rt (.fr (.d (.bool true))) cs := by
    unfold s_is_fractions
    exact s_ret (o_fr (v_andb (v_isi (ev_var rfl) ty) (cond_t (v_andb (v_op (v_call (ev_bcons (ev_var rfl) v_nil) ln) rfl (o_dd g0)) (cond_t (v_op rfl (v_fz lc rfl) (o_dd nf)))))) rfl)
  rw [e_is_fractions]
  exact congrArg bodyR o
theorem lowest_f {f : Fr} (h : FrOk 8000 f) (hN : 2 ≤ N) (cs : Cs) : sem N .lowest [.d (.int f.1), .d (.int (f.2 : Int))] cs = okD (qD (fv f)) cs := by
  rw [lowest_ok h.1 h.2.1 h.2.2 hN cs, low_q h.1]
  rfl
theorem lowered_ok (h : ∀ k, k < n → FrOk 8000 (F k)) (hn : n ≤ 1000) (hN : 3 ≤ N) (cs : Cs) : sem N .lowered [.d (frow n F)] cs = okD (qrow n fun k => fv (F k)) cs := by
  obtain ⟨N, rfl⟩ : ∃ n, N = n + 1 := ⟨N - 1, by omega⟩
  have lw : ∀ k, k < n → sem N .lowest [.d (.int (F k).1), .d (.int ((F k).2 : Int))] cs = okD (qD (fv (F k))) cs := fun k hk => lowest_f (h k hk) (by omega) cs
  have lc : oLc (pSeq (eVar 0)) (gNm 1) (tTrue) (eFz (oDef (sem N .lowest) [] (aCons (eIx (eVar 1) (eC (.int 0))) (aCons (eIx (eVar 1) (eC (.int 1))) (aNil))))) [1] [some (.fr (.d (frow n F))), none] cs = .ok (.ow (.list (tb n fun k => qD (fv (F k))))) cs :=
    lc_t (e := fun k => frD (F k)) (v := .d (frow n F)) rfl rfl hn fun k hk => v_fz (o_def0 (v_cons (v_ix rfl rfl (x_t (at_lit (n := 0) rfl rfl))) rfl (v_cons (v_ix rfl rfl (x_t (at_lit (n := 1) rfl rfl))) rfl v_nil)) (lw k hk)) rfl
  have o : s_lowered (sem N) [some (.fr (.d (frow n F))), none] cs = .rt (.fr (.d (qrow n fun k => fv (F k)))) cs := by
    unfold s_lowered
    exact s_ret (o_fr (v_call (ev_bcons (v_fz lc rfl) v_nil) rfl) rfl)
  rw [e_lowered]
  exact congrArg bodyR o
theorem tbq_fv (n : Nat) (q : Nat → Rat) : ((tb n q).map ofQ).map fv = tb n q := by
  rw [List.map_map]
  exact (List.map_congr_left fun q _ => fv_ofQ q).trans (List.map_id _)
theorem tbq_fr (n : Nat) (q : Nat → Rat) : ((tb n q).map ofQ).map frD = tb n fun k => qD (q k) := by
  rw [List.map_map, tb_map]
  rfl
theorem tbq_ok {k : Nat} (h : ∀ i, i < n → Bq k (q i)) : (∀ f ∈ (tb n q).map ofQ, 0 < f.2) ∧ Bds k ((tb n q).map ofQ) := by
  refine ⟨fun f hf => ?_, fun f hf => ?_⟩
  · obtain ⟨x, _, rfl⟩ := List.mem_map.mp hf
    exact ofQ_pos x
  · obtain ⟨x, hx, rfl⟩ := List.mem_map.mp hf
    obtain ⟨i, hi, rfl⟩ := tb_mem hx
    exact h i hi
theorem total_tb {k : Nat} {v : Val} (hN : 5 ≤ N) (h : ∀ i, i < n → Bq k (q i)) (hn : n ≤ 100) (hk : n * (k + 1) + 1 ≤ 8000) (hk2 : k ≤ 8000) (cs : Cs) (hv : listB [v] cs = .ok (.d (.list (tb n fun k => qD (q k)))) cs) : sem N .total [v] cs = okD (qD (S n q)) cs := by
  obtain ⟨h0, hb⟩ := tbq_ok h
  have t := total_q (N := N) (k := k) hN h0 hb (by rw [List.length_map, tb_len]; exact hn) (by rw [List.length_map, tb_len]; exact hk) hk2 cs (v := v) (by rw [tbq_fr]; exact hv)
  rw [tbq_fv] at t
  exact t
theorem is_shared_ok {k : Nat} (h : ∀ i, i < n → Bq k (q i)) (hp : ∀ i, i < n → 0 ≤ q i) (h1 : S n q = 1) (hn : n ≤ 100) (hk : n * (k + 1) + 1 ≤ 8000) (hk2 : k ≤ 8000) (hN : 6 ≤ N) (cs : Cs) : sem N .is_shared [.d (qrow n q)] cs = okB true cs := by
  obtain ⟨N, rfl⟩ : ∃ n, N = n + 1 := ⟨N - 1, by omega⟩
  have lc : oLc (pSeq (eVar 0)) (gNm 1) (tTrue) (eOp geD (eIx (eVar 1) (eC (.int 0))) (eC (.int 0))) [1] [some (.fr (.d (qrow n q))), none] cs = .ok (.ow (.list (tb n fun _ => .bool true))) cs :=
    lc_t (e := fun k => qD (q k)) (v := .d (qrow n q)) rfl rfl (by omega) fun k hk => v_op (v_ix rfl rfl (x_t (at_lit (n := 0) rfl rfl))) rfl (o_dd (ge_t (Rat.num_nonneg.mpr (hp k hk))))
  have t := total_tb (N := N) (v := .d (.list (tb n fun k => qD (q k)))) (by omega) h hn hk hk2 cs rfl
  rw [h1] at t
  have nf := noF n
  have e1 : eqD (qD 1) g_ONE = some (.bool true) := eq_self (k := 3) ⟨by decide +kernel, by decide +kernel⟩ (by decide)
  have li : listB [.d (qrow n q)] cs = .ok (.d (.list (tb n fun k => qD (q k)))) cs := rfl
  have o : s_is_shared (sem N) [some (.fr (.d (qrow n q))), none] cs = .rt (.fr (.d (.bool true))) cs := by
    unfold s_is_shared
    exact s_ret (o_fr (v_andb (v_op rfl (v_fz lc rfl) (o_dd nf)) (cond_t (v_op (v_fz (o_def0 (v_cons (v_call (ev_bcons (ev_var rfl) v_nil) li) rfl v_nil) t) rfl) rfl (o_dd e1)))) rfl)
  rw [e_is_shared]
  exact congrArg bodyR o
end
end LW
end
section
set_option Elab.async false
set_option linter.all false
set_option maxRecDepth 100000
set_option autoImplicit false
namespace LW
open PySem PySem.Spec PyProof.Rows L2 DL
def nnA : SS := sIf (tOrD (tNotD (tTru (eIsi .tuple (eVar 0)))) (tNotD (tBool (eChain leD leD (eC (.int 1)) (eCall lenB (bCons (eVar 0) (aNil))) (eC (.int 6)))))) (sRet (oFr (eC .none))) (sNil)
def nnBi : SA := pSeq (eVar 0)
def nnBb (G : Fn → FS) : SS := sIf (tOrD (tNotD (tTru (eFz (oDef (G .is_fractions) [] (aCons (eVar 1) (aNil)))))) (tOrD (tBool (eOp gtD (eCall lenB (bCons (eVar 1) (aNil))) (eC (.int 6)))) (tOrD (tBool (eOp neD (eCall lenB (bCons (eVar 1) (aNil))) (eCall lenB (bCons (eIx (eVar 0) (eC (.int 0))) (aNil))))) (tNotD (tTru (eFz (oDef (G .is_shared) [] (aCons (eFz (oDef (G .lowered) [] (aCons (eVar 1) (aNil)))) (aNil))))))))) (sRet (oFr (eC .none))) (sNil)
def nnB (G : Fn → FS) : SS := sFor nnBi (gNm 1) (nnBb G)
def nnC (G : Fn → FS) : SS := sRet (oFr (eCall tupleB (bCons (eFz (oLc (pSeq (eVar 0)) (gNm 1) (tTrue) (eFz (oDef (G .lowered) [] (aCons (eVar 1) (aNil)))) [1])) (aNil))))
theorem nn_split (G : Fn → FS) : s_news_or_none G = sSeq nnA (sSeq (nnB G) (nnC G)) := rfl
def igA : SS := sIf (tOrD (tNotD (tTru (eIsi .tuple (eVar 0)))) (tNotD (tBool (eChain leD leD (eC (.int 1)) (eCall lenB (bCons (eVar 0) (aNil))) (eC (.int 6)))))) (sRet (oFr (eC (.bool false)))) (sNil)
def igBi : SA := pSeq (eVar 0)
def igBb (G : Fn → FS) : SS := sIf (tOrD (tNotD (tTru (eFz (oDef (G .is_fractions) [] (aCons (eVar 1) (aNil)))))) (tBool (eOp neD (eCall lenB (bCons (eVar 1) (aNil))) (eCall lenB (bCons (eIx (eVar 0) (eC (.int 0))) (aNil)))))) (sRet (oFr (eC (.bool false)))) (sNil)
def igB (G : Fn → FS) : SS := sFor igBi (gNm 1) (igBb G)
def igC : SS := sRet (oFr (eC (.bool true)))
theorem ig_split (G : Fn → FS) : s_is_game G = sSeq igA (sSeq (igB G) igC) := rfl
/-! ### news that are handed in -/
/-- rows of fractions that are news: each together 1, none below 0 -/
structure NewsF (k n m : Nat) (F : FrM) : Prop where
  fr : ∀ i j, i < n → j < m → FrOk k (F i j)
  nn : ∀ i j, i < n → j < m → 0 ≤ fv (F i j)
  one : ∀ i, i < n → S m (fun j => fv (F i j)) = 1
section
variable {N n m l k : Nat} {cs : Cs} {F : FrM}
theorem chain16 {n : Nat} {v : Val} {sl : Sl} {f : SE} (h : f sl cs = .ok (.d (.int (n : Int))) cs) (h1 : 1 ≤ n) (h6 : n ≤ 6) : eChain leD leD (eC (.int 1)) f (eC (.int 6)) sl cs = .ok (.d (.bool true)) cs :=
  v_chain rfl h (o_dd (le_t (by omega))) rfl (o_dd (le_t (by omega)))
theorem news_or_none_ok (h : NewsF k n m F) (hk : 6 * (k + 1) + 1 ≤ 8000) (n1 : 1 ≤ n) (n6 : n ≤ 6) (m1 : 1 ≤ m) (m6 : m ≤ 6) (hN : 7 ≤ N) (cs : Cs) : sem N .news_or_none [.d (frows n m F)] cs = okD (qrows n m fun i j => fv (F i j)) cs := by
  obtain ⟨N, rfl⟩ : ∃ n, N = n + 1 := ⟨N - 1, by omega⟩
  have k8 : k ≤ 8000 := by omega
  have bnd : m * (k + 1) + 1 ≤ 8000 := Nat.le_trans (Nat.add_le_add_right (Nat.mul_le_mul_right _ m6) 1) hk
  have fr : ∀ i, i < n → sem N .is_fractions [.d (frow m (F i))] cs = okB true cs := fun i hi => is_fractions_ok (fun j hj => (h.fr i j hi hj).1) (by omega) (by omega) (by omega) cs
  have lw : ∀ i, i < n → sem N .lowered [.d (frow m (F i))] cs = okD (qrow m fun j => fv (F i j)) cs := fun i hi => lowered_ok (fun j hj => (h.fr i j hi hj).mono k8) (by omega) (by omega) cs
  have sh : ∀ i, i < n → sem N .is_shared [.d (qrow m fun j => fv (F i j))] cs = okB true cs := fun i hi => is_shared_ok (fun j hj => (h.fr i j hi hj).q) (fun j hj => h.nn i j hi hj) (h.one i hi) (by omega) bnd k8 (by omega) cs
  have ln : lenB [.d (frows n m F)] cs = .ok (.d (.int (n : Int))) cs := len_t (tb_len _)
  have lr : ∀ i, lenB [.d (frow m (F i))] cs = .ok (.d (.int (m : Int))) cs := fun i => len_t (tb_len _)
  have x0 : ixD (.d (frows n m F)) (.d (.int 0)) cs = .ok (.d (frow m (F 0))) cs := x_t (tb_at (k := 0) (by omega))
  have gt := gt_f (a := (m : Int)) (k := 6) (by omega)
  have ne := ne_f (a := (m : Int)) (k := (m : Int)) rfl
  have ty : isiB .tuple (frows n m F) = true := rfl
  have sq : seqV (.d (frows n m F)) cs = .ok ((tb n fun i => frow m (F i)).map Val.d) cs := rfl
  have tyb := v_isi (sl := [some (.fr (.d (frows n m F))), none]) (f := eVar 0) (cs1 := cs) (cs := cs) rfl ty
  have a1 : nnA [some (.fr (.d (frows n m F))), none] cs = .nx [some (.fr (.d (frows n m F))), none] cs := by
    unfold nnA
    exact s_ifb (t_orb (t_not (t_tru tyb rfl) rfl) (cond_f (t_not (t_b (chain16 (v := .d .none) (v_call (ev_bcons (ev_var rfl) v_nil) ln) n1 n6)) rfl))) (cond_f s_nil)
  obtain ⟨x', e⟩ := for_same (cs := cs) (e := fun i => frow m (F i)) (g := gNm 1) (body := nnBb (sem N)) (mk := fun x => [some (.fr (.d (frows n m F))), x]) (fun v x => rfl) (List.range n) none fun i hi => by
    have hi := List.mem_range.mp hi
    unfold nnBb
    refine s_ifb (t_orb (t_not (t_tru (v_fz (o_def0 (v_cons rfl rfl v_nil) (fr i hi)) rfl) rfl) rfl) (cond_f (t_orb (t_b (v_op (v_call (ev_bcons rfl v_nil) (lr i)) rfl (o_dd gt))) (cond_f (t_orb (t_b (v_op (v_call (ev_bcons rfl v_nil) (lr i)) (v_call (ev_bcons (v_ix rfl rfl x0) v_nil) (lr 0)) (o_dd ne))) (cond_f (t_not (t_tru (v_fz (o_def0 (v_cons (v_fz (o_def0 (v_cons rfl rfl v_nil) (lw i hi)) rfl) rfl v_nil) (sh i hi)) rfl) rfl) rfl))))))) (cond_f s_nil)
  have a2 : nnB (sem N) [some (.fr (.d (frows n m F))), none] cs = .nx [some (.fr (.d (frows n m F))), x'] cs := by
    unfold nnB nnBi
    exact s_for (p_seq (ev_var rfl) sq) e
  have lc : oLc (pSeq (eVar 0)) (gNm 1) (tTrue) (eFz (oDef (sem N .lowered) [] (aCons (eVar 1) (aNil)))) [1] [some (.fr (.d (frows n m F))), x'] cs = .ok (.ow (.list (tb n fun i => qrow m fun j => fv (F i j)))) cs :=
    lc_t (e := fun i => frow m (F i)) (v := .d (frows n m F)) rfl sq (by omega) fun i hi => v_fz (o_def0 (v_cons rfl rfl v_nil) (lw i hi)) rfl
  have o : s_news_or_none (sem N) [some (.fr (.d (frows n m F))), none] cs = .rt (.fr (.d (qrows n m fun i j => fv (F i j)))) cs := by
    rw [nn_split]
    exact se_step a1 (se_step a2 (s_ret (o_fr (v_call (ev_bcons (v_fz lc rfl) v_nil) rfl) rfl)))
  rw [e_news_or_none]
  exact congrArg bodyR o
theorem need_news_ok (h : NewsF k n m F) (hk : 6 * (k + 1) + 1 ≤ 8000) (n1 : 1 ≤ n) (n6 : n ≤ 6) (m1 : 1 ≤ m) (m6 : m ≤ 6) (hN : 8 ≤ N) (cs : Cs) : sem N .need_news [.d (frows n m F)] cs = okD (qrows n m fun i j => fv (F i j)) cs := by
  obtain ⟨N, rfl⟩ : ∃ n, N = n + 1 := ⟨N - 1, by omega⟩
  have nn := news_or_none_ok h hk n1 n6 m1 m6 (N := N) (by omega) cs
  have iN : isD (qrows n m fun i j => fv (F i j)) .none = some (.bool false) := rfl
  generalize qrows n m (fun i j => fv (F i j)) = T at *
  have o : s_need_news (sem N) [some (.fr (.d (frows n m F))), none] cs = .rt (.fr (.d T)) cs := by
    unfold s_need_news
    exact se_step (s_set (o_def0 (v_cons rfl rfl v_nil) nn) rfl) (se_step (s_ifb (t_b (v_op rfl rfl (o_dd iN))) (cond_f s_nil)) (s_retV rfl))
  rw [e_need_news]
  exact congrArg bodyR o
/-- rows of numbers, not too great -/
def BqM (k n m : Nat) (A : Mat) : Prop := ∀ i j, i < n → j < m → Bq k (A i j)
theorem dot_tb {k j n : Nat} {p q : Nat → Rat} (h1 : ∀ i, i < n → Bq k (p i)) (h2 : ∀ i, i < n → Bq j (q i)) (hk1 : k ≤ 4000) (hk2 : j ≤ 4000) (hn : n ≤ 6) (hk : 6 * (k + j + 1) + 1 ≤ 8000) (hN : 6 ≤ N) (cs : Cs) :
    sem N .total_of_products [.d (.list (tb n fun i => qD (p i))), .d (.list (tb n fun i => qD (q i)))] cs = okD (qD (S n fun i => p i * q i)) cs := by
  obtain ⟨h0, hb⟩ := tbq_ok h1
  obtain ⟨g0, gb⟩ := tbq_ok h2
  have d := dot_q (N := N) (cs := cs) (v := .d (.list (tb n fun i => qD (p i)))) (w := .d (.list (tb n fun i => qD (q i)))) hN h0 g0 hb gb hk1 hk2 (m := 6) (by rw [List.length_map, tb_len]; exact hn) (by decide) hk (by
    have z := zip_ll (fs := (tb n p).map ofQ) (gs := (tb n q).map ofQ) (cs := cs)
    rw [tbq_fr, tbq_fr] at z
    exact z)
  rw [tbq_fv, tbq_fv, dotQ_tb] at d
  exact d
theorem product_ok {j : Nat} {A B : Mat} (hA : BqM k n m A) (hB : BqM j m l B) (hk1 : k ≤ 4000) (hk2 : j ≤ 4000) (hk : 6 * (k + j + 1) + 1 ≤ 8000) (n6 : n ≤ 6) (m1 : 1 ≤ m) (m6 : m ≤ 6) (l6 : l ≤ 6) (hN : 7 ≤ N) (cs : Cs) : sem N .product_of [.d (qrows n m A), .d (qrows m l B)] cs = okD (qrows n l (prodM m A B)) cs := by
  obtain ⟨N, rfl⟩ : ∃ n, N = n + 1 := ⟨N - 1, by omega⟩
  have x0 : ixD (.d (qrows m l B)) (.d (.int 0)) cs = .ok (.d (qrow l (B 0))) cs := x_t (tb_at (k := 0) (by omega))
  have ln : lenB [.d (qrow l (B 0))] cs = .ok (.d (.int (l : Int))) cs := len_t (tb_len _)
  have c : oLc (pRange1 (bCons (eCall lenB (bCons (eIx (eVar 1) (eC (.int 0))) (aNil))) (aNil))) (gNm 3) (tTrue) (eFz (oLc (pSeq (eVar 1)) (gNm 4) (tTrue) (eIx (eVar 4) (eVar 3)) [4])) [3] [some (.fr (.d (qrows n m A))), some (.fr (.d (qrows m l B))), none, none, none, none] cs = .ok (.ow (.list (tb l fun p => .list (tb m fun q => qD (B q p))))) cs := by
    refine lc_rng (n := l) (f := fun p => .list (tb m fun q => qD (B q p))) (ev_bcons (v_call (ev_bcons (v_ix rfl rfl x0) v_nil) ln) v_nil) (by omega) fun p hp => ?_
    exact v_fz (lc_t (n := m) (e := fun q => qrow l (B q)) (f := fun q => qD (B q p)) (v := .d (qrows m l B)) rfl rfl (by omega) fun q hq => v_ix rfl rfl (x_t (tb_at hp))) rfl
  have d : ∀ i p, i < n → p < l → sem N .total_of_products [.d (.list (tb m fun q => qD (A i q))), .d (.list (tb m fun q => qD (B q p)))] cs = okD (qD (prodM m A B i p)) cs := fun i p hi hp => dot_tb (fun q hq => hA i q hi hq) (fun q hq => hB q p hq hp) hk1 hk2 m6 hk (by omega) cs
  have li : ∀ i, listB [.d (qrow m (A i))] cs = .ok (.d (.list (tb m fun q => qD (A i q)))) cs := fun i => rfl
  generalize hC : PyData.list (tb l fun p => .list (tb m fun q => qD (B q p))) = C at c
  have r : oLc (pSeq (eVar 0)) (gNm 4) (tTrue) (eCall tupleB (bCons (eFz (oLc (pSeq (eVar 2)) (gNm 5) (tTrue) (eFz (oDef (sem N .total_of_products) [] (aCons (eCall listB (bCons (eVar 4) (aNil))) (aCons (eVar 5) (aNil))))) [5])) (aNil))) [4] [some (.fr (.d (qrows n m A))), some (.fr (.d (qrows m l B))), some (.fr (.d C)), none, none, none] cs = .ok (.ow (.list (tb n fun i => qrow l (prodM m A B i)))) cs := by
    refine lc_t (e := fun i => qrow m (A i)) (v := .d (qrows n m A)) rfl rfl (by omega) fun i hi => ?_
    refine v_call (ev_bcons (v_fz (lc_t (n := l) (e := fun p => .list (tb m fun q => qD (B q p))) (f := fun p => qD (prodM m A B i p)) (v := .d C) rfl (by rw [← hC]; rfl) (by omega) fun p hp => ?_) rfl) v_nil) rfl
    exact v_fz (o_def0 (v_cons (v_call (ev_bcons rfl v_nil) (li i)) rfl (v_cons rfl rfl v_nil)) (d i p hi hp)) rfl
  have o : s_product_of (sem N) [some (.fr (.d (qrows n m A))), some (.fr (.d (qrows m l B))), none, none, none, none] cs = .rt (.fr (.d (qrows n l (prodM m A B)))) cs := by
    unfold s_product_of
    exact se_step (s_set c rfl) (se_step (s_fz rfl rfl rfl) (s_ret (o_fr (v_call (ev_bcons (v_fz r rfl) v_nil) rfl) rfl)))
  rw [e_product_of]
  exact congrArg bodyR o
end
end LW
end
section
set_option Elab.async false
set_option linter.all false
set_option maxRecDepth 100000
set_option autoImplicit false
namespace LW
open PySem PySem.Spec PyProof.Rows L2 DL
def goA : SS := sSet 1 (oFr (eIx (eVar 0) (eC (.int 0))))
def goBi : SA := pSeq (eVar 0)
def goBb (G : Fn → FS) : SS := sSeq (sFz 1) (sIf (tTru (eFz (oDef (G .is_less) [] (aCons (eVar 1) (aCons (eVar 2) (aNil)))))) (sSet 1 (oFr (eVar 2))) (sNil))
def goB (G : Fn → FS) : SS := sFor goBi (gNm 2) (goBb G)
def goC : SS := sRetV 1
theorem go_split (G : Fn → FS) : s_greatest_of G = sSeq goA (sSeq (goB G) goC) := rfl
def woA : SS := sSet 3 (oLst (aNil))
def woBi : SA := pRange1 (bCons (eCall lenB (bCons (eIx (eVar 0) (eC (.int 0))) (aNil))) (aNil))
def woBb (G : Fn → FS) : SS := sMeth 3 appAt (eFz (oDef (G .best_sum) [] (aCons (eVar 2) (aCons (eFz (oLc (pZip (bCons (eVar 1) (bCons (eVar 0) (aNil)))) (gTp (gsCons (gNm 5) (gsCons (gNm 6) (gsNil)))) (tTrue) (eFz (oDef (G .times) [] (aCons (eVar 5) (aCons (eIx (eVar 6) (eVar 4)) (aNil))))) [5, 6])) (aNil)))))
def woB (G : Fn → FS) : SS := sFor woBi (gNm 4) (woBb G)
def woC : SS := sFz 3
def woD (G : Fn → FS) : SS := sRet (oDef (G .total) [] (aCons (eVar 3) (aNil)))
theorem wo_split (G : Fn → FS) : s_worth_of G = sSeq woA (sSeq (woB G) (sSeq woC (woD G))) := rfl
/-! ### what the news are worth -/
section
variable {cs : Cs}
/-- a walk that appends -/
theorem for_app {α β : Type} {v : α → Val} {f : α → PyData} {g : Val → Sl → Option Sl} {body : SS} {mk : List PyData → β → Sl} : ∀ (l : List α) (xs : List PyData) (x : β), xs.length + l.length ≤ 1000 →
    (∀ a ∈ l, ∀ xs x, xs.length < 1000 → ∃ sl1 x', g (v a) (mk xs x) = some sl1 ∧ body sl1 cs = .nx (mk (xs ++ [f a]) x') cs) → ∃ x', forL g body (l.map v) (mk xs x) cs = .nx (mk (xs ++ l.map f) x') cs
  | [], xs, x, _, _ => ⟨x, by rw [List.map_nil, List.map_nil, List.append_nil]; rfl⟩
  | a :: l, xs, x, hl, h => by
    rw [List.length_cons] at hl
    obtain ⟨sl1, x1, h1, h2⟩ := h a (by simp) xs x (by omega)
    obtain ⟨x', e⟩ := for_app l (xs ++ [f a]) x1 (by simp; omega) fun b hb => h b (by simp [hb])
    refine ⟨x', ?_⟩
    rw [List.map_cons, List.map_cons]
    rw [List.append_assoc] at e
    exact f_cons h1 h2 e
theorem rangeL_tb (n : Nat) : rangeL 0 n = (List.range n).map fun k : Nat => Val.d (PyData.int (k : Int)) := by
  unfold rangeL
  simp
end
theorem Bq.S {k n : Nat} {f : Nat → Rat} (h : ∀ i, i < n → Bq k (f i)) : Bq (n * (k + 1) + 1) (LW.S n f) := by
  refine Bq.sumq (qs := tb n f) (fun q hq => ?_) (by rw [tb_len]; exact Nat.le_refl _)
  obtain ⟨i, hi, rfl⟩ := tb_mem hq
  exact h i hi
section
variable {N n m a k j : Nat} {cs : Cs}
structure GameF (k a n : Nat) (G : FrM) : Prop where
  fr : ∀ t i, t < a → i < n → FrOk k (G t i)
theorem is_game_ok {G : FrM} (h : GameF k a n G) (a1 : 1 ≤ a) (a6 : a ≤ 6) (n1 : 1 ≤ n) (n6 : n ≤ 6) (hN : 4 ≤ N) (cs : Cs) : sem N .is_game [.d (frows a n G)] cs = okB true cs := by
  obtain ⟨N, rfl⟩ : ∃ n, N = n + 1 := ⟨N - 1, by omega⟩
  have fr : ∀ i, i < a → sem N .is_fractions [.d (frow n (G i))] cs = okB true cs := fun i hi => is_fractions_ok (fun j hj => (h.fr i j hi hj).1) (by omega) (by omega) (by omega) cs
  have ln : lenB [.d (frows a n G)] cs = .ok (.d (.int (a : Int))) cs := len_t (tb_len _)
  have lr : ∀ i, lenB [.d (frow n (G i))] cs = .ok (.d (.int (n : Int))) cs := fun i => len_t (tb_len _)
  have x0 : ixD (.d (frows a n G)) (.d (.int 0)) cs = .ok (.d (frow n (G 0))) cs := x_t (tb_at (k := 0) (by omega))
  have ne := ne_f (a := (n : Int)) (k := (n : Int)) rfl
  have ty : isiB .tuple (frows a n G) = true := rfl
  have sq : seqV (.d (frows a n G)) cs = .ok ((tb a fun i => frow n (G i)).map Val.d) cs := rfl
  have tyb := v_isi (sl := [some (.fr (.d (frows a n G))), none]) (f := eVar 0) (cs1 := cs) (cs := cs) rfl ty
  have s1 : igA [some (.fr (.d (frows a n G))), none] cs = .nx [some (.fr (.d (frows a n G))), none] cs := by
    unfold igA
    exact s_ifb (t_orb (t_not (t_tru tyb rfl) rfl) (cond_f (t_not (t_b (chain16 (v := .d .none) (v_call (ev_bcons (ev_var rfl) v_nil) ln) a1 a6)) rfl))) (cond_f s_nil)
  obtain ⟨x', e⟩ := for_same (cs := cs) (e := fun i => frow n (G i)) (g := gNm 1) (body := igBb (sem N)) (mk := fun x => [some (.fr (.d (frows a n G))), x]) (fun v x => rfl) (List.range a) none fun i hi => by
    have hi := List.mem_range.mp hi
    unfold igBb
    exact s_ifb (t_orb (t_not (t_tru (v_fz (o_def0 (v_cons rfl rfl v_nil) (fr i hi)) rfl) rfl) rfl) (cond_f (t_b (v_op (v_call (ev_bcons rfl v_nil) (lr i)) (v_call (ev_bcons (v_ix rfl rfl x0) v_nil) (lr 0)) (o_dd ne))))) (cond_f s_nil)
  have s2 : igB (sem N) [some (.fr (.d (frows a n G))), none] cs = .nx [some (.fr (.d (frows a n G))), x'] cs := by
    unfold igB igBi
    exact s_for (p_seq (ev_var rfl) sq) e
  have o : s_is_game (sem N) [some (.fr (.d (frows a n G))), none] cs = .rt (.fr (.d (.bool true))) cs := by
    rw [ig_split]
    exact se_step s1 (se_step s2 (s_ret (o_fr rfl rfl)))
  rw [e_is_game]
  exact congrArg bodyR o
theorem need_game_ok {G : FrM} (h : GameF k a n G) (k8 : k ≤ 8000) (a1 : 1 ≤ a) (a6 : a ≤ 6) (n1 : 1 ≤ n) (n6 : n ≤ 6) (hN : 5 ≤ N) (cs : Cs) : sem N .need_game [.d (frows a n G)] cs = okD (qrows a n fun t i => fv (G t i)) cs := by
  obtain ⟨N, rfl⟩ : ∃ n, N = n + 1 := ⟨N - 1, by omega⟩
  have g := is_game_ok h a1 a6 n1 n6 (N := N) (by omega) cs
  have lw : ∀ i, i < a → sem N .lowered [.d (frow n (G i))] cs = okD (qrow n fun j => fv (G i j)) cs := fun i hi => lowered_ok (fun j hj => (h.fr i j hi hj).mono k8) (by omega) (by omega) cs
  have lc : oLc (pSeq (eVar 0)) (gNm 1) (tTrue) (eFz (oDef (sem N .lowered) [] (aCons (eVar 1) (aNil)))) [1] [some (.fr (.d (frows a n G))), none] cs = .ok (.ow (.list (tb a fun i => qrow n fun j => fv (G i j)))) cs :=
    lc_t (e := fun i => frow n (G i)) (v := .d (frows a n G)) rfl rfl (by omega) fun i hi => v_fz (o_def0 (v_cons rfl rfl v_nil) (lw i hi)) rfl
  have o : s_need_game (sem N) [some (.fr (.d (frows a n G))), none] cs = .rt (.fr (.d (qrows a n fun t i => fv (G t i)))) cs := by
    unfold s_need_game
    exact se_step (s_ifb (t_not (t_tru (v_fz (o_def0 (v_cons rfl rfl v_nil) g) rfl) rfl) rfl) (cond_f s_nil)) (s_ret (o_fr (v_call (ev_bcons (v_fz lc rfl) v_nil) rfl) rfl))
  rw [e_need_game]
  exact congrArg bodyR o
structure LeanF (k n : Nat) (L : Nat → Fr) : Prop where
  fr : ∀ i, i < n → FrOk k (L i)
  nn : ∀ i, i < n → 0 ≤ fv (L i)
  one : S n (fun i => fv (L i)) = 1
theorem is_less_q {p q : Rat} (h1 : Bq 8000 p) (h2 : Bq 8000 q) (hN : 1 ≤ N) (cs : Cs) : sem N .is_less [.d (qD p), .d (qD q)] cs = okB (decide (p < q)) cs := by
  have e := is_less_ok (f := ofQ p) (g := ofQ q) h1.1 h1.2 h2.1 h2.2 hN cs
  have d : decide ((ofQ p).1 * (ofQ q).2 < (ofQ q).1 * (ofQ p).2) = decide (p < q) := decide_eq_decide.mpr (Rat.lt_iff p q).symm
  rw [d] at e
  exact e
theorem times_q {p q : Rat} (h1 : Bq 4000 p) (h2 : Bq 4000 q) (hN : 3 ≤ N) (cs : Cs) : sem N .times [.d (qD p), .d (qD q)] cs = okD (qD (p * q)) cs := by
  have e := times_ok (f := ofQ p) (g := ofQ q) (ofQ_pos p) (ofQ_pos q) h1.1 h1.2 h2.1 h2.2 hN cs
  rw [low_q (Nat.mul_pos (ofQ_pos p) (ofQ_pos q))] at e
  have e2 := fv_mul (ofQ p) (ofQ q)
  rw [fv_ofQ, fv_ofQ] at e2
  have e3 : mkRat ((ofQ p).1 * (ofQ q).1) ((ofQ p).2 * (ofQ q).2) = p * q := e2
  rw [e3] at e
  exact e
theorem great_loop {T : Option DL.Slot} : ∀ (l : List Rat) (b : Rat) (x : Option DL.Slot), Bq 8000 b → (∀ q ∈ l, Bq 8000 q) → 1 ≤ N → ∃ x', forL (gNm 2) (goBb (sem N)) (l.map fun q => Val.d (qD q)) [T, some (.fr (.d (qD b))), x] cs = .nx [T, some (.fr (.d (qD (mx b l)))), x'] cs
  | [], b, x, _, _, _ => ⟨x, rfl⟩
  | q :: l, b, x, hb, hl, hN => by
    have hq := hl q (by simp)
    have il := is_less_q hb hq hN cs
    by_cases c : b < q
    · obtain ⟨x', e⟩ := great_loop (T := T) l q (some (.fr (.d (qD q)))) hq (fun y hy => hl y (by simp [hy])) hN
      refine ⟨x', ?_⟩
      have em : mx b (q :: l) = mx q l := by show mx (if b < q then q else b) l = _; rw [if_pos c]
      rw [em, List.map_cons]
      rw [decide_eq_true c] at il
      refine f_cons (sl1 := [T, some (.fr (.d (qD b))), some (.fr (.d (qD q)))]) rfl ?_ e
      unfold goBb
      exact se_step (s_fz rfl rfl rfl) (s_ifb (t_tru (v_fz (o_def0 (v_cons rfl rfl (v_cons rfl rfl v_nil)) il) rfl) rfl) (cond_t (s_set (o_fr rfl rfl) rfl)))
    · obtain ⟨x', e⟩ := great_loop (T := T) l b (some (.fr (.d (qD q)))) hb (fun y hy => hl y (by simp [hy])) hN
      refine ⟨x', ?_⟩
      have em : mx b (q :: l) = mx b l := by show mx (if b < q then q else b) l = _; rw [if_neg c]
      rw [em, List.map_cons]
      rw [decide_eq_false c] at il
      refine f_cons (sl1 := [T, some (.fr (.d (qD b))), some (.fr (.d (qD q)))]) rfl ?_ e
      unfold goBb
      exact se_step (s_fz rfl rfl rfl) (s_ifb (t_tru (v_fz (o_def0 (v_cons rfl rfl (v_cons rfl rfl v_nil)) il) rfl) rfl) (cond_f s_nil))
theorem greatest_ok {f : Nat → Rat} (a1 : 1 ≤ a) (h : ∀ t, t < a → Bq 8000 (f t)) (hN : 2 ≤ N) (cs : Cs) : sem N .greatest_of [.d (.list (tb a fun t => qD (f t)))] cs = okD (qD (MX a f)) cs := by
  obtain ⟨N, rfl⟩ : ∃ n, N = n + 1 := ⟨N - 1, by omega⟩
  have x0 : ixD (.d (.list (tb a fun t => qD (f t)))) (.d (.int 0)) cs = .ok (.d (qD (f 0))) cs := x_l (tb_at (k := 0) (by omega))
  obtain ⟨x', e⟩ := great_loop (N := N) (cs := cs) (T := some (.fr (.d (.list (tb a fun t => qD (f t)))))) (tb a f) (f 0) none (h 0 (by omega)) (fun q hq => by
    obtain ⟨t, ht, rfl⟩ := tb_mem hq
    exact h t ht) (by omega)
  have sq : seqV (.d (.list (tb a fun t => qD (f t)))) cs = .ok ((tb a f).map fun q => Val.d (qD q)) cs := by
    show R.ok ((tb a fun t => qD (f t)).map Val.d) cs = _
    rw [tb_map, tb_map]
  have o : s_greatest_of (sem N) [some (.fr (.d (.list (tb a fun t => qD (f t))))), none, none] cs = .rt (.fr (.d (qD (MX a f)))) cs := by
    rw [go_split]
    exact se_step (s_set (o_fr (v_ix rfl rfl x0) rfl) rfl) (se_step (s_for (p_seq (ev_var rfl) sq) e) (s_retV rfl))
  rw [e_greatest_of]
  exact congrArg bodyR o
theorem dot_tn {p q : Nat → Rat} (h1 : ∀ i, i < n → Bq k (p i)) (h2 : ∀ i, i < n → Bq j (q i)) (hk1 : k ≤ 4000) (hk2 : j ≤ 4000) (hn : n ≤ 6) (hk : n * (k + j + 1) + 1 ≤ 8000) (hN : 6 ≤ N) (cs : Cs) :
    sem N .total_of_products [.d (.list (tb n fun i => qD (p i))), .d (.list (tb n fun i => qD (q i)))] cs = okD (qD (S n fun i => p i * q i)) cs := by
  obtain ⟨h0, hb⟩ := tbq_ok h1
  obtain ⟨g0, gb⟩ := tbq_ok h2
  have d := dot_q (N := N) (cs := cs) (v := .d (.list (tb n fun i => qD (p i)))) (w := .d (.list (tb n fun i => qD (q i)))) hN h0 g0 hb gb hk1 hk2 (m := n) (by rw [List.length_map, tb_len]; exact Nat.le_refl _) (by omega) hk (by
    have z := zip_ll (fs := (tb n p).map ofQ) (gs := (tb n q).map ofQ) (cs := cs)
    rw [tbq_fr, tbq_fr] at z
    exact z)
  rw [tbq_fv, tbq_fv, dotQ_tb] at d
  exact d
theorem best_sum_ok {G : Mat} {w : Nat → Rat} (h1 : ∀ i, i < n → Bq k (w i)) (h2 : BqM j a n G) (hk1 : k ≤ 4000) (hk2 : j ≤ 4000) (hn : n ≤ 6) (a1 : 1 ≤ a) (a6 : a ≤ 6) (hk : n * (k + j + 1) + 1 ≤ 8000) (hN : 7 ≤ N) (cs : Cs) :
    sem N .best_sum [.d (qrows a n G), .d (.list (tb n fun i => qD (w i)))] cs = okD (qD (MX a fun t => S n fun i => w i * G t i)) cs := by
  obtain ⟨N, rfl⟩ : ∃ n, N = n + 1 := ⟨N - 1, by omega⟩
  have d : ∀ t, t < a → sem N .total_of_products [.d (.list (tb n fun i => qD (w i))), .d (.list (tb n fun i => qD (G t i)))] cs = okD (qD (S n fun i => w i * G t i)) cs := fun t ht => dot_tn h1 (fun i hi => h2 t i ht hi) hk1 hk2 hn hk (by omega) cs
  have g := greatest_ok (N := N) (a := a) (f := fun t => S n fun i => w i * G t i) a1 (fun t ht => (Bq.S fun i hi => (h1 i hi).mul (h2 t i ht hi)).mono hk) (by omega) cs
  have li : ∀ t, listB [.d (qrow n (G t))] cs = .ok (.d (.list (tb n fun i => qD (G t i)))) cs := fun t => rfl
  have lc : oLc (pSeq (eVar 0)) (gNm 2) (tTrue) (eFz (oDef (sem N .total_of_products) [] (aCons (eVar 1) (aCons (eCall listB (bCons (eVar 2) (aNil))) (aNil))))) [2] [some (.fr (.d (qrows a n G))), some (.fr (.d (.list (tb n fun i => qD (w i))))), none] cs = .ok (.ow (.list (tb a fun t => qD (S n fun i => w i * G t i)))) cs :=
    lc_t (e := fun t => qrow n (G t)) (v := .d (qrows a n G)) rfl rfl (by omega) fun t ht => v_fz (o_def0 (v_cons rfl rfl (v_cons (v_call (ev_bcons rfl v_nil) (li t)) rfl v_nil)) (d t ht)) rfl
  have o : s_best_sum (sem N) [some (.fr (.d (qrows a n G))), some (.fr (.d (.list (tb n fun i => qD (w i))))), none] cs = .rt (.fr (.d (qD (MX a fun t => S n fun i => w i * G t i)))) cs := by
    unfold s_best_sum
    exact s_ret (o_def0 (v_cons (v_fz lc rfl) rfl v_nil) g)
  rw [e_best_sum]
  exact congrArg bodyR o
theorem Bq.MX {f : Nat → Rat} (ha : 0 < a) (h : ∀ t, t < a → Bq k (f t)) : Bq k (LW.MX a f) := by
  obtain ⟨t, ht, e⟩ := MX_at (f := f) ha
  rw [e]
  exact h t ht
theorem worth_ok {A G : Mat} {L : Nat → Rat} {g : Nat} (hA : BqM k n m A) (hL : ∀ i, i < n → Bq j (L i)) (hG : BqM g a n G) (k4 : k ≤ 4000) (j4 : j ≤ 4000) (kj : j + k ≤ 4000) (g4 : g ≤ 4000) (n1 : 1 ≤ n) (n6 : n ≤ 6) (m6 : m ≤ 6) (a1 : 1 ≤ a) (a6 : a ≤ 6) (hk : m * (n * (j + k + g + 1) + 1 + 1) + 1 ≤ 8000) (hk' : n * (j + k + g + 1) + 1 ≤ 8000) (hN : 8 ≤ N) (cs : Cs) :
    sem N .worth_of [.d (qrows n m A), .d (qrow n L), .d (qrows a n G)] cs = okD (qD (worthM n m a A L G)) cs := by
  obtain ⟨N, rfl⟩ : ∃ n, N = n + 1 := ⟨N - 1, by omega⟩
  have x0 : ixD (.d (qrows n m A)) (.d (.int 0)) cs = .ok (.d (qrow m (A 0))) cs := x_t (tb_at (k := 0) (by omega))
  have l0 : lenB [.d (qrow m (A 0))] cs = .ok (.d (.int (m : Int))) cs := len_t (tb_len _)
  have bp : ∀ p, p < m → ∀ i, i < n → Bq (j + k) (L i * A i p) := fun p hp i hi => (hL i hi).mul (hA i p hi hp)
  have tm : ∀ i p, i < n → p < m → sem N .times [.d (qD (L i)), .d (qD (A i p))] cs = okD (qD (L i * A i p)) cs := fun i p hi hp => times_q ((hL i hi).mono j4) ((hA i p hi hp).mono k4) (by omega) cs
  have bs : ∀ p, p < m → sem N .best_sum [.d (qrows a n G), .d (.list (tb n fun i => qD (L i * A i p)))] cs = okD (qD (MX a fun t => S n fun i => L i * A i p * G t i)) cs := fun p hp => best_sum_ok (bp p hp) hG kj g4 n6 a1 a6 hk' (by omega) cs
  have rg : pRange1 (bCons (eCall lenB (bCons (eIx (eVar 0) (eC (.int 0))) (aNil))) (aNil)) [some (.fr (.d (qrows n m A))), some (.fr (.d (qrow n L))), some (.fr (.d (qrows a n G))), some (.ow (.list [])), none, none, none] cs = .ok ((List.range m).map fun k : Nat => Val.d (PyData.int (k : Int))) cs := by
    rw [← rangeL_tb]
    exact range_ev (ev_bcons (v_call (ev_bcons (v_ix rfl rfl x0) v_nil) l0) v_nil) (by omega)
  obtain ⟨x', e⟩ := for_app (cs := cs) (v := fun k : Nat => Val.d (PyData.int (k : Int))) (f := fun p => qD (MX a fun t => S n fun i => L i * A i p * G t i)) (g := gNm 4) (body := woBb (sem N)) (mk := fun xs (x : Option DL.Slot) => [some (.fr (.d (qrows n m A))), some (.fr (.d (qrow n L))), some (.fr (.d (qrows a n G))), some (.ow (.list xs)), x, none, none]) (List.range m) [] none (by simp; omega) fun p hp xs x hl => by
    have hp := List.mem_range.mp hp
    refine ⟨_, some (.fr (.d (.int (p : Int)))), rfl, ?_⟩
    unfold woBb
    refine s_app (ds := xs) (v := qD (MX a fun t => S n fun i => L i * A i p * G t i)) rfl (v_fz (o_def0 (v_cons rfl rfl (v_cons (v_fz (lc_z (n := n) (a := fun i => qD (L i)) (b := fun i => qrow m (A i)) (f := fun i => qD (L i * A i p)) (v := .d (qrow n L)) (w := .d (qrows n m A)) (ev_bcons rfl (ev_bcons rfl v_nil)) zip_tt (by omega) fun i hi => ?_) rfl) rfl v_nil)) (bs p hp)) rfl) (by omega) rfl
    exact v_fz (o_def0 (v_cons rfl rfl (v_cons (v_ix rfl rfl (x_t (tb_at hp))) rfl v_nil)) (tm i p hi hp)) rfl
  have tt := total_tb (N := N) (n := m) (q := fun p => MX a fun t => S n fun i => L i * A i p * G t i) (k := n * (j + k + g + 1) + 1) (v := .d (.list (tb m fun p => qD (MX a fun t => S n fun i => L i * A i p * G t i)))) (by omega) (fun p hp => Bq.MX (by omega) fun t ht => Bq.S fun i hi => (bp p hp i hi).mul (hG t i ht hi)) (by omega) hk hk' cs rfl
  have o : s_worth_of (sem N) [some (.fr (.d (qrows n m A))), some (.fr (.d (qrow n L))), some (.fr (.d (qrows a n G))), none, none, none, none] cs = .rt (.fr (.d (qD (worthM n m a A L G)))) cs := by
    rw [wo_split]
    refine se_step (s_set (v_olst v_nil (mk_o dats_nil (by decide))) rfl) (se_step (s_for rg e) ?_)
    exact se_step (s_fz rfl rfl rfl) (s_ret (o_def0 (v_cons rfl rfl v_nil) tt))
  rw [e_worth_of]
  exact congrArg bodyR o
end
end LW
end
section
set_option Elab.async false
set_option linter.all false
set_option maxRecDepth 100000
set_option autoImplicit false
namespace LW
open PySem PySem.Spec PyProof.Rows L2 DL
set_option maxHeartbeats 4000000
local macro_rules | `(tactic| fold_depth) => `(tactic| first
  | ((with_reducible show _ = _); with_reducible assumption)
  | ((with_reducible apply DL.ev_var); exact rfl)
  | apply_assumption (transparency := .reducible) (symm := false) (exfalso := false) only [DL.ev_c, LW.cond_t, LW.cond_f, LW.v_nil, LW.v_cons, LW.ev_bcons, LW.v_op, LW.o_dd, LW.o_bd, LW.o_db, LW.o_bb, LW.v_ix, LW.x_t, LW.x_l, LW.x_b, LW.x_c, LW.v_tup, LW.v_lst, LW.v_olst, LW.v_andb, LW.v_orb, LW.v_not, LW.v_neg, LW.v_rev, LW.v_sl, LW.i_none, LW.i_some, LW.v_isi, LW.v_call, LW.v_fz, LW.v_cel, LW.o_def0, LW.o_def, LW.o_defK, LW.o_call, LW.o_fr, LW.o_star, LW.t_b, LW.t_tru, LW.t_not, LW.t_andb, LW.t_orb, LW.v_ifb, LW.s_seq, LW.q_nx, LW.q_rt, LW.q_ex, LW.s_nil, LW.s_ifb, LW.s_set, LW.s_ret, LW.s_retV, LW.s_expr, LW.s_fz, LW.s_asg, LW.s_par, LW.s_aug, LW.s_for, LW.p_seq, LW.fz_fr, LW.fz_ow, LW.not_t, LW.not_f, LW.dats_nil, LW.dats_map, LW.dats_cons, LW.dats_app, LW.mk_t, LW.mk_l, LW.mk_o]
  | ((with_reducible apply DL.ev_own); exact rfl)
  | ((with_reducible show getElem? _ _ = _); exact rfl)
  | ((with_reducible show DL.gTp _ _ _ = _); simp only [DL.ev_gTp, DL.ev_gTpL, DL.ev_gsCons, DL.ev_gNm, DL.ev_gsNil, Option.bind_some, List.set_cons_succ, List.set_cons_zero]; exact rfl)
  | ((with_reducible show List.set _ _ _ = _); simp only [List.set_cons_succ, List.set_cons_zero]; exact rfl)
  | ((with_reducible show List.map _ _ = _); simp only [List.map_cons, List.map_nil, List.getD_cons_succ, List.getD_cons_zero]; exact rfl)
  | ((with_reducible show List.length _ ≤ _); first | with_reducible assumption | exact Nat.le_of_ble_eq_true rfl)
  | ((with_reducible show DL.isiB _ _ = _); first | exact LW.isi_t rfl | exact LW.isi_f rfl)
  | ((with_reducible show DL.isNone _ = _); first | exact LW.isN_t rfl | exact LW.isN_f rfl)
  | ((with_reducible show DL.eqD (PySem.PyData.str _) (PySem.PyData.str _) = _); first | exact LW.eqw_t (by decide +kernel) | exact LW.eqw_f (by decide +kernel))
  | ((with_reducible show DL.neD (PySem.PyData.str _) (PySem.PyData.str _) = _); first | exact LW.new_t (by decide +kernel) | exact LW.new_f (by decide +kernel))
  | ((with_reducible show DL.inD (PySem.PyData.str _) _ = _); first | exact LW.inw_t rfl rfl (by decide +kernel) | exact LW.inw_f rfl rfl (by decide +kernel))
  | ((with_reducible show DL.notInD (PySem.PyData.str _) _ = _); first | exact LW.ninw_t rfl rfl (by decide +kernel) | exact LW.ninw_f rfl rfl (by decide +kernel))
  | ((with_reducible show DL.eqD (PySem.PyData.int _) (PySem.PyData.int _) = _); first | exact LW.eq_t (by first | rfl | omega) | exact LW.eq_f (by first | omega | (simp; done) | (simp; omega)))
  | ((with_reducible show DL.neD (PySem.PyData.int _) (PySem.PyData.int _) = _); first | exact LW.ne_f (by first | rfl | omega) | exact LW.ne_t (by first | omega | (simp; done) | (simp; omega)))
  | ((with_reducible show DL.ltD (PySem.PyData.int _) (PySem.PyData.int _) = _); first | exact LW.lt_t (by first | omega | (simp; done) | (simp; omega)) | exact LW.lt_f (by first | omega | (simp; done) | (simp; omega)))
  | ((with_reducible show DL.leD (PySem.PyData.int _) (PySem.PyData.int _) = _); first | exact LW.le_t (by first | omega | (simp; done) | (simp; omega)) | exact LW.le_f (by first | omega | (simp; done) | (simp; omega)))
  | ((with_reducible show DL.gtD (PySem.PyData.int _) (PySem.PyData.int _) = _); first | exact LW.gt_t (by first | omega | (simp; done) | (simp; omega)) | exact LW.gt_f (by first | omega | (simp; done) | (simp; omega)))
  | ((with_reducible show DL.geD (PySem.PyData.int _) (PySem.PyData.int _) = _); first | exact LW.ge_t (by first | omega | (simp; done) | (simp; omega)) | exact LW.ge_f (by first | omega | (simp; done) | (simp; omega)))
  | exact rfl)
/-! ### the purse: what is drawn -/
def sz (a : Int) : Nat := a.natAbs.log2
theorem log_lt {n k : Nat} (h : n < 2 ^ k) (hk : 0 < k) : n.log2 < k := by
  by_cases h0 : n = 0
  · subst h0; simpa using hk
  · exact (Nat.log2_lt h0).mpr h
theorem lt_log (n : Nat) : n < 2 ^ (n.log2 + 1) := by
  by_cases h0 : n = 0
  · subst h0; decide
  · exact (Nat.log2_lt h0).mp (Nat.lt_succ_self _)
theorem sz_mul (a b : Int) : sz (a * b) ≤ sz a + sz b + 1 := by
  unfold sz
  rw [Int.natAbs_mul]
  have h := Nat.mul_lt_mul'' (lt_log a.natAbs) (lt_log b.natAbs)
  rw [← Nat.pow_add] at h
  have := log_lt h (by omega)
  omega
theorem sz_add (a b : Int) : sz (a + b) ≤ max (sz a) (sz b) + 1 := by
  unfold sz
  have h1 : a.natAbs < 2 ^ (max a.natAbs.log2 b.natAbs.log2 + 1) := Nat.lt_of_lt_of_le (lt_log _) (Nat.pow_le_pow_right (by decide) (by omega))
  have h2 : b.natAbs < 2 ^ (max a.natAbs.log2 b.natAbs.log2 + 1) := Nat.lt_of_lt_of_le (lt_log _) (Nat.pow_le_pow_right (by decide) (by omega))
  have h3 : (a + b).natAbs < 2 ^ (max a.natAbs.log2 b.natAbs.log2 + 1 + 1) := by
    have : (a + b).natAbs ≤ a.natAbs + b.natAbs := Int.natAbs_add_le a b
    rw [Nat.pow_succ]
    omega
  have := log_lt h3 (by omega)
  omega
theorem sz_lt {a : Int} {k : Nat} (h0 : 0 ≤ a) (h : a < 2 ^ k) (hk : 0 < k) : sz a < k := by
  unfold sz
  refine log_lt ?_ hk
  have : ((a.natAbs : Nat) : Int) = a := Int.natAbs_of_nonneg h0
  have h2 : ((a.natAbs : Nat) : Int) < ((2 ^ k : Nat) : Int) := by
    rw [this]
    simpa using h
  exact Int.ofNat_lt.mp h2
theorem mulD_sz {a b : Int} (h : sz a + sz b < 1000000) : mulD (.int a) (.int b) = some (.int (a * b)) := by
  have c : cMul a b = true := decide_eq_true h
  unfold mulD gI
  simp [c]
theorem addD_i {a b : Int} : addD (.int a) (.int b) = some (.int (a + b)) := by simp [addD, gI, cT]
theorem subD_i {a b : Int} : subD (.int a) (.int b) = some (.int (a - b)) := by simp [subD, gI, cT]
theorem modD_i {a b : Int} (h : 0 < b) : modD (.int a) (.int b) = some (.int (a % b)) := by
  have c : cMod a b = true := decide_eq_true h
  unfold modD gI
  simp [c]
theorem divD_i {a b : Int} (h : 0 < b) (h2' : sz b < 9000) : divD (.int a) (.int b) = some (.int (a / b)) := by
  have h2 : b.natAbs.log2 < 9000 := h2'
  have c : cDiv a b = true := by
    unfold cDiv
    rw [decide_eq_true h, decide_eq_true h2]
    rfl
  unfold divD gI
  simp [c]
theorem powW_3 {a : Int} (h : sz a < 9000) : powW (.int a) (.int 3) = some (.int (a ^ 3)) := by
  have c : cPowW a 3 = true := by
    unfold cPowW
    rw [decide_eq_true (by decide), decide_eq_true]
    · rfl
    · have : a.natAbs.log2 < 9000 := h
      omega
  unfold powW gI
  simp [c]
def BagAt (b : Nat) (cs : Cs) (Z : Int) : Prop := ∃ x y z : Int, cs[b]? = some (.lst [.d (.int x), .d (.int y), .d (.int z)]) ∧ 0 ≤ y ∧ y < 10 ^ 41 ∧ 0 ≤ z ∧ z ≤ Z
def Only (S : List Nat) (cs cs' : Cs) : Prop := cs.length ≤ cs'.length ∧ ∀ i, i < cs.length → i ∉ S → cs'[i]? = cs[i]?
theorem Only.refl (S : List Nat) (cs : Cs) : Only S cs cs := ⟨Nat.le_refl _, fun _ _ _ => rfl⟩
theorem Only.trans {S : List Nat} {a b c : Cs} (h : Only S a b) (k : Only S b c) : Only S a c := ⟨Nat.le_trans h.1 k.1, fun i hi hs => (k.2 i (Nat.lt_of_lt_of_le hi h.1) hs).trans (h.2 i hi hs)⟩
theorem BagAt.mono {b : Nat} {cs : Cs} {Z Z' : Int} (B : BagAt b cs Z) (h : Z ≤ Z') : BagAt b cs Z' := by
  obtain ⟨x, y, z, e, a, c, d, f⟩ := B
  exact ⟨x, y, z, e, a, c, d, by omega⟩
def ZB : Int := 2 ^ 1000
def K41 : Int := 10 ^ 41 + 289
def K40 : Int := 10 ^ 40 + 31
theorem pw41 : powD (.int 10) (.int 41) = some (.int (10 ^ 41)) := by kernel_rfl
theorem pw40 : powD (.int 10) (.int 40) = some (.int (10 ^ 40)) := by kernel_rfl
theorem pw8 : powD (.int 10) (.int 8) = some (.int (10 ^ 8)) := by kernel_rfl
theorem k41 : addD (.int (10 ^ 41)) (.int 289) = some (.int K41) := addD_i
theorem k40 : addD (.int (10 ^ 40)) (.int 31) = some (.int K40) := addD_i
theorem pull_ok (n b : Nat) (cs : Cs) (Z m : Int) (B : BagAt b cs Z) (hZ : Z < ZB) (h0 : 0 < m) (h1 : m < 2 ^ 200) :
    ∃ (r : Int) (cs' : Cs), sem (n + 1) ._law_pull [.cel b, .d (.int m)] cs = .ok (.fr (.d (.int r))) cs' ∧ 0 ≤ r ∧ r < m ∧ BagAt b cs' (Z + 1) ∧ Only [b] cs cs' := by
  unfold ZB at hZ
  obtain ⟨x, y, z, e, hy0, hy1, hz0, hz1⟩ := B
  have hb : b < cs.length := (List.getElem?_eq_some_iff.mp e).1
  have i0 : ixD (.cel b) (.d (.int 0)) cs = .ok (.d (.int x)) cs := ev_ixC e ev_atI0 rfl
  have i1 : ixD (.cel b) (.d (.int 1)) cs = .ok (.d (.int y)) cs := ev_ixC e ev_atI1 rfl
  have i2 : ixD (.cel b) (.d (.int 2)) cs = .ok (.d (.int z)) cs := ev_ixC e ev_atI2 rfl
  have on : ∀ c : Cell, Only [b] cs (cs.set b c) := fun c => ⟨by simp, fun i _ hs => by rw [List.getElem?_set_ne (fun e => hs (by simp [e]))]⟩
  by_cases hx : 0 < x
  · refine ⟨x % m, cs.set b (.lst [.d (.int (x / m)), .d (.int y), .d (.int z)]), ?_, Int.emod_nonneg _ (by omega), Int.emod_lt_of_pos _ h0, ⟨x / m, y, z, List.getElem?_set_self hb, hy0, hy1, hz0, by omega⟩, on _⟩
    rw [e__law_pull]
    have dv := divD_i (a := x) h0 (Nat.lt_trans (sz_lt (by omega) h1 (by decide)) (by decide))
    have md := modD_i (a := x) h0
    have pt := sPut_cel (i := 0) (fv := eOp divD (eIx (eVar 0) (eC (.int 0))) (eVar 1)) (fx := eC (.int 0)) (sl := [some (Slot.fr (.cel b)), some (Slot.fr (.d (.int m))), some (Slot.fr (.d (.int (x % m)))), none]) (cs := cs) (xs := [.d (.int x), .d (.int y), .d (.int z)]) (k := 0) (j := 0) (v := .d (.int (x / m))) rfl (v_op (v_ix (ev_var rfl) rfl i0) (ev_var rfl) (o_dd dv)) rfl e rfl rfl
    simp only [List.set_cons_zero] at pt
    simp [s__law_pull, i0, gtD, cT, hx, md, pt]
  · have hz2 : 0 ≤ z + 1 := by omega
    have hs1 : sz (z + 1) < 1001 := sz_lt hz2 (by omega) (by decide)
    have s1 : sz 26535897932384627 = 54 := by decide +kernel
    have s2 : sz 88419716939937511 = 56 := by decide +kernel
    have m1 := mulD_sz (a := 26535897932384627) (b := z + 1) (by omega)
    have b1 := sz_mul 26535897932384627 (z + 1)
    have hy2 : sz y < 140 := sz_lt (by omega) (by omega) (by decide)
    have b2 := sz_add y (26535897932384627 * (z + 1))
    have pw := powW_3 (a := y + 26535897932384627 * (z + 1)) (by omega)
    generalize hA : (y + 26535897932384627 * (z + 1)) ^ 3 = A at pw
    have hp1 : (0 : Int) < K41 := by decide
    have hp2 : (0 : Int) < K40 := by decide
    have a0 := Int.emod_nonneg A (b := K41) (by omega)
    have a1 := Int.emod_lt_of_pos A hp1
    have md1 := modD_i (a := A) hp1
    generalize hM : A % K41 = M at a0 a1 md1
    have t1 : sz M < 140 := sz_lt a0 (Int.lt_trans a1 (by decide)) (by decide)
    have m2 := mulD_sz (a := M) (b := M) (by omega)
    have m3 := mulD_sz (a := 88419716939937511) (b := z + 1) (by omega)
    have md2 := modD_i (a := M * M + 88419716939937511 * (z + 1)) hp2
    generalize hM2 : (M * M + 88419716939937511 * (z + 1)) % K40 = M2 at md2
    have d3 := divD_i (a := M2) (b := 10 ^ 8) (by decide) (by decide +kernel)
    have md3 := modD_i (a := M2 / 10 ^ 8) h0
    have e' : (cs.set b (.lst [.d (.int x), .d (.int y), .d (.int (z + 1))]))[b]? = some (.lst [.d (.int x), .d (.int y), .d (.int (z + 1))]) := List.getElem?_set_self hb
    refine ⟨M2 / 10 ^ 8 % m, cs.set b (.lst [.d (.int x), .d (.int y), .d (.int (z + 1))]), ?_, Int.emod_nonneg _ (by omega), Int.emod_lt_of_pos _ h0, ⟨x, y, z + 1, e', hy0, hy1, hz2, by omega⟩, on _⟩
    rw [e__law_pull]
    have pt := sPut_cel (i := 0) (fv := eOp addD (eIx (eVar 0) (eC (.int 2))) (eC (.int 1))) (fx := eC (.int 2)) (sl := [some (Slot.fr (.cel b)), some (Slot.fr (.d (.int m))), none, none]) (cs := cs) (xs := [.d (.int x), .d (.int y), .d (.int z)]) (k := 2) (j := 2) (v := .d (.int (z + 1))) rfl (v_op (v_ix (ev_var rfl) rfl i2) DL.ev_c (o_dd addD_i)) rfl e rfl rfl
    simp only [List.set_cons_succ, List.set_cons_zero] at pt
    have j1 : ixD (.cel b) (.d (.int 1)) (cs.set b (.lst [.d (.int x), .d (.int y), .d (.int (z + 1))])) = .ok (.d (.int y)) (cs.set b (.lst [.d (.int x), .d (.int y), .d (.int (z + 1))])) := ev_ixC e' ev_atI1 rfl
    have j2 : ixD (.cel b) (.d (.int 2)) (cs.set b (.lst [.d (.int x), .d (.int y), .d (.int (z + 1))])) = .ok (.d (.int (z + 1))) (cs.set b (.lst [.d (.int x), .d (.int y), .d (.int (z + 1))])) := ev_ixC e' ev_atI2 rfl
    have a4 := addD_i (a := y) (b := 26535897932384627 * (z + 1))
    have a5 := addD_i (a := M * M) (b := 88419716939937511 * (z + 1))
    have g0 := gt_f (a := x) (k := 0) (by omega)
    have p41 := pw41
    have p40 := pw40
    have p8 := pw8
    have q41 := k41
    have q40 := k40
    have iB : ∀ (j : Int) (cs : Cs), intB [.d (.int j)] cs = .ok (.d (.int j)) cs := fun _ _ => rfl
    generalize cs.set b (.lst [.d (.int x), .d (.int y), .d (.int (z + 1))]) = cs1 at pt j1 j2 ⊢
    generalize (10 : Int) ^ 41 = T41 at *
    generalize (10 : Int) ^ 40 = T40 at *
    generalize (10 : Int) ^ 8 = T8 at *
    generalize y + 26535897932384627 * (z + 1) = Q1 at *
    generalize 26535897932384627 * (z + 1) = Q2 at *
    generalize M * M + 88419716939937511 * (z + 1) = Q3 at *
    generalize 88419716939937511 * (z + 1) = Q4 at *
    generalize M * M = Q5 at *
    generalize M2 / T8 % m = Q6 at *
    generalize M2 / T8 = Q7 at *
    have o : s__law_pull (sem n) [some (Slot.fr (.cel b)), some (Slot.fr (.d (.int m))), none, none] cs = .rt (.fr (.d (.int Q6))) cs1 := by
      unfold s__law_pull
      refine se_step (s_ifb (t_b (v_op (v_ix (ev_var rfl) rfl i0) rfl (o_dd g0))) (cond_f s_nil)) (se_step pt ?_)
      have w1 : eCall intB (bCons (eOp powW (eOp addD (eIx (eVar 0) (eC (.int 1))) (eOp mulD (eC (.int 26535897932384627)) (eIx (eVar 0) (eC (.int 2))))) (eC (.int 3))) (aNil)) [some (Slot.fr (.cel b)), some (Slot.fr (.d (.int m))), none, none] cs1 = .ok (.d (.int A)) cs1 :=
        v_call (ev_bcons (v_op (v_op (v_ix (ev_var rfl) rfl j1) (v_op rfl (v_ix (ev_var rfl) rfl j2) (o_dd m1)) (o_dd a4)) rfl (o_dd pw)) v_nil) (iB _ _)
      refine se_step (s_set (o_fr (v_op w1 (v_op (v_op rfl rfl (o_dd p41)) rfl (o_dd q41)) (o_dd md1)) rfl) rfl) ?_
      refine se_step (s_set (o_fr (v_op (v_call (ev_bcons (v_op (v_op (ev_var rfl) (ev_var rfl) (o_dd m2)) (v_op rfl (v_ix (ev_var rfl) rfl j2) (o_dd m3)) (o_dd a5)) v_nil) (iB _ _)) (v_op (v_op rfl rfl (o_dd p40)) rfl (o_dd q40)) (o_dd md2)) rfl) rfl) ?_
      exact s_ret (o_fr (v_op (v_call (ev_bcons (v_op (ev_var rfl) (v_op rfl rfl (o_dd p8)) (o_dd d3)) v_nil) (iB _ _)) (ev_var rfl) (o_dd md3)) rfl)
    exact congrArg bodyR o
theorem pick_ok (n b : Nat) (cs : Cs) (Z : Int) (xs : List PyData) (B : BagAt b cs Z) (hZ : Z < ZB) (h0 : 0 < xs.length) (h1 : xs.length ≤ 1000) :
    ∃ (x : PyData) (cs' : Cs), sem (n + 2) ._law_pick [.cel b, .d (.list xs)] cs = .ok (.fr (.d x)) cs' ∧ x ∈ xs ∧ BagAt b cs' (Z + 1) ∧ Only [b] cs cs' := by
  obtain ⟨r, cs', e, r0, r1, B', O⟩ := pull_ok n b cs Z xs.length B hZ (by omega) (by omega)
  obtain ⟨k, rfl⟩ : ∃ k : Nat, r = (k : Int) := ⟨r.toNat, by omega⟩
  have hk : k < xs.length := by omega
  refine ⟨xs[k], cs', ?_, List.getElem_mem hk, B', O⟩
  have a : atI xs (k : Int) = some xs[k] := DL.atI_nat (List.getElem?_eq_getElem hk)
  rw [e__law_pick]
  simp [s__law_pick, e, a]
end LW
end
section
set_option Elab.async false
set_option linter.all false
set_option maxRecDepth 100000
set_option autoImplicit false
namespace LW
open PySem PySem.Spec PyProof.Rows L2 DL
def smA : SS := sSet 1 (oFr (eC (.int 0)))
def smBi : SA := pSeq (eVar 0)
def smBb (G : Fn → FS) : SS := sSet 1 (oFr (eFz (oDef (G ._law_divisor) [] (aCons (eVar 1) (aCons (eVar 2) (aNil))))))
def smB (G : Fn → FS) : SS := sFor smBi (gNm 2) (smBb G)
def smC : SS := sRet (oLc (pSeq (eVar 0)) (gNm 2) (tTrue) (eOp divD (eVar 2) (eVar 1)) [2])
theorem sm_split (G : Fn → FS) : s__law_small_line G = sSeq smA (sSeq (smB G) smC) := rfl
/-! ### the law's own integers -/
section
variable {N n m k : Nat} {cs : Cs}
def dvT : DL.ST := tBool (eOp gtD (eVar 1) (eC (.int 0)))
def dvB : SS := sPar 0 1 (aCons (eVar 1) (aCons (eOp modD (eCall intB (bCons (eVar 0) (aNil))) (eVar 1)) (aNil)))
theorem dv_loop : ∀ (k b a : Nat), b ≤ k → whileN dvT dvB (k + 1) [some (.fr (.d (.int (a : Int)))), some (.fr (.d (.int (b : Int))))] cs = .nx [some (.fr (.d (.int (Nat.gcd a b : Nat)))), some (.fr (.d (.int 0)))] cs := by
  intro k
  induction k with
  | zero =>
    intro b a hb
    have : b = 0 := by omega
    subst this
    rw [Nat.gcd_zero_right]
    have t : dvT [some (.fr (.d (.int (a : Int)))), some (.fr (.d (.int ((0 : Nat) : Int))))] cs = .ok false cs := t_b (v_op rfl rfl (o_dd (gt_f (by omega))))
    rw [whileN.eq_2, t]
    rfl
  | succ k ih =>
    intro b a hb
    by_cases h0 : b = 0
    · subst h0
      rw [Nat.gcd_zero_right]
      have t : dvT [some (.fr (.d (.int (a : Int)))), some (.fr (.d (.int ((0 : Nat) : Int))))] cs = .ok false cs := t_b (v_op rfl rfl (o_dd (gt_f (by omega))))
      rw [whileN.eq_2, t]
      rfl
    · have hlt : a % b < b := Nat.mod_lt _ (by omega)
      have t : dvT [some (.fr (.d (.int (a : Int)))), some (.fr (.d (.int (b : Int))))] cs = .ok true cs := t_b (v_op rfl rfl (o_dd (gt_t (by omega))))
      have md := modD_i (a := (a : Int)) (b := (b : Int)) (by omega)
      rw [← Int.natCast_emod] at md
      have tn : dvB [some (.fr (.d (.int (a : Int)))), some (.fr (.d (.int (b : Int))))] cs = .nx [some (.fr (.d (.int (b : Int)))), some (.fr (.d (.int ((a % b : Nat) : Int))))] cs := by
        unfold dvB
        exact s_par (v_cons rfl rfl (v_cons (v_op (v_call (ev_bcons rfl v_nil) rfl) rfl (o_dd md)) rfl v_nil)) rfl
      have e := ih (a % b) b (by omega)
      have g : Nat.gcd a b = Nat.gcd b (a % b) := by rw [Nat.gcd_comm a b, Nat.gcd_rec b a, Nat.gcd_comm]
      rw [g, whileN.eq_2, t, R.go_ok, if_pos rfl, tn]
      exact e
theorem div_ok {a b : Int} (ha : 0 ≤ a) (hb : 0 ≤ b) (hN : 1 ≤ N) (cs : Cs) : sem N ._law_divisor [.d (.int a), .d (.int b)] cs = okD (.int (Int.gcd a b : Nat)) cs := by
  obtain ⟨n, rfl⟩ : ∃ n, N = n + 1 := ⟨N - 1, by omega⟩
  obtain ⟨x, rfl⟩ := Int.eq_ofNat_of_zero_le ha
  obtain ⟨y, rfl⟩ := Int.eq_ofNat_of_zero_le hb
  have e := dv_loop (cs := cs) y y x (Nat.le_refl _)
  have w : sWhile dvT dvB [some (.fr (.d (.int (x : Int)))), some (.fr (.d (.int (y : Int))))] cs = _ := (sWhile_of (by rw [e]; simp)).trans e
  have o : s__law_divisor (sem n) [some (.fr (.d (.int (x : Int)))), some (.fr (.d (.int (y : Int))))] cs = .rt (.fr (.d (.int (Int.gcd x y : Nat)))) cs := by
    show sSeq (sWhile dvT dvB) (sRet (oFr (eVar 0))) _ _ = _
    exact se_step w (s_ret (o_fr rfl rfl))
  rw [e__law_divisor]
  exact congrArg bodyR o
theorem law_low_ok {a d : Int} (hd : 0 < d) (bd : Bd 8000 d) (hN : 2 ≤ N) (cs : Cs) : sem N ._law_low [.d (.int a), .d (.int d)] cs = okD (qD ((a : Rat) / (d : Rat))) cs := by
  obtain ⟨n, rfl⟩ : ∃ n, N = n + 1 := ⟨N - 1, by omega⟩
  obtain ⟨y, rfl⟩ := Int.eq_ofNat_of_zero_le (Int.le_of_lt hd)
  have y0 : 0 < y := by omega
  have g := div_ok (N := n) (a := (a.natAbs : Int)) (b := (y : Int)) (by omega) (by omega) (by omega) cs
  have ge : Int.gcd (a.natAbs : Int) (y : Int) = Nat.gcd a.natAbs y := by unfold Int.gcd; rw [Int.natAbs_natCast, Int.natAbs_natCast]
  rw [ge] at g
  have gp := gcd_pos (a := a) y0
  have gb := gcd_bd (a := a) y0 bd
  have d1 := div_ev (a := a) (show (0 : Int) < (Nat.gcd a.natAbs y : Nat) by omega) gb (by decide)
  have d2 := div_ev (a := (y : Int)) (show (0 : Int) < (Nat.gcd a.natAbs y : Nat) by omega) gb (by decide)
  rw [← Int.natCast_ediv] at d2
  have ab := abs_ev (a := a) (cs := cs)
  have r : (PyData.tuple [.int (a / (Nat.gcd a.natAbs y : Nat)), .int ((y / Nat.gcd a.natAbs y : Nat) : Int)]) = qD ((a : Rat) / ((y : Int) : Rat)) := by
    have := low_q (a := a) y0
    rw [Rat.mkRat_eq_div] at this
    have e := congrArg frD this
    exact e
  rw [← r]
  have o : s__law_low (sem n) [some (.fr (.d (.int a))), some (.fr (.d (.int (y : Int)))), none] cs = .rt (.fr (.d (.tuple [.int (a / (Nat.gcd a.natAbs y : Nat)), .int ((y / Nat.gcd a.natAbs y : Nat) : Int)]))) cs := by
    unfold s__law_low
    exact se_step (s_set (o_fr (v_fz (o_def0 (v_cons (v_call (ev_bcons rfl v_nil) ab) rfl (v_cons rfl rfl v_nil)) g) rfl) rfl) rfl) (s_ret (o_fr (v_tup (v_cons (v_op rfl rfl (o_dd d1)) rfl (v_cons (v_op rfl rfl (o_dd d2)) rfl v_nil)) rfl) rfl))
  rw [e__law_low]
  exact congrArg bodyR o
/-! lists of integers -/
def irow (n : Nat) (w : Nat → Int) : PyData := .list (tb n fun k => .int (w k))
def irows (n m : Nat) (W : Nat → Nat → Int) : PyData := .list (tb n fun i => irow m (W i))
theorem sum_i {w : Nat → Int} {cs : Cs} : sumB [.d (irow n w)] cs = .ok (.d (.int (SI n w))) cs := by
  have e := sum_ev (xs := tb n w) (cs := cs)
  rw [tb_map] at e
  exact e
theorem low_sheet_ok {W : Nat → Nat → Int} (hs : ∀ i, i < n → 0 < SI m (W i)) (hb : ∀ i, i < n → Bd 8000 (SI m (W i))) (n6 : n ≤ 6) (m6 : m ≤ 6) (hN : 3 ≤ N) (cs : Cs) : sem N ._law_low_sheet [.d (irows n m W)] cs = okD (qrows n m fun i j => (W i j : Rat) / (SI m (W i) : Rat)) cs := by
  obtain ⟨N, rfl⟩ : ∃ n, N = n + 1 := ⟨N - 1, by omega⟩
  have lw : ∀ i j, i < n → sem N ._law_low [.d (.int (W i j)), .d (.int (SI m (W i)))] cs = okD (qD ((W i j : Rat) / (SI m (W i) : Rat))) cs := fun i j hi => law_low_ok (hs i hi) (hb i hi) (by omega) cs
  have r : oLc (pSeq (eVar 0)) (gNm 1) (tTrue) (eCall tupleB (bCons (eFz (oLc (pSeq (eVar 1)) (gNm 2) (tTrue) (eFz (oDef (sem N ._law_low) [] (aCons (eVar 2) (aCons (eCall sumB (bCons (eVar 1) (aNil))) (aNil))))) [2])) (aNil))) [1] [some (.fr (.d (irows n m W))), none, none] cs = .ok (.ow (.list (tb n fun i => qrow m fun j => (W i j : Rat) / (SI m (W i) : Rat)))) cs := by
    refine lc_t (e := fun i => irow m (W i)) (v := .d (irows n m W)) rfl rfl (by omega) fun i hi => ?_
    refine v_call (ev_bcons (v_fz (lc_t (n := m) (e := fun j => .int (W i j)) (f := fun j => qD ((W i j : Rat) / (SI m (W i) : Rat))) (v := .d (irow m (W i))) rfl rfl (by omega) fun j hj => ?_) rfl) v_nil) rfl
    exact v_fz (o_def0 (v_cons rfl rfl (v_cons (v_call (ev_bcons rfl v_nil) sum_i) rfl v_nil)) (lw i j hi)) rfl
  have o : s__law_low_sheet (sem N) [some (.fr (.d (irows n m W))), none, none] cs = .rt (.fr (.d (qrows n m fun i j => (W i j : Rat) / (SI m (W i) : Rat)))) cs := by
    unfold s__law_low_sheet
    exact s_ret (o_fr (v_call (ev_bcons (v_fz r rfl) v_nil) rfl) rfl)
  rw [e__law_low_sheet]
  exact congrArg bodyR o
end
/-! ### walks that carry a value -/
theorem for_fold {cs : Cs} {α β γ : Type} {v : α → Val} {g : Val → Sl → Option Sl} {body : SS} {mk : β → γ → Sl} {f : β → α → β} (I : List α → β → Prop)
    (h : ∀ a l s x, I (a :: l) s → ∃ sl1 x', g (v a) (mk s x) = some sl1 ∧ body sl1 cs = .nx (mk (f s a) x') cs ∧ I l (f s a)) : ∀ (l : List α) (s : β) (x : γ), I l s → ∃ x', forL g body (l.map v) (mk s x) cs = .nx (mk (l.foldl f s) x') cs
  | [], s, x, _ => ⟨x, rfl⟩
  | a :: l, s, x, i => by
    obtain ⟨sl1, x1, h1, h2, h3⟩ := h a l s x i
    obtain ⟨x', e⟩ := for_fold I h l (f s a) x1 h3
    refine ⟨x', ?_⟩
    rw [List.map_cons, List.foldl_cons]
    exact f_cons h1 h2 e
/-! the least common multiple, step by step -/
def lcmS (s t : Int) : Int := s / (Int.gcd s t : Nat) * t
theorem lcmS_ok {s t : Int} (hs : 0 < s) (ht : 0 < t) : 0 < lcmS s t ∧ s ∣ lcmS s t ∧ t ∣ lcmS s t ∧ lcmS s t ≤ s * t := by
  unfold lcmS
  have gp : 0 < (Int.gcd s t : Nat) := Int.gcd_pos_of_ne_zero_left _ (by omega)
  obtain ⟨x, hx⟩ := Int.gcd_dvd_left s t
  obtain ⟨y, hy⟩ := Int.gcd_dvd_right s t
  generalize Int.gcd s t = g at *
  have e : s / (g : Int) = x := by rw [hx]; exact Int.mul_ediv_cancel_left _ (by omega)
  have x0 : 0 < x := by
    rw [hx] at hs
    exact Int.lt_of_mul_lt_mul_left (a := (g : Int)) (by rw [Int.mul_zero]; exact hs) (by omega)
  rw [e]
  refine ⟨Int.mul_pos x0 ht, ⟨y, ?_⟩, ⟨x, Int.mul_comm _ _⟩, Int.mul_le_mul_of_nonneg_right ?_ (by omega)⟩
  · rw [hx, hy, ← Int.mul_assoc, Int.mul_comm x]
  · rw [hx]
    have : 1 * x ≤ (g : Int) * x := Int.mul_le_mul_of_nonneg_right (by omega) (by omega)
    omega
theorem lcm_fold {α : Type} {T : α → Int} {t : Nat} : ∀ (l : List α) (s : Int) (k : Nat), 0 < s → Bd k s → (∀ a ∈ l, 0 < T a ∧ Bd t (T a)) → 0 < l.foldl (fun s a => lcmS s (T a)) s ∧ s ∣ l.foldl (fun s a => lcmS s (T a)) s ∧ (∀ a ∈ l, T a ∣ l.foldl (fun s a => lcmS s (T a)) s) ∧ Bd (k + l.length * t) (l.foldl (fun s a => lcmS s (T a)) s)
  | [], s, k, h, b, _ => ⟨h, Int.dvd_refl _, by simp, by simpa using b⟩
  | a :: l, s, k, h, b, ht => by
    obtain ⟨t0, tb⟩ := ht a (by simp)
    obtain ⟨l0, l1, l2, l3⟩ := lcmS_ok h t0
    have lb : Bd (k + t) (lcmS s (T a)) := (b.mul tb).le (by
      have := Int.mul_pos h t0
      omega)
    obtain ⟨r1, r2, r3, r4⟩ := lcm_fold l (lcmS s (T a)) (k + t) l0 lb fun c hc => ht c (by simp [hc])
    refine ⟨r1, Int.dvd_trans l1 r2, fun c hc => ?_, ?_⟩
    · rcases List.mem_cons.mp hc with rfl | hc
      · exact Int.dvd_trans l2 r2
      · exact r3 c hc
    · rw [List.length_cons, Nat.succ_mul]
      have e : k + (l.length * t + t) = k + t + l.length * t := by omega
      rw [e]
      exact r4
theorem lcm_ev {N i ks kt : Nat} {s t : Int} {ft : SE} {sl : Sl} {cs : Cs} (h1 : eVar i sl cs = .ok (.d (.int s)) cs) (h2 : ft sl cs = .ok (.d (.int t)) cs) (hs : 0 < s) (ht : 0 < t) (bs : Bd ks s) (bt : Bd kt t) (hk : ks + kt ≤ 8000) (hN : 1 ≤ N) :
    eOp mulD (eOp divD (eVar i) (eFz (oDef (sem N ._law_divisor) [] (aCons (eVar i) (aCons ft (aNil)))))) ft sl cs = .ok (.d (.int (lcmS s t))) cs := by
  have g := div_ok (N := N) (a := s) (b := t) (by omega) (by omega) hN cs
  have gp : 0 < (Int.gcd s t : Nat) := Int.gcd_pos_of_ne_zero_left _ (by omega)
  have gle : (Int.gcd s t : Int) ≤ s := Int.le_of_dvd hs (Int.gcd_dvd_left s t)
  have gb : Bd ks (Int.gcd s t : Int) := bs.le (by omega)
  have d := div_ev (a := s) (b := (Int.gcd s t : Int)) (by omega) gb (by omega)
  have q0 : 0 ≤ s / (Int.gcd s t : Int) := Int.ediv_nonneg (by omega) (by omega)
  have q1 : s / (Int.gcd s t : Int) ≤ s := Int.ediv_le_self _ (by omega)
  have m := mul_ev (a := s / (Int.gcd s t : Int)) (b := t) (bs.le (by omega)) bt (by omega)
  exact v_op (v_op h1 (v_fz (o_def0 (v_cons h1 rfl (v_cons h2 rfl v_nil)) g) rfl) (o_dd d)) h2 (o_dd m)
/-! a line divided by its greatest divisor -/
section
variable {N n m k : Nat} {cs : Cs}
def gcdF (l : List Int) (s : Int) : Int := l.foldl (fun s x => (Int.gcd s x : Nat)) s
theorem gcdF_ok : ∀ (l : List Int) (s : Int), 0 ≤ s → 0 ≤ gcdF l s ∧ gcdF l s ∣ s ∧ (∀ x ∈ l, gcdF l s ∣ x)
  | [], s, h => ⟨h, Int.dvd_refl _, by simp⟩
  | x :: l, s, h => by
    obtain ⟨h1, h2, h3⟩ := gcdF_ok l (Int.gcd s x : Nat) (by omega)
    refine ⟨h1, Int.dvd_trans h2 (Int.gcd_dvd_left s x), fun y hy => ?_⟩
    rcases List.mem_cons.mp hy with rfl | hy
    · exact Int.dvd_trans h2 (Int.gcd_dvd_right s y)
    · exact h3 y hy
theorem SI_zero : ∀ (n : Nat) (f : Nat → Int), (∀ k, k < n → f k = 0) → SI n f = 0
  | 0, _, _ => rfl
  | n + 1, f, h => by rw [SI_succ, SI_zero n f fun k hk => h k (by omega), h n (by omega)]; rfl
theorem small_ok {w : Nat → Int} (h0 : ∀ j, j < m → 0 ≤ w j) (hs : 0 < SI m w) (hb : ∀ j, j < m → Bd 8000 (w j)) (m6 : m ≤ 6) (hN : 2 ≤ N) (cs : Cs) :
    ∃ (X : Nat → Int) (c : Int), 0 < c ∧ (∀ j, j < m → X j * c = w j) ∧ sem N ._law_small_line [.d (irow m w)] cs = .ok (.ow (irow m X)) cs := by
  obtain ⟨N, rfl⟩ : ∃ n, N = n + 1 := ⟨N - 1, by omega⟩
  obtain ⟨g1, g2, g3⟩ := gcdF_ok (tb m w) 0 (Int.le_refl _)
  have gd : ∀ j, j < m → gcdF (tb m w) 0 ∣ w j := fun j hj => g3 _ (List.mem_map.mpr ⟨j, List.mem_range.mpr hj, rfl⟩)
  obtain ⟨p, hp, hw⟩ : ∃ j, j < m ∧ 0 < w j := by
    refine Classical.byContradiction fun z => ?_
    have : SI m w = 0 := SI_zero m w fun j hj => by
      have := h0 j hj
      have : ¬ 0 < w j := fun q => z ⟨j, hj, q⟩
      omega
    omega
  have gp : 0 < gcdF (tb m w) 0 := by
    rcases Int.lt_or_eq_of_le g1 with h | h
    · exact h
    · have := gd p hp
      rw [← h] at this
      have := Int.zero_dvd.mp this
      omega
  have gle : gcdF (tb m w) 0 ≤ w p := Int.le_of_dvd hw (gd p hp)
  have gb : Bd 8000 (gcdF (tb m w) 0) := (hb p hp).le (by omega)
  refine ⟨fun j => w j / gcdF (tb m w) 0, gcdF (tb m w) 0, gp, fun j hj => Int.ediv_mul_cancel (gd j hj), ?_⟩
  obtain ⟨x', e⟩ := for_fold (cs := cs) (v := fun x : Int => Val.d (.int x)) (g := gNm 2) (body := smBb (sem N)) (mk := fun (s : Int) (x : Option DL.Slot) => [some (.fr (.d (irow m w))), some (.fr (.d (.int s))), x]) (f := fun s x => (Int.gcd s x : Nat)) (fun l s => 0 ≤ s ∧ ∀ x ∈ l, 0 ≤ x)
    (fun a l s x i => by
      obtain ⟨i1, i2⟩ := i
      have d := div_ok (N := N) i1 (i2 a (by simp)) (by omega) cs
      refine ⟨_, some (.fr (.d (.int a))), rfl, ?_, by omega, fun y hy => i2 y (by simp [hy])⟩
      unfold smBb
      exact s_set (o_fr (v_fz (o_def0 (v_cons rfl rfl (v_cons rfl rfl v_nil)) d) rfl) rfl) rfl) (tb m w) 0 none ⟨Int.le_refl _, fun x hx => by
      obtain ⟨j, hj, rfl⟩ := tb_mem hx
      exact h0 j hj⟩
  have sq : seqV (.d (irow m w)) cs = .ok ((tb m w).map fun x : Int => Val.d (.int x)) cs := by
    show R.ok ((tb m fun k => PyData.int (w k)).map Val.d) cs = _
    rw [tb_map, tb_map]
  have lc : oLc (pSeq (eVar 0)) (gNm 2) (tTrue) (eOp divD (eVar 2) (eVar 1)) [2] [some (.fr (.d (irow m w))), some (.fr (.d (.int (gcdF (tb m w) 0)))), x'] cs = .ok (.ow (irow m fun j => w j / gcdF (tb m w) 0)) cs :=
    lc_t (e := fun j => .int (w j)) (v := .d (irow m w)) rfl rfl (by omega) fun j hj => v_op rfl rfl (o_dd (div_ev gp gb (by decide)))
  have o : s__law_small_line (sem N) [some (.fr (.d (irow m w))), none, none] cs = .rt (.ow (irow m fun j => w j / gcdF (tb m w) 0)) cs := by
    rw [sm_split]
    exact se_step (s_set (o_fr rfl rfl) rfl) (se_step (s_for (p_seq rfl sq) e) (s_ret lc))
  rw [e__law_small_line]
  exact congrArg bodyR o
theorem Bd.SI {f : Nat → Int} : ∀ {n : Nat}, (∀ i, i < n → Bd k (f i)) → Bd (k + n) (LW.SI n f)
  | 0, _ => by unfold Bd LW.SI; simp; exact Nat.pow_pos (by decide)
  | n + 1, h => by
    rw [SI_succ]
    exact (Bd.SI fun i hi => h i (by omega)).add ((h n (by omega)).mono (by omega))
end
end LW
end
section
set_option Elab.async false
set_option linter.all false
set_option maxRecDepth 100000
set_option autoImplicit false
namespace LW
open PySem PySem.Spec PyProof.Rows L2 DL
def blA : SS := sParO 2 3 (oFr (eC (.int 1))) (oLst (aNil))
def blBi : SA := pSeq (eVar 1)
def blBb (G : Fn → FS) : SS := sSet 2 (oFr (eOp mulD (eOp divD (eVar 2) (eFz (oDef (G ._law_divisor) [] (aCons (eVar 2) (aCons (eCall sumB (bCons (eVar 4) (aNil))) (aNil)))))) (eCall sumB (bCons (eVar 4) (aNil)))))
def blB (G : Fn → FS) : SS := sFor blBi (gNm 4) (blBb G)
def blCi : SA := pSeq (eVar 0)
def blCb (G : Fn → FS) : SS := sSeq (sSet 5 (oFr (eOp mulD (eLst (aCons (eC (.int 0)) (aNil))) (eCall lenB (bCons (eIx (eVar 1) (eC (.int 0))) (aNil)))))) (sSeq (sFor (pZip (bCons (eVar 4) (bCons (eVar 1) (aNil)))) (gTp (gsCons (gNm 6) (gsCons (gNm 7) (gsNil)))) (sSeq (sSet 5 (oLc (pZip (bCons (eVar 5) (bCons (eVar 7) (aNil)))) (gTp (gsCons (gNm 8) (gsCons (gNm 9) (gsNil)))) (tTrue) (eOp addD (eVar 8) (eOp mulD (eOp mulD (eVar 6) (eVar 9)) (eOp divD (eVar 2) (eCall sumB (bCons (eVar 7) (aNil)))))) [8, 9])) (sSeq (sFz 5) (sNil)))) (sMeth 3 appAt (eFz (oDef (G ._law_small_line) [] (aCons (eVar 5) (aNil))))))
def blC (G : Fn → FS) : SS := sFor blCi (gNm 4) (blCb G)
def blD : SS := sRetV 3
theorem bl_split (G : Fn → FS) : s__law_blurred G = sSeq blA (sSeq (blB G) (sSeq (blC G) blD)) := rfl
/-! ### news told on, by the law's own integers -/
theorem q_ne {a : Int} (h : 0 < a) : (a : Rat) ≠ 0 := fun e => by
  have := Rat.intCast_eq_zero_iff.mp e
  omega
theorem q_div {s t : Int} (h : t ∣ s) (ht : 0 < t) : ((s / t : Int) : Rat) = (s : Rat) / (t : Rat) := by
  obtain ⟨x, rfl⟩ := h
  rw [Int.mul_ediv_cancel_left _ (by omega), Rat.intCast_mul]
  have := q_ne ht
  grind
theorem SI_comm (n m : Nat) (f : Nat → Nat → Int) : SI n (fun i => SI m fun j => f i j) = SI m fun j => SI n fun i => f i j := by
  have h : ((SI n (fun i => SI m fun j => f i j) : Int) : Rat) = ((SI m fun j => SI n fun i => f i j : Int) : Rat) := by
    rw [SI_q, SI_q]
    simp only [SI_q]
    exact S_comm n m _
  exact Rat.intCast_inj.mp h
def scl (m l : Nat) (B : Nat → Nat → Int) : Int := (List.range m).foldl (fun s k => lcmS s (SI l (B k))) 1
def blurY (m l : Nat) (w : Nat → Int) (B : Nat → Nat → Int) (j : Nat) : Int := SI m fun k => w k * B k j * (scl m l B / SI l (B k))
theorem foldl_SI {F : Nat → Nat → Int} : ∀ (m : Nat) (Y : Nat → Int), (List.range m).foldl (fun (Y : Nat → Int) k => fun j => Y j + F k j) Y = fun j => Y j + SI m fun k => F k j
  | 0, Y => by
    funext j
    show Y j = Y j + 0
    omega
  | m + 1, Y => by
    rw [List.range_succ, List.foldl_append, foldl_SI m Y]
    funext j
    show (Y j + SI m fun k => F k j) + F m j = _
    rw [SI_succ]
    omega
/-- rows of integers from 0 on, each with something -/
structure Ws (k t n m : Nat) (W : Nat → Nat → Int) : Prop where
  nn : ∀ i j, 0 ≤ W i j
  pos : ∀ i, i < n → 0 < SI m (W i)
  bd : ∀ i j, i < n → j < m → Bd k (W i j)
  bs : ∀ i, i < n → Bd t (SI m (W i))
section
variable {N n m l kw tw kb t : Nat} {W B : Nat → Nat → Int} {cs : Cs}
theorem scl_ok (hB : Ws kb t m l B) : 0 < scl m l B ∧ (∀ k, k < m → SI l (B k) ∣ scl m l B) ∧ Bd (1 + m * t) (scl m l B) := by
  have h := lcm_fold (T := fun k => SI l (B k)) (t := t) (List.range m) 1 1 (by decide) (by unfold Bd; decide) fun k hk => ⟨hB.pos k (List.mem_range.mp hk), hB.bs k (List.mem_range.mp hk)⟩
  rw [List.length_range] at h
  exact ⟨h.1, fun k hk => h.2.2.1 k (List.mem_range.mpr hk), h.2.2.2⟩
theorem blurY_sum (hB : Ws kb t m l B) (w : Nat → Int) : SI l (blurY m l w B) = scl m l B * SI m w := by
  obtain ⟨s0, s1, _⟩ := scl_ok hB
  unfold blurY
  rw [SI_comm, Int.mul_comm, ← SI_mulR]
  refine SI_congr fun k hk => ?_
  have e : SI l (fun j => w k * B k j * (scl m l B / SI l (B k))) = SI l (fun j => B k j * (w k * (scl m l B / SI l (B k)))) := SI_congr fun j _ => by rw [Int.mul_assoc, Int.mul_left_comm]
  rw [e, SI_mulR, Int.mul_left_comm, Int.mul_ediv_cancel' (s1 k hk)]
theorem blurY_nn (hB : Ws kb t m l B) {w : Nat → Int} (hw : ∀ k, 0 ≤ w k) (j : Nat) : 0 ≤ blurY m l w B j := by
  obtain ⟨s0, s1, _⟩ := scl_ok hB
  refine SI_nonneg fun k hk => Int.mul_nonneg (Int.mul_nonneg (hw k) (hB.nn k j)) (Int.ediv_nonneg (by omega) (Int.le_of_lt (hB.pos k hk)))
theorem blur_q (hB : Ws kb t m l B) {w : Nat → Int} (hw : 0 < SI m w) {X : Nat → Int} {c : Int} (hc : 0 < c) (hX : ∀ j, j < l → X j * c = blurY m l w B j) {j : Nat} (hj : j < l) :
    (X j : Rat) / (SI l X : Rat) = S m fun k => ((w k : Rat) / (SI m w : Rat)) * ((B k j : Rat) / (SI l (B k) : Rat)) := by
  obtain ⟨s0, s1, _⟩ := scl_ok hB
  have e1 : SI l X * c = scl m l B * SI m w := by
    rw [← blurY_sum hB, ← SI_mulR]
    exact SI_congr hX
  have p1 : 0 < SI l X * c := by rw [e1]; exact Int.mul_pos s0 hw
  have x0 : 0 < SI l X := Int.lt_of_mul_lt_mul_left (a := c) (by rw [Int.mul_zero, Int.mul_comm]; exact p1) (by omega)
  have q1 : (SI l X : Rat) * (c : Rat) = (scl m l B : Rat) * (SI m w : Rat) := by rw [← Rat.intCast_mul, e1, Rat.intCast_mul]
  have q2 : (X j : Rat) * (c : Rat) = S m fun k => (w k : Rat) * (B k j : Rat) * ((scl m l B : Rat) / (SI l (B k) : Rat)) := by
    rw [← Rat.intCast_mul, hX j hj]
    unfold blurY
    rw [SI_q]
    exact S_congr fun k hk => by rw [Rat.intCast_mul, Rat.intCast_mul, q_div (s1 k hk) (hB.pos k hk)]
  have c0 := q_ne hc
  have X0 := q_ne x0
  have S0 := q_ne s0
  have W0 := q_ne hw
  have e2 : (X j : Rat) / (SI l X : Rat) = (S m fun k => (w k : Rat) * (B k j : Rat) * ((scl m l B : Rat) / (SI l (B k) : Rat))) * (1 / ((scl m l B : Rat) * (SI m w : Rat))) := by
    rw [← q2, ← q1]
    generalize (X j : Rat) = x at *
    generalize (SI l X : Rat) = y at *
    generalize (c : Rat) = z at *
    grind
  rw [e2, ← S_mulR]
  refine S_congr fun k hk => ?_
  have T0 := q_ne (hB.pos k hk)
  generalize (w k : Rat) = x at *
  generalize (B k j : Rat) = y at *
  generalize (SI m w : Rat) = z at *
  generalize (scl m l B : Rat) = s at *
  generalize (SI l (B k) : Rat) = T at *
  clear e2 q2 q1
  grind
theorem flat0 : ∀ l : Nat, (List.replicate l [PyData.int 0]).flatten = tb l fun _ => PyData.int 0
  | 0 => rfl
  | l + 1 => by rw [List.replicate_succ', List.flatten_append, flat0 l, tb_succ]; rfl
theorem rep0 (l : Nat) (h : l ≤ 6) : mulD (.list [.int 0]) (.int (l : Int)) = some (irow l fun _ => 0) := by
  have g : gRepL (.list [.int 0]) (.int (l : Int)) = some (irow l fun _ => 0) := by
    unfold gRepL
    dsimp only
    rw [if_pos (by
      refine ⟨by omega, by omega, ?_⟩
      simp
      omega), Int.toNat_natCast, flat0]
    rfl
  show (none : Option PyData).or (gRepL _ _) = _
  rw [g]
  rfl
theorem blurred_ok (hW : Ws kw tw n m W) (hB : Ws kb t m l B) (hk : kw + kb + (1 + m * t) + m ≤ 8000) (n6 : n ≤ 6) (m1 : 1 ≤ m) (m6 : m ≤ 6) (l6 : l ≤ 6) (hN : 3 ≤ N) (cs : Cs) :
    ∃ (X : Nat → Nat → Int) (c : Nat → Int), (∀ i, i < n → 0 < c i ∧ ∀ j, j < l → X i j * c i = blurY m l (W i) B j) ∧ sem N ._law_blurred [.d (irows n m W), .d (irows m l B)] cs = .ok (.ow (irows n l X)) cs := by
  obtain ⟨N, rfl⟩ : ∃ n, N = n + 1 := ⟨N - 1, by omega⟩
  obtain ⟨s0, s1, s2⟩ := scl_ok hB
  have mt : m * t ≤ 8000 := by omega
  have qb : ∀ k, k < m → Bd (1 + m * t) (scl m l B / SI l (B k)) := fun k hk => s2.le (by
    have h1 := hB.pos k hk
    have h2 : 0 ≤ scl m l B / SI l (B k) := Int.ediv_nonneg (by omega) (by omega)
    have h3 : scl m l B / SI l (B k) ≤ scl m l B := Int.ediv_le_self _ (by omega)
    omega)
  have yb : ∀ i j, i < n → j < l → Bd (kw + kb + (1 + m * t) + m) (blurY m l (W i) B j) := fun i j hi hj => Bd.SI fun k hk => ((hW.bd i k hi hk).mul (hB.bd k j hk hj)).mul (qb k hk)
  have sp : ∀ i, i < n → 0 < SI l (blurY m l (W i) B) := fun i hi => by
    rw [blurY_sum hB]
    exact Int.mul_pos s0 (hW.pos i hi)
  have ch : ∀ i, ∃ p : (Nat → Int) × Int, i < n → 0 < p.2 ∧ (∀ j, j < l → p.1 j * p.2 = blurY m l (W i) B j) ∧ sem N ._law_small_line [.d (irow l (blurY m l (W i) B))] cs = .ok (.ow (irow l p.1)) cs := fun i => by
    by_cases hi : i < n
    · obtain ⟨X, c, h1, h2, h3⟩ := small_ok (N := N) (w := blurY m l (W i) B) (fun j _ => blurY_nn hB (hW.nn i) j) (sp i hi) (fun j hj => (yb i j hi hj).mono hk) l6 (by omega) cs
      exact ⟨(X, c), fun _ => ⟨h1, h2, h3⟩⟩
    · exact ⟨(fun _ => 0, 0), fun z => absurd z hi⟩
  obtain ⟨p, hp⟩ := Classical.axiomOfChoice ch
  refine ⟨fun i => (p i).1, fun i => (p i).2, fun i hi => ⟨(hp i hi).1, (hp i hi).2.1⟩, ?_⟩
  -- the scale
  obtain ⟨x1, e1⟩ := for_fold (cs := cs) (v := fun k : Nat => Val.d (irow l (B k))) (g := gNm 4) (body := blBb (sem N)) (mk := fun (s : Int) (x : Option DL.Slot) => [some (.fr (.d (irows n m W))), some (.fr (.d (irows m l B))), some (.fr (.d (.int s))), some (.ow (.list [])), x, none, none, none, none, none]) (f := fun s k => lcmS s (SI l (B k)))
    (fun ks s => 0 < s ∧ (∃ q, Bd q s ∧ q + ks.length * t ≤ 1 + m * t) ∧ ∀ k ∈ ks, k < m) (fun a ks s x i => by
      obtain ⟨i1, ⟨q, i2, i3⟩, i4⟩ := i
      have am := i4 a (by simp)
      rw [List.length_cons, Nat.succ_mul] at i3
      have t0 := hB.pos a am
      have tb := hB.bs a am
      refine ⟨_, some (.fr (.d (irow l (B a)))), rfl, ?_, (lcmS_ok i1 t0).1, ⟨q + t, (i2.mul tb).le (by
        have h1 := (lcmS_ok i1 t0).1
        have h2 := (lcmS_ok i1 t0).2.2.2
        have h3 := Int.mul_pos i1 t0
        omega), by omega⟩, fun k hk => i4 k (by simp [hk])⟩
      unfold blBb
      exact s_set (o_fr (lcm_ev (i := 2) rfl (v_call (ev_bcons rfl v_nil) sum_i) i1 t0 i2 tb (by omega) (by omega)) rfl) rfl)
    (List.range m) 1 none ⟨by decide, ⟨1, by unfold Bd; decide, by rw [List.length_range]; exact Nat.le_refl _⟩, fun k hk => List.mem_range.mp hk⟩
  have hfold : (List.range m).foldl (fun s k => lcmS s (SI l (B k))) 1 = scl m l B := rfl
  rw [hfold] at e1
  have sq1 : seqV (.d (irows m l B)) cs = .ok ((List.range m).map fun k : Nat => Val.d (irow l (B k))) cs := by
    show R.ok ((tb m fun k => irow l (B k)).map Val.d) cs = _
    rw [tb_map]
  have sq2 : seqV (.d (irows n m W)) cs = .ok ((List.range n).map fun i : Nat => Val.d (irow m (W i))) cs := by
    show R.ok ((tb n fun k => irow m (W k)).map Val.d) cs = _
    rw [tb_map]
  have x0 : ixD (.d (irows m l B)) (.d (.int 0)) cs = .ok (.d (irow l (B 0))) cs := x_l (tb_at (k := 0) (by omega))
  have l0 : lenB [.d (irow l (B 0))] cs = .ok (.d (.int (l : Int))) cs := len_l (tb_len _)
  have rep := rep0 l (by omega)
  generalize hT : irows n m W = T at *
  generalize hU : irows m l B = U at *
  generalize hs : scl m l B = s at *
  -- the rows
  obtain ⟨x2, e2⟩ := for_app (cs := cs) (v := fun i : Nat => Val.d (irow m (W i))) (f := fun i => irow l (p i).1) (g := gNm 4) (body := blCb (sem N)) (mk := fun xs (x : Option DL.Slot × Option DL.Slot × Option DL.Slot × Option DL.Slot) => [some (.fr (.d T)), some (.fr (.d U)), some (.fr (.d (.int s))), some (.ow (.list xs)), x.1, x.2.1, x.2.2.1, x.2.2.2, none, none]) (List.range n) [] (x1, none, none, none) (by simp; omega) fun i hi xs x hl => by
    have hi := List.mem_range.mp hi
    obtain ⟨c0, c1, c2⟩ := hp i hi
    obtain ⟨y, ey⟩ := for_fold (cs := cs) (v := fun k : Nat => Val.d (.tuple [.int (W i k), irow l (B k)])) (g := gTp (gsCons (gNm 6) (gsCons (gNm 7) (gsNil)))) (body := (sSeq (sSet 5 (oLc (pZip (bCons (eVar 5) (bCons (eVar 7) (aNil)))) (gTp (gsCons (gNm 8) (gsCons (gNm 9) (gsNil)))) (tTrue) (eOp addD (eVar 8) (eOp mulD (eOp mulD (eVar 6) (eVar 9)) (eOp divD (eVar 2) (eCall sumB (bCons (eVar 7) (aNil)))))) [8, 9])) (sSeq (sFz 5) (sNil))))
      (mk := fun (Y : Nat → Int) (x : Option DL.Slot × Option DL.Slot) => [some (.fr (.d T)), some (.fr (.d U)), some (.fr (.d (.int s))), some (.ow (.list xs)), some (.fr (.d (irow m (W i)))), some (.fr (.d (irow l Y))), x.1, x.2, none, none]) (f := fun Y k => fun j => Y j + W i k * B k j * (s / SI l (B k))) (fun ks _ => ∀ k ∈ ks, k < m)
      (fun k ks Y x iv => by
        have km := iv k (by simp)
        refine ⟨_, (some (.fr (.d (.int (W i k)))), some (.fr (.d (irow l (B k))))), rfl, ?_, fun q hq => iv q (by simp [hq])⟩
        refine se_step (s_set (lc_z (n := l) (a := fun j => .int (Y j)) (b := fun j => .int (B k j)) (f := fun j => .int (Y j + W i k * B k j * (s / SI l (B k)))) (v := .d (irow l Y)) (w := .d (irow l (B k))) (ev_bcons rfl (ev_bcons rfl v_nil)) zip_ll2 (by omega) fun j hj => ?_) rfl) (se_step (s_fz rfl rfl rfl) s_nil)
        have mm1 := mul_ev (hW.bd i k hi km) (hB.bd k j km hj) (by omega)
        have dv := div_ev (a := s) (hB.pos k km) ((hB.bs k km).mono (k := 8000) (by
          have : 1 * t ≤ m * t := Nat.mul_le_mul_right _ m1
          omega)) (by decide)
        have m2 := mul_ev ((hW.bd i k hi km).mul (hB.bd k j km hj)) (qb k km) (by omega)
        have ad := add_ev (a := Y j) (b := W i k * B k j * (s / SI l (B k)))
        exact v_op rfl (v_op (v_op rfl rfl (o_dd mm1)) (v_op rfl (v_call (ev_bcons rfl v_nil) sum_i) (o_dd dv)) (o_dd m2)) (o_dd ad))
      (List.range m) (fun _ => 0) (x.2.2.1, x.2.2.2) (fun k hk => List.mem_range.mp hk)
    rw [foldl_SI] at ey
    have fY : (fun j => (0 : Int) + SI m fun k => W i k * B k j * (s / SI l (B k))) = blurY m l (W i) B := by
      funext j
      unfold blurY
      rw [hs, Int.zero_add]
    rw [fY] at ey
    refine ⟨_, (some (.fr (.d (irow m (W i)))), some (.fr (.d (irow l (blurY m l (W i) B)))), y.1, y.2), rfl, ?_⟩
    unfold blCb
    refine se_step (s_set (o_fr (v_op (v_lst (v_cons rfl rfl v_nil) rfl) (v_call (ev_bcons (v_ix rfl rfl x0) v_nil) l0) (o_dd rep)) rfl) rfl) ?_
    have zp : pZip (bCons (eVar 4) (bCons (eVar 1) (aNil))) [some (.fr (.d T)), some (.fr (.d U)), some (.fr (.d (.int s))), some (.ow (.list xs)), some (.fr (.d (irow m (W i)))), some (.fr (.d (irow l fun _ => 0))), x.2.2.1, x.2.2.2, none, none] cs = .ok ((List.range m).map fun k : Nat => Val.d (.tuple [.int (W i k), irow l (B k)])) cs := by
      show ((bCons (eVar 4) (bCons (eVar 1) (aNil))) _ cs).bind zipV = _
      rw [ev_bcons (v := .d (irow m (W i))) (vs := [.d U]) rfl (ev_bcons rfl v_nil), R.bind_ok, ← hU]
      exact (zip_ll2 (n := m) (a := fun k => .int (W i k)) (b := fun k => irow l (B k))).trans (by rw [tb_map])
    refine se_step (s_for zp ey) ?_
    exact s_app (ds := xs) rfl (v_fz (o_def0 (v_cons rfl rfl v_nil) c2) rfl) (by omega) rfl
  have o : s__law_blurred (sem N) [some (.fr (.d T)), some (.fr (.d U)), none, none, none, none, none, none, none, none] cs = .rt (.ow (irows n l fun i => (p i).1)) cs := by
    rw [bl_split]
    have a1 : blA [some (.fr (.d T)), some (.fr (.d U)), none, none, none, none, none, none, none, none] cs = .nx [some (.fr (.d T)), some (.fr (.d U)), some (.fr (.d (.int 1))), some (.ow (.list [])), none, none, none, none, none, none] cs := rfl
    refine se_step a1 (se_step (s_for (p_seq rfl sq1) e1) ?_)
    refine se_step (s_for (p_seq rfl sq2) e2) ?_
    exact s_retV rfl
  rw [e__law_blurred]
  exact congrArg bodyR o
end
end LW
end
section
set_option Elab.async false
set_option linter.all false
set_option maxRecDepth 100000
set_option autoImplicit false
namespace LW
open PySem PySem.Spec PyProof.Rows L2 DL
/-! ### the purse made; the law's turns -/
theorem pw18 : powD (.int 10) (.int 18) = some (.int (10 ^ 18)) := by kernel_rfl
theorem pw38 : powD (.int 10) (.int 38) = some (.int (10 ^ 38)) := by kernel_rfl
theorem purse_ok (n : Nat) (ns : List Int) (k : Nat) (cs : Cs) (hk : k < 64) : ∃ x y : Int, sem (n + 1) ._law_purse [.lk (ns.map .int), .d (.int (k : Int))] cs = .ok (.ow (.list [.int x, .int y, .int 0])) cs ∧ 0 ≤ y ∧ y < 10 ^ 41 := by
  have p18 := pw18
  have p38 := pw38
  have a1 := addD_i (a := 10 ^ 38) (b := 177)
  have ln : lenB [.lk (ns.map PyData.int)] cs = .ok (.d (.int ((ns.map PyData.int).length : Nat))) cs := rfl
  have l2 : (ns.map PyData.int).length = ns.length := by simp
  rw [l2] at ln
  obtain ⟨c, hc⟩ : ∃ c : Int, (sSeq (sSet 2 (oFr (eC (.int 0)))) (sIf (tBool (eOp ltD (eVar 1) (eCall lenB (bCons (eVar 0) (aNil))))) (sSet 2 (oFr (eIx (eVar 0) (eVar 1)))) (sNil))) [some (.fr (.lk (ns.map .int))), some (.fr (.d (.int (k : Int)))), none] cs = .nx [some (.fr (.lk (ns.map .int))), some (.fr (.d (.int (k : Int)))), some (.fr (.d (.int c)))] cs := by
    by_cases h : k < ns.length
    · have a : atI (ns.map PyData.int) (k : Int) = some (.int ns[k]) := DL.atI_nat (by simp [h])
      have ix : ixD (.lk (ns.map PyData.int)) (.d (.int (k : Int))) cs = .ok (.d (.int ns[k])) cs := by simp [a]
      exact ⟨ns[k], se_step (s_set (o_fr rfl rfl) rfl) (s_ifb (t_b (v_op rfl (v_call (ev_bcons rfl v_nil) ln) (o_dd (lt_t (by omega))))) (cond_t (s_set (o_fr (v_ix rfl rfl ix) rfl) rfl)))⟩
    · exact ⟨0, se_step (s_set (o_fr rfl rfl) rfl) (s_ifb (t_b (v_op rfl (v_call (ev_bcons rfl v_nil) ln) (o_dd (lt_f (by omega))))) (cond_f s_nil))⟩
  have hp : (0 : Int) < 10 ^ 38 + 177 := by decide
  have y0 := Int.emod_nonneg c (b := 10 ^ 38 + 177) (by decide)
  have y1 := Int.emod_lt_of_pos c hp
  have md := modD_i (a := c) hp
  have sk : sz (k : Int) < 60 := sz_lt (by omega) (by omega) (by decide)
  have s1 : sz 1009 = 9 := by decide +kernel
  have m1 := mulD_sz (a := 1009) (b := (k : Int)) (by omega)
  have a2 := addD_i (a := c % (10 ^ 38 + 177)) (b := 1009 * (k : Int))
  have a3 := addD_i (a := c % (10 ^ 38 + 177) + 1009 * (k : Int)) (b := 5)
  have b1 := subD_i (a := c) (b := 10 ^ 18)
  refine ⟨max 0 (c - 10 ^ 18), c % (10 ^ 38 + 177) + 1009 * (k : Int) + 5, ?_, by omega, by omega⟩
  have o : s__law_purse (sem n) [some (.fr (.lk (ns.map .int))), some (.fr (.d (.int (k : Int)))), none] cs = .rt (.ow (.list [.int (max 0 (c - 10 ^ 18)), .int (c % (10 ^ 38 + 177) + 1009 * (k : Int) + 5), .int 0])) cs := by
    unfold s__law_purse
    rw [ev_seq] at hc ⊢
    have e1 : sSet 2 (oFr (eC (.int 0))) [some (.fr (.lk (ns.map .int))), some (.fr (.d (.int (k : Int)))), none] cs = .nx [some (.fr (.lk (ns.map .int))), some (.fr (.d (.int (k : Int)))), some (.fr (.d (.int 0)))] cs := rfl
    rw [e1, RS.seq_nx] at hc ⊢
    refine se_step hc ?_
    generalize (10 : Int) ^ 38 + 177 = K at *
    generalize (10 : Int) ^ 38 = T at *
    generalize (10 : Int) ^ 18 = U at *
    exact s_ret (v_olst (v_cons (v_call (ev_bcons rfl (ev_bcons (v_op rfl (v_op rfl rfl (o_dd p18)) (o_dd b1)) v_nil)) rfl) rfl (v_cons (v_op (v_op (v_op (v_call (ev_bcons rfl v_nil) rfl) (v_op (v_op rfl rfl (o_dd p38)) rfl (o_dd a1)) (o_dd md)) (v_op rfl rfl (o_dd m1)) (o_dd a2)) rfl (o_dd a3)) rfl (v_cons rfl rfl v_nil))) rfl)
  rw [e__law_purse]
  exact congrArg bodyR o
/-- the purse, good for q more -/
def BagQ (b : Nat) (cs : Cs) (q : Nat) : Prop := ∃ Z, BagAt b cs Z ∧ Z + q < ZB
theorem BagQ.mono {b q r : Nat} {cs : Cs} (h : BagQ b cs q) (l : r ≤ q) : BagQ b cs r := by
  obtain ⟨Z, B, hz⟩ := h
  exact ⟨Z, B, by omega⟩
theorem pull_q {n b q : Nat} {cs : Cs} {m : Int} (B : BagQ b cs (q + 1)) (h0 : 0 < m) (h1 : m < 2 ^ 200) : ∃ (r : Int) (cs' : Cs), sem (n + 1) ._law_pull [.cel b, .d (.int m)] cs = .ok (.fr (.d (.int r))) cs' ∧ 0 ≤ r ∧ r < m ∧ BagQ b cs' q := by
  obtain ⟨Z, B, hz⟩ := B
  obtain ⟨r, cs', e, r0, r1, B', _⟩ := pull_ok n b cs Z m B (by omega) h0 h1
  exact ⟨r, cs', e, r0, r1, Z + 1, B', by omega⟩
theorem pick_q {n b q : Nat} {cs : Cs} {xs : List PyData} (B : BagQ b cs (q + 1)) (h0 : 0 < xs.length) (h1 : xs.length ≤ 1000) : ∃ (x : PyData) (cs' : Cs), sem (n + 2) ._law_pick [.cel b, .d (.list xs)] cs = .ok (.fr (.d x)) cs' ∧ x ∈ xs ∧ BagQ b cs' q := by
  obtain ⟨Z, B, hz⟩ := B
  obtain ⟨x, cs', e, hx, B', _⟩ := pick_ok n b cs Z xs B (by omega) h0 h1
  exact ⟨x, cs', e, hx, Z + 1, B', by omega⟩
end LW
end
section
set_option Elab.async false
set_option linter.all false
set_option maxRecDepth 100000
set_option autoImplicit false
namespace LW
open PySem PySem.Spec PyProof.Rows L2 DL
def wtA (G : Fn → FS) : SS := sSet 3 (oLc (pRange1 (bCons (eVar 1) (aNil))) (gNm 4) (tTrue) (eFz (oDef (G ._law_pick) [] (aCons (eVar 0) (aCons (eLst (aCons (eC (.int 0)) (aCons (eC (.int 0)) (aCons (eC (.int 1)) (aCons (eC (.int 1)) (aCons (eC (.int 1)) (aCons (eC (.int 2)) (aCons (eC (.int 3)) (aCons (eOp addD (eC (.int 1)) (eFz (oDef (G ._law_pull) [] (aCons (eVar 0) (aCons (eC (.int 9)) (aNil)))))) (aNil)))))))))) (aNil))))) [4])
def wtB (G : Fn → FS) : SS := sIf (tTru (eVar 2)) (sSet 3 (oLc (pRange1 (bCons (eVar 1) (aNil))) (gNm 4) (tTrue) (eFz (oDef (G ._law_pull) [] (aCons (eVar 0) (aCons (eOp powD (eC (.int 10)) (eC (.int 58))) (aNil))))) [4])) (sNil)
def wtC (G : Fn → FS) : SS := sIf (tBool (eOp eqD (eCall sumB (bCons (eVar 3) (aNil))) (eC (.int 0)))) (sPut 3 (eC (.int 1)) (eFz (oDef (G ._law_pull) [] (aCons (eVar 0) (aCons (eVar 1) (aNil)))))) (sNil)
def wtD : SS := sRetV 3
theorem wt_split (G : Fn → FS) : s__law_weights G = sSeq (wtA G) (sSeq (wtB G) (sSeq (wtC G) wtD)) := rfl
def snA : SS := sSet 2 (oLst (aNil))
def snBi : SA := pSeq (eVar 1)
def snBb (G : Fn → FS) : SS := sSeq (sSet 4 (oFr (eOp addD (eC (.int 1)) (eFz (oDef (G ._law_pull) [] (aCons (eVar 0) (aCons (eC (.int 3)) (aNil)))))))) (sMeth 2 appAt (eCall tupleB (bCons (eFz (oLc (pSeq (eVar 3)) (gNm 5) (tTrue) (eTup (aCons (eOp mulD (eVar 5) (eVar 4)) (aCons (eOp mulD (eCall sumB (bCons (eVar 3) (aNil))) (eVar 4)) (aNil)))) [5])) (aNil))))
def snB (G : Fn → FS) : SS := sFor snBi (gNm 3) (snBb G)
def snC : SS := sRet (oFr (eCall tupleB (bCons (eVar 2) (aNil))))
theorem sn_split (G : Fn → FS) : s__law_shown G = sSeq snA (sSeq (snB G) snC) := rfl
def btA : SS := sSet 2 (oLst (aNil))
def btBi (G : Fn → FS) : SA := pRange1 (bCons (eOp addD (eC (.int 1)) (eFz (oDef (G ._law_pull) [] (aCons (eVar 0) (aCons (eC (.int 6)) (aNil)))))) (aNil))
def btBb (G : Fn → FS) : SS := sSeq (sSet 4 (oFr (eOp addD (eC (.int 1)) (eFz (oDef (G ._law_pull) [] (aCons (eVar 0) (aCons (eC (.int 2)) (aNil)))))))) (sMeth 2 appAt (eCall tupleB (bCons (eFz (oLc (pRange1 (bCons (eVar 1) (aNil))) (gNm 5) (tTrue) (eTup (aCons (eOp mulD (eOp subD (eFz (oDef (G ._law_pull) [] (aCons (eVar 0) (aCons (eC (.int 11)) (aNil))))) (eC (.int 5))) (eVar 4)) (aCons (eOp mulD (eOp addD (eC (.int 1)) (eFz (oDef (G ._law_pull) [] (aCons (eVar 0) (aCons (eC (.int 4)) (aNil)))))) (eVar 4)) (aNil)))) [5])) (aNil))))
def btB (G : Fn → FS) : SS := sFor (btBi G) (gNm 3) (btBb G)
def btC : SS := sRet (oFr (eCall tupleB (bCons (eVar 2) (aNil))))
theorem bt_split (G : Fn → FS) : s__law_bets G = sSeq btA (sSeq (btB G) btC) := rfl
/-! ### what is drawn -/
section
variable {b n c q i : Nat}
theorem lcd_aux {te : SE} {slB : Sl} {P : PyData → Prop} : ∀ (l : List Nat) (cs : Cs), BagQ b cs (q + l.length * c) → (∀ k ∈ l, ∀ cs q, BagQ b cs (q + c) → ∃ y cs', te (slB.set i (some (.fr (.d (.int (k : Int)))))) cs = .ok (.d y) cs' ∧ P y ∧ BagQ b cs' q) →
    ∃ ys cs', lcL (gNm i) tTrue te slB (l.map fun k : Nat => Val.d (.int (k : Int))) cs = .ok ys cs' ∧ ys.length = l.length ∧ (∀ y ∈ ys, P y) ∧ BagQ b cs' q
  | [], cs, B, _ => ⟨[], cs, rfl, rfl, by simp, by simpa using B⟩
  | k :: l, cs, B, h => by
    rw [List.length_cons, Nat.succ_mul] at B
    obtain ⟨y, cs1, e1, p1, B1⟩ := h k (by simp) cs (q + l.length * c) (B.mono (by omega))
    obtain ⟨ys, cs2, e2, l2, p2, B2⟩ := lcd_aux l cs1 B1 fun k hk => h k (by simp [hk])
    refine ⟨y :: ys, cs2, lc_step (s := slB.set i (some (.fr (.d (.int (k : Int)))))) rfl e1 e2, by simp [l2], fun z hz => ?_, B2⟩
    rcases List.mem_cons.mp hz with rfl | hz
    · exact p1
    · exact p2 z hz
theorem lc_draw {fa : SA} {te : SE} {vs : List Nat} {sl : Sl} {cs : Cs} {P : PyData → Prop} (h1 : fa sl cs = .ok [.d (.int (n : Int))] cs) (hn : n ≤ 1000) (B : BagQ b cs (q + n * c)) (h : ∀ k, k < n → ∀ cs q, BagQ b cs (q + c) → ∃ y cs', te ((blkSl sl vs).set i (some (.fr (.d (.int (k : Int)))))) cs = .ok (.d y) cs' ∧ P y ∧ BagQ b cs' q) :
    ∃ ys cs', oLc (pRange1 fa) (gNm i) tTrue te vs sl cs = .ok (.ow (.list ys)) cs' ∧ ys.length = n ∧ (∀ y ∈ ys, P y) ∧ BagQ b cs' q := by
  obtain ⟨ys, cs', e, l, p, B'⟩ := lcd_aux (i := i) (te := te) (slB := blkSl sl vs) (P := P) (List.range n) cs (by rw [List.length_range]; exact B) fun k hk => h k (List.mem_range.mp hk)
  rw [List.length_range] at l
  rw [← rangeL_tb] at e
  exact ⟨ys, cs', lc_ev (range_ev h1 (by omega)) (by rw [range_len]; omega) e, l, p, B'⟩
/-- a walk that draws and appends -/
theorem for_dapp {α γ : Type} {v : α → Val} {P : α → PyData → Prop} {g : Val → Sl → Option Sl} {body : SS} {mk : List PyData → γ → Sl} : ∀ (l : List α) (xs : List PyData) (x : γ) (cs : Cs), xs.length + l.length ≤ 1000 → BagQ b cs (q + l.length * c) →
    (∀ a ∈ l, ∀ xs x cs q, xs.length < 1000 → BagQ b cs (q + c) → ∃ sl1 x' y cs', g (v a) (mk xs x) = some sl1 ∧ body sl1 cs = .nx (mk (xs ++ [y]) x') cs' ∧ P a y ∧ BagQ b cs' q) →
    ∃ ys x' cs', forL g body (l.map v) (mk xs x) cs = .nx (mk (xs ++ ys) x') cs' ∧ Paired P l ys ∧ BagQ b cs' q
  | [], xs, x, cs, _, B, _ => ⟨[], x, cs, by rw [List.map_nil, List.append_nil]; rfl, .nil, by simpa using B⟩
  | a :: l, xs, x, cs, hl, B, h => by
    rw [List.length_cons] at hl
    rw [List.length_cons, Nat.succ_mul] at B
    obtain ⟨sl1, x1, y, cs1, h1, h2, h3, B1⟩ := h a (by simp) xs x cs (q + l.length * c) (by omega) (B.mono (by omega))
    obtain ⟨ys, x', cs', e, p, B2⟩ := for_dapp l (xs ++ [y]) x1 cs1 (by simp; omega) B1 fun b hb => h b (by simp [hb])
    refine ⟨y :: ys, x', cs', ?_, .cons h3 p, B2⟩
    rw [List.append_assoc] at e
    rw [List.map_cons]
    exact f_cons h1 h2 e
end
theorem paired_len {α β : Type} {R : α → β → Prop} {xs : List α} {ys : List β} (h : Paired R xs ys) : xs.length = ys.length := by
  induction h with
  | nil => rfl
  | cons _ _ ih => simp [ih]
/-- rows chosen for data -/
theorem tb_choose {α : Type} {e : α → PyData} {Q : α → Prop} (d : α) (hd : Q d) {ys : List PyData} (h : ∀ y ∈ ys, ∃ a, y = e a ∧ Q a) : ∃ f : Nat → α, ys = tb ys.length (fun k => e (f k)) ∧ ∀ k, Q (f k) := by
  have ch : ∀ k, ∃ a : α, Q a ∧ ∀ (hk : k < ys.length), ys[k] = e a := fun k => by
    by_cases hk : k < ys.length
    · obtain ⟨a, h1, h2⟩ := h ys[k] (List.getElem_mem hk)
      exact ⟨a, h2, fun _ => h1⟩
    · exact ⟨d, hd, fun z => absurd z hk⟩
  obtain ⟨f, hf⟩ := Classical.axiomOfChoice ch
  refine ⟨f, ?_, fun k => (hf k).1⟩
  refine List.ext_getElem (by simp) fun k h1 h2 => ?_
  rw [(hf k).2 h1]
  simp
theorem paired_range {P : Nat → PyData → Prop} : ∀ {n : Nat} {ys : List PyData}, Paired P (List.range n) ys → ∃ f : Nat → PyData, ys = tb n f ∧ ∀ k, k < n → P k (f k) := fun {n ys} h => by
  have hl := paired_len h
  rw [List.length_range] at hl
  refine ⟨fun k => ys.getD k .none, ?_, fun k hk => ?_⟩
  · rw [hl]
    exact tb_list _
  · have go : ∀ {xs : List Nat} {ys : List PyData}, Paired P xs ys → ∀ k (hk : k < xs.length), P xs[k] (ys.getD k .none) := by
      intro xs ys h
      induction h with
      | nil => intro k hk; simp at hk
      | cons h t ih =>
        intro k hk
        cases k with
        | zero => exact h
        | succ k => simpa using ih k (by simpa using hk)
    have := go h k (by rw [List.length_range]; exact hk)
    simpa using this
theorem s_puto {i : Nat} {fv fx : SE} {sl sl' : Sl} {cs cs1 cs2 : Cs} {ds : List PyData} {v : PyData} {k : Int} {j : Nat} (hs : sl[i]? = some (some (.ow (.list ds)))) (h1 : fv sl cs = .ok (.d v) cs1) (h2 : fx sl cs1 = .ok (.d (.int k)) cs2) (hj : ixN ds.length k = some j) (e : sl.set i (some (.ow (.list (ds.set j v)))) = sl') : sPut i fv fx sl cs = .nx sl' cs2 := by
  subst e
  have l1 : ∀ cs, lstAt i sl cs = some (ds.map Val.d) := fun cs => by
    unfold lstAt
    rw [hs]
  have l2 : setAt (ds.map Val.d) (.d (.int k)) (.d v) = some ((ds.set j v).map Val.d) := by
    unfold setAt
    rw [List.length_map]
    dsimp only
    rw [hj, List.map_set]
    rfl
  have l3 : lstPut i ((ds.set j v).map Val.d) sl cs2 = some (sl.set i (some (.ow (.list (ds.set j v)))), cs2) := by
    unfold lstPut
    rw [hs]
    simp only [ev_dats, Option.map_some]
  unfold sPut
  simp only [h1, R.go_ok, l1, h2, l2, put2, l3]
section
variable {b n m q N : Nat} {cs : Cs}
def wlim (g : Bool) : Nat := if g then 193 else 4
theorem pw58 : powD (.int 10) (.int 58) = some (.int (10 ^ 58)) := by kernel_rfl
theorem Bd_of {k : Nat} {a : Int} (h0 : 0 ≤ a) (h : a < 2 ^ k) : Bd k a := by
  unfold Bd
  have : ((a.natAbs : Nat) : Int) < ((2 ^ k : Nat) : Int) := by
    rw [Int.natAbs_of_nonneg h0]
    simpa using h
  exact Int.ofNat_lt.mp this
theorem SI_set {w : Nat → Int} : ∀ {m p : Nat}, p < m → (∀ j, j < m → 0 ≤ w j) → 0 < w p → 0 < SI m w
  | m + 1, p, hp, h0, hw => by
    rw [SI_succ]
    have a := SI_nonneg (n := m) (f := w) fun j hj => h0 j (by omega)
    by_cases e : p = m
    · subst e; omega
    · have := SI_set (m := m) (p := p) (by omega) (fun j hj => h0 j (by omega)) hw
      have := h0 m (by omega)
      omega
/-- what a line of weights is -/
structure Line (k m : Nat) (w : Nat → Int) : Prop where
  nn : ∀ j, 0 ≤ w j
  bd : ∀ j, Bd k (w j)
  pos : 0 < SI m w
theorem weights_ok {great : Bool} (B : BagQ b cs (q + (3 * m + 1))) (m1 : 1 ≤ m) (m6 : m ≤ 6) (hN : 4 ≤ N) : ∃ (w : Nat → Int) (cs' : Cs), sem N ._law_weights [.cel b, .d (.int (m : Int)), .d (.bool great)] cs = .ok (.ow (irow m w)) cs' ∧ Line (wlim great) m w ∧ BagQ b cs' q := by
  obtain ⟨N, rfl⟩ : ∃ n, N = n + 3 := ⟨N - 3, by omega⟩
  -- the small ones
  obtain ⟨ys, cs1, e1, hl1, p1, B1⟩ := lc_draw (b := b) (n := m) (c := 2) (q := q + (m + 1)) (i := 4) (fa := (bCons (eVar 1) (aNil))) (te := (eFz (oDef (sem (N + 2) ._law_pick) [] (aCons (eVar 0) (aCons (eLst (aCons (eC (.int 0)) (aCons (eC (.int 0)) (aCons (eC (.int 1)) (aCons (eC (.int 1)) (aCons (eC (.int 1)) (aCons (eC (.int 2)) (aCons (eC (.int 3)) (aCons (eOp addD (eC (.int 1)) (eFz (oDef (sem (N + 2) ._law_pull) [] (aCons (eVar 0) (aCons (eC (.int 9)) (aNil)))))) (aNil)))))))))) (aNil)))))) (vs := [4]) (sl := [some (.fr (.cel b)), some (.fr (.d (.int (m : Int)))), some (.fr (.d (.bool great))), none, none]) (cs := cs) (P := fun y => ∃ a : Int, y = .int a ∧ 0 ≤ a ∧ Bd 4 a) rfl (by omega) (B.mono (by omega)) (fun k hk cs q B => by
    obtain ⟨r, cs1, e, r0, r1, B1⟩ := pull_q (n := N + 1) (m := 9) (q := q + 1) B (by decide) (by decide)
    obtain ⟨x, cs2, e2, hx, B2⟩ := pick_q (n := N) (xs := [.int 0, .int 0, .int 1, .int 1, .int 1, .int 2, .int 3, .int (1 + r)]) B1 (by simp) (by simp)
    refine ⟨x, cs2, ?_, ?_, B2⟩
    · refine v_fz (o_def0 (v_cons (v := .cel b) rfl rfl (v_cons (v_lst (v_cons rfl rfl (v_cons rfl rfl (v_cons rfl rfl (v_cons rfl rfl (v_cons rfl rfl (v_cons rfl rfl (v_cons rfl rfl (v_cons (v_op rfl (v_fz (o_def0 (v_cons rfl rfl (v_cons rfl rfl v_nil)) e) rfl) (o_dd add_ev)) rfl v_nil)))))))) rfl) rfl v_nil)) e2) rfl
    · simp only [List.mem_cons, List.not_mem_nil, or_false] at hx
      rcases hx with h | h | h | h | h | h | h | h <;> exact ⟨_, h, by omega, Bd_of (by omega) (by omega)⟩)
  obtain ⟨w1, hw1, q1⟩ := tb_choose (e := PyData.int) (0 : Int) ⟨Int.le_refl _, by unfold Bd; decide⟩ p1
  rw [hl1] at hw1
  subst hw1
  -- the great ones
  have step2 : ∃ (w : Nat → Int) (cs2 : Cs), wtB (sem (N + 2)) [some (.fr (.cel b)), some (.fr (.d (.int (m : Int)))), some (.fr (.d (.bool great))), some (.ow (irow m w1)), none] cs1 = .nx [some (.fr (.cel b)), some (.fr (.d (.int (m : Int)))), some (.fr (.d (.bool great))), some (.ow (irow m w)), none] cs2 ∧ (∀ j, 0 ≤ w j ∧ Bd (wlim great) (w j)) ∧ BagQ b cs2 (q + 1) := by
    cases great with
    | false => exact ⟨w1, cs1, s_ifb (t_tru rfl rfl) (cond_f s_nil), q1, B1.mono (by omega)⟩
    | true =>
      have p58 := pw58
      obtain ⟨ys, cs2, e2, hl2, p2, B2⟩ := lc_draw (b := b) (n := m) (c := 1) (q := q + 1) (i := 4) (fa := (bCons (eVar 1) (aNil))) (te := (eFz (oDef (sem (N + 2) ._law_pull) [] (aCons (eVar 0) (aCons (eOp powD (eC (.int 10)) (eC (.int 58))) (aNil)))))) (vs := [4]) (sl := [some (.fr (.cel b)), some (.fr (.d (.int (m : Int)))), some (.fr (.d (.bool true))), some (.ow (irow m w1)), none]) (cs := cs1) (P := fun y => ∃ a : Int, y = .int a ∧ 0 ≤ a ∧ Bd 193 a) rfl (by omega) (B1.mono (by omega)) (fun k hk cs q B => by
        obtain ⟨r, cs1, e, r0, r1, B1⟩ := pull_q (n := N + 1) (m := 10 ^ 58) (q := q) B (by decide) (by decide)
        refine ⟨.int r, cs1, v_fz (o_def0 (v_cons (v := .cel b) rfl rfl (v_cons (v_op rfl rfl (o_dd p58)) rfl v_nil)) e) rfl, ⟨r, rfl, r0, Bd_of r0 (Int.lt_trans r1 (by decide))⟩, B1⟩)
      obtain ⟨w2, hw2, q2⟩ := tb_choose (e := PyData.int) (0 : Int) ⟨Int.le_refl _, by unfold Bd; decide⟩ p2
      rw [hl2] at hw2
      subst hw2
      exact ⟨w2, cs2, s_ifb (t_tru rfl rfl) (cond_t (s_set e2 rfl)), q2, B2⟩
  obtain ⟨w, cs2, e2, q2, B2⟩ := step2
  have sb : sumB [.br (irow m w)] cs2 = .ok (.d (.int (SI m w))) cs2 := sum_i
  have a1 : wtA (sem (N + 2)) [some (.fr (.cel b)), some (.fr (.d (.int (m : Int)))), some (.fr (.d (.bool great))), none, none] cs = .nx [some (.fr (.cel b)), some (.fr (.d (.int (m : Int)))), some (.fr (.d (.bool great))), some (.ow (irow m w1)), none] cs1 := s_set e1 rfl
  have s0 : 0 ≤ SI m w := SI_nonneg fun j _ => (q2 j).1
  by_cases hz : SI m w = 0
  · obtain ⟨r, cs3, e3, r0, r1, B3⟩ := pull_q (n := N + 1) (m := (m : Int)) (q := q) B2 (by omega) (by omega)
    obtain ⟨p, rfl⟩ := Int.eq_ofNat_of_zero_le r0
    have pm : p < m := by omega
    refine ⟨fun k => if k = p then 1 else w k, cs3, ?_, ⟨fun j => ?_, fun j => ?_, SI_set pm (fun j _ => ?_) (by simp)⟩, B3⟩
    · have pt : sPut 3 (eC (.int 1)) (eFz (oDef (sem (N + 2) ._law_pull) [] (aCons (eVar 0) (aCons (eVar 1) (aNil))))) [some (.fr (.cel b)), some (.fr (.d (.int (m : Int)))), some (.fr (.d (.bool great))), some (.ow (irow m w)), none] cs2 = .nx [some (.fr (.cel b)), some (.fr (.d (.int (m : Int)))), some (.fr (.d (.bool great))), some (.ow (irow m fun k => if k = p then 1 else w k)), none] cs3 := by
        refine s_puto (ds := tb m fun k => .int (w k)) (v := .int 1) (k := (p : Int)) (j := p) rfl rfl (v_fz (o_def0 (v_cons (v := .cel b) rfl rfl (v_cons rfl rfl v_nil)) e3) rfl) ?_ ?_
        · rw [tb_len]
          unfold ixN
          rw [if_pos (by omega), if_pos (by omega)]
          rfl
        · have es : (tb m fun k => PyData.int (w k)).set p (.int 1) = tb m fun k => PyData.int (if k = p then 1 else w k) := by
            refine List.ext_getElem (by simp) fun j h1 h2 => ?_
            rw [List.getElem_set]
            simp only [List.getElem_map, List.getElem_range]
            by_cases h : p = j
            · subst h; simp
            · rw [if_neg h, if_neg (fun z => h z.symm)]
          rw [es]
          rfl
      have e0 := eq_t (a := SI m w) (k := 0) hz
      have o : s__law_weights (sem (N + 2)) [some (.fr (.cel b)), some (.fr (.d (.int (m : Int)))), some (.fr (.d (.bool great))), none, none] cs = .rt (.ow (irow m fun k => if k = p then 1 else w k)) cs3 := by
        rw [wt_split]
        exact se_step a1 (se_step e2 (se_step (s_ifb (t_b (v_op (v_call (ev_bcons (DL.ev_own rfl) v_nil) sb) rfl (o_dd e0))) (cond_t pt)) (s_retV rfl)))
      rw [e__law_weights]
      exact congrArg bodyR o
    · split
      · decide
      · exact (q2 j).1
    · split
      · cases great <;> (unfold Bd wlim; decide)
      · exact (q2 j).2
    · split
      · decide
      · exact (q2 j).1
  · refine ⟨w, cs2, ?_, ⟨fun j => (q2 j).1, fun j => (q2 j).2, by omega⟩, B2.mono (by omega)⟩
    have e0 := eq_f (a := SI m w) (k := 0) hz
    have o : s__law_weights (sem (N + 2)) [some (.fr (.cel b)), some (.fr (.d (.int (m : Int)))), some (.fr (.d (.bool great))), none, none] cs = .rt (.ow (irow m w)) cs2 := by
      rw [wt_split]
      exact se_step a1 (se_step e2 (se_step (s_ifb (t_b (v_op (v_call (ev_bcons (DL.ev_own rfl) v_nil) sb) rfl (o_dd e0))) (cond_f s_nil)) (s_retV rfl)))
    rw [e__law_weights]
    exact congrArg bodyR o
theorem Line.ws {k n m : Nat} {W : Nat → Nat → Int} (h : ∀ i, Line k m (W i)) : Ws k (k + m) n m W :=
  ⟨fun i j => (h i).nn j, fun i _ => (h i).pos, fun i j _ _ => (h i).bd j, fun i _ => Bd.SI fun j _ => (h i).bd j⟩
theorem line_one {k m : Nat} (m1 : 1 ≤ m) (k1 : 1 ≤ k) : Line k m fun _ => 1 := ⟨fun _ => by decide, fun _ => by
    unfold Bd
    have : 2 ^ 1 ≤ 2 ^ k := Nat.pow_le_pow_right (by decide) k1
    simp
    omega, SI_set (p := 0) (by omega) (fun _ _ => by decide) (by decide)⟩
theorem sheet_ok {great : Bool} (B : BagQ b cs (q + n * (3 * m + 1))) (n6 : n ≤ 6) (m1 : 1 ≤ m) (m6 : m ≤ 6) (hN : 5 ≤ N) : ∃ (W : Nat → Nat → Int) (cs' : Cs), sem N ._law_sheet [.cel b, .d (.int (n : Int)), .d (.int (m : Int)), .d (.bool great)] cs = .ok (.ow (irows n m W)) cs' ∧ (∀ i, Line (wlim great) m (W i)) ∧ BagQ b cs' q := by
  obtain ⟨N, rfl⟩ : ∃ n, N = n + 1 := ⟨N - 1, by omega⟩
  obtain ⟨ys, cs1, e1, hl1, p1, B1⟩ := lc_draw (b := b) (n := n) (c := 3 * m + 1) (q := q) (i := 4) (fa := (bCons (eVar 1) (aNil))) (te := (eFz (oDef (sem N ._law_weights) [] (aCons (eVar 0) (aCons (eVar 2) (aCons (eVar 3) (aNil))))))) (vs := [4]) (sl := [some (.fr (.cel b)), some (.fr (.d (.int (n : Int)))), some (.fr (.d (.int (m : Int)))), some (.fr (.d (.bool great))), none]) (cs := cs) (P := fun y => ∃ w : Nat → Int, y = irow m w ∧ Line (wlim great) m w) rfl (by omega) B (fun k hk cs q B => by
    obtain ⟨w, cs1, e, L, B1⟩ := weights_ok (great := great) (N := N) B m1 m6 (by omega)
    exact ⟨irow m w, cs1, v_fz (o_def0 (v_cons (v := .cel b) rfl rfl (v_cons rfl rfl (v_cons rfl rfl v_nil))) e) rfl, ⟨w, rfl, L⟩, B1⟩)
  obtain ⟨W, hW, q1⟩ := tb_choose (e := irow m) (fun _ : Nat => (1 : Int)) (line_one m1 (by cases great <;> decide)) p1
  rw [hl1] at hW
  subst hW
  refine ⟨W, cs1, ?_, q1, B1⟩
  rw [e__law_sheet]
  have o : s__law_sheet (sem N) [some (.fr (.cel b)), some (.fr (.d (.int (n : Int)))), some (.fr (.d (.int (m : Int)))), some (.fr (.d (.bool great))), none] cs = .rt (.ow (irows n m W)) cs1 := s_ret e1
  exact congrArg bodyR o
/-- the rows of weights, shown as fractions -/
structure Shown (k n m : Nat) (W : Nat → Nat → Int) (F : FrM) : Prop where
  fr : ∀ i j, i < n → j < m → FrOk k (F i j)
  val : ∀ i j, i < n → j < m → fv (F i j) = (W i j : Rat) / (SI m (W i) : Rat)
theorem fld3 {x y z : Rat} (h1 : x ≠ 0) (h2 : y ≠ 0) : (z * y) / (x * y) = z / x := by grind
theorem shown_ok {k : Nat} {W : Nat → Nat → Int} (hW : ∀ i, Line k m (W i)) (k2 : k ≤ 4000) (B : BagQ b cs (q + n)) (n6 : n ≤ 6) (m6 : m ≤ 6) (hN : 2 ≤ N) : ∃ (F : FrM) (cs' : Cs), sem N ._law_shown [.cel b, .d (irows n m W)] cs = okD (frows n m F) cs' ∧ Shown (k + m + 2) n m W F ∧ BagQ b cs' q := by
  obtain ⟨N, rfl⟩ : ∃ n, N = n + 2 := ⟨N - 2, by omega⟩
  obtain ⟨ys, x', cs1, e1, p1, B1⟩ := for_dapp (b := b) (c := 1) (q := q) (v := fun i : Nat => Val.d (irow m (W i))) (P := fun i y => ∃ F : Nat → Fr, y = frow m F ∧ ∀ j, j < m → FrOk (k + m + 2) (F j) ∧ fv (F j) = (W i j : Rat) / (SI m (W i) : Rat)) (g := gNm 3) (body := snBb (sem (N + 1))) (mk := fun xs (x : Option DL.Slot × Option DL.Slot) => [some (.fr (.cel b)), some (.fr (.d (irows n m W))), some (.ow (.list xs)), x.1, x.2, none]) (List.range n) [] (none, none) cs (by simp; omega) (by rw [List.length_range, Nat.mul_one]; exact B) (fun i hi xs x cs q hx B => by
    obtain ⟨r, cs1, e, r0, r1, B1⟩ := pull_q (n := N) (m := 3) (q := q) B (by decide) (by decide)
    have sp := (hW i).pos
    have dp : 0 < SI m (W i) * (1 + r) := Int.mul_pos sp (by omega)
    have sb : Bd (k + m) (SI m (W i)) := Bd.SI fun j _ => (hW i).bd j
    have rb : Bd 2 (1 + r) := Bd_of (by omega) (by omega)
    refine ⟨_, (some (.fr (.d (irow m (W i)))), some (.fr (.d (.int (1 + r))))), frow m fun j => (W i j * (1 + r), (SI m (W i) * (1 + r)).toNat), cs1, rfl, ?_, ⟨_, rfl, fun j hj => ⟨⟨?_, ?_, ?_⟩, ?_⟩⟩, B1⟩
    · unfold snBb
      have m1 := fun j => mul_ev ((hW i).bd j) rb (by omega)
      have m2 := mul_ev sb rb (by omega)
      refine se_step (s_set (o_fr (v_op rfl (v_fz (o_def0 (v_cons (v := .cel b) rfl rfl (v_cons rfl rfl v_nil)) e) rfl) (o_dd add_ev)) rfl) rfl) ?_
      refine s_app (ds := xs) (v := frow m fun j => (W i j * (1 + r), (SI m (W i) * (1 + r)).toNat)) rfl (v_call (ev_bcons (v_fz (lc_t (n := m) (e := fun j => .int (W i j)) (f := fun j => frD (W i j * (1 + r), (SI m (W i) * (1 + r)).toNat)) (v := .d (irow m (W i))) rfl rfl (by omega) fun j hj => ?_) rfl) v_nil) rfl) (by omega) rfl
      refine v_tup (v_cons (v_op rfl rfl (o_dd (m1 j))) rfl (v_cons (v_op (v_call (ev_bcons rfl v_nil) sum_i) rfl (o_dd m2)) rfl v_nil)) ?_
      have et : ((SI m (W i) * (1 + r)).toNat : Int) = SI m (W i) * (1 + r) := Int.toNat_of_nonneg (by omega)
      unfold frD
      dsimp only
      rw [et]
      rfl
    · show 0 < (SI m (W i) * (1 + r)).toNat
      omega
    · exact (((hW i).bd j).mul rb).mono (by omega)
    · show Bd (k + m + 2) (((SI m (W i) * (1 + r)).toNat : Nat) : Int)
      rw [Int.toNat_of_nonneg (by omega)]
      exact sb.mul rb
    · rw [fv_div]
      have et : (((SI m (W i) * (1 + r)).toNat : Nat) : Rat) = ((SI m (W i) * (1 + r) : Int) : Rat) := by
        rw [← Rat.intCast_natCast, Int.toNat_of_nonneg (by omega)]
      show ((W i j * (1 + r) : Int) : Rat) / (((SI m (W i) * (1 + r)).toNat : Nat) : Rat) = _
      rw [et, Rat.intCast_mul, Rat.intCast_mul]
      have h1 := q_ne sp
      have h2 := q_ne (show 0 < 1 + r by omega)
      exact fld3 h1 h2)
  obtain ⟨f, hf, pf⟩ := paired_range p1
  have ch : ∀ i, ∃ F : Nat → Fr, i < n → f i = frow m F ∧ ∀ j, j < m → FrOk (k + m + 2) (F j) ∧ fv (F j) = (W i j : Rat) / (SI m (W i) : Rat) := fun i => by
    by_cases hi : i < n
    · obtain ⟨F, h1, h2⟩ := pf i hi
      exact ⟨F, fun _ => ⟨h1, h2⟩⟩
    · exact ⟨fun _ => (0, 1), fun z => absurd z hi⟩
  obtain ⟨F, hF⟩ := Classical.axiomOfChoice ch
  have ef : tb n f = tb n fun i => frow m (F i) := tb_congr fun i hi => (hF i hi).1
  rw [hf, ef, List.nil_append] at e1
  refine ⟨F, cs1, ?_, ⟨fun i j hi hj => ((hF i hi).2 j hj).1, fun i j hi hj => ((hF i hi).2 j hj).2⟩, B1⟩
  have sq : seqV (.d (irows n m W)) cs = .ok ((List.range n).map fun i : Nat => Val.d (irow m (W i))) cs := by
    show R.ok ((tb n fun k => irow m (W k)).map Val.d) cs = _
    rw [tb_map]
  have o : s__law_shown (sem (N + 1)) [some (.fr (.cel b)), some (.fr (.d (irows n m W))), none, none, none, none] cs = .rt (.fr (.d (frows n m F))) cs1 := by
    rw [sn_split]
    exact se_step (s_set (v_olst v_nil (mk_o dats_nil (by decide))) rfl) (se_step (s_for (p_seq rfl sq) e1) (s_ret (o_fr (v_call (ev_bcons (DL.ev_own rfl) v_nil) rfl) rfl)))
  rw [e__law_shown]
  exact congrArg bodyR o
theorem shown_line_ok {k : Nat} {w : Nat → Int} (hw : Line k n w) (k2 : k ≤ 4000) (B : BagQ b cs (q + 1)) (n6 : n ≤ 6) (hN : 3 ≤ N) : ∃ (L : Nat → Fr) (cs' : Cs), sem N ._law_shown_line [.cel b, .d (irow n w)] cs = okD (frow n L) cs' ∧ (∀ i, i < n → FrOk (k + n + 2) (L i) ∧ fv (L i) = (w i : Rat) / (SI n w : Rat)) ∧ BagQ b cs' q := by
  obtain ⟨N, rfl⟩ : ∃ n, N = n + 1 := ⟨N - 1, by omega⟩
  obtain ⟨F, cs1, e, S, B1⟩ := shown_ok (n := 1) (W := fun _ => w) (fun _ => hw) k2 B (by decide) n6 (N := N) (by omega)
  refine ⟨F 0, cs1, ?_, fun i hi => ⟨S.fr 0 i (by decide) hi, S.val 0 i (by decide) hi⟩, B1⟩
  have x0 : ixD (.d (frows 1 n F)) (.d (.int 0)) cs1 = .ok (.d (frow n (F 0))) cs1 := x_t (tb_at (k := 0) (by omega))
  have o : s__law_shown_line (sem N) [some (.fr (.cel b)), some (.fr (.d (irow n w)))] cs = .rt (.fr (.d (frow n (F 0)))) cs1 := by
    unfold s__law_shown_line
    exact s_ret (o_fr (v_ix (v_fz (o_def0 (v_cons (v := .cel b) rfl rfl (v_cons (v_lst (v_cons rfl rfl v_nil) rfl) rfl v_nil)) e) rfl) rfl x0) rfl)
  rw [e__law_shown_line]
  exact congrArg bodyR o
end
end LW
end
section
set_option Elab.async false
set_option linter.all false
set_option maxRecDepth 100000
set_option autoImplicit false
namespace LW
open PySem PySem.Spec PyProof.Rows L2 DL
/-! ### how long a text repr makes -/
structure Sh (x : PyData) (k : Nat) : Prop where
  ok : x.showable = true
  len : x.shown.length ≤ k
  so : PyData.strOk x.shown = true
structure ShL (xs : List PyData) (k : Nat) : Prop where
  ok : PyData.showableAll xs = true
  len : (xs.map fun x => x.shown.length).sum + 2 * xs.length ≤ k
  so : ∀ x ∈ xs, PyData.strOk x.shown = true
theorem Sh.mono {x : PyData} {j k : Nat} (h : Sh x j) (q : j ≤ k) : Sh x k := ⟨h.ok, Nat.le_trans h.len q, h.so⟩
theorem ShL.mono {x : List PyData} {j k : Nat} (h : ShL x j) (q : j ≤ k) : ShL x k := ⟨h.ok, Nat.le_trans h.len q, h.so⟩
theorem ShL.nil : ShL [] 0 := ⟨rfl, Nat.le_refl _, by simp⟩
theorem ShL.cons {x : PyData} {xs : List PyData} {j k : Nat} (h : Sh x j) (t : ShL xs k) : ShL (x :: xs) (j + 2 + k) := by
  refine ⟨by simp [PyData.showableAll, h.ok, t.ok], ?_, fun y hy => ?_⟩
  · have := h.len
    have := t.len
    simp only [List.map_cons, List.sum_cons, List.length_cons]
    omega
  · rcases List.mem_cons.mp hy with rfl | hy
    · exact h.so
    · exact t.so y hy
theorem ShL.map {α : Type} {f : α → PyData} {k : Nat} : ∀ {l : List α}, (∀ a ∈ l, Sh (f a) k) → ShL (l.map f) (l.length * (k + 2))
  | [], _ => ShL.nil.mono (by simp)
  | a :: l, h => (ShL.cons (h a (by simp)) (ShL.map fun b hb => h b (by simp [hb]))).mono (by
    rw [List.length_cons, Nat.add_mul, Nat.one_mul]; omega)
theorem so_app {a b : PySem.Str} (ha : PyData.strOk a = true) (hb : PyData.strOk b = true) : PyData.strOk (a ++ b) = true := by
  unfold PyData.strOk at *
  show (a.cps ++ b.cps).all _ = true
  rw [Array.all_append, ha, hb]
  rfl
theorem so_join : ∀ {ts : List PySem.Str}, (∀ t ∈ ts, PyData.strOk t = true) → PyData.strOk (Str.join ", " ts) = true
  | [], _ => by decide +kernel
  | [x], h => h x (by simp)
  | x :: y :: r, h => by
    show PyData.strOk (x ++ ", " ++ Str.join ", " (y :: r)) = true
    exact so_app (so_app (h x (by simp)) (by decide +kernel)) (so_join fun t ht => h t (by simp [ht]))
theorem shownAll_map : ∀ xs : List PyData, PyData.shownAll xs = xs.map PyData.shown
  | [] => rfl
  | x :: xs => by simp only [PyData.shownAll, List.map_cons, shownAll_map xs]
theorem ShL.tup {xs : List PyData} {k : Nat} (h : ShL xs k) : Sh (.tuple xs) (k + 3) := by
  refine ⟨by simp only [PyData.showable]; exact h.ok, ?_, ?_⟩
  · simp only [PyData.shown]
    have := tupleText_len_le (PyData.shownAll xs)
    have l := h.len
    rw [shownAll_map, List.length_map, List.map_map] at this
    rw [shownAll_map]
    have e : ((fun x : PySem.Str => x.length) ∘ PyData.shown) = fun x : PyData => x.shown.length := rfl
    rw [e] at this
    omega
  · simp only [PyData.shown]
    unfold tupleText
    rw [shownAll_map]
    refine so_app (so_app (by decide +kernel) (so_join fun t ht => ?_)) ?_
    · obtain ⟨x, hx, rfl⟩ := List.mem_map.mp ht
      exact h.so x hx
    · split <;> decide +kernel
/-- repr of what is compared -/
theorem rep_ev {x : PyData} {k j : Nat} (hs : isSq x = true) (F : Fit x j) (hj : j ≤ 150) (S : Sh x k) (hk : k ≤ 16777216) (cs : Cs) : reprW [.d x] cs = .ok (.d (.str x.shown)) cs := by
  have ok : repOk x = true := by
    unfold repOk
    have h1 := F.dp
    have h2 := S.len
    simp only [hs, F.lay, S.ok, Bool.and_eq_true, decide_eq_true_eq, true_and]
    omega
  cases x with
  | list xs =>
    show (if repOk (.list xs) = true then R.ok (Val.d (.str (PyData.list xs).shown)) cs else .bad) = _
    rw [if_pos ok]
  | tuple xs =>
    show (if repOk (.tuple xs) = true then R.ok (Val.d (.str (PyData.tuple xs).shown)) cs else .bad) = _
    rw [if_pos ok]
  | _ => cases hs
theorem rep_w {w : PySem.Str} (h : (reprText w).length ≤ 16777216) (cs : Cs) : reprW [.d (.str w)] cs = .ok (.d (.str (reprText w))) cs := if_pos h
theorem rep_ne {x : PyData} {k : Nat} (S : Sh x k) : neD (.str x.shown) (.str x.shown) = some (.bool false) := ne_self (Fit.str (k := 0) S.so) (by decide)
/-! numbers, written -/
theorem digits_le {n k : Nat} (h : n < 2 ^ k) (hk : 0 < k) : (Nat.toDigits 10 n).length ≤ k := (Nat.length_toDigits_le_iff (by decide) hk).mpr (Nat.lt_of_lt_of_le h (Nat.pow_le_pow_left (by decide) k))
theorem so_of (x : String) : PyData.strOk (x : PySem.Str) = true := by
  unfold PyData.strOk
  rw [PySem.Str.ofString_eq_toList, List.all_toArray, List.all_map, List.all_eq_true]
  intro c _
  have : c.toNat < 0x110000 := by
    rcases c.valid with h | h
    · exact Nat.lt_trans h (by decide)
    · exact h.2
  exact decide_eq_true this
theorem len_of (x : String) : (x : PySem.Str).length = x.toList.length := by
  rw [PySem.Str.ofString_eq_toList]
  unfold PySem.Str.length
  simp
theorem int_len {i : Int} {k : Nat} (h : i.natAbs < 2 ^ k) (h0 : 0 < k) : (toString i : String).toList.length ≤ k + 1 := by
  cases i with
  | ofNat n =>
    have e : (toString (Int.ofNat n) : String) = n.repr := rfl
    rw [e, Nat.toList_repr]
    exact Nat.le_succ_of_le (digits_le h h0)
  | negSucc n =>
    have e : (toString (Int.negSucc n) : String) = "-" ++ (n + 1).repr := rfl
    rw [e, String.toList_append, List.length_append, Nat.toList_repr]
    have := digits_le (n := n + 1) h h0
    have : "-".toList.length = 1 := by decide
    omega
theorem Sh.int {i : Int} {k : Nat} (h : i.natAbs < 2 ^ k) (h0 : 0 < k) (hk : k < 1920) : Sh (.int i) (k + 1) := by
  refine ⟨?_, ?_, ?_⟩
  · have : i.natAbs.log2 < 1920 := by
      by_cases e : i.natAbs = 0
      · rw [e]; decide
      · exact Nat.lt_trans ((Nat.log2_lt e).mpr h) hk
    simp only [PyData.showable, decide_eq_true_eq]
    exact this
  · show ((toString i : String) : PySem.Str).length ≤ k + 1
    rw [len_of]
    exact int_len h h0
  · exact so_of (toString i)
end LW
end
section
set_option Elab.async false
set_option linter.all false
set_option maxRecDepth 100000
set_option autoImplicit false
namespace LW
open PySem PySem.Spec PyProof.Rows L2 DL
/-! ### games, drawn -/
def gbit (g : Bool) (i : Nat) : Nat := if g = true ∧ i = 0 then 197 else 4
theorem gbit_le (g : Bool) (i : Nat) : gbit g i ≤ 197 := by unfold gbit; split <;> decide
theorem gbit_f (i : Nat) : gbit false i = 4 := by unfold gbit; simp
/-- a game by the bits of its places -/
def GameB (bit : Nat → Nat) (a n : Nat) (G : FrM) : Prop := ∀ t i, t < a → i < n → FrOk (bit i) (G t i)
theorem GameB.f {bit : Nat → Nat} {a n k : Nat} {G : FrM} (h : GameB bit a n G) (hk : ∀ i, bit i ≤ k) : GameF k a n G := ⟨fun t i ht hi => (h t i ht hi).mono (hk i)⟩
theorem pw59 : powD (.int 10) (.int 59) = some (.int (10 ^ 59)) := by kernel_rfl
theorem pw30 : powD (.int 10) (.int 30) = some (.int (10 ^ 30)) := by kernel_rfl
theorem Bd_abs {k : Nat} {a : Int} (h0 : -(2 ^ k) < a) (h : a < 2 ^ k) : Bd k a := by
  unfold Bd
  have : ((a.natAbs : Nat) : Int) < ((2 ^ k : Nat) : Int) := by
    have e : ((2 ^ k : Nat) : Int) = 2 ^ k := by simp
    rw [e]
    omega
  exact Int.ofNat_lt.mp this
theorem frD_mk {a d : Int} (h : 0 < d) : PyData.tuple [.int a, .int d] = frD (a, d.toNat) := by
  unfold frD
  dsimp only
  rw [Int.toNat_of_nonneg (by omega)]
theorem cut_tail {x : PyData} {l : List PyData} : DL.cut (x :: l) (some 1) none = l := by
  unfold DL.cut HT.sIx
  simp
section
variable {b n q N : Nat} {cs : Cs}
theorem bets_ok (B : BagQ b cs (q + (1 + 6 * (1 + n * 2)))) (n6 : n ≤ 6) (hN : 3 ≤ N) : ∃ (a : Nat) (G : FrM) (cs' : Cs), sem N ._law_bets [.cel b, .d (.int (n : Int))] cs = okD (frows a n G) cs' ∧ 1 ≤ a ∧ a ≤ 6 ∧ GameB (fun _ => 4) a n G ∧ BagQ b cs' q := by
  obtain ⟨N, rfl⟩ : ∃ n, N = n + 2 := ⟨N - 2, by omega⟩
  obtain ⟨r, cs0, e0, r0, r1, B0⟩ := pull_q (n := N) (m := 6) (q := q + 6 * (1 + n * 2)) (B.mono (by omega)) (by decide) (by decide)
  obtain ⟨a, ha⟩ : ∃ a : Nat, 1 + r = (a : Int) := ⟨(1 + r).toNat, by omega⟩
  have a6 : a ≤ 6 := by omega
  have bq : q + a * (1 + n * 2) ≤ q + 6 * (1 + n * 2) := Nat.add_le_add_left (Nat.mul_le_mul_right _ a6) q
  obtain ⟨ys, x', cs1, e1, p1, B1⟩ := for_dapp (b := b) (c := 1 + n * 2) (q := q) (v := fun i : Nat => Val.d (.int (i : Int))) (P := fun _ y => ∃ F : Nat → Fr, y = frow n F ∧ ∀ j, j < n → FrOk 4 (F j)) (g := gNm 3) (body := btBb (sem (N + 1))) (mk := fun xs (x : Option DL.Slot × Option DL.Slot) => [some (.fr (.cel b)), some (.fr (.d (.int (n : Int)))), some (.ow (.list xs)), x.1, x.2, none]) (List.range a) [] (none, none) cs0 (by simp; omega) (by rw [List.length_range]; exact B0.mono bq) (fun i hi xs x cs q hx B => by
    obtain ⟨r, cs1, e, r0, r1, B1⟩ := pull_q (n := N) (m := 2) (q := q + n * 2) (B.mono (by omega)) (by decide) (by decide)
    obtain ⟨ys, cs2, e2, hl2, p2, B2⟩ := lc_draw (b := b) (n := n) (c := 2) (q := q) (i := 5) (fa := (bCons (eVar 1) (aNil))) (te := (eTup (aCons (eOp mulD (eOp subD (eFz (oDef (sem (N + 1) ._law_pull) [] (aCons (eVar 0) (aCons (eC (.int 11)) (aNil))))) (eC (.int 5))) (eVar 4)) (aCons (eOp mulD (eOp addD (eC (.int 1)) (eFz (oDef (sem (N + 1) ._law_pull) [] (aCons (eVar 0) (aCons (eC (.int 4)) (aNil)))))) (eVar 4)) (aNil))))) (vs := [5]) (sl := [some (.fr (.cel b)), some (.fr (.d (.int (n : Int)))), some (.ow (.list xs)), some (.fr (.d (.int (i : Int)))), some (.fr (.d (.int (1 + r)))), none]) (cs := cs1) (P := fun y => ∃ f : Fr, y = frD f ∧ FrOk 4 f) rfl (by omega) B1 (fun k hk cs q B => by
      obtain ⟨u, cs1, e1, u0, u1, B1⟩ := pull_q (n := N) (m := 11) (q := q + 1) B (by decide) (by decide)
      obtain ⟨w, cs2, e2, w0, w1, B2⟩ := pull_q (n := N) (m := 4) (q := q) B1 (by decide) (by decide)
      have rr : r = 0 ∨ r = 1 := by omega
      have n1 : -(2 ^ 4) < (u - 5) * (1 + r) ∧ (u - 5) * (1 + r) < 2 ^ 4 := by rcases rr with rfl | rfl <;> omega
      have d1 : 0 < (1 + w) * (1 + r) ∧ (1 + w) * (1 + r) < 2 ^ 4 := by rcases rr with rfl | rfl <;> omega
      have b5 : Bd 4 (u - 5) := Bd_abs (by omega) (by omega)
      have b6 : Bd 4 (1 + r) := Bd_abs (by omega) (by omega)
      have b7 : Bd 4 (1 + w) := Bd_abs (by omega) (by omega)
      have m1 := mul_ev b5 b6 (by decide)
      have m2 := mul_ev b7 b6 (by decide)
      refine ⟨_, cs2, v_tup (v_cons (v_op (v_op (v_fz (o_def0 (v_cons (v := .cel b) rfl rfl (v_cons rfl rfl v_nil)) e1) rfl) rfl (o_dd sub_ev)) rfl (o_dd m1)) rfl (v_cons (v_op (v_op rfl (v_fz (o_def0 (v_cons (v := .cel b) rfl rfl (v_cons rfl rfl v_nil)) e2) rfl) (o_dd add_ev)) rfl (o_dd m2)) rfl v_nil)) rfl, ⟨_, frD_mk d1.1, ⟨?_, Bd_abs n1.1 n1.2, ?_⟩⟩, B2⟩
      · show 0 < ((1 + w) * (1 + r)).toNat
        omega
      · show Bd 4 ((((1 + w) * (1 + r)).toNat : Nat) : Int)
        rw [Int.toNat_of_nonneg (by omega)]
        exact Bd_of (by omega) d1.2)
    obtain ⟨F, hF, qF⟩ := tb_choose (e := frD) ((0, 1) : Fr) ⟨by decide, by unfold Bd; decide, by unfold Bd; decide⟩ p2
    rw [hl2] at hF
    subst hF
    refine ⟨_, (some (.fr (.d (.int (i : Int)))), some (.fr (.d (.int (1 + r))))), frow n F, cs2, rfl, ?_, ⟨F, rfl, fun j _ => qF j⟩, B2⟩
    unfold btBb
    refine se_step (s_set (o_fr (v_op rfl (v_fz (o_def0 (v_cons (v := .cel b) rfl rfl (v_cons rfl rfl v_nil)) e) rfl) (o_dd add_ev)) rfl) rfl) ?_
    exact s_app (ds := xs) rfl (v_call (ev_bcons (v_fz e2 rfl) v_nil) rfl) (by omega) rfl)
  obtain ⟨f, hf, pf⟩ := paired_range p1
  have ch : ∀ t, ∃ F : Nat → Fr, t < a → f t = frow n F ∧ ∀ j, j < n → FrOk 4 (F j) := fun t => by
    by_cases ht : t < a
    · obtain ⟨F, h1, h2⟩ := pf t ht
      exact ⟨F, fun _ => ⟨h1, h2⟩⟩
    · exact ⟨fun _ => (0, 1), fun z => absurd z ht⟩
  obtain ⟨G, hG⟩ := Classical.axiomOfChoice ch
  have ef : tb a f = tb a fun t => frow n (G t) := tb_congr fun t ht => (hG t ht).1
  rw [hf, ef, List.nil_append] at e1
  refine ⟨a, G, cs1, ?_, by omega, a6, fun t i ht hi => (hG t ht).2 i hi, B1⟩
  have ad : addD (.int 1) (.int r) = some (.int (a : Int)) := by rw [add_ev, ha]
  have rg : pRange1 (bCons (eOp addD (eC (.int 1)) (eFz (oDef (sem (N + 1) ._law_pull) [] (aCons (eVar 0) (aCons (eC (.int 6)) (aNil)))))) (aNil)) [some (.fr (.cel b)), some (.fr (.d (.int (n : Int)))), some (.ow (.list [])), none, none, none] cs = .ok ((List.range a).map fun k : Nat => Val.d (PyData.int (k : Int))) cs0 := by
    rw [← rangeL_tb]
    exact range_ev (ev_bcons (v_op rfl (v_fz (o_def0 (v_cons (v := .cel b) rfl rfl (v_cons rfl rfl v_nil)) e0) rfl) (o_dd ad)) v_nil) (by omega)
  have o : s__law_bets (sem (N + 1)) [some (.fr (.cel b)), some (.fr (.d (.int (n : Int)))), none, none, none, none] cs = .rt (.fr (.d (frows a n G))) cs1 := by
    rw [bt_split]
    exact se_step (s_set (v_olst v_nil (mk_o dats_nil (by decide))) rfl) (se_step (s_for rg e1) (s_ret (o_fr (v_call (ev_bcons (DL.ev_own rfl) v_nil) rfl) rfl)))
  rw [e__law_bets]
  exact congrArg bodyR o
end
end LW
end
section
set_option Elab.async false
set_option linter.all false
set_option maxRecDepth 100000
set_option autoImplicit false
namespace LW
open PySem PySem.Spec PyProof.Rows L2 DL
/-! ### how long what is shown is -/
section
variable {k n m a : Nat} {q : Rat} {cs : Cs}
theorem qD_sh (h : Bq k q) (h0 : 0 < k) (hk : k < 1920) : Sh (qD q) (2 * k + 9) :=
  (ShL.cons (Sh.int h.1 h0 hk) (ShL.cons (Sh.int h.2 h0 hk) ShL.nil)).tup.mono (by omega)
theorem qrow_sh {p : Nat → Rat} (h : ∀ i, i < n → Bq k (p i)) (h0 : 0 < k) (hk : k < 1920) : Sh (qrow n p) (n * (2 * k + 11) + 3) := by
  have e := ShL.map (f := fun i => qD (p i)) (l := List.range n) (k := 2 * k + 9) fun i hi => qD_sh (h i (List.mem_range.mp hi)) h0 hk
  rw [List.length_range] at e
  exact e.tup
theorem qrows_sh {A : Mat} (h : BqM k n m A) (h0 : 0 < k) (hk : k < 1920) (n6 : n ≤ 6) (m6 : m ≤ 6) : Sh (qrows n m A) 200000 := by
  have e := ShL.map (f := fun i => qrow m (A i)) (l := List.range n) (k := 6 * 3851 + 3) fun i hi => (qrow_sh (fun j hj => h i j (List.mem_range.mp hi) hj) h0 hk).mono (Nat.add_le_add_right (Nat.mul_le_mul m6 (by omega)) 3)
  rw [List.length_range] at e
  refine e.tup.mono ?_
  have := Nat.mul_le_mul_right (6 * 3851 + 3 + 2) n6
  omega
theorem qD_fit1 (q : Rat) : Fit (qD q) 1 := FitL.tup (k := 0) (FitL.cons Fit.int (FitL.cons Fit.int FitL.nil))
theorem qrows_fit (n m : Nat) (A : Mat) : Fit (qrows n m A) 3 := FitL.tup (k := 2) (FitL.map fun i _ => FitL.tup (k := 1) (FitL.map fun j _ => qD_fit1 (A i j)))
theorem rep_qrows {A : Mat} (h : BqM k n m A) (h0 : 0 < k) (hk : k < 1920) (n6 : n ≤ 6) (m6 : m ≤ 6) (cs : Cs) : reprW [.d (qrows n m A)] cs = .ok (.d (.str (qrows n m A).shown)) cs :=
  rep_ev rfl (qrows_fit n m A) (by decide) (qrows_sh h h0 hk n6 m6) (by decide) cs
theorem rep_qD (h : Bq k q) (h0 : 0 < k) (hk : k < 1920) (cs : Cs) : reprW [.d (qD q)] cs = .ok (.d (.str (qD q).shown)) cs :=
  rep_ev rfl (qD_fit1 q) (by decide) (qD_sh h h0 hk) (by omega) cs
end
/-! ### how great what the news are worth is: parts of one whole -/
/-- q is some D-th parts -/
def isI (D : Int) (q : Rat) : Prop := ∃ a : Int, q * (D : Rat) = (a : Rat)
theorem isI.mul {D E : Int} {p q : Rat} (h : isI D p) (g : isI E q) : isI (D * E) (p * q) := by
  obtain ⟨a, ha⟩ := h
  obtain ⟨b, hb⟩ := g
  refine ⟨a * b, ?_⟩
  rw [Rat.intCast_mul, Rat.intCast_mul, ← ha, ← hb]
  grind
theorem isI.dvd {D E : Int} {q : Rat} (h : isI D q) (d : D ∣ E) : isI E q := by
  obtain ⟨a, ha⟩ := h
  obtain ⟨c, rfl⟩ := d
  refine ⟨a * c, ?_⟩
  rw [Rat.intCast_mul, Rat.intCast_mul, ← ha]
  grind
theorem isI.S {D : Int} {n : Nat} {f : Nat → Rat} (h : ∀ i, i < n → isI D (f i)) : isI D (LW.S n f) := by
  have ch : ∀ i, ∃ a : Int, i < n → f i * (D : Rat) = (a : Rat) := fun i => by
    by_cases hi : i < n
    · obtain ⟨a, ha⟩ := h i hi
      exact ⟨a, fun _ => ha⟩
    · exact ⟨0, fun z => absurd z hi⟩
  obtain ⟨a, ha⟩ := Classical.axiomOfChoice ch
  refine ⟨SI n a, ?_⟩
  rw [← S_mulR, SI_q]
  exact S_congr fun i hi => ha i hi
theorem isI_frac {x d : Int} (h : 0 < d) : isI d ((x : Rat) / (d : Rat)) := ⟨x, by
  have := q_ne h
  grind⟩
theorem isI_fr {f : Fr} (h : 0 < f.2) : isI (f.2 : Int) (fv f) := ⟨f.1, by
  have := nq h
  rw [fv_div, Rat.intCast_natCast]
  grind⟩
/-- parts of a whole that is not too great, and no great number: few figures -/
theorem isI.bq {D : Int} {q C : Rat} {k g : Nat} (h : isI D q) (D0 : 0 < D) (bD : Bd k D) (h1 : -((2 ^ g : Int) : Rat) ≤ q) (h2 : q ≤ ((2 ^ g : Int) : Rat)) : Bq (k + g + 1) q := by
  obtain ⟨a, ha⟩ := h
  obtain ⟨d, rfl⟩ := Int.eq_ofNat_of_zero_le (Int.le_of_lt D0)
  have d0 : 0 < d := by omega
  have dq : (0 : Rat) ≤ ((d : Int) : Rat) := Rat.le_of_lt (Rat.intCast_pos.mpr D0)
  have e : q = mkRat a d := by
    rw [Rat.mkRat_eq_div, ← ha, Rat.intCast_natCast]
    exact (Rat.mul_div_cancel (nq d0)).symm
  have u : a ≤ 2 ^ g * (d : Int) := by
    have := Rat.mul_le_mul_of_nonneg_right h2 dq
    rw [ha, ← Rat.intCast_mul] at this
    exact Rat.intCast_le_intCast.mp this
  have l : -(2 ^ g * (d : Int)) ≤ a := by
    have := Rat.mul_le_mul_of_nonneg_right h1 dq
    rw [ha, Rat.neg_mul, ← Rat.intCast_mul, ← Rat.intCast_neg] at this
    exact Rat.intCast_le_intCast.mp this
  rw [e]
  refine Bq.mk d0 ?_ (bD.mono (by omega))
  have pb : Bd (g + 1) (2 ^ g) := by
    have z : ((2 : Int) ^ g).natAbs = 2 ^ g := by rw [Int.natAbs_pow]; rfl
    unfold Bd
    rw [z, Nat.pow_succ]
    have := Nat.two_pow_pos g
    omega
  exact ((pb.mul bD).mono (k := k + g + 1) (by omega)).le (by omega)
/-! products of some -/
def PI : Nat → (Nat → Int) → Int
  | 0, _ => 1
  | n + 1, f => PI n f * f n
def SN : Nat → (Nat → Nat) → Nat
  | 0, _ => 0
  | n + 1, f => SN n f + f n
theorem PI_ok {f : Nat → Int} {b : Nat → Nat} : ∀ (n : Nat), (∀ i, i < n → 0 < f i ∧ Bd (b i) (f i)) → 0 < PI n f ∧ (∀ i, i < n → f i ∣ PI n f) ∧ Bd (1 + SN n b) (PI n f)
  | 0, _ => ⟨by show (0 : Int) < 1; decide, fun i hi => absurd hi (by omega), by show (1 : Int).natAbs < 2 ^ (1 + 0); decide⟩
  | n + 1, h => by
    obtain ⟨h1, h2, h3⟩ := PI_ok n fun i hi => h i (by omega)
    obtain ⟨f0, fb⟩ := h n (by omega)
    refine ⟨Int.mul_pos h1 f0, fun i hi => ?_, ?_⟩
    · by_cases e : i = n
      · subst e; exact Int.dvd_mul_left _ _
      · exact Int.dvd_trans (h2 i (by omega)) (Int.dvd_mul_right _ _)
    · show Bd (1 + (SN n b + b n)) (PI n f * f n)
      rw [← Nat.add_assoc]
      exact h3.mul fb
theorem SN_le {b : Nat → Nat} {c : Nat} : ∀ (n : Nat), (∀ i, i < n → b i ≤ c) → SN n b ≤ n * c
  | 0, _ => Nat.zero_le _
  | n + 1, h => by
    have := SN_le n fun i hi => h i (by omega)
    have := h n (by omega)
    show SN n b + b n ≤ _
    rw [Nat.succ_mul]
    omega
section
variable {n m a k t : Nat} {A G : Mat} {L : Nat → Rat}
theorem fold_abs {C : Rat} {x y z : Rat} (h0 : 0 ≤ x) (h1 : 0 ≤ y) (l : -C ≤ z) (u : z ≤ C) : -C * (x * y) ≤ x * y * z ∧ x * y * z ≤ C * (x * y) := by
  have p := Rat.mul_nonneg h0 h1
  refine ⟨?_, ?_⟩
  · have := Rat.mul_le_mul_of_nonneg_left l p
    rw [Rat.mul_comm (-C)]
    exact this
  · have := Rat.mul_le_mul_of_nonneg_left u p
    rw [Rat.mul_comm C]
    exact this
theorem S_two (n m : Nat) (h : ∀ i, i < n → LW.S m (A i) = 1) (h1 : LW.S n L = 1) : (LW.S m fun j => LW.S n fun i => L i * A i j) = 1 := by
  rw [S_comm, ← h1]
  exact S_congr fun i hi => by rw [S_mulL, h i hi, Rat.mul_one]
theorem worth_abs {C : Rat} (a1 : 0 < a) (hA : ∀ i j, i < n → j < m → 0 ≤ A i j) (hA1 : ∀ i, i < n → LW.S m (A i) = 1) (hL : ∀ i, i < n → 0 ≤ L i) (hL1 : LW.S n L = 1) (hG : ∀ t i, t < a → i < n → -C ≤ G t i ∧ G t i ≤ C) : -C ≤ worthM n m a A L G ∧ worthM n m a A L G ≤ C := by
  have s := S_two (A := A) (L := L) n m hA1 hL1
  have lo : (LW.S m fun j => LW.S n fun i => -C * (L i * A i j)) = -C := by
    have : (LW.S m fun j => LW.S n fun i => -C * (L i * A i j)) = LW.S m fun j => -C * LW.S n fun i => L i * A i j := S_congr fun j _ => S_mulL _ _ _
    rw [this, S_mulL, s, Rat.mul_one]
  have hi : (LW.S m fun j => LW.S n fun i => C * (L i * A i j)) = C := by
    have : (LW.S m fun j => LW.S n fun i => C * (L i * A i j)) = LW.S m fun j => C * LW.S n fun i => L i * A i j := S_congr fun j _ => S_mulL _ _ _
    rw [this, S_mulL, s, Rat.mul_one]
  unfold worthM
  refine ⟨?_, ?_⟩
  · rw [← lo]
    refine S_le m fun j hj => Rat.le_trans (S_le n fun i hi => ?_) (MX_ge (f := fun t => LW.S n fun i => L i * A i j * G t i) a1)
    have h := hG 0 i a1 hi
    have := (fold_abs (hL i hi) (hA i j hi hj) h.1 h.2).1
    exact this
  · have e : LW.S m (fun j => MX a fun t => LW.S n fun i => L i * A i j * G t i) ≤ LW.S m fun j => LW.S n fun i => C * (L i * A i j) := by
      refine S_le m fun j hj => ?_
      obtain ⟨t, ht, e⟩ := MX_at (f := fun t => LW.S n fun i => L i * A i j * G t i) a1
      rw [e]
      refine S_le n fun i hi => ?_
      have h := hG t i ht hi
      exact (fold_abs (hL i hi) (hA i j hi hj) h.1 h.2).2
    rw [hi] at e
    exact e
/-- what news are worth, in parts -/
theorem worth_parts {DL : Int} {DS : Nat → Int} {DG : Nat → Nat → Int} {bL bS : Nat} {bG : Nat → Nat} (a1 : 0 < a) (hL : ∀ i, i < n → isI DL (L i)) (hA : ∀ i j, i < n → j < m → isI (DS i) (A i j)) (hG : ∀ t i, t < a → i < n → isI (DG t i) (G t i))
    (pL : 0 < DL ∧ Bd bL DL) (pS : ∀ i, i < n → 0 < DS i ∧ Bd bS (DS i)) (pG : ∀ t i, t < a → i < n → 0 < DG t i ∧ Bd (bG i) (DG t i)) : ∃ D : Int, isI D (worthM n m a A L G) ∧ 0 < D ∧ Bd (bL + (1 + n * bS) + (1 + m * (1 + SN n bG))) D := by
  have ch : ∀ j, ∃ t, t < a ∧ (MX a fun t => LW.S n fun i => L i * A i j * G t i) = LW.S n fun i => L i * A i j * G t i := fun j => MX_at (f := fun t => LW.S n fun i => L i * A i j * G t i) a1
  obtain ⟨t, ht⟩ := Classical.axiomOfChoice ch
  obtain ⟨s1, s2, s3⟩ := PI_ok (f := DS) (b := fun _ => bS) n pS
  have gg : ∀ j, 0 < PI n (DG (t j)) ∧ (∀ i, i < n → DG (t j) i ∣ PI n (DG (t j))) ∧ Bd (1 + SN n bG) (PI n (DG (t j))) := fun j => PI_ok n fun i hi => pG (t j) i (ht j).1 hi
  obtain ⟨g1, g2, g3⟩ := PI_ok (f := fun j => PI n (DG (t j))) (b := fun _ => 1 + SN n bG) m fun j _ => ⟨(gg j).1, (gg j).2.2⟩
  refine ⟨DL * PI n DS * PI m (fun j => PI n (DG (t j))), ?_, Int.mul_pos (Int.mul_pos pL.1 s1) g1, ?_⟩
  · unfold worthM
    refine isI.S fun j hj => ?_
    rw [(ht j).2]
    refine isI.S fun i hi => ?_
    have h := ((hL i hi).mul (hA i j hi hj)).mul (hG (t j) i (ht j).1 hi)
    refine h.dvd (Int.mul_dvd_mul (Int.mul_dvd_mul (Int.dvd_refl _) (s2 i hi)) (Int.dvd_trans ((gg j).2.1 i hi) (g2 j hj)))
  · refine ((pL.2.mul s3).mul g3).mono ?_
    have h1 := SN_le (b := fun _ => bS) n fun _ _ => Nat.le_refl _
    have h2 := SN_le (b := fun _ => 1 + SN n bG) m fun _ _ => Nat.le_refl _
    omega
end
end LW
end
section
set_option Elab.async false
set_option linter.all false
set_option maxRecDepth 100000
set_option autoImplicit false
namespace LW
open PySem PySem.Spec PyProof.Rows L2 DL
/-! ### noisy, news_worth -/
section
variable {N n m a k j : Nat} {cs : Cs}
theorem noisy_ok {F G : FrM} {l : Nat} (hF : NewsF k n m F) (hG : NewsF j m l G) (hk1 : 6 * (k + 1) + 1 ≤ 8000) (hk2 : 6 * (j + 1) + 1 ≤ 8000) (hk : 6 * (k + j + 1) + 1 ≤ 8000) (n1 : 1 ≤ n) (n6 : n ≤ 6) (m1 : 1 ≤ m) (m6 : m ≤ 6) (l1 : 1 ≤ l) (l6 : l ≤ 6) (hN : 9 ≤ N) (cs : Cs) :
    sem N .noisy [.d (frows n m F), .d (frows m l G)] cs = okD (qrows n l (prodM m (fun i j => fv (F i j)) (fun i j => fv (G i j)))) cs := by
  obtain ⟨N, rfl⟩ : ∃ n, N = n + 1 := ⟨N - 1, by omega⟩
  have c1 := need_news_ok hF hk1 n1 n6 m1 m6 (N := N) (by omega) cs
  have c2 := news_or_none_ok hG hk2 m1 m6 l1 l6 (N := N) (by omega) cs
  have c3 := product_ok (N := N) (fun i q hi hq => (hF.fr i q hi hq).q) (fun i q hi hq => (hG.fr i q hi hq).q) (by omega) (by omega) hk n6 m1 m6 l6 (by omega) cs
  have iN : isD (qrows m l fun i j => fv (G i j)) .none = some (.bool false) := rfl
  have ln : lenB [.d (qrows m l fun i j => fv (G i j))] cs = .ok (.d (.int (m : Int))) cs := len_t (tb_len _)
  have x0 : ixD (.d (qrows n m fun i j => fv (F i j))) (.d (.int 0)) cs = .ok (.d (qrow m fun j => fv (F 0 j))) cs := x_t (tb_at (k := 0) (by omega))
  have l0 : lenB [.d (qrow m fun j => fv (F 0 j))] cs = .ok (.d (.int (m : Int))) cs := len_t (tb_len _)
  have ne := ne_f (a := (m : Int)) (k := (m : Int)) rfl
  generalize qrows n l (prodM m (fun i j => fv (F i j)) (fun i j => fv (G i j))) = R at *
  generalize qrows m l (fun i j => fv (G i j)) = T2 at *
  generalize qrows n m (fun i j => fv (F i j)) = T1 at *
  generalize frows n m F = A1 at *
  generalize frows m l G = A2 at *
  generalize (qrow m fun j => fv (F 0 j)) = Q0 at *
  have o : s_noisy (sem N) [some (.fr (.d A1)), some (.fr (.d A2)), none, none] cs = .rt (.fr (.d R)) cs := by
    unfold s_noisy
    refine se_step (s_par (v := .d T1) (w := .d T2) (v_cons (v_fz (o_def0 (v_cons rfl rfl v_nil) c1) rfl) rfl (v_cons (v_fz (o_def0 (v_cons rfl rfl v_nil) c2) rfl) rfl v_nil)) rfl) ?_
    refine se_step (s_ifb (t_orb (t_b (v_op rfl rfl (o_dd iN))) (cond_f (t_b (v_op (v_call (ev_bcons rfl v_nil) ln) (v_call (ev_bcons (v_ix rfl rfl x0) v_nil) l0) (o_dd ne))))) (cond_f s_nil)) ?_
    exact s_ret (o_def0 (v_cons rfl rfl (v_cons rfl rfl v_nil)) c3)
  rw [e_noisy]
  exact congrArg bodyR o
theorem need_game_of_ok {G : Mat} (a1 : 1 ≤ a) (hN : 1 ≤ N) (cs : Cs) : sem N .need_game_of [.d (qrows a n G), .d (.int (n : Int))] cs = okD .none cs := by
  obtain ⟨N, rfl⟩ : ∃ n, N = n + 1 := ⟨N - 1, by omega⟩
  have x0 : ixD (.d (qrows a n G)) (.d (.int 0)) cs = .ok (.d (qrow n (G 0))) cs := x_t (tb_at (k := 0) (by omega))
  have l0 : lenB [.d (qrow n (G 0))] cs = .ok (.d (.int (n : Int))) cs := len_t (tb_len _)
  have ne := ne_f (a := (n : Int)) (k := (n : Int)) rfl
  have o : s_need_game_of (sem N) [some (.fr (.d (qrows a n G))), some (.fr (.d (.int (n : Int))))] cs = .nx [some (.fr (.d (qrows a n G))), some (.fr (.d (.int (n : Int))))] cs := by
    unfold s_need_game_of
    exact s_ifb (t_b (v_op (v_call (ev_bcons (v_ix rfl rfl x0) v_nil) l0) rfl (o_dd ne))) (cond_f s_nil)
  rw [e_need_game_of]
  exact congrArg bodyR o
theorem need_leaning_ok {L : Nat → Fr} (h : LeanF k n L) (hk : 6 * (k + 1) + 1 ≤ 8000) (n1 : 1 ≤ n) (n6 : n ≤ 6) (hN : 8 ≤ N) (cs : Cs) : sem N .need_leaning [.d (frow n L)] cs = okD (qrow n fun i => fv (L i)) cs := by
  obtain ⟨N, rfl⟩ : ∃ n, N = n + 2 := ⟨N - 2, by omega⟩
  have bnd : n * (k + 1) + 1 ≤ 8000 := Nat.le_trans (Nat.add_le_add_right (Nat.mul_le_mul_right _ n6) 1) hk
  have fr : sem N .is_fractions [.d (frow n L)] cs = okB true cs := is_fractions_ok (fun i hi => (h.fr i hi).1) (by omega) (by omega) (by omega) cs
  have lw : ∀ M, 3 ≤ M → sem M .lowered [.d (frow n L)] cs = okD (qrow n fun i => fv (L i)) cs := fun M hM => lowered_ok (fun i hi => (h.fr i hi).mono (by omega)) (by omega) hM cs
  have sh := is_shared_ok (N := N) (n := n) (q := fun i => fv (L i)) (k := k) (fun i hi => (h.fr i hi).q) h.nn h.one (by omega) bnd (by omega) (by omega) cs
  have lw1 := lw N (by omega)
  have lw2 := lw (N + 1) (by omega)
  have il : sem (N + 1) .is_leaning [.d (frow n L)] cs = okB true cs := by
    have o : s_is_leaning (sem N) [some (.fr (.d (frow n L)))] cs = .rt (.fr (.d (.bool true))) cs := by
      unfold s_is_leaning
      exact s_ret (o_fr (v_andb (v_fz (o_def0 (v_cons rfl rfl v_nil) fr) rfl) (cond_t (v_fz (o_def0 (v_cons (v_fz (o_def0 (v_cons rfl rfl v_nil) lw1) rfl) rfl v_nil) sh) rfl))) rfl)
    rw [e_is_leaning]
    exact congrArg bodyR o
  have o : s_need_leaning (sem (N + 1)) [some (.fr (.d (frow n L)))] cs = .rt (.fr (.d (qrow n fun i => fv (L i)))) cs := by
    unfold s_need_leaning
    exact se_step (s_ifb (t_not (t_tru (v_fz (o_def0 (v_cons rfl rfl v_nil) il) rfl) rfl) rfl) (cond_f s_nil)) (s_ret (o_def0 (v_cons rfl rfl v_nil) lw2))
  rw [e_need_leaning]
  exact congrArg bodyR o
theorem news_worth_ok {F G : FrM} {L : Nat → Fr} {g : Nat} (hF : NewsF k n m F) (hL : LeanF j n L) (hG : GameF g a n G) (kj : j + k ≤ 1300) (g4 : g ≤ 4000) (n1 : 1 ≤ n) (n6 : n ≤ 6) (m1 : 1 ≤ m) (m6 : m ≤ 6) (a1 : 1 ≤ a) (a6 : a ≤ 6) (hk : m * (n * (j + k + g + 1) + 1 + 1) + 1 ≤ 8000) (hk' : n * (j + k + g + 1) + 1 ≤ 8000) (hN : 9 ≤ N) (cs : Cs) :
    sem N .news_worth [.d (frows n m F), .d (frow n L), .d (frows a n G)] cs = okD (qD (worthM n m a (fun i j => fv (F i j)) (fun i => fv (L i)) (fun t i => fv (G t i)))) cs := by
  obtain ⟨N, rfl⟩ : ∃ n, N = n + 1 := ⟨N - 1, by omega⟩
  have c1 := need_news_ok hF (by omega) n1 n6 m1 m6 (N := N) (by omega) cs
  have c2 := need_leaning_ok hL (by omega) n1 n6 (N := N) (by omega) cs
  have c3 := need_game_ok hG (by omega) a1 a6 n1 n6 (N := N) (by omega) cs
  have c4 := need_game_of_ok (N := N) (n := n) (G := fun t i => fv (G t i)) a1 (by omega) cs
  have c5 := worth_ok (N := N) (fun i q hi hq => (hF.fr i q hi hq).q) (fun i hi => (hL.fr i hi).q) (fun t i ht hi => (hG.fr t i ht hi).q) (by omega) (by omega) (by omega) g4 n1 n6 m6 a1 a6 hk hk' (by omega) cs
  have l1 : lenB [.d (qrow n fun i => fv (L i))] cs = .ok (.d (.int (n : Int))) cs := len_t (tb_len _)
  have l2 : lenB [.d (qrows n m fun i j => fv (F i j))] cs = .ok (.d (.int (n : Int))) cs := len_t (tb_len _)
  have ne := ne_f (a := (n : Int)) (k := (n : Int)) rfl
  generalize worthM n m a (fun i j => fv (F i j)) (fun i => fv (L i)) (fun t i => fv (G t i)) = R at *
  generalize qrows n m (fun i j => fv (F i j)) = T1 at *
  generalize (qrow n fun i => fv (L i)) = T2 at *
  generalize qrows a n (fun t i => fv (G t i)) = T3 at *
  generalize frows n m F = A1 at *
  generalize frow n L = A2 at *
  generalize frows a n G = A3 at *
  have o : s_news_worth (sem N) [some (.fr (.d A1)), some (.fr (.d A2)), some (.fr (.d A3)), none, none, none] cs = .rt (.fr (.d (qD R))) cs := by
    unfold s_news_worth
    have p : sPar3 3 4 5 (aCons (eFz (oDef (sem N .need_news) [] (aCons (eVar 0) (aNil)))) (aCons (eFz (oDef (sem N .need_leaning) [] (aCons (eVar 1) (aNil)))) (aCons (eFz (oDef (sem N .need_game) [] (aCons (eVar 2) (aNil)))) (aNil)))) [some (.fr (.d A1)), some (.fr (.d A2)), some (.fr (.d A3)), none, none, none] cs = .nx [some (.fr (.d A1)), some (.fr (.d A2)), some (.fr (.d A3)), some (.fr (.d T1)), some (.fr (.d T2)), some (.fr (.d T3))] cs := by
      unfold sPar3
      rw [show (aCons (eFz (oDef (sem N .need_news) [] (aCons (eVar 0) (aNil)))) (aCons (eFz (oDef (sem N .need_leaning) [] (aCons (eVar 1) (aNil)))) (aCons (eFz (oDef (sem N .need_game) [] (aCons (eVar 2) (aNil)))) (aNil)))) [some (.fr (.d A1)), some (.fr (.d A2)), some (.fr (.d A3)), none, none, none] cs = .ok [.d T1, .d T2, .d T3] cs from v_cons (v_fz (o_def0 (v_cons rfl rfl v_nil) c1) rfl) rfl (v_cons (v_fz (o_def0 (v_cons rfl rfl v_nil) c2) rfl) rfl (v_cons (v_fz (o_def0 (v_cons rfl rfl v_nil) c3) rfl) rfl v_nil))]
      rfl
    refine se_step p (se_step (s_ifb (t_b (v_op (v_call (ev_bcons rfl v_nil) l1) (v_call (ev_bcons rfl v_nil) l2) (o_dd ne))) (cond_f s_nil)) ?_)
    exact se_step (s_expr (v_fz (o_def0 (v_cons rfl rfl (v_cons (v_call (ev_bcons rfl v_nil) l2) rfl v_nil)) c4) rfl)) (s_ret (o_def0 (v_cons rfl rfl (v_cons rfl rfl (v_cons rfl rfl v_nil))) c5))
  rw [e_news_worth]
  exact congrArg bodyR o
end
end LW
end
section
set_option Elab.async false
set_option linter.all false
set_option maxRecDepth 100000
set_option autoImplicit false
namespace LW
open PySem PySem.Spec PyProof.Rows L2 DL
def wbA : SS := sSet 1 (oFr (eC (.int 1)))
def wbBi : SA := pSeq (eVar 0)
def wbBb (G : Fn → FS) : SS := sFor (pSeq (eVar 2)) (gNm 3) (sSet 1 (oFr (eOp mulD (eOp divD (eVar 1) (eFz (oDef (G ._law_divisor) [] (aCons (eVar 1) (aCons (eIx (eVar 3) (eC (.int 1))) (aNil)))))) (eIx (eVar 3) (eC (.int 1))))))
def wbB (G : Fn → FS) : SS := sFor wbBi (gNm 2) (wbBb G)
def wbC : SS := sRet (oFr (eTup (aCons (eFz (oLc (pSeq (eVar 0)) (gNm 2) (tTrue) (eFz (oLc (pSeq (eVar 2)) (gNm 3) (tTrue) (eOp mulD (eIx (eVar 3) (eC (.int 0))) (eOp divD (eVar 1) (eIx (eVar 3) (eC (.int 1))))) [3])) [2])) (aCons (eVar 1) (aNil)))))
theorem wb_split (G : Fn → FS) : s__law_whole_bets G = sSeq wbA (sSeq (wbB G) wbC) := rfl
def lwA (G : Fn → FS) : SS := sAsg (gTp (gsCons (gNm 3) (gsCons (gNm 4) (gsNil)))) (eFz (oDef (G ._law_whole_bets) [] (aCons (eVar 2) (aNil))))
def lwB : SS := sAsg (gTp (gsCons (gNm 5) (gsCons (gNm 6) (gsNil)))) (eTup (aCons (eC (.int 1)) (aCons (eC (.int 0)) (aNil))))
def lwCi : SA := pSeq (eVar 0)
def lwCb (G : Fn → FS) : SS := sSet 5 (oFr (eOp mulD (eOp divD (eVar 5) (eFz (oDef (G ._law_divisor) [] (aCons (eVar 5) (aCons (eCall sumB (bCons (eVar 7) (aNil))) (aNil)))))) (eCall sumB (bCons (eVar 7) (aNil)))))
def lwC (G : Fn → FS) : SS := sFor lwCi (gNm 7) (lwCb G)
def lwDi : SA := pRange1 (bCons (eCall lenB (bCons (eIx (eVar 0) (eC (.int 0))) (aNil))) (aNil))
def lwDb : SS := sSeq (sSet 9 (oLc (pZip (bCons (eVar 1) (bCons (eVar 0) (aNil)))) (gTp (gsCons (gNm 10) (gsCons (gNm 7) (gsNil)))) (tTrue) (eOp mulD (eOp mulD (eVar 10) (eIx (eVar 7) (eVar 8))) (eOp divD (eVar 5) (eCall sumB (bCons (eVar 7) (aNil))))) [10, 7])) (sSeq (sFz 9) (sSet 6 (oFr (eOp addD (eVar 6) (eCall maxB (bCons (eFz (oLc (pSeq (eVar 3)) (gNm 11) (tTrue) (eCall sumB (bCons (eFz (oLc (pZip (bCons (eVar 9) (bCons (eVar 11) (aNil)))) (gTp (gsCons (gNm 10) (gsCons (gNm 12) (gsNil)))) (tTrue) (eOp mulD (eVar 10) (eVar 12)) [10, 12])) (aNil))) [11])) (aNil)))))))
def lwD : SS := sFor lwDi (gNm 8) lwDb
def lwE (G : Fn → FS) : SS := sRet (oDef (G ._law_low) [] (aCons (eVar 6) (aCons (eOp mulD (eOp mulD (eVar 5) (eVar 4)) (eCall sumB (bCons (eVar 1) (aNil)))) (aNil))))
theorem lw_split (G : Fn → FS) : s__law_worth G = sSeq (lwA G) (sSeq lwB (sSeq (lwC G) (sSeq lwD (lwE G)))) := rfl
/-! ### what news are worth, by the law's own integers -/
def lcmR (n : Nat) (D : Nat → Int) (s : Int) : Int := (List.range n).foldl (fun s i => lcmS s (D i)) s
theorem lcm_fold2 {n q : Nat} {D : Nat → Nat → Int} : ∀ (l : List Nat) (s : Int) (k : Nat), 0 < s → Bd k s → (∀ t ∈ l, ∀ i, i < n → 0 < D t i ∧ Bd q (D t i)) →
    0 < l.foldl (fun s t => lcmR n (D t) s) s ∧ s ∣ l.foldl (fun s t => lcmR n (D t) s) s ∧ (∀ t ∈ l, ∀ i, i < n → D t i ∣ l.foldl (fun s t => lcmR n (D t) s) s) ∧ Bd (k + l.length * (n * q)) (l.foldl (fun s t => lcmR n (D t) s) s)
  | [], s, k, h, b, _ => ⟨h, Int.dvd_refl _, by simp, by simpa using b⟩
  | t :: l, s, k, h, b, hd => by
    have a := lcm_fold (T := D t) (t := q) (List.range n) s k h b fun i hi => hd t (by simp) i (List.mem_range.mp hi)
    rw [List.length_range] at a
    obtain ⟨a1, a2, a3, a4⟩ := a
    obtain ⟨r1, r2, r3, r4⟩ := lcm_fold2 l (lcmR n (D t) s) (k + n * q) a1 a4 fun u hu => hd u (by simp [hu])
    refine ⟨r1, Int.dvd_trans a2 r2, fun u hu i hi => ?_, ?_⟩
    · rcases List.mem_cons.mp hu with rfl | hu
      · exact Int.dvd_trans (a3 i (List.mem_range.mpr hi)) r2
      · exact r3 u hu i hi
    · rw [List.length_cons, Nat.succ_mul]
      have e : k + (l.length * (n * q) + n * q) = k + n * q + l.length * (n * q) := by omega
      rw [e]
      exact r4
def denM (G : FrM) (t i : Nat) : Int := ((G t i).2 : Int)
def scG (a n : Nat) (G : FrM) : Int := (List.range a).foldl (fun s t => lcmR n (denM G t) s) 1
def gz (a n : Nat) (G : FrM) (t i : Nat) : Int := (G t i).1 * (scG a n G / denM G t i)
section
variable {N n m a k g : Nat} {cs : Cs} {G : FrM}
theorem scG_ok (hG : GameF g a n G) : 0 < scG a n G ∧ (∀ t i, t < a → i < n → denM G t i ∣ scG a n G) ∧ Bd (1 + a * (n * g)) (scG a n G) := by
  have h := lcm_fold2 (n := n) (q := g) (D := denM G) (List.range a) 1 1 (by decide) (by unfold Bd; decide) fun t ht i hi => ⟨by
    have := (hG.fr t i (List.mem_range.mp ht) hi).1
    unfold denM
    omega, (hG.fr t i (List.mem_range.mp ht) hi).2.2⟩
  rw [List.length_range] at h
  exact ⟨h.1, fun t i ht hi => h.2.2.1 t (List.mem_range.mpr ht) i hi, h.2.2.2⟩
theorem gz_q (hG : GameF g a n G) {t i : Nat} (ht : t < a) (hi : i < n) : (gz a n G t i : Rat) = fv (G t i) * (scG a n G : Rat) := by
  obtain ⟨s0, s1, _⟩ := scG_ok hG
  have d0 : 0 < denM G t i := by
    have := (hG.fr t i ht hi).1
    unfold denM
    omega
  unfold gz
  rw [Rat.intCast_mul, q_div (s1 t i ht hi) d0, fv_div]
  have e : ((denM G t i : Int) : Rat) = ((G t i).2 : Rat) := rfl
  rw [e]
  have := nq (hG.fr t i ht hi).1
  generalize ((G t i).2 : Rat) = d at *
  generalize ((G t i).1 : Rat) = x at *
  grind
theorem whole_bets_ok (hG : GameF g a n G) (hk : 1 + a * (n * g) + g ≤ 8000) (a6 : a ≤ 6) (n6 : n ≤ 6) (hN : 2 ≤ N) (cs : Cs) : sem N ._law_whole_bets [.d (frows a n G)] cs = okD (.tuple [irows a n (gz a n G), .int (scG a n G)]) cs := by
  obtain ⟨N, rfl⟩ : ∃ n, N = n + 1 := ⟨N - 1, by omega⟩
  obtain ⟨s0, s1, s2⟩ := scG_ok hG
  have dp : ∀ t i, t < a → i < n → 0 < denM G t i ∧ Bd g (denM G t i) := fun t i ht hi => ⟨by
    have := (hG.fr t i ht hi).1
    unfold denM
    omega, (hG.fr t i ht hi).2.2⟩
  obtain ⟨x1, e1⟩ := for_fold (cs := cs) (v := fun t : Nat => Val.d (frow n (G t))) (g := gNm 2) (body := wbBb (sem N)) (mk := fun (s : Int) (x : Option DL.Slot × Option DL.Slot) => [some (.fr (.d (frows a n G))), some (.fr (.d (.int s))), x.1, x.2]) (f := fun s t => lcmR n (denM G t) s)
    (fun ts s => 0 < s ∧ (∃ q, Bd q s ∧ q + ts.length * (n * g) ≤ 1 + a * (n * g)) ∧ ∀ t ∈ ts, t < a) (fun t ts s x i => by
      obtain ⟨i1, ⟨q, i2, i3⟩, i4⟩ := i
      have ta := i4 t (by simp)
      rw [List.length_cons, Nat.succ_mul] at i3
      have lf := lcm_fold (T := denM G t) (t := g) (List.range n) s q i1 i2 fun i hi => dp t i ta (List.mem_range.mp hi)
      rw [List.length_range] at lf
      obtain ⟨y, ey⟩ := for_fold (cs := cs) (v := fun i : Nat => Val.d (frD (G t i))) (g := gNm 3) (body := sSet 1 (oFr (eOp mulD (eOp divD (eVar 1) (eFz (oDef (sem N ._law_divisor) [] (aCons (eVar 1) (aCons (eIx (eVar 3) (eC (.int 1))) (aNil)))))) (eIx (eVar 3) (eC (.int 1)))))) (mk := fun (s : Int) (x : Option DL.Slot) => [some (.fr (.d (frows a n G))), some (.fr (.d (.int s))), some (.fr (.d (frow n (G t)))), x]) (f := fun s i => lcmS s (denM G t i))
        (fun is s => 0 < s ∧ (∃ q, Bd q s ∧ q + is.length * g ≤ 1 + a * (n * g)) ∧ ∀ i ∈ is, i < n) (fun i is s x iv => by
          obtain ⟨j1, ⟨q, j2, j3⟩, j4⟩ := iv
          have im := j4 i (by simp)
          rw [List.length_cons, Nat.succ_mul] at j3
          obtain ⟨t0, tb⟩ := dp t i ta im
          refine ⟨_, some (.fr (.d (frD (G t i)))), rfl, ?_, (lcmS_ok j1 t0).1, ⟨q + g, (j2.mul tb).le (by
            have h1 := (lcmS_ok j1 t0).1
            have h2 := (lcmS_ok j1 t0).2.2.2
            have h3 := Int.mul_pos j1 t0
            omega), by omega⟩, fun k hk => j4 k (by simp [hk])⟩
          exact s_set (o_fr (lcm_ev (i := 1) (t := denM G t i) rfl (v_ix rfl rfl (x_t (at_lit (n := 1) rfl rfl))) j1 t0 j2 tb (by omega) (by omega)) rfl) rfl)
        (List.range n) s x.2 ⟨i1, ⟨q, i2, by rw [List.length_range]; omega⟩, fun i hi => List.mem_range.mp hi⟩
      refine ⟨_, (some (.fr (.d (frow n (G t)))), y), rfl, ?_, lf.1, ⟨_, lf.2.2.2, by omega⟩, fun u hu => i4 u (by simp [hu])⟩
      unfold wbBb
      have sq : seqV (.d (frow n (G t))) cs = .ok ((List.range n).map fun i : Nat => Val.d (frD (G t i))) cs := by
        show R.ok ((tb n fun k => frD (G t k)).map Val.d) cs = _
        rw [tb_map]
      exact s_for (p_seq rfl sq) ey)
    (List.range a) 1 (none, none) ⟨by decide, ⟨1, by unfold Bd; decide, by rw [List.length_range]; exact Nat.le_refl _⟩, fun k hk => List.mem_range.mp hk⟩
  have sq1 : seqV (.d (frows a n G)) cs = .ok ((List.range a).map fun t : Nat => Val.d (frow n (G t))) cs := by
    show R.ok ((tb a fun k => frow n (G k)).map Val.d) cs = _
    rw [tb_map]
  have hf : (List.range a).foldl (fun s t => lcmR n (denM G t) s) 1 = scG a n G := rfl
  rw [hf] at e1
  have ev : ∀ t i, t < a → i < n → divD (.int (scG a n G)) (.int (denM G t i)) = some (.int (scG a n G / denM G t i)) ∧ mulD (.int (G t i).1) (.int (scG a n G / denM G t i)) = some (.int (gz a n G t i)) := fun t i ht hi => by
    obtain ⟨d0, db⟩ := dp t i ht hi
    refine ⟨div_ev d0 db (by omega), mul_ev (hG.fr t i ht hi).2.1 (s2.le (b := scG a n G / denM G t i) ?_) (by omega)⟩
    have h2 : 0 ≤ scG a n G / denM G t i := Int.ediv_nonneg (by omega) (by omega)
    have h3 : scG a n G / denM G t i ≤ scG a n G := Int.ediv_le_self _ (by omega)
    omega
  generalize hs : scG a n G = s at *
  have lc : oLc (pSeq (eVar 0)) (gNm 2) (tTrue) (eFz (oLc (pSeq (eVar 2)) (gNm 3) (tTrue) (eOp mulD (eIx (eVar 3) (eC (.int 0))) (eOp divD (eVar 1) (eIx (eVar 3) (eC (.int 1))))) [3])) [2] [some (.fr (.d (frows a n G))), some (.fr (.d (.int s))), x1.1, x1.2] cs = .ok (.ow (irows a n (gz a n G))) cs := by
    refine lc_t (n := a) (e := fun t => frow n (G t)) (f := fun t => irow n (gz a n G t)) (v := .d (frows a n G)) rfl rfl (by omega) fun t ht => ?_
    refine v_fz (lc_t (n := n) (e := fun i => frD (G t i)) (f := fun i => .int (gz a n G t i)) (v := .d (frow n (G t))) rfl rfl (by omega) fun i hi => ?_) rfl
    obtain ⟨d1, d2⟩ := ev t i ht hi
    exact v_op (v_ix rfl rfl (x_t (at_lit (n := 0) rfl rfl))) (v_op rfl (v_ix rfl rfl (x_t (at_lit (n := 1) rfl rfl))) (o_dd d1)) (o_dd d2)
  have o : s__law_whole_bets (sem N) [some (.fr (.d (frows a n G))), none, none, none] cs = .rt (.fr (.d (.tuple [irows a n (gz a n G), .int s]))) cs := by
    rw [wb_split]
    exact se_step (s_set (o_fr rfl rfl) rfl) (se_step (s_for (p_seq rfl sq1) e1) (s_ret (o_fr (v_tup (v_cons (v_fz lc rfl) rfl (v_cons rfl rfl v_nil)) rfl) rfl)))
  rw [e__law_whole_bets]
  exact congrArg bodyR o
def mxZ (a : Nat) (f : Nat → Int) : Int := (DL.maxOf (tb a f)).getD 0
theorem mxZ_ok (a1 : 1 ≤ a) (f : Nat → Int) : DL.maxOf (tb a f) = some (mxZ a f) ∧ (mxZ a f : Rat) = MX a fun t => (f t : Rat) := by
  obtain ⟨t, ht, e⟩ := MX_at (n := a) (f := fun t => (f t : Rat)) (by omega)
  have mo : DL.maxOf (tb a f) = some (f t) := by
    obtain ⟨b, rfl⟩ : ∃ b, a = b + 1 := ⟨a - 1, by omega⟩
    have tm : f t ∈ tb (b + 1) f := List.mem_map.mpr ⟨t, List.mem_range.mpr ht, rfl⟩
    have le : ∀ y ∈ tb (b + 1) f, y ≤ f t := fun y hy => by
      obtain ⟨u, hu, rfl⟩ := tb_mem hy
      have := MX_ge (f := fun t => (f t : Rat)) hu
      rw [e] at this
      exact Rat.intCast_le_intCast.mp this
    rw [tb_cons] at tm le ⊢
    show some (List.foldl max (f 0) _) = _
    rw [DL.foldl_max _ _ (f t) tm le]
  have z : mxZ a f = f t := by unfold mxZ; rw [mo]; rfl
  rw [z]
  exact ⟨mo, e.symm⟩
theorem max_i (a1 : 1 ≤ a) {f : Nat → Int} : maxB [.d (irow a f)] cs = .ok (.d (.int (mxZ a f))) cs := by
  have e := max_ev (cs := cs) (mxZ_ok a1 f).1
  rw [tb_map] at e
  exact e
theorem inv_nn {x : Int} (h : 0 < x) : (0 : Rat) ≤ 1 / (x : Rat) := by
  rw [Rat.div_def, Rat.one_mul]
  exact Rat.le_of_lt (Rat.inv_pos.mpr (Rat.intCast_pos.mpr h))
/-- weights of the rows -/
structure Wl (k t n : Nat) (w : Nat → Int) : Prop where
  nn : ∀ i, 0 ≤ w i
  pos : 0 < SI n w
  bd : ∀ i, i < n → Bd k (w i)
  bs : Bd t (SI n w)
def bestZ (n m a : Nat) (W : Nat → Nat → Int) (L : Nat → Int) (G : FrM) : Int := SI m fun j => mxZ a fun t => SI n fun i => L i * W i j * (scl n m W / SI m (W i)) * gz a n G t i
section
variable {W : Nat → Nat → Int} {L : Nat → Int} {kw tw kl tl : Nat}
theorem fld1 {x1 x2 x3 x4 x5 x6 x7 : Rat} (h1 : x1 ≠ 0) (h2 : x2 ≠ 0) (h3 : x3 ≠ 0) (h4 : x4 ≠ 0) : x5 * x6 * (x1 / x4) * (x7 * x2) * (1 / (x1 * x2 * x3)) = (x5 / x3) * (x6 / x4) * x7 := by grind
theorem fld2 {x2 x3 x5 x6 x7 : Rat} (h2 : x2 ≠ 0) (h3 : x3 ≠ 0) (h6 : x6 ≠ 0) : x5 * (x7 * x2) * (1 / (x2 * x3)) = (x5 / x3) * (x6 / x6) * x7 := by grind
theorem best_q (hW : Ws kw tw n m W) (hL : Wl kl tl n L) (hG : GameF g a n G) (a1 : 1 ≤ a) :
    (bestZ n m a W L G : Rat) / ((scl n m W * scG a n G * SI n L : Int) : Rat) = worthM n m a (fun i j => (W i j : Rat) / (SI m (W i) : Rat)) (fun i => (L i : Rat) / (SI n L : Rat)) (fun t i => fv (G t i)) := by
  obtain ⟨s0, s1, _⟩ := scl_ok hW
  obtain ⟨g0, g1, _⟩ := scG_ok hG
  have L0 := hL.pos
  have d0 : 0 < scl n m W * scG a n G * SI n L := Int.mul_pos (Int.mul_pos s0 g0) L0
  have c0 := inv_nn d0
  have e1 : (bestZ n m a W L G : Rat) = S m fun j => MX a fun t => S n fun i => (L i : Rat) * (W i j : Rat) * ((scl n m W : Rat) / (SI m (W i) : Rat)) * (fv (G t i) * (scG a n G : Rat)) := by
    unfold bestZ
    rw [SI_q]
    refine S_congr fun j _ => ?_
    rw [(mxZ_ok a1 _).2]
    refine MX_congr (by omega) fun t ht => ?_
    rw [SI_q]
    refine S_congr fun i hi => ?_
    rw [Rat.intCast_mul, Rat.intCast_mul, Rat.intCast_mul, q_div (s1 i hi) (hW.pos i hi), gz_q hG ht hi]
  have e2 : ∀ x : Rat, ∀ y : Rat, x / y = x * (1 / y) := fun x y => by grind
  rw [e2, e1, ← S_mulR]
  unfold worthM
  refine S_congr fun j _ => ?_
  rw [← MX_mul (by omega) c0]
  refine MX_congr (by omega) fun t ht => ?_
  rw [← S_mulR]
  refine S_congr fun i hi => ?_
  rw [Rat.intCast_mul, Rat.intCast_mul]
  have h1 := q_ne s0
  have h2 := q_ne g0
  have h3 := q_ne L0
  have h4 := q_ne (hW.pos i hi)
  exact fld1 h1 h2 h3 h4
theorem law_worth_ok (hW : Ws kw tw n m W) (hL : Wl kl tl n L) (hG : GameF g a n G) (hk : (1 + n * tw) + (1 + a * (n * g)) + tl + g + kl + kw ≤ 8000) (n1 : 1 ≤ n) (n6 : n ≤ 6) (m6 : m ≤ 6) (a1 : 1 ≤ a) (a6 : a ≤ 6) (hN : 3 ≤ N) (cs : Cs) :
    sem N ._law_worth [.d (irows n m W), .d (irow n L), .d (frows a n G)] cs = okD (qD (worthM n m a (fun i j => (W i j : Rat) / (SI m (W i) : Rat)) (fun i => (L i : Rat) / (SI n L : Rat)) (fun t i => fv (G t i)))) cs := by
  obtain ⟨N, rfl⟩ : ∃ n, N = n + 1 := ⟨N - 1, by omega⟩
  obtain ⟨s0, s1, s2⟩ := scl_ok hW
  obtain ⟨g0, g1, g2⟩ := scG_ok hG
  rw [← best_q hW hL hG a1]
  have wb := whole_bets_ok (N := N) hG (by omega) a6 n6 (by omega) cs
  have qb : ∀ i, i < n → Bd (1 + n * tw) (scl n m W / SI m (W i)) := fun k hk => s2.le (by
    have h1 := hW.pos k hk
    have h2 : 0 ≤ scl n m W / SI m (W k) := Int.ediv_nonneg (by omega) (by omega)
    have h3 : scl n m W / SI m (W k) ≤ scl n m W := Int.ediv_le_self _ (by omega)
    omega)
  have gb : ∀ t i, t < a → i < n → Bd (g + (1 + a * (n * g))) (gz a n G t i) := fun t i ht hi => (hG.fr t i ht hi).2.1.mul (g2.le (by
    have d0 : 0 < denM G t i := by
      have := (hG.fr t i ht hi).1
      unfold denM
      omega
    have h2 : 0 ≤ scG a n G / denM G t i := Int.ediv_nonneg (by omega) (by omega)
    have h3 : scG a n G / denM G t i ≤ scG a n G := Int.ediv_le_self _ (by omega)
    omega))
  have d0 : 0 < scl n m W * scG a n G * SI n L := Int.mul_pos (Int.mul_pos s0 g0) hL.pos
  have db : Bd 8000 (scl n m W * scG a n G * SI n L) := ((s2.mul g2).mul hL.bs).mono (by omega)
  have lo := law_low_ok (N := N) (a := bestZ n m a W L G) d0 db (by omega) cs
  have d1 := mul_ev s2 g2 (by omega)
  have d2 := mul_ev (s2.mul g2) hL.bs (by omega)
  have tw8 : tw ≤ 8000 := by
    have : 1 * tw ≤ n * tw := Nat.mul_le_mul_right _ n1
    omega
  have evs : ∀ i j, i < n → j < m → mulD (.int (L i)) (.int (W i j)) = some (.int (L i * W i j)) ∧ divD (.int (scl n m W)) (.int (SI m (W i))) = some (.int (scl n m W / SI m (W i))) ∧ mulD (.int (L i * W i j)) (.int (scl n m W / SI m (W i))) = some (.int (L i * W i j * (scl n m W / SI m (W i)))) := fun i j hi hj =>
    ⟨mul_ev (hL.bd i hi) (hW.bd i j hi hj) (by omega), div_ev (hW.pos i hi) ((hW.bs i hi).mono tw8) (by decide), mul_ev ((hL.bd i hi).mul (hW.bd i j hi hj)) (qb i hi) (by omega)⟩
  have evg : ∀ i j t, i < n → j < m → t < a → mulD (.int (L i * W i j * (scl n m W / SI m (W i)))) (.int (gz a n G t i)) = some (.int (L i * W i j * (scl n m W / SI m (W i)) * gz a n G t i)) := fun i j t hi hj ht =>
    mul_ev (((hL.bd i hi).mul (hW.bd i j hi hj)).mul (qb i hi)) (gb t i ht hi) (by omega)
  have x0 : ixD (.d (irows n m W)) (.d (.int 0)) cs = .ok (.d (irow m (W 0))) cs := x_l (tb_at (k := 0) (by omega))
  have l0 : lenB [.d (irow m (W 0))] cs = .ok (.d (.int (m : Int))) cs := len_l (tb_len _)
  obtain ⟨x1, e1⟩ := for_fold (cs := cs) (v := fun k : Nat => Val.d (irow m (W k))) (g := gNm 7) (body := lwCb (sem N)) (mk := fun (s : Int) (x : Option DL.Slot) => [some (.fr (.d (irows n m W))), some (.fr (.d (irow n L))), some (.fr (.d (frows a n G))), some (.fr (.d (irows a n (gz a n G)))), some (.fr (.d (.int (scG a n G)))), some (.fr (.d (.int s))), some (.fr (.d (.int 0))), x, none, none, none, none, none]) (f := fun s k => lcmS s (SI m (W k)))
    (fun ks s => 0 < s ∧ (∃ q, Bd q s ∧ q + ks.length * tw ≤ 1 + n * tw) ∧ ∀ k ∈ ks, k < n) (fun a ks s x i => by
      obtain ⟨i1, ⟨q, i2, i3⟩, i4⟩ := i
      have am := i4 a (by simp)
      rw [List.length_cons, Nat.succ_mul] at i3
      have t0 := hW.pos a am
      have tb := hW.bs a am
      refine ⟨_, some (.fr (.d (irow m (W a)))), rfl, ?_, (lcmS_ok i1 t0).1, ⟨q + tw, (i2.mul tb).le (by
        have h1 := (lcmS_ok i1 t0).1
        have h2 := (lcmS_ok i1 t0).2.2.2
        have h3 := Int.mul_pos i1 t0
        omega), by omega⟩, fun k hk => i4 k (by simp [hk])⟩
      unfold lwCb
      exact s_set (o_fr (lcm_ev (i := 5) rfl (v_call (ev_bcons rfl v_nil) sum_i) i1 t0 i2 tb (by omega) (by omega)) rfl) rfl)
    (List.range n) 1 none ⟨by decide, ⟨1, by unfold Bd; decide, by rw [List.length_range]; exact Nat.le_refl _⟩, fun k hk => List.mem_range.mp hk⟩
  have hfold : (List.range n).foldl (fun s k => lcmS s (SI m (W k))) 1 = scl n m W := rfl
  rw [hfold] at e1
  have sq1 : seqV (.d (irows n m W)) cs = .ok ((List.range n).map fun k : Nat => Val.d (irow m (W k))) cs := by
    show R.ok ((tb n fun k => irow m (W k)).map Val.d) cs = _
    rw [tb_map]
  generalize hS : scl n m W = s at *
  obtain ⟨x2, e2⟩ := for_fold (cs := cs) (v := fun k : Nat => Val.d (.int (k : Int))) (g := gNm 8) (body := lwDb) (mk := fun (b : Int) (x : Option DL.Slot × Option DL.Slot) => [some (.fr (.d (irows n m W))), some (.fr (.d (irow n L))), some (.fr (.d (frows a n G))), some (.fr (.d (irows a n (gz a n G)))), some (.fr (.d (.int (scG a n G)))), some (.fr (.d (.int s))), some (.fr (.d (.int b))), x1, x.1, x.2, none, none, none]) (f := fun b j => b + mxZ a fun t => SI n fun i => L i * W i j * (s / SI m (W i)) * gz a n G t i)
    (fun js b => ∀ j ∈ js, j < m) (fun j js b x iv => by
      have jm := iv j (by simp)
      refine ⟨_, (some (.fr (.d (.int (j : Int)))), some (.fr (.d (irow n fun i => L i * W i j * (s / SI m (W i)))))), rfl, ?_, fun q hq => iv q (by simp [hq])⟩
      unfold lwDb
      have mx := max_i (cs := cs) a1 (f := fun t => SI n fun i => L i * W i j * (s / SI m (W i)) * gz a n G t i)
      refine se_step (s_set (lc_z (n := n) (a := fun i => .int (L i)) (b := fun i => irow m (W i)) (f := fun i => .int (L i * W i j * (s / SI m (W i)))) (v := .d (irow n L)) (w := .d (irows n m W)) (ev_bcons rfl (ev_bcons rfl v_nil)) zip_ll2 (by omega) fun i hi => ?_) rfl) (se_step (s_fz rfl rfl rfl) (s_set (o_fr (v_op rfl (v_call (ev_bcons (v_fz (lc_t (n := a) (e := fun t => irow n (gz a n G t)) (f := fun t => .int (SI n fun i => L i * W i j * (s / SI m (W i)) * gz a n G t i)) (v := .d (irows a n (gz a n G))) rfl rfl (by omega) fun t ht => ?_) rfl) v_nil) mx) (o_dd add_ev)) rfl) rfl))
      · obtain ⟨v1, v2, v3⟩ := evs i j hi jm
        exact v_op (v_op rfl (v_ix rfl rfl (x_l (tb_at jm))) (o_dd v1)) (v_op rfl (v_call (ev_bcons rfl v_nil) sum_i) (o_dd v2)) (o_dd v3)
      · refine v_call (ev_bcons (v_fz (lc_z (n := n) (a := fun i => .int (L i * W i j * (s / SI m (W i)))) (b := fun i => .int (gz a n G t i)) (f := fun i => .int (L i * W i j * (s / SI m (W i)) * gz a n G t i)) (v := .d (irow n fun i => L i * W i j * (s / SI m (W i)))) (w := .d (irow n (gz a n G t))) (ev_bcons rfl (ev_bcons rfl v_nil)) zip_ll2 (by omega) fun i hi => ?_) rfl) v_nil) sum_i
        exact v_op rfl rfl (o_dd (evg i j t hi jm ht)))
    (List.range m) 0 (none, none) (fun j hj => List.mem_range.mp hj)
  have fb : ∀ (m : Nat) (F : Nat → Int) (b : Int), (List.range m).foldl (fun b j => b + F j) b = b + SI m F := by
    intro m F
    induction m with
    | zero => intro b; show b = b + 0; omega
    | succ m ih => intro b; rw [List.range_succ, List.foldl_append, ih, SI_succ]; show b + SI m F + F m = _; omega
  rw [fb, Int.zero_add] at e2
  have hb : (SI m fun j => mxZ a fun t => SI n fun i => L i * W i j * (s / SI m (W i)) * gz a n G t i) = bestZ n m a W L G := by unfold bestZ; rw [hS]
  rw [hb] at e2
  have rg : ∀ y, pRange1 (bCons (eCall lenB (bCons (eIx (eVar 0) (eC (.int 0))) (aNil))) (aNil)) (some (.fr (.d (irows n m W))) :: y) cs = .ok ((List.range m).map fun k : Nat => Val.d (PyData.int (k : Int))) cs := fun y => by
    rw [← rangeL_tb]
    exact range_ev (ev_bcons (v_call (ev_bcons (v_ix rfl rfl x0) v_nil) l0) v_nil) (by omega)
  have o : s__law_worth (sem N) [some (.fr (.d (irows n m W))), some (.fr (.d (irow n L))), some (.fr (.d (frows a n G))), none, none, none, none, none, none, none, none, none, none] cs = .rt (.fr (.d (qD ((bestZ n m a W L G : Rat) / ((s * scG a n G * SI n L : Int) : Rat))))) cs := by
    rw [lw_split]
    refine se_step (s_asg (v_fz (o_def0 (v_cons rfl rfl v_nil) wb) rfl) rfl rfl) (se_step (s_asg (v_tup (v_cons rfl rfl (v_cons rfl rfl v_nil)) rfl) rfl rfl) (se_step (s_for (p_seq rfl sq1) e1) (se_step (s_for (rg _) e2) ?_)))
    exact s_ret (o_def0 (v_cons rfl rfl (v_cons (v_op (v_op rfl rfl (o_dd d1)) (v_call (ev_bcons rfl v_nil) sum_i) (o_dd d2)) rfl v_nil)) lo)
  rw [e__law_worth]
  exact congrArg bodyR o
end
end
end LW
end
section
set_option Elab.async false
set_option linter.all false
set_option maxRecDepth 100000
set_option autoImplicit false
namespace LW
open PySem PySem.Spec PyProof.Rows L2 DL
def srA (G : Fn → FS) : SS := sAsg (gTp (gsCons (gNm 4) (gsCons (gNm 5) (gsNil)))) (eFz (oDef (G ._law_whole_bets) [] (aCons (eVar 2) (aNil))))
def srB : SS := sSet 6 (oFr (eCall maxB (bCons (eFz (oLc (pSeq (eVar 4)) (gNm 7) (tTrue) (eCall sumB (bCons (eFz (oLc (pZip (bCons (eVar 1) (bCons (eVar 7) (aNil)))) (gTp (gsCons (gNm 8) (gsCons (gNm 9) (gsNil)))) (tTrue) (eOp mulD (eVar 8) (eVar 9)) [8, 9])) (aNil))) [7])) (aNil))))
def srC (G : Fn → FS) : SS := sRet (oFr (eOr (eOp gtD (eCall lenB (bCons (eIx (eVar 0) (eC (.int 0))) (aNil))) (eC (.int 1))) (eOp eqD (eVar 3) (eFz (oDef (G ._law_low) [] (aCons (eVar 6) (aCons (eOp mulD (eVar 5) (eCall sumB (bCons (eVar 1) (aNil)))) (aNil))))))))
theorem sr_split (G : Fn → FS) : s__law_single_right G = sSeq (srA G) (sSeq srB (srC G)) := rfl
section
variable {N n m a k g : Nat} {cs : Cs} {G : FrM} {W : Nat → Nat → Int} {L : Nat → Int} {kw tw kl tl : Nat}
/-- news with one column -/
def best1 (n a : Nat) (L : Nat → Int) (G : FrM) : Int := mxZ a fun t => SI n fun i => L i * gz a n G t i
theorem best1_q (hW : Ws kw tw n 1 W) (hL : Wl kl tl n L) (hG : GameF g a n G) (a1 : 1 ≤ a) :
    (best1 n a L G : Rat) / ((scG a n G * SI n L : Int) : Rat) = worthM n 1 a (fun i j => (W i j : Rat) / (SI 1 (W i) : Rat)) (fun i => (L i : Rat) / (SI n L : Rat)) (fun t i => fv (G t i)) := by
  obtain ⟨g0, g1, _⟩ := scG_ok hG
  have L0 := hL.pos
  have d0 : 0 < scG a n G * SI n L := Int.mul_pos g0 L0
  have c0 := inv_nn d0
  have e1 : (best1 n a L G : Rat) = MX a fun t => S n fun i => (L i : Rat) * (fv (G t i) * (scG a n G : Rat)) := by
    unfold best1
    rw [(mxZ_ok a1 _).2]
    refine MX_congr (by omega) fun t ht => ?_
    rw [SI_q]
    refine S_congr fun i hi => ?_
    rw [Rat.intCast_mul, gz_q hG ht hi]
  have e2 : ∀ x : Rat, ∀ y : Rat, x / y = x * (1 / y) := fun x y => by grind
  rw [e2, e1, ← MX_mul (by omega) c0]
  unfold worthM
  rw [S_succ, S_zero, Rat.zero_add]
  refine MX_congr (by omega) fun t ht => ?_
  rw [← S_mulR]
  refine S_congr fun i hi => ?_
  rw [Rat.intCast_mul]
  have h2 := q_ne g0
  have h3 := q_ne L0
  have h4 := q_ne (hW.pos i hi)
  have h5 : (SI 1 (W i) : Rat) = (W i 0 : Rat) := by
    rw [SI_q, S_succ, S_zero, Rat.zero_add]
  show _ = ((L i : Rat) / (SI n L : Rat)) * ((W i 0 : Rat) / (SI 1 (W i) : Rat)) * fv (G t i)
  rw [h5] at h4 ⊢
  exact fld2 h2 h3 h4
theorem qD_fit (q : Rat) : Fit (qD q) 1 := FitL.tup (k := 0) (FitL.cons Fit.int (FitL.cons Fit.int FitL.nil))
theorem single_ok (hW : Ws kw tw n m W) (hL : Wl kl tl n L) (hG : GameF g a n G) (hk : (1 + a * (n * g)) + tl + g + kl + kw ≤ 8000) (n1 : 1 ≤ n) (n6 : n ≤ 6) (m1 : 1 ≤ m) (m6 : m ≤ 6) (a1 : 1 ≤ a) (a6 : a ≤ 6) (hN : 3 ≤ N) (cs : Cs) :
    sem N ._law_single_right [.d (irows n m W), .d (irow n L), .d (frows a n G), .d (qD (worthM n m a (fun i j => (W i j : Rat) / (SI m (W i) : Rat)) (fun i => (L i : Rat) / (SI n L : Rat)) (fun t i => fv (G t i))))] cs = okB true cs := by
  obtain ⟨N, rfl⟩ : ∃ n, N = n + 1 := ⟨N - 1, by omega⟩
  obtain ⟨g0, g1, g2⟩ := scG_ok hG
  have wb := whole_bets_ok (N := N) hG (by omega) a6 n6 (by omega) cs
  have gb : ∀ t i, t < a → i < n → Bd (g + (1 + a * (n * g))) (gz a n G t i) := fun t i ht hi => (hG.fr t i ht hi).2.1.mul (g2.le (by
    have d0 : 0 < denM G t i := by
      have := (hG.fr t i ht hi).1
      unfold denM
      omega
    have h2 : 0 ≤ scG a n G / denM G t i := Int.ediv_nonneg (by omega) (by omega)
    have h3 : scG a n G / denM G t i ≤ scG a n G := Int.ediv_le_self _ (by omega)
    omega))
  have d0 : 0 < scG a n G * SI n L := Int.mul_pos g0 hL.pos
  have db : Bd 8000 (scG a n G * SI n L) := (g2.mul hL.bs).mono (by omega)
  have lo := law_low_ok (N := N) (a := best1 n a L G) d0 db (by omega) cs
  have d2 := mul_ev g2 hL.bs (by omega)
  have evg : ∀ i t, i < n → t < a → mulD (.int (L i)) (.int (gz a n G t i)) = some (.int (L i * gz a n G t i)) := fun i t hi ht => mul_ev (hL.bd i hi) (gb t i ht hi) (by omega)
  have x0 : ixD (.d (irows n m W)) (.d (.int 0)) cs = .ok (.d (irow m (W 0))) cs := x_l (tb_at (k := 0) (by omega))
  have l0 : lenB [.d (irow m (W 0))] cs = .ok (.d (.int (m : Int))) cs := len_l (tb_len _)
  have mx := max_i (cs := cs) a1 (f := fun t => SI n fun i => L i * gz a n G t i)
  have key : m = 1 → eqD (qD (worthM n m a (fun i j => (W i j : Rat) / (SI m (W i) : Rat)) (fun i => (L i : Rat) / (SI n L : Rat)) (fun t i => fv (G t i)))) (qD ((best1 n a L G : Rat) / ((scG a n G * SI n L : Int) : Rat))) = some (.bool true) := fun e => by
    subst e
    rw [best1_q hW hL hG a1]
    exact eq_self (qD_fit _) (by decide)
  generalize worthM n m a (fun i j => (W i j : Rat) / (SI m (W i) : Rat)) (fun i => (L i : Rat) / (SI n L : Rat)) (fun t i => fv (G t i)) = R at *
  have st : ∀ r, (eOr (eOp gtD (eCall lenB (bCons (eIx (eVar 0) (eC (.int 0))) (aNil))) (eC (.int 1))) (eOp eqD (eVar 3) (eFz (oDef (sem N ._law_low) [] (aCons (eVar 6) (aCons (eOp mulD (eVar 5) (eCall sumB (bCons (eVar 1) (aNil)))) (aNil))))))) [some (.fr (.d (irows n m W))), some (.fr (.d (irow n L))), some (.fr (.d (frows a n G))), some (.fr (.d (qD R))), some (.fr (.d (irows a n (gz a n G)))), some (.fr (.d (.int (scG a n G)))), some (.fr (.d (.int (best1 n a L G)))), r, none, none] cs = .ok (.d (.bool true)) cs := fun r => by
    by_cases h : m = 1
    · have gt := gt_f (a := (m : Int)) (k := 1) (by omega)
      exact v_orb (v_op (v_call (ev_bcons (v_ix rfl rfl x0) v_nil) l0) rfl (o_dd gt)) (cond_f (v_op rfl (v_fz (o_def0 (v_cons rfl rfl (v_cons (v_op rfl (v_call (ev_bcons rfl v_nil) sum_i) (o_dd d2)) rfl v_nil)) lo) rfl) (o_dd (key h))))
    · have gt := gt_t (a := (m : Int)) (k := 1) (by omega)
      exact v_orb (v_op (v_call (ev_bcons (v_ix rfl rfl x0) v_nil) l0) rfl (o_dd gt)) (cond_t rfl)
  have o : s__law_single_right (sem N) [some (.fr (.d (irows n m W))), some (.fr (.d (irow n L))), some (.fr (.d (frows a n G))), some (.fr (.d (qD R))), none, none, none, none, none, none] cs = .rt (.fr (.d (.bool true))) cs := by
    rw [sr_split]
    refine se_step (s_asg (v_fz (o_def0 (v_cons rfl rfl v_nil) wb) rfl) rfl rfl) (se_step (s_set (o_fr (v_call (ev_bcons (v_fz (lc_t (n := a) (e := fun t => irow n (gz a n G t)) (f := fun t => .int (SI n fun i => L i * gz a n G t i)) (v := .d (irows a n (gz a n G))) rfl rfl (by omega) fun t ht => ?_) rfl) v_nil) mx) rfl) rfl) (s_ret (o_fr (st _) rfl)))
    refine v_call (ev_bcons (v_fz (lc_z (n := n) (a := fun i => .int (L i)) (b := fun i => .int (gz a n G t i)) (f := fun i => .int (L i * gz a n G t i)) (v := .d (irow n L)) (w := .d (irow n (gz a n G t))) (ev_bcons rfl (ev_bcons rfl v_nil)) zip_ll2 (by omega) fun i hi => ?_) rfl) v_nil) sum_i
    exact v_op rfl rfl (o_dd (evg i t hi ht))
  rw [e__law_single_right]
  exact congrArg bodyR o
end
end LW
end
section
set_option Elab.async false
set_option linter.all false
set_option maxRecDepth 100000
set_option autoImplicit false
namespace LW
open PySem PySem.Spec PyProof.Rows L2 DL
def gbA : SS := sSet 3 (oLst (aNil))
def gbBi (G : Fn → FS) : SA := pSeq (eFz (oDef (G ._law_bets) [] (aCons (eVar 0) (aCons (eVar 1) (aNil)))))
def gbBb (G : Fn → FS) : SS := sSeq (sIf (tTru (eVar 2)) (sSet 4 (oFr (eOp addD (eTup (aCons (eTup (aCons (eOp subD (eFz (oDef (G ._law_pull) [] (aCons (eVar 0) (aCons (eOp powD (eC (.int 10)) (eC (.int 59))) (aNil))))) (eOp powD (eC (.int 10)) (eC (.int 30)))) (aCons (eOp addD (eC (.int 1)) (eFz (oDef (G ._law_pull) [] (aCons (eVar 0) (aCons (eOp powD (eC (.int 10)) (eC (.int 59))) (aNil)))))) (aNil)))) (aNil))) (eSl (eVar 4) (iSome (eC (.int 1))) (iNone))))) (sNil)) (sMeth 3 appAt (eVar 4))
def gbB (G : Fn → FS) : SS := sFor (gbBi G) (gNm 4) (gbBb G)
def gbC : SS := sRet (oFr (eCall tupleB (bCons (eVar 3) (aNil))))
theorem gb_split (G : Fn → FS) : s__law_great_bets G = sSeq gbA (sSeq (gbB G) gbC) := rfl
section
variable {b n q N : Nat} {cs : Cs}
theorem great_bets_ok {great : Bool} (B : BagQ b cs (q + (1 + 6 * (1 + n * 2) + 12))) (n1 : 1 ≤ n) (n6 : n ≤ 6) (hN : 4 ≤ N) : ∃ (a : Nat) (G : FrM) (cs' : Cs), sem N ._law_great_bets [.cel b, .d (.int (n : Int)), .d (.bool great)] cs = okD (frows a n G) cs' ∧ 1 ≤ a ∧ a ≤ 6 ∧ GameB (gbit great) a n G ∧ BagQ b cs' q := by
  obtain ⟨N, rfl⟩ : ∃ n, N = n + 2 := ⟨N - 2, by omega⟩
  obtain ⟨a, G0, cs0, e0, a1, a6, hG0, B0⟩ := bets_ok (q := q + 12) (n := n) (N := N + 1) (B.mono (by omega)) n6 (by omega)
  have bq : q + a * 2 ≤ q + 12 := by omega
  have p59 := pw59
  have p30 := pw30
  obtain ⟨ys, x', cs1, e1, p1, B1⟩ := for_dapp (b := b) (c := 2) (q := q) (v := fun t : Nat => Val.d (frow n (G0 t))) (P := fun t y => t < a → ∃ F : Nat → Fr, y = frow n F ∧ ∀ j, j < n → FrOk (gbit great j) (F j)) (g := gNm 4) (body := gbBb (sem (N + 1))) (mk := fun xs (x : Option DL.Slot) => [some (.fr (.cel b)), some (.fr (.d (.int (n : Int)))), some (.fr (.d (.bool great))), some (.ow (.list xs)), x]) (List.range a) [] none cs0 (by simp; omega) (by rw [List.length_range]; exact B0.mono bq) (fun t ht xs x cs q hx B => by
    have ht := List.mem_range.mp ht
    cases great with
    | false =>
      refine ⟨_, some (.fr (.d (frow n (G0 t)))), frow n (G0 t), cs, rfl, ?_, fun _ => ⟨G0 t, rfl, fun j hj => by rw [gbit_f]; exact hG0 t j ht hj⟩, B.mono (by omega)⟩
      unfold gbBb
      exact se_step (s_ifb (t_tru rfl rfl) (cond_f s_nil)) (s_app (ds := xs) rfl rfl (by omega) rfl)
    | true =>
      obtain ⟨u, cs1, e1, u0, u1, B1⟩ := pull_q (n := N) (m := 10 ^ 59) (q := q + 1) B (by decide) (by decide)
      obtain ⟨w, cs2, e2, w0, w1, B2⟩ := pull_q (n := N) (m := 10 ^ 59) (q := q) B1 (by decide) (by decide)
      have d0 : 0 < 1 + w := by omega
      obtain ⟨n', hn'⟩ : ∃ n', n = n' + 1 := ⟨n - 1, by omega⟩
      have rest : sliceV (.d (frow n (G0 t))) (some 1) none cs2 = .ok (.d (.tuple (tb n' fun k => frD (G0 t (k + 1))))) cs2 := by
        subst hn'
        show R.ok (Val.d (.tuple (DL.cut (tb (n' + 1) fun k => frD (G0 t k)) (some 1) none))) cs2 = _
        rw [tb_cons, cut_tail]
      have ad : addD (.tuple [frD (u - 10 ^ 30, (1 + w).toNat)]) (.tuple (tb n' fun k => frD (G0 t (k + 1)))) = some (frow n fun j => if j = 0 then (u - 10 ^ 30, (1 + w).toNat) else G0 t j) := by
        rw [add_t (by simp; omega)]
        subst hn'
        unfold frow
        rw [tb_cons]
        rfl
      refine ⟨_, some (.fr (.d (frow n fun j => if j = 0 then (u - 10 ^ 30, (1 + w).toNat) else G0 t j))), frow n fun j => if j = 0 then (u - 10 ^ 30, (1 + w).toNat) else G0 t j, cs2, rfl, ?_, fun _ => ⟨_, rfl, fun j hj => ?_⟩, B2⟩
      · unfold gbBb
        refine se_step (s_ifb (t_tru rfl rfl) (cond_t (s_set (o_fr (v_op (v_tup (v_cons (v_tup (v_cons (v_op (v_fz (o_def0 (v_cons (v := .cel b) rfl rfl (v_cons (v_op rfl rfl (o_dd p59)) rfl v_nil)) e1) rfl) (v_op rfl rfl (o_dd p30)) (o_dd sub_ev)) rfl (v_cons (v_op rfl (v_fz (o_def0 (v_cons (v := .cel b) rfl rfl (v_cons (v_op rfl rfl (o_dd p59)) rfl v_nil)) e2) rfl) (o_dd add_ev)) rfl v_nil)) (v := .d (frD (u - 10 ^ 30, (1 + w).toNat))) ?_) rfl v_nil) rfl) (v_sl rfl (i_some rfl) i_none rest) (o_dd ad)) rfl) rfl))) (s_app (ds := xs) rfl rfl (by omega) rfl)
        rw [← frD_mk d0]
        rfl
      · by_cases h0 : j = 0
        · rw [if_pos h0]
          have gb : gbit true j = 197 := by unfold gbit; rw [if_pos ⟨rfl, h0⟩]
          rw [gb]
          have p1 : (10 : Int) ^ 59 < 2 ^ 197 := by decide
          have p2 : (10 : Int) ^ 30 < 2 ^ 197 := by decide
          refine ⟨?_, ?_, ?_⟩
          · show 0 < (1 + w).toNat
            omega
          · show Bd 197 (u - 10 ^ 30)
            generalize (2 : Int) ^ 197 = T at *
            exact Bd_abs (by omega) (by omega)
          · show Bd 197 (((1 + w).toNat : Nat) : Int)
            rw [Int.toNat_of_nonneg (by omega)]
            exact Bd_of (by omega) (by omega)
        · rw [if_neg h0]
          have gb : gbit true j = 4 := by unfold gbit; rw [if_neg (fun z => h0 z.2)]
          rw [gb]
          exact hG0 t j ht hj)
  obtain ⟨f, hf, pf⟩ := paired_range p1
  have ch : ∀ t, ∃ F : Nat → Fr, t < a → f t = frow n F ∧ ∀ j, j < n → FrOk (gbit great j) (F j) := fun t => by
    by_cases ht : t < a
    · obtain ⟨F, h1, h2⟩ := pf t ht ht
      exact ⟨F, fun _ => ⟨h1, h2⟩⟩
    · exact ⟨fun _ => (0, 1), fun z => absurd z ht⟩
  obtain ⟨G, hG⟩ := Classical.axiomOfChoice ch
  have ef : tb a f = tb a fun t => frow n (G t) := tb_congr fun t ht => (hG t ht).1
  rw [hf, ef, List.nil_append] at e1
  refine ⟨a, G, cs1, ?_, a1, a6, fun t i ht hi => (hG t ht).2 i hi, B1⟩
  have sq : seqV (.d (frows a n G0)) cs0 = .ok ((List.range a).map fun t : Nat => Val.d (frow n (G0 t))) cs0 := by
    show R.ok ((tb a fun k => frow n (G0 k)).map Val.d) cs0 = _
    rw [tb_map]
  have o : s__law_great_bets (sem (N + 1)) [some (.fr (.cel b)), some (.fr (.d (.int (n : Int)))), some (.fr (.d (.bool great))), none, none] cs = .rt (.fr (.d (frows a n G))) cs1 := by
    rw [gb_split]
    exact se_step (s_set (v_olst v_nil (mk_o dats_nil (by decide))) rfl) (se_step (s_for (p_seq (v_fz (o_def0 (v_cons (v := .cel b) rfl rfl (v_cons rfl rfl v_nil)) e0) rfl) sq) e1) (s_ret (o_fr (v_call (ev_bcons (DL.ev_own rfl) v_nil) rfl) rfl)))
  rw [e__law_great_bets]
  exact congrArg bodyR o
end
end LW
end
section
set_option Elab.async false
set_option linter.all false
set_option maxRecDepth 100000
set_option autoImplicit false
namespace LW
open PySem PySem.Spec PyProof.Rows L2 DL
/-! ### the law's turns -/
def turnB (G : Fn → FS) : SS := sIf (tNotD (tTru (eFz (oDef (G ._law_right) [] (aCons (eCel (oDef (G ._law_purse) [] (aCons (eVar 0) (aCons (eVar 1) (aNil))))) (aNil)))))) (sRet (oFr (eC (.bool false)))) (sNil)
/-- a turn, if the law's own test holds of every purse -/
theorem turn_ok {n q : Nat} (hq : q ≤ 1000000) (R : ∀ b cs, BagQ b cs q → ∃ cs', sem (n + 1) ._law_right [.cel b] cs = .ok (.fr (.d (.bool true))) cs') (ns : List Int) (k : Nat) (cs : Cs) (hk : k < 64) : ∃ cs' : Cs, turnB (sem (n + 1)) [some (.fr (.lk (ns.map .int))), some (.fr (.d (.int (k : Int))))] cs = .nx [some (.fr (.lk (ns.map .int))), some (.fr (.d (.int (k : Int))))] cs' := by
  obtain ⟨x, y, e1, y0, y1⟩ := purse_ok n ns k cs hk
  obtain ⟨cs', e2⟩ := R cs.length (cs ++ [.lst [.d (.int x), .d (.int y), .d (.int 0)]]) ⟨0, ⟨x, y, 0, by simp, y0, y1, by decide, by decide⟩, by
    have : (1000000 : Int) < ZB := by decide
    omega⟩
  refine ⟨cs', ?_⟩
  unfold turnB
  exact s_ifb (t_not (t_tru (v_fz (o_def0 (v_cons (v_cel (o_def0 (v_cons rfl rfl (v_cons rfl rfl v_nil)) e1) rfl) rfl v_nil) e2) rfl) rfl) rfl) (cond_f s_nil)
theorem turns_ok {n q : Nat} (hq : q ≤ 1000000) (R : ∀ b cs, BagQ b cs q → ∃ cs', sem (n + 1) ._law_right [.cel b] cs = .ok (.fr (.d (.bool true))) cs') (ns : List Int) : ∀ (l : List Nat) (s : Option DL.Slot) (cs : Cs), (∀ k ∈ l, k < 64) → ∃ (s' : Option DL.Slot) (cs' : Cs), forL (gNm 1) (turnB (sem (n + 1))) (l.map fun k : Nat => Val.d (PyData.int (k : Int))) [some (.fr (.lk (ns.map .int))), s] cs = .nx [some (.fr (.lk (ns.map .int))), s'] cs'
  | [], s, cs, _ => ⟨s, cs, rfl⟩
  | k :: l, s, cs, h => by
    obtain ⟨cs1, e1⟩ := turn_ok hq R ns k cs (h k (by simp))
    obtain ⟨s2, cs2, e2⟩ := turns_ok hq R ns l (some (.fr (.d (.int (k : Int))))) cs1 fun q hq => h q (by simp [hq])
    exact ⟨s2, cs2, f_cons rfl e1 e2⟩
end LW
end
section
set_option Elab.async false
set_option linter.all false
set_option maxRecDepth 100000
set_option autoImplicit false
namespace LW
open PySem PySem.Spec PyProof.Rows L2 DL
def rtA (G : Fn → FS) : SS := sPar 1 2 (aCons (eOp eqD (eFz (oDef (G ._law_pull) [] (aCons (eVar 0) (aCons (eC (.int 5)) (aNil))))) (eC (.int 0))) (aCons (eC (.int 6)) (aNil)))
def rtB : SS := sIf (tTru (eVar 1)) (sSet 2 (oFr (eC (.int 3)))) (sNil)
def rtC (G : Fn → FS) : SS := sPar3 3 4 5 (aCons (eOp addD (eC (.int 1)) (eFz (oDef (G ._law_pull) [] (aCons (eVar 0) (aCons (eVar 2) (aNil)))))) (aCons (eOp addD (eC (.int 1)) (eFz (oDef (G ._law_pull) [] (aCons (eVar 0) (aCons (eVar 2) (aNil)))))) (aCons (eOp addD (eC (.int 1)) (eFz (oDef (G ._law_pull) [] (aCons (eVar 0) (aCons (eVar 2) (aNil)))))) (aNil))))
def rtD (G : Fn → FS) : SS := sPar 6 7 (aCons (eFz (oDef (G ._law_sheet) [] (aCons (eVar 0) (aCons (eVar 3) (aCons (eVar 4) (aCons (eVar 1) (aNil))))))) (aCons (eFz (oDef (G ._law_sheet) [] (aCons (eVar 0) (aCons (eVar 4) (aCons (eVar 5) (aCons (eAnd (eVar 1) (eOp eqD (eFz (oDef (G ._law_pull) [] (aCons (eVar 0) (aCons (eC (.int 2)) (aNil))))) (eC (.int 0)))) (aNil))))))) (aNil)))
def rtE (G : Fn → FS) : SS := sPar3 8 9 10 (aCons (eFz (oDef (G ._law_shown) [] (aCons (eVar 0) (aCons (eVar 6) (aNil))))) (aCons (eFz (oDef (G ._law_shown) [] (aCons (eVar 0) (aCons (eVar 7) (aNil))))) (aCons (eFz (oDef (G ._law_blurred) [] (aCons (eVar 6) (aCons (eVar 7) (aNil))))) (aNil))))
def rtF (G : Fn → FS) : SS := sSet 11 (oFr (eCall reprW (bCons (eFz (oDef (G ._law_low_sheet) [] (aCons (eVar 10) (aNil)))) (aNil))))
def rtG (G : Fn → FS) : SS := sIf (tOrD (tBool (eOp neD (eCall reprW (bCons (eFz (oDef (G .noisy) [] (aCons (eVar 8) (aCons (eVar 9) (aNil))))) (aNil))) (eVar 11))) (tBool (eOp neD (eCall reprW (bCons (eFz (oDefK (G .noisy) 2 [1, 0] (aCons (eVar 9) (aCons (eVar 8) (aNil))))) (aNil))) (eVar 11)))) (sRet (oFr (eC (.bool false)))) (sNil)
def rtH (G : Fn → FS) : SS := sSet 12 (oFr (eFz (oDef (G ._law_weights) [] (aCons (eVar 0) (aCons (eVar 3) (aCons (eVar 1) (aNil)))))))
def rtI (G : Fn → FS) : SS := sPar 13 14 (aCons (eFz (oDef (G ._law_great_bets) [] (aCons (eVar 0) (aCons (eVar 3) (aCons (eVar 1) (aNil)))))) (aCons (eFz (oDef (G ._law_shown_line) [] (aCons (eVar 0) (aCons (eVar 12) (aNil))))) (aNil)))
def rtJ (G : Fn → FS) : SS := sSet 15 (oFr (eFz (oDef (G .news_worth) [] (aCons (eVar 8) (aCons (eVar 14) (aCons (eVar 13) (aNil)))))))
def rtK (G : Fn → FS) : SS := sIf (tOrD (tBool (eOp neD (eCall reprW (bCons (eVar 15) (aNil))) (eCall reprW (bCons (eFz (oDef (G ._law_worth) [] (aCons (eVar 6) (aCons (eVar 12) (aCons (eVar 13) (aNil)))))) (aNil))))) (tBool (eOp neD (eCall reprW (bCons (eFz (oDefK (G .news_worth) 3 [2, 1, 0] (aCons (eVar 13) (aCons (eVar 14) (aCons (eVar 8) (aNil)))))) (aNil))) (eCall reprW (bCons (eVar 15) (aNil)))))) (sRet (oFr (eC (.bool false)))) (sNil)
def rtL : SS := sSet 16 (oFr (eCall tupleB (bCons (eFz (oLc (pRange1 (bCons (eVar 4) (aNil))) (gNm 18) (tTrue) (eCall tupleB (bCons (eFz (oLc (pRange1 (bCons (eVar 4) (aNil))) (gNm 19) (tTrue) (eTup (aCons (eCall intB (bCons (eOp eqD (eVar 19) (eVar 18)) (aNil))) (aCons (eC (.int 1)) (aNil)))) [19])) (aNil))) [18])) (aNil))))
def rtM (G : Fn → FS) : SS := sIf (tOrD (tBool (eOp neD (eCall reprW (bCons (eFz (oDef (G .noisy) [] (aCons (eVar 8) (aCons (eVar 16) (aNil))))) (aNil))) (eCall reprW (bCons (eFz (oDef (G ._law_low_sheet) [] (aCons (eVar 6) (aNil)))) (aNil))))) (tNotD (tTru (eFz (oDef (G ._law_single_right) [] (aCons (eVar 6) (aCons (eVar 12) (aCons (eVar 13) (aCons (eVar 15) (aNil)))))))))) (sRet (oFr (eC (.bool false)))) (sNil)
def rtN : SS := sIf (tTru (eVar 1)) (sRet (oFr (eC (.bool true)))) (sNil)
def rtO (G : Fn → FS) : SS := sSet 17 (oFr (eFz (oDef (G .news_worth) [] (aCons (eFz (oDef (G ._law_low_sheet) [] (aCons (eVar 10) (aNil)))) (aCons (eVar 14) (aCons (eVar 13) (aNil)))))))
def rtP (G : Fn → FS) : SS := sRet (oFr (eAnd (eOp leD (eOp mulD (eIx (eVar 17) (eC (.int 0))) (eIx (eVar 15) (eC (.int 1)))) (eOp mulD (eIx (eVar 15) (eC (.int 0))) (eIx (eVar 17) (eC (.int 1))))) (eFz (oDef (G ._law_chain_right) [] (aCons (eVar 0) (aCons (eVar 8) (aCons (eVar 9) (aCons (eVar 5) (aNil)))))))))
theorem rt_split (G : Fn → FS) : s__law_right G = sSeq (rtA G) (sSeq rtB (sSeq (rtC G) (sSeq (rtD G) (sSeq (rtE G) (sSeq (rtF G) (sSeq (rtG G) (sSeq (rtH G) (sSeq (rtI G) (sSeq (rtJ G) (sSeq (rtK G) (sSeq rtL (sSeq (rtM G) (sSeq rtN (sSeq (rtO G) (rtP G))))))))))))))) := rfl
/-! ### k83: all together -/
theorem s_par3 {fa : SA} {i j l : Nat} {u v w : Val} {sl sl' : Sl} {cs cs1 : Cs} (h : fa sl cs = .ok [u, v, w] cs1) (e : ((sl.set i (some (.fr u))).set j (some (.fr v))).set l (some (.fr w)) = sl') : sPar3 i j l fa sl cs = .nx sl' cs1 := by
  subst e
  unfold sPar3
  rw [h]
  rfl
def cc (g : Bool) : Nat := if g then 3 else 6
def KK (g : Bool) : Nat := if g then 198 else 12
def gl (g : Bool) : Nat := if g then 197 else 4
theorem Line.mono {j k m : Nat} {w : Nat → Int} (h : Line j m w) (l : j ≤ k) : Line k m w := ⟨h.nn, fun i => (h.bd i).mono l, h.pos⟩
theorem qrows_congr {n m : Nat} {A B : Mat} (h : ∀ i j, i < n → j < m → A i j = B i j) : qrows n m A = qrows n m B := by
  unfold qrows qrow
  congr 1
  exact tb_congr fun i hi => by
    congr 1
    exact tb_congr fun j hj => by rw [h i j hi hj]
/-- shares of a line -/
theorem share_ok {k m : Nat} {w : Nat → Int} (h : Line k m w) : (∀ j, 0 ≤ (w j : Rat) / (SI m w : Rat)) ∧ S m (fun j => (w j : Rat) / (SI m w : Rat)) = 1 := by
  have e2 : ∀ x : Rat, ∀ y : Rat, x / y = x * (1 / y) := fun x y => by grind
  refine ⟨fun j => ?_, ?_⟩
  · rw [e2]
    exact Rat.mul_nonneg (Rat.intCast_nonneg.mpr (h.nn j)) (inv_nn h.pos)
  · have : S m (fun j => (w j : Rat) / (SI m w : Rat)) = S m (fun j => (w j : Rat) * (1 / (SI m w : Rat))) := S_congr fun j _ => e2 _ _
    rw [this, S_mulR, ← SI_q]
    have := q_ne h.pos
    grind
theorem Shown.news {k kw n m : Nat} {W : Nat → Nat → Int} {F : FrM} (h : Shown k n m W F) (hW : ∀ i, Line kw m (W i)) : NewsF k n m F :=
  ⟨h.fr, fun i j hi hj => by rw [h.val i j hi hj]; exact (share_ok (hW i)).1 j, fun i hi => by rw [S_congr fun j hj => h.val i j hi hj]; exact (share_ok (hW i)).2⟩
theorem Shown.mono {j k n m : Nat} {W : Nat → Nat → Int} {F : FrM} (h : Shown j n m W F) (l : j ≤ k) : Shown k n m W F := ⟨fun i j hi hj => (h.fr i j hi hj).mono l, h.val⟩
/-- rows in lowest terms, handed in again -/
theorem news_q {k n m : Nat} {A : Mat} (hb : BqM k n m A) (h0 : ∀ i j, i < n → j < m → 0 ≤ A i j) (h1 : ∀ i, i < n → S m (A i) = 1) : NewsF k n m fun i j => ofQ (A i j) :=
  ⟨fun i j hi hj => frOk_q (hb i j hi hj), fun i j hi hj => by rw [fv_ofQ]; exact h0 i j hi hj, fun i hi => by rw [S_congr fun j hj => fv_ofQ (A i j)]; exact h1 i hi⟩
theorem fv_ofQM (A : Mat) : (fun i j => fv (ofQ (A i j))) = A := by
  funext i j
  exact fv_ofQ _
theorem fv_abs {f : Fr} {g : Nat} (h : FrOk g f) : -((2 ^ g : Int) : Rat) ≤ fv f ∧ fv f ≤ ((2 ^ g : Int) : Rat) := by
  have hb := h.2.1
  have d0 := h.1
  have d1 : (1 : Rat) ≤ ((f.2 : Int) : Rat) := by
    have : ((1 : Int) : Rat) ≤ ((f.2 : Int) : Rat) := Rat.intCast_le_intCast.mpr (by omega)
    exact this
  have dp : (0 : Rat) < ((f.2 : Int) : Rat) := Rat.intCast_pos.mpr (by omega)
  have nb : -(2 ^ g : Int) ≤ f.1 ∧ f.1 ≤ 2 ^ g := by
    have e : ((2 ^ g : Nat) : Int) = 2 ^ g := by simp
    unfold Bd at hb
    have := Int.ofNat_lt.mpr hb
    omega
  have e : fv f * ((f.2 : Int) : Rat) = (f.1 : Rat) := by
    rw [fv_div, Rat.intCast_natCast]
    exact Rat.div_mul_cancel (nq d0)
  have p : (0 : Rat) ≤ ((2 ^ g : Int) : Rat) := Rat.intCast_nonneg.mpr (Int.pow_nonneg (by decide))
  have q := Rat.mul_le_mul_of_nonneg_left d1 p
  rw [Rat.mul_one] at q
  refine ⟨Rat.le_of_mul_le_mul_right (c := ((f.2 : Int) : Rat)) ?_ dp, Rat.le_of_mul_le_mul_right (c := ((f.2 : Int) : Rat)) ?_ dp⟩
  · rw [e, Rat.neg_mul]
    have l : ((-(2 ^ g) : Int) : Rat) ≤ (f.1 : Rat) := Rat.intCast_le_intCast.mpr nb.1
    rw [Rat.intCast_neg] at l
    exact Rat.le_trans (Rat.neg_le_neg q) l
  · rw [e]
    exact Rat.le_trans (Rat.intCast_le_intCast.mpr nb.2) q
theorem SN_gbit (g : Bool) : ∀ n, n ≤ cc g → SN n (gbit g) ≤ if g then 205 else 24 := fun n h => by
  cases g with
  | false =>
    have := SN_le (b := gbit false) (c := 4) n fun i _ => by rw [gbit_f]; exact Nat.le_refl _
    have : n ≤ 6 := h
    simp
    omega
  | true =>
    have : n ≤ 3 := h
    have hn : n = 0 ∨ n = 1 ∨ n = 2 ∨ n = 3 := by omega
    rcases hn with rfl | rfl | rfl | rfl <;> decide
/-- what k83 draws -/
structure Set83 (g : Bool) (n m l a : Nat) (W B : Nat → Nat → Int) (w : Nat → Int) (F G M : FrM) (L : Nat → Fr) : Prop where
  n1 : 1 ≤ n
  nc : n ≤ cc g
  m1 : 1 ≤ m
  mc : m ≤ cc g
  l1 : 1 ≤ l
  lc : l ≤ cc g
  a1 : 1 ≤ a
  a6 : a ≤ 6
  hW : ∀ i, Line (wlim g) m (W i)
  hB : ∀ i, Line (wlim g) l (B i)
  hw : Line (wlim g) n w
  hF : Shown (KK g) n m W F
  hG : Shown (KK g) m l B G
  Lf : ∀ i, i < n → FrOk (KK g) (L i)
  Lv : ∀ i, i < n → fv (L i) = (w i : Rat) / (SI n w : Rat)
  hM : GameB (gbit g) a n M
section
variable {g : Bool} {n m l a N : Nat} {W B : Nat → Nat → Int} {w : Nat → Int} {F G M : FrM} {L : Nat → Fr}
abbrev PQ (m : Nat) (F G : FrM) : Mat := prodM m (fun i j => fv (F i j)) (fun i j => fv (G i j))
abbrev WQ (n m a : Nat) (F M : FrM) (L : Nat → Fr) : Rat := worthM n m a (fun i j => fv (F i j)) (fun i => fv (L i)) (fun t i => fv (M t i))
theorem cc6 (g : Bool) : cc g ≤ 6 := by cases g <;> decide
theorem Set83.six (h : Set83 g n m l a W B w F G M L) : n ≤ 6 ∧ m ≤ 6 ∧ l ≤ 6 := by
  have := cc6 g
  exact ⟨Nat.le_trans h.nc this, Nat.le_trans h.mc this, Nat.le_trans h.lc this⟩
theorem Set83.nF (h : Set83 g n m l a W B w F G M L) : NewsF (KK g) n m F := h.hF.news h.hW
theorem Set83.nG (h : Set83 g n m l a W B w F G M L) : NewsF (KK g) m l G := h.hG.news h.hB
theorem Set83.lean (h : Set83 g n m l a W B w F G M L) : LeanF (KK g) n L :=
  ⟨h.Lf, fun i hi => by rw [h.Lv i hi]; exact (share_ok h.hw).1 i, by rw [S_congr fun i hi => h.Lv i hi]; exact (share_ok h.hw).2⟩
theorem gbit_gl (g : Bool) (i : Nat) : gbit g i ≤ gl g := by
  cases g with
  | false => rw [gbit_f]; decide
  | true => exact gbit_le true i
theorem Set83.game (h : Set83 g n m l a W B w F G M L) : GameF (gl g) a n M := h.hM.f (gbit_gl g)
theorem Set83.noisy (h : Set83 g n m l a W B w F G M L) (hN : 9 ≤ N) (cs : Cs) : sem N .noisy [.d (frows n m F), .d (frows m l G)] cs = okD (qrows n l (PQ m F G)) cs := by
  obtain ⟨n6, m6, l6⟩ := h.six
  exact noisy_ok h.nF h.nG (by cases g <;> decide) (by cases g <;> decide) (by cases g <;> decide) h.n1 n6 h.m1 m6 h.l1 l6 hN cs
/-- the bits of what is told on -/
def KP (g : Bool) : Nat := if g then 1192 else 151
theorem Set83.pq (h : Set83 g n m l a W B w F G M L) : BqM (KP g) n l (PQ m F G) := fun i j hi hj => by
  have e := Bq.S (n := m) (k := KK g + KK g) (f := fun k => fv (F i k) * fv (G k j)) fun k hk => (h.hF.fr i k hi hk).q.mul (h.hG.fr k j hk hj).q
  refine e.mono ?_
  have q := Nat.mul_le_mul_right (KK g + KK g + 1) h.mc
  cases g with
  | false => exact Nat.add_le_add_right q 1
  | true => exact Nat.add_le_add_right q 1
theorem Set83.pq0 (h : Set83 g n m l a W B w F G M L) : (∀ i j, i < n → j < l → 0 ≤ PQ m F G i j) ∧ ∀ i, i < n → S l (PQ m F G i) = 1 := by
  refine ⟨fun i j hi hj => prod_pos (fun k hk => h.nF.nn i k hi hk) fun k hk => h.nG.nn k j hk hj, fun i hi => ?_⟩
  rw [prod_row m l _ _ i fun k hk => h.nG.one k hk]
  exact h.nF.one i hi
theorem Set83.ws (h : Set83 g n m l a W B w F G M L) : Ws (wlim g) (wlim g + m) n m W ∧ Ws (wlim g) (wlim g + l) m l B := ⟨Line.ws h.hW, Line.ws h.hB⟩
theorem Set83.blurred (h : Set83 g n m l a W B w F G M L) (hN : 4 ≤ N) (cs : Cs) : ∃ X : Nat → Nat → Int, sem N ._law_blurred [.d (irows n m W), .d (irows m l B)] cs = .ok (.ow (irows n l X)) cs ∧ ∀ cs, sem N ._law_low_sheet [.d (irows n l X)] cs = okD (qrows n l (PQ m F G)) cs := by
  obtain ⟨n6, m6, l6⟩ := h.six
  obtain ⟨hW, hB⟩ := h.ws
  have mt : m * (wlim g + l) ≤ cc g * (wlim g + cc g) := Nat.mul_le_mul h.mc (Nat.add_le_add_left h.lc _)
  have num : wlim g + wlim g + (1 + cc g * (wlim g + cc g)) + 6 + (wlim g + cc g) ≤ 8000 := by cases g <;> decide
  obtain ⟨X, c, hX, e⟩ := blurred_ok (N := N) hW hB (by omega) n6 h.m1 m6 l6 (by omega) cs
  obtain ⟨s0, s1, s2⟩ := scl_ok hB
  have sum : ∀ i, i < n → SI l (X i) * c i = scl m l B * SI m (W i) := fun i hi => by
    rw [← blurY_sum hB, ← SI_mulR]
    exact SI_congr fun j hj => (hX i hi).2 j hj
  have pos : ∀ i, i < n → 0 < SI l (X i) := fun i hi => by
    have p := Int.mul_pos s0 (hW.pos i hi)
    rw [← sum i hi] at p
    exact Int.lt_of_mul_lt_mul_left (a := c i) (by rw [Int.mul_zero, Int.mul_comm]; exact p) (Int.le_of_lt (hX i hi).1)
  refine ⟨X, e, fun cs => ?_⟩
  have lo := low_sheet_ok (N := N) (W := X) (n := n) (m := l) pos (fun i hi => by
    have b := s2.mul (hW.bs i hi)
    rw [← sum i hi] at b
    refine (b.le ?_).mono (k := 8000) (by
      have := h.mc
      omega)
    have c1 := (hX i hi).1
    have p := pos i hi
    rw [Int.natAbs_mul]
    exact Nat.le_mul_of_pos_right _ (by omega)) n6 l6 (by omega) cs
  have e2 : qrows n l (fun i j => (X i j : Rat) / (SI l (X i) : Rat)) = qrows n l (PQ m F G) := qrows_congr fun i j hi hj => by
    rw [blur_q hB (hW.pos i hi) (hX i hi).1 (hX i hi).2 hj]
    exact S_congr fun k hk => by
      show _ = fv (F i k) * fv (G k j)
      rw [h.hF.val i k hi hk, h.hG.val k j hk hj]
  rw [lo, e2]
theorem nl (c n m K : Nat) (hn : n ≤ c) (hm : m ≤ c) : m * (n * K + 1 + 1) + 1 ≤ c * (c * K + 1 + 1) + 1 :=
  Nat.add_le_add_right (Nat.mul_le_mul hm (Nat.add_le_add_right (Nat.add_le_add_right (Nat.mul_le_mul_right _ hn) 1) 1)) 1
theorem Set83.worth (h : Set83 g n m l a W B w F G M L) (hN : 9 ≤ N) (cs : Cs) : sem N .news_worth [.d (frows n m F), .d (frow n L), .d (frows a n M)] cs = okD (qD (WQ n m a F M L)) cs := by
  obtain ⟨n6, m6, l6⟩ := h.six
  have b1 := nl (cc g) n m (KK g + KK g + gl g + 1) h.nc h.mc
  have b2 : n * (KK g + KK g + gl g + 1) + 1 ≤ cc g * (KK g + KK g + gl g + 1) + 1 := Nat.add_le_add_right (Nat.mul_le_mul_right _ h.nc) 1
  have b3 : cc g * (cc g * (KK g + KK g + gl g + 1) + 1 + 1) + 1 ≤ 8000 ∧ cc g * (KK g + KK g + gl g + 1) + 1 ≤ 8000 := by cases g <;> decide
  exact news_worth_ok h.nF h.lean h.game (by cases g <;> decide) (by cases g <;> decide) h.n1 n6 h.m1 m6 h.a1 h.a6 (Nat.le_trans b1 b3.1) (Nat.le_trans b2 b3.2) hN cs
theorem Set83.wq (h : Set83 g n m l a W B w F G M L) : WQ n m a F M L = worthM n m a (fun i j => (W i j : Rat) / (SI m (W i) : Rat)) (fun i => (w i : Rat) / (SI n w : Rat)) (fun t i => fv (M t i)) := by
  unfold WQ worthM
  refine S_congr fun j hj => MX_congr h.a1 fun t ht => S_congr fun i hi => ?_
  show fv (L i) * fv (F i j) * fv (M t i) = _
  rw [h.hF.val i j hi hj, h.Lv i hi]
theorem Set83.wl (h : Set83 g n m l a W B w F G M L) : Wl (wlim g) (wlim g + n) n w := ⟨h.hw.nn, h.hw.pos, fun i _ => h.hw.bd i, Bd.SI fun i _ => h.hw.bd i⟩
theorem Set83.num2 (h : Set83 g n m l a W B w F G M L) : (1 + n * (wlim g + m)) + (1 + a * (n * gl g)) + (wlim g + n) + gl g + wlim g + wlim g ≤ 8000 := by
  have b1 : n * (wlim g + m) ≤ cc g * (wlim g + cc g) := Nat.mul_le_mul h.nc (Nat.add_le_add_left h.mc _)
  have b2 : a * (n * gl g) ≤ 6 * (cc g * gl g) := Nat.mul_le_mul h.a6 (Nat.mul_le_mul_right _ h.nc)
  have b3 : (1 + cc g * (wlim g + cc g)) + (1 + 6 * (cc g * gl g)) + (wlim g + cc g) + gl g + wlim g + wlim g ≤ 8000 := by cases g <;> decide
  have := h.nc
  omega
theorem Set83.law_worth (h : Set83 g n m l a W B w F G M L) (hN : 3 ≤ N) (cs : Cs) : sem N ._law_worth [.d (irows n m W), .d (irow n w), .d (frows a n M)] cs = okD (qD (WQ n m a F M L)) cs := by
  obtain ⟨n6, m6, l6⟩ := h.six
  rw [h.wq]
  exact law_worth_ok h.ws.1 h.wl h.game h.num2 h.n1 n6 m6 h.a1 h.a6 hN cs
theorem Set83.single (h : Set83 g n m l a W B w F G M L) (hN : 3 ≤ N) (cs : Cs) : sem N ._law_single_right [.d (irows n m W), .d (irow n w), .d (frows a n M), .d (qD (WQ n m a F M L))] cs = okB true cs := by
  obtain ⟨n6, m6, l6⟩ := h.six
  rw [h.wq]
  exact single_ok h.ws.1 h.wl h.game (by have := h.num2; omega) h.n1 n6 h.m1 m6 h.a1 h.a6 hN cs
/-- few figures -/
theorem Set83.wbits (h : Set83 g n m l a W B w F G M L) : Bq 1900 (WQ n m a F M L) := by
  obtain ⟨n6, m6, l6⟩ := h.six
  obtain ⟨hW, hB⟩ := h.ws
  obtain ⟨D, i1, d0, db⟩ := worth_parts (n := n) (m := m) (a := a) (A := fun i j => fv (F i j)) (L := fun i => fv (L i)) (G := fun t i => fv (M t i)) (DL := SI n w) (DS := fun i => SI m (W i)) (DG := fun t i => ((M t i).2 : Int)) (bL := wlim g + n) (bS := wlim g + m) (bG := gbit g) h.a1
    (fun i hi => by show isI _ (fv (L i)); rw [h.Lv i hi]; exact isI_frac h.hw.pos) (fun i j hi hj => by show isI _ (fv (F i j)); rw [h.hF.val i j hi hj]; exact isI_frac (h.hW i).pos) (fun t i ht hi => isI_fr (h.hM t i ht hi).1)
    ⟨h.hw.pos, h.wl.bs⟩ (fun i hi => ⟨(h.hW i).pos, hW.bs i hi⟩) (fun t i ht hi => ⟨by have := (h.hM t i ht hi).1; omega, (h.hM t i ht hi).2.2⟩)
  obtain ⟨lo, hi⟩ := worth_abs (n := n) (m := m) (a := a) (A := fun i j => fv (F i j)) (L := fun i => fv (L i)) (G := fun t i => fv (M t i)) (C := ((2 ^ gl g : Int) : Rat)) h.a1 h.nF.nn h.nF.one h.lean.nn h.lean.one fun t i ht hi => fv_abs ((h.hM t i ht hi).mono (gbit_gl g i))
  refine (i1.bq (C := 0) d0 db lo hi).mono ?_
  have b1 : n * (wlim g + m) ≤ cc g * (wlim g + cc g) := Nat.mul_le_mul h.nc (Nat.add_le_add_left h.mc _)
  have b2 : m * (1 + SN n (gbit g)) ≤ cc g * (1 + if g then 205 else 24) := Nat.mul_le_mul h.mc (Nat.add_le_add_left (SN_gbit g n h.nc) _)
  have b3 : wlim g + cc g + (1 + cc g * (wlim g + cc g)) + (1 + cc g * (1 + if g then 205 else 24)) + gl g + 1 ≤ 1900 := by cases g <;> decide
  have := h.nc
  generalize cc g * (1 + if g then 205 else 24) = T at *
  omega
/-- noise that tells on everything -/
def plF (t j : Nat) : Fr := (if j = t then 1 else 0, 1)
theorem plF_q (t j : Nat) : fv (plF t j) = if j = t then 1 else 0 := by
  unfold plF fv
  by_cases h : j = t
  · simp only [h, if_true]; rfl
  · simp only [h, if_false]; rfl
theorem plain_news (m : Nat) : NewsF 12 m m plF := by
  refine ⟨fun i j _ _ => ⟨by show 0 < 1; decide, ?_, by show Bd 12 1; unfold Bd; decide⟩, fun i j _ _ => ?_, fun i hi => ?_⟩
  · unfold plF
    dsimp only
    split <;> (unfold Bd; decide)
  · rw [plF_q]
    split <;> decide
  · rw [S_one m i _ hi fun j hj hne => by rw [plF_q, if_neg hne], plF_q, if_pos rfl]
theorem Set83.plain (h : Set83 g n m l a W B w F G M L) (hN : 9 ≤ N) (cs : Cs) : sem N .noisy [.d (frows n m F), .d (frows m m plF)] cs = okD (qrows n m fun i j => fv (F i j)) cs := by
  obtain ⟨n6, m6, l6⟩ := h.six
  have e := noisy_ok (N := N) h.nF (plain_news m) (by cases g <;> decide) (by decide) (by cases g <;> decide) h.n1 n6 h.m1 m6 h.m1 m6 hN cs
  have e2 : qrows n m (prodM m (fun i j => fv (F i j)) fun i j => fv (plF i j)) = qrows n m fun i j => fv (F i j) := qrows_congr fun i j hi hj => by
    unfold prodM
    rw [S_one m j _ hj fun k hk hne => by
      show fv (F i k) * fv (plF k j) = 0
      rw [plF_q, if_neg (fun z => hne z.symm), Rat.mul_zero]]
    show fv (F i j) * fv (plF j j) = fv (F i j)
    rw [plF_q, if_pos rfl, Rat.mul_one]
  rw [e, e2]
theorem Set83.low (h : Set83 g n m l a W B w F G M L) (hN : 3 ≤ N) (cs : Cs) : sem N ._law_low_sheet [.d (irows n m W)] cs = okD (qrows n m fun i j => fv (F i j)) cs := by
  obtain ⟨n6, m6, l6⟩ := h.six
  obtain ⟨hW, hB⟩ := h.ws
  rw [low_sheet_ok (fun i hi => hW.pos i hi) (fun i hi => (hW.bs i hi).mono (by
    have : wlim g + cc g ≤ 8000 := by cases g <;> decide
    have := h.mc
    omega)) n6 m6 hN cs]
  have e2 : qrows n m (fun i j => (W i j : Rat) / (SI m (W i) : Rat)) = qrows n m fun i j => fv (F i j) := qrows_congr fun i j hi hj => (h.hF.val i j hi hj).symm
  rw [e2]
/-- what is told on is worth at most as much; small numbers alone -/
theorem Set83.less (h : Set83 false n m l a W B w F G M L) (hN : 9 ≤ N) : ∃ q : Rat, (∀ cs : Cs, sem N .news_worth [.d (qrows n l (PQ m F G)), .d (frow n L), .d (frows a n M)] cs = okD (qD q) cs) ∧ q ≤ WQ n m a F M L ∧ Bq 8000 q := by
  obtain ⟨n6, m6, l6⟩ := h.six
  have nq := news_q h.pq h.pq0.1 h.pq0.2
  have b1 := nl 6 n l (KK false + KP false + gl false + 1) h.nc h.lc
  have b2 : n * (KK false + KP false + gl false + 1) + 1 ≤ 6 * (KK false + KP false + gl false + 1) + 1 := Nat.add_le_add_right (Nat.mul_le_mul_right _ n6) 1
  have e := fun cs : Cs => news_worth_ok (N := N) nq h.lean h.game (by decide) (by decide) h.n1 n6 h.l1 l6 h.a1 h.a6 (Nat.le_trans b1 (by decide)) (Nat.le_trans b2 (by decide)) hN cs
  simp only [fv_ofQM] at e
  refine ⟨_, e, worth_prod n m l a _ _ _ _ h.a1 (fun k j hk hj => h.nG.nn k j hk hj) h.nG.one, ?_⟩
  have bb := Bq.S (n := l) (k := n * (KK false + KP false + gl false + 1) + 1) (f := fun j => MX a fun t => S n fun i => fv (L i) * PQ m F G i j * fv (M t i)) fun j hj => Bq.MX h.a1 fun t ht => Bq.S fun i hi => (((h.Lf i hi).q.mul (h.pq i j hi hj)).mul (h.game.fr t i ht hi).q)
  exact bb.mono (Nat.le_trans b1 (by decide))
theorem Set83.chain (h : Set83 false n m l a W B w F G M L) {b q : Nat} {cs : Cs} (B0 : BagQ b cs (q + 122)) (hN : 12 ≤ N) : ∃ cs', sem N ._law_chain_right [.cel b, .d (frows n m F), .d (frows m l G), .d (.int (l : Int))] cs = okB true cs' ∧ BagQ b cs' q := by
  obtain ⟨N, rfl⟩ : ∃ n, N = n + 2 := ⟨N - 2, by omega⟩
  obtain ⟨n6, m6, l6⟩ := h.six
  obtain ⟨r, cs1, e1, r0, r1, B1⟩ := pull_q (n := N) (m := 6) (q := q + 121) B0 (by decide) (by decide)
  obtain ⟨p, hp⟩ : ∃ p : Nat, 1 + r = (p : Int) := ⟨(1 + r).toNat, by omega⟩
  have bl : l * (3 * p + 1) ≤ 6 * (3 * 6 + 1) := Nat.mul_le_mul l6 (by omega)
  obtain ⟨C, cs2, e2, hC, B2⟩ := sheet_ok (N := N + 1) (great := false) (n := l) (m := p) (q := q + 6) (B1.mono (by omega)) l6 (by omega) (by omega) (by omega)
  obtain ⟨H, cs3, e3, hH, B3⟩ := shown_ok (N := N + 1) (n := l) (m := p) (q := q) hC (by decide) (B2.mono (by omega)) l6 (by omega) (by omega)
  have nH : NewsF 12 l p H := (hH.mono (by show 4 + p + 2 ≤ 12; omega)).news hC
  have nP := news_q h.pq h.pq0.1 h.pq0.2
  -- noise on noise, both ways
  have x1 := h.noisy (N := N + 1) (by omega) cs3
  have x2 := noisy_ok (N := N + 1) nP nH (by decide) (by decide) (by decide) h.n1 n6 h.l1 l6 (by omega) (by omega) (by omega) cs3
  have x3 := noisy_ok (N := N + 1) h.nG nH (by decide) (by decide) (by decide) h.m1 m6 h.l1 l6 (by omega) (by omega) (by omega) cs3
  have q2 : BqM (KP false) m p (PQ l G H) := fun i j hi hj => by
    have e := Bq.S (n := l) (k := 12 + 12) (f := fun k => fv (G i k) * fv (H k j)) fun k hk => (h.hG.fr i k hi hk).q.mul (nH.fr k j hk hj).q
    refine e.mono ?_
    have q := Nat.mul_le_mul_right (12 + 12 + 1) l6
    exact Nat.add_le_add_right q 1
  have nQ : NewsF (KP false) m p fun i j => ofQ (PQ l G H i j) := news_q q2 (fun i j hi hj => prod_pos (fun k hk => h.nG.nn i k hi hk) fun k hk => nH.nn k j hk hj) fun i hi => by
    rw [prod_row l p _ _ i fun k hk => nH.one k hk]
    exact h.nG.one i hi
  have x4 := noisy_ok (N := N + 1) h.nF nQ (by decide) (by decide) (by decide) h.n1 n6 h.m1 m6 (by omega) (by omega) (by omega) cs3
  rw [fv_ofQM] at x2 x4
  have same : qrows n p (prodM l (PQ m F G) fun i j => fv (H i j)) = qrows n p (prodM m (fun i j => fv (F i j)) (PQ l G H)) := qrows_congr fun i j _ _ => prod_assoc m l _ _ _ i j
  rw [same] at x2
  have eqs := eq_self (qrows_fit n p (prodM m (fun i j => fv (F i j)) (PQ l G H))) (by decide)
  have ad : addD (.int 1) (.int r) = some (.int (p : Int)) := by rw [add_ev, hp]
  have r1 : (frows n l fun i j => ofQ (PQ m F G i j)) = qrows n l (PQ m F G) := rfl
  have r2 : (frows m p fun i j => ofQ (PQ l G H i j)) = qrows m p (PQ l G H) := rfl
  rw [r1] at x2
  rw [r2] at x4
  refine ⟨cs3, ?_, B3⟩
  generalize qrows n p (prodM m (fun i j => fv (F i j)) (PQ l G H)) = R at *
  generalize qrows n l (PQ m F G) = P1 at *
  generalize qrows m p (prodM l (fun i j => fv (G i j)) fun i j => fv (H i j)) = Q1 at *
  generalize frows n m F = T1 at *
  generalize frows m l G = T2 at *
  generalize frows l p H = T3 at *
  have o : s__law_chain_right (sem (N + 1)) [some (.fr (.cel b)), some (.fr (.d T1)), some (.fr (.d T2)), some (.fr (.d (.int (l : Int)))), none] cs = .rt (.fr (.d (.bool true))) cs3 := by
    unfold s__law_chain_right
    refine se_step (s_set (o_fr (v_fz (o_def0 (v_cons (v := .cel b) rfl rfl (v_cons (v_fz (o_def0 (v_cons (v := .cel b) rfl rfl (v_cons rfl rfl (v_cons (v_op rfl (v_fz (o_def0 (v_cons (v := .cel b) rfl rfl (v_cons rfl rfl v_nil)) e1) rfl) (o_dd ad)) rfl (v_cons rfl rfl v_nil)))) e2) rfl) rfl v_nil)) e3) rfl) rfl) rfl) ?_
    exact s_ret (o_fr (v_op (v_fz (o_def0 (v_cons (v_fz (o_def0 (v_cons rfl rfl (v_cons rfl rfl v_nil)) x1) rfl) rfl (v_cons rfl rfl v_nil)) x2) rfl) (v_fz (o_def0 (v_cons rfl rfl (v_cons (v_fz (o_def0 (v_cons rfl rfl (v_cons rfl rfl v_nil)) x3) rfl) rfl v_nil)) x4) rfl) (o_dd eqs)) rfl)
  rw [e__law_chain_right]
  exact congrArg bodyR o
end
end LW
end
section
set_option Elab.async false
set_option linter.all false
set_option maxRecDepth 100000
set_option autoImplicit false
namespace LW
open PySem PySem.Spec PyProof.Rows L2 DL
theorem wlim_le {g2 g : Bool} (h : g2 = true → g = true) : wlim g2 ≤ wlim g := by
  cases g2 <;> cases g <;> first | decide | exact absurd (h rfl) (by decide)
theorem lean_mono {j k : Nat} {f : Fr} (h : FrOk j f) (l : j ≤ k) : FrOk k f := h.mono l
theorem KK_eq (g : Bool) : wlim g + cc g + 2 = KK g := by cases g <;> rfl
section
variable {N b : Nat} {cs : Cs}
theorem neD_self {x : PyData} {k : Nat} (S : Sh x k) : neD (.str x.shown) (.str x.shown) = some (.bool false) := rep_ne S
theorem plF_i (t j : Nat) : (if ((j : Int) == (t : Int)) = true then (1 : Int) else 0) = (plF t j).1 := by
  unfold plF
  by_cases h : j = t
  · subst h; simp
  · have : ((j : Int) == (t : Int)) = false := by simp; omega
    rw [this, if_neg h]
    rfl
theorem right_ok (hN : 20 ≤ N) (B0 : BagQ b cs 700) : ∃ cs', sem N ._law_right [.cel b] cs = .ok (.fr (.d (.bool true))) cs' := by
  obtain ⟨N, rfl⟩ : ∃ n, N = n + 2 := ⟨N - 2, by omega⟩
  -- what is drawn
  obtain ⟨r0, cs1, e1, _, _, B1⟩ := pull_q (n := N) (m := 5) (q := 699) B0 (by decide) (by decide)
  have eg := eq_i r0 0
  generalize (r0 == 0) = g at eg
  have c0 : (0 : Int) < (cc g : Int) ∧ (cc g : Int) < 2 ^ 200 := by cases g <;> decide
  obtain ⟨r1, cs2, e2, p1, q1, B2⟩ := pull_q (n := N) (m := (cc g : Int)) (q := 698) B1 c0.1 c0.2
  obtain ⟨r2, cs3, e3, p2, q2, B3⟩ := pull_q (n := N) (m := (cc g : Int)) (q := 697) B2 c0.1 c0.2
  obtain ⟨r3, cs4, e4, p3, q3, B4⟩ := pull_q (n := N) (m := (cc g : Int)) (q := 696) B3 c0.1 c0.2
  obtain ⟨n, hn⟩ : ∃ n : Nat, 1 + r1 = (n : Int) := ⟨(1 + r1).toNat, by omega⟩
  obtain ⟨m, hm⟩ : ∃ n : Nat, 1 + r2 = (n : Int) := ⟨(1 + r2).toNat, by omega⟩
  obtain ⟨l, hl⟩ : ∃ n : Nat, 1 + r3 = (n : Int) := ⟨(1 + r3).toNat, by omega⟩
  have n1 : 1 ≤ n ∧ n ≤ cc g := by omega
  have m1 : 1 ≤ m ∧ m ≤ cc g := by omega
  have l1 : 1 ≤ l ∧ l ≤ cc g := by omega
  have c6 := cc6 g
  have b1 : n * (3 * m + 1) ≤ 6 * (3 * 6 + 1) := Nat.mul_le_mul (by omega) (by omega)
  have b2 : m * (3 * l + 1) ≤ 6 * (3 * 6 + 1) := Nat.mul_le_mul (by omega) (by omega)
  obtain ⟨W, cs5, e5, hW, B5⟩ := sheet_ok (N := N + 1) (great := g) (n := n) (m := m) (q := 500) (B4.mono (by omega)) (by omega) m1.1 (by omega) (by omega)
  have dr : ∃ (g2 : Bool) (cs6 : Cs), (g2 = true → g = true) ∧ (∀ y z x6, eAnd (eVar 1) (eOp eqD (eFz (oDef (sem (N + 1) ._law_pull) [] (aCons (eVar 0) (aCons (eC (.int 2)) (aNil))))) (eC (.int 0))) (some (.fr (.cel b)) :: some (.fr (.d (.bool g))) :: y :: z :: x6) cs5 = .ok (.d (.bool g2)) cs6) ∧ BagQ b cs6 499 := by
    cases g with
    | false => exact ⟨false, cs5, fun z => z, fun y z x6 => v_andb rfl (cond_f rfl), B5.mono (by omega)⟩
    | true =>
      obtain ⟨u, cs6, e6, _, _, B6⟩ := pull_q (n := N) (m := 2) (q := 499) B5 (by decide) (by decide)
      have eu := eq_i u 0
      exact ⟨(u == 0), cs6, fun _ => rfl, fun y z x6 => v_andb rfl (cond_t (v_op (v_fz (o_def0 (v_cons (v := .cel b) rfl rfl (v_cons rfl rfl v_nil)) e6) rfl) rfl (o_dd eu))), B6⟩
  obtain ⟨g2, cs6, hg2, e6, B6⟩ := dr
  obtain ⟨B, cs7, e7, hB0, B7⟩ := sheet_ok (N := N + 1) (great := g2) (n := m) (m := l) (q := 380) (B6.mono (by omega)) (by omega) l1.1 (by omega) (by omega)
  have hB : ∀ i, Line (wlim g) l (B i) := fun i => (hB0 i).mono (wlim_le hg2)
  have w4 : wlim g ≤ 4000 := by cases g <;> decide
  have kk := KK_eq g
  obtain ⟨F, cs8, e8, hF0, B8⟩ := shown_ok (N := N + 1) (n := n) (m := m) (q := 370) hW w4 (B7.mono (by omega)) (by omega) (by omega) (by omega)
  obtain ⟨G, cs9, e9, hG0, B9⟩ := shown_ok (N := N + 1) (n := m) (m := l) (q := 360) hB w4 (B8.mono (by omega)) (by omega) (by omega) (by omega)
  obtain ⟨w, cs10, e10, hw, B10⟩ := weights_ok (N := N + 1) (great := g) (m := n) (q := 340) (B9.mono (by omega)) n1.1 (by omega) (by omega)
  obtain ⟨a, M, cs11, e11, a1, a6, hM, B11⟩ := great_bets_ok (N := N + 1) (great := g) (n := n) (q := 240) (B10.mono (by omega)) n1.1 (by omega) (by omega)
  obtain ⟨L, cs12, e12, hL, B12⟩ := shown_line_ok (N := N + 1) (n := n) (q := 239) hw w4 B11 (by omega) (by omega)
  have D : Set83 g n m l a W B w F G M L := ⟨n1.1, n1.2, m1.1, m1.2, l1.1, l1.2, a1, a6, hW, hB, hw, hF0.mono (by omega), hG0.mono (by omega), fun i hi => (hL i hi).1.mono (by omega), fun i hi => (hL i hi).2, hM⟩
  clear hW hB0 hB hF0 hG0 hw hM hL
  -- what is worked
  obtain ⟨n6, m6, l6⟩ := D.six
  obtain ⟨X, f1, f2⟩ := D.blurred (N := N + 1) (by omega) cs9
  have f3 := fun cs => D.noisy (N := N + 1) (by omega) cs
  have f4 := fun cs => D.worth (N := N + 1) (by omega) cs
  have f5 := fun cs => D.law_worth (N := N + 1) (by omega) cs
  have f6 := fun cs => D.plain (N := N + 1) (by omega) cs
  have f7 := fun cs => D.low (N := N + 1) (by omega) cs
  have f8 := fun cs => D.single (N := N + 1) (by omega) cs
  have kp : KP g < 1920 := by cases g <;> decide
  have kp0 : 0 < KP g := by cases g <;> decide
  have k2 : KK g < 1920 := by cases g <;> decide
  have k20 : 0 < KK g := by cases g <;> decide
  have rr1 := fun cs => rep_qrows D.pq kp0 kp n6 l6 cs
  have rr2 := fun cs => rep_qD D.wbits (by decide) (by decide) cs
  have bF : BqM (KK g) n m fun i j => fv (F i j) := fun i j hi hj => (D.hF.fr i j hi hj).q
  have rr3 := fun cs => rep_qrows bF k20 k2 n6 m6 cs
  have d1 := neD_self (qrows_sh D.pq kp0 kp n6 l6)
  have d2 := neD_self (qD_sh D.wbits (by decide) (by decide))
  have d3 := neD_self (qrows_sh bF k20 k2 n6 m6)
  -- the statements
  have hA : rtA (sem (N + 1)) [some (.fr (.cel b)), none, none, none, none, none, none, none, none, none, none, none, none, none, none, none, none, none, none, none] cs = .nx [some (.fr (.cel b)), some (.fr (.d (.bool g))), some (.fr (.d (.int 6))), none, none, none, none, none, none, none, none, none, none, none, none, none, none, none, none, none] cs1 :=
    s_par (v_cons (v_op (v_fz (o_def0 (v_cons (v := .cel b) rfl rfl (v_cons rfl rfl v_nil)) e1) rfl) rfl (o_dd eg)) rfl (v_cons rfl rfl v_nil)) rfl
  have hBs : rtB [some (.fr (.cel b)), some (.fr (.d (.bool g))), some (.fr (.d (.int 6))), none, none, none, none, none, none, none, none, none, none, none, none, none, none, none, none, none] cs1 = .nx [some (.fr (.cel b)), some (.fr (.d (.bool g))), some (.fr (.d (.int (cc g : Int)))), none, none, none, none, none, none, none, none, none, none, none, none, none, none, none, none, none] cs1 := by
    cases g with
    | false => exact s_ifb (t_tru rfl rfl) (cond_f s_nil)
    | true => exact s_ifb (t_tru rfl rfl) (cond_t (s_set (o_fr rfl rfl) rfl))
  have an : addD (.int 1) (.int r1) = some (.int (n : Int)) := by rw [add_ev, hn]
  have am : addD (.int 1) (.int r2) = some (.int (m : Int)) := by rw [add_ev, hm]
  have al : addD (.int 1) (.int r3) = some (.int (l : Int)) := by rw [add_ev, hl]
  generalize (cc g : Int) = C at *
  have hC : rtC (sem (N + 1)) [some (.fr (.cel b)), some (.fr (.d (.bool g))), some (.fr (.d (.int C))), none, none, none, none, none, none, none, none, none, none, none, none, none, none, none, none, none] cs1 = .nx [some (.fr (.cel b)), some (.fr (.d (.bool g))), some (.fr (.d (.int C))), some (.fr (.d (.int (n : Int)))), some (.fr (.d (.int (m : Int)))), some (.fr (.d (.int (l : Int)))), none, none, none, none, none, none, none, none, none, none, none, none, none, none] cs4 :=
    s_par3 (v_cons (v_op rfl (v_fz (o_def0 (v_cons (v := .cel b) rfl rfl (v_cons rfl rfl v_nil)) e2) rfl) (o_dd an)) rfl (v_cons (v_op rfl (v_fz (o_def0 (v_cons (v := .cel b) rfl rfl (v_cons rfl rfl v_nil)) e3) rfl) (o_dd am)) rfl (v_cons (v_op rfl (v_fz (o_def0 (v_cons (v := .cel b) rfl rfl (v_cons rfl rfl v_nil)) e4) rfl) (o_dd al)) rfl v_nil))) rfl
  have hD : rtD (sem (N + 1)) [some (.fr (.cel b)), some (.fr (.d (.bool g))), some (.fr (.d (.int C))), some (.fr (.d (.int (n : Int)))), some (.fr (.d (.int (m : Int)))), some (.fr (.d (.int (l : Int)))), none, none, none, none, none, none, none, none, none, none, none, none, none, none] cs4 = .nx [some (.fr (.cel b)), some (.fr (.d (.bool g))), some (.fr (.d (.int C))), some (.fr (.d (.int (n : Int)))), some (.fr (.d (.int (m : Int)))), some (.fr (.d (.int (l : Int)))), some (.fr (.d (irows n m W))), some (.fr (.d (irows m l B))), none, none, none, none, none, none, none, none, none, none, none, none] cs7 :=
    s_par (v_cons (v_fz (o_def0 (v_cons (v := .cel b) rfl rfl (v_cons rfl rfl (v_cons rfl rfl (v_cons rfl rfl v_nil)))) e5) rfl) rfl (v_cons (v_fz (o_def0 (v_cons (v := .cel b) rfl rfl (v_cons rfl rfl (v_cons rfl rfl (v_cons (e6 _ _ _) rfl v_nil)))) e7) rfl) rfl v_nil)) rfl
  have hE : rtE (sem (N + 1)) [some (.fr (.cel b)), some (.fr (.d (.bool g))), some (.fr (.d (.int C))), some (.fr (.d (.int (n : Int)))), some (.fr (.d (.int (m : Int)))), some (.fr (.d (.int (l : Int)))), some (.fr (.d (irows n m W))), some (.fr (.d (irows m l B))), none, none, none, none, none, none, none, none, none, none, none, none] cs7 = .nx [some (.fr (.cel b)), some (.fr (.d (.bool g))), some (.fr (.d (.int C))), some (.fr (.d (.int (n : Int)))), some (.fr (.d (.int (m : Int)))), some (.fr (.d (.int (l : Int)))), some (.fr (.d (irows n m W))), some (.fr (.d (irows m l B))), some (.fr (.d (frows n m F))), some (.fr (.d (frows m l G))), some (.fr (.d (irows n l X))), none, none, none, none, none, none, none, none, none] cs9 :=
    s_par3 (v_cons (v_fz (o_def0 (v_cons (v := .cel b) rfl rfl (v_cons rfl rfl v_nil)) e8) rfl) rfl (v_cons (v_fz (o_def0 (v_cons (v := .cel b) rfl rfl (v_cons rfl rfl v_nil)) e9) rfl) rfl (v_cons (v_fz (o_def0 (v_cons rfl rfl (v_cons rfl rfl v_nil)) f1) rfl) rfl v_nil))) rfl
  have plain : ∀ (x0 x1 x2 x3 x5 x6 x7 x8 x9 x10 x11 x12 x13 x14 x15 x17 : Option DL.Slot) (cs : Cs), rtL [x0, x1, x2, x3, some (.fr (.d (.int (m : Int)))), x5, x6, x7, x8, x9, x10, x11, x12, x13, x14, x15, none, x17, none, none] cs = .nx [x0, x1, x2, x3, some (.fr (.d (.int (m : Int)))), x5, x6, x7, x8, x9, x10, x11, x12, x13, x14, x15, some (.fr (.d (frows m m plF))), x17, none, none] cs := fun x0 x1 x2 x3 x5 x6 x7 x8 x9 x10 x11 x12 x13 x14 x15 x17 cs => by
    unfold rtL
    refine s_set (o_fr (v_call (ev_bcons (v_fz (lc_rng (n := m) (f := fun t => frow m (plF t)) (cs1 := cs) (ev_bcons rfl v_nil) (by omega) fun t ht => ?_) rfl) v_nil) rfl) rfl) rfl
    refine v_call (ev_bcons (v_fz (lc_rng (n := m) (f := fun j => frD (plF t j)) (cs1 := cs) (ev_bcons rfl v_nil) (by omega) fun j hj => ?_) rfl) v_nil) rfl
    have e := eq_i (j : Int) (t : Int)
    have i1 : intB [.d (.bool ((j : Int) == (t : Int)))] cs = .ok (.d (.int (plF t j).1)) cs := by
      rw [ev_intB, plF_i]
    exact v_tup (v_cons (v_call (ev_bcons (v_op rfl rfl (o_dd e)) v_nil) i1) rfl (v_cons rfl rfl v_nil)) rfl
  -- small names for great data
  have lq : g = false → ∃ (q : Rat) (cs13 : Cs), (∀ cs, sem (N + 1) .news_worth [.d (qrows n l (PQ m F G)), .d (frow n L), .d (frows a n M)] cs = okD (qD q) cs) ∧ mulD (.int q.num) (.int (WQ n m a F M L).den) = some (.int (q.num * (WQ n m a F M L).den)) ∧ mulD (.int (WQ n m a F M L).num) (.int q.den) = some (.int ((WQ n m a F M L).num * q.den)) ∧ leD (.int (q.num * (WQ n m a F M L).den)) (.int ((WQ n m a F M L).num * q.den)) = some (.bool true) ∧ sem (N + 1) ._law_chain_right [.cel b, .d (frows n m F), .d (frows m l G), .d (.int (l : Int))] cs12 = okB true cs13 := fun hg => by
    subst hg
    obtain ⟨q, h1, h2, h3⟩ := D.less (N := N + 1) (by omega)
    obtain ⟨cs13, h4, _⟩ := D.chain (N := N + 1) (q := 0) (B12.mono (by omega)) (by omega)
    have wb := D.wbits
    exact ⟨q, cs13, h1, mul_ev h3.1 wb.2 (by decide), mul_ev wb.1 h3.2 (by decide), le_t ((Rat.le_iff _ _).mp h2), h4⟩
  generalize hP : qrows n l (PQ m F G) = TP at *
  generalize hR : WQ n m a F M L = RW at *
  generalize hZ : (qrows n m fun i j => fv (F i j)) = TF at *
  generalize hT1 : frows n m F = T1 at *
  generalize hT2 : frows m l G = T2 at *
  generalize hT3 : frow n L = T3 at *
  generalize hT4 : frows a n M = T4 at *
  generalize hT5 : irows n m W = T5 at *
  generalize hT6 : irows m l B = T6 at *
  generalize hT7 : irows n l X = T7 at *
  generalize hT8 : frows m m plF = T8 at *
  generalize hT9 : irow n w = T9 at *
  have hF : rtF (sem (N + 1)) [some (.fr (.cel b)), some (.fr (.d (.bool g))), some (.fr (.d (.int C))), some (.fr (.d (.int (n : Int)))), some (.fr (.d (.int (m : Int)))), some (.fr (.d (.int (l : Int)))), some (.fr (.d T5)), some (.fr (.d T6)), some (.fr (.d T1)), some (.fr (.d T2)), some (.fr (.d T7)), none, none, none, none, none, none, none, none, none] cs9 = .nx [some (.fr (.cel b)), some (.fr (.d (.bool g))), some (.fr (.d (.int C))), some (.fr (.d (.int (n : Int)))), some (.fr (.d (.int (m : Int)))), some (.fr (.d (.int (l : Int)))), some (.fr (.d T5)), some (.fr (.d T6)), some (.fr (.d T1)), some (.fr (.d T2)), some (.fr (.d T7)), some (.fr (.d (.str TP.shown))), none, none, none, none, none, none, none, none] cs9 :=
    s_set (o_fr (v_call (ev_bcons (v_fz (o_def0 (v_cons rfl rfl v_nil) (f2 cs9)) rfl) v_nil) (rr1 cs9)) rfl) rfl
  have hG : rtG (sem (N + 1)) [some (.fr (.cel b)), some (.fr (.d (.bool g))), some (.fr (.d (.int C))), some (.fr (.d (.int (n : Int)))), some (.fr (.d (.int (m : Int)))), some (.fr (.d (.int (l : Int)))), some (.fr (.d T5)), some (.fr (.d T6)), some (.fr (.d T1)), some (.fr (.d T2)), some (.fr (.d T7)), some (.fr (.d (.str TP.shown))), none, none, none, none, none, none, none, none] cs9 = .nx [some (.fr (.cel b)), some (.fr (.d (.bool g))), some (.fr (.d (.int C))), some (.fr (.d (.int (n : Int)))), some (.fr (.d (.int (m : Int)))), some (.fr (.d (.int (l : Int)))), some (.fr (.d T5)), some (.fr (.d T6)), some (.fr (.d T1)), some (.fr (.d T2)), some (.fr (.d T7)), some (.fr (.d (.str TP.shown))), none, none, none, none, none, none, none, none] cs9 :=
    s_ifb (t_orb (t_b (v_op (v_call (ev_bcons (v_fz (o_def0 (v_cons rfl rfl (v_cons rfl rfl v_nil)) (f3 cs9)) rfl) v_nil) (rr1 cs9)) rfl (o_dd d1))) (cond_f (t_b (v_op (v_call (ev_bcons (v_fz (o_defK (v_cons rfl rfl (v_cons rfl rfl v_nil)) rfl rfl (f3 cs9)) rfl) v_nil) (rr1 cs9)) rfl (o_dd d1))))) (cond_f s_nil)
  have hH : rtH (sem (N + 1)) [some (.fr (.cel b)), some (.fr (.d (.bool g))), some (.fr (.d (.int C))), some (.fr (.d (.int (n : Int)))), some (.fr (.d (.int (m : Int)))), some (.fr (.d (.int (l : Int)))), some (.fr (.d T5)), some (.fr (.d T6)), some (.fr (.d T1)), some (.fr (.d T2)), some (.fr (.d T7)), some (.fr (.d (.str TP.shown))), none, none, none, none, none, none, none, none] cs9 = .nx [some (.fr (.cel b)), some (.fr (.d (.bool g))), some (.fr (.d (.int C))), some (.fr (.d (.int (n : Int)))), some (.fr (.d (.int (m : Int)))), some (.fr (.d (.int (l : Int)))), some (.fr (.d T5)), some (.fr (.d T6)), some (.fr (.d T1)), some (.fr (.d T2)), some (.fr (.d T7)), some (.fr (.d (.str TP.shown))), some (.fr (.d T9)), none, none, none, none, none, none, none] cs10 :=
    s_set (o_fr (v_fz (o_def0 (v_cons (v := .cel b) rfl rfl (v_cons rfl rfl (v_cons rfl rfl v_nil))) e10) rfl) rfl) rfl
  have hI : rtI (sem (N + 1)) [some (.fr (.cel b)), some (.fr (.d (.bool g))), some (.fr (.d (.int C))), some (.fr (.d (.int (n : Int)))), some (.fr (.d (.int (m : Int)))), some (.fr (.d (.int (l : Int)))), some (.fr (.d T5)), some (.fr (.d T6)), some (.fr (.d T1)), some (.fr (.d T2)), some (.fr (.d T7)), some (.fr (.d (.str TP.shown))), some (.fr (.d T9)), none, none, none, none, none, none, none] cs10 = .nx [some (.fr (.cel b)), some (.fr (.d (.bool g))), some (.fr (.d (.int C))), some (.fr (.d (.int (n : Int)))), some (.fr (.d (.int (m : Int)))), some (.fr (.d (.int (l : Int)))), some (.fr (.d T5)), some (.fr (.d T6)), some (.fr (.d T1)), some (.fr (.d T2)), some (.fr (.d T7)), some (.fr (.d (.str TP.shown))), some (.fr (.d T9)), some (.fr (.d T4)), some (.fr (.d T3)), none, none, none, none, none] cs12 :=
    s_par (v_cons (v_fz (o_def0 (v_cons (v := .cel b) rfl rfl (v_cons rfl rfl (v_cons rfl rfl v_nil))) e11) rfl) rfl (v_cons (v_fz (o_def0 (v_cons (v := .cel b) rfl rfl (v_cons rfl rfl v_nil)) e12) rfl) rfl v_nil)) rfl
  have hJ : rtJ (sem (N + 1)) [some (.fr (.cel b)), some (.fr (.d (.bool g))), some (.fr (.d (.int C))), some (.fr (.d (.int (n : Int)))), some (.fr (.d (.int (m : Int)))), some (.fr (.d (.int (l : Int)))), some (.fr (.d T5)), some (.fr (.d T6)), some (.fr (.d T1)), some (.fr (.d T2)), some (.fr (.d T7)), some (.fr (.d (.str TP.shown))), some (.fr (.d T9)), some (.fr (.d T4)), some (.fr (.d T3)), none, none, none, none, none] cs12 = .nx [some (.fr (.cel b)), some (.fr (.d (.bool g))), some (.fr (.d (.int C))), some (.fr (.d (.int (n : Int)))), some (.fr (.d (.int (m : Int)))), some (.fr (.d (.int (l : Int)))), some (.fr (.d T5)), some (.fr (.d T6)), some (.fr (.d T1)), some (.fr (.d T2)), some (.fr (.d T7)), some (.fr (.d (.str TP.shown))), some (.fr (.d T9)), some (.fr (.d T4)), some (.fr (.d T3)), some (.fr (.d (qD RW))), none, none, none, none] cs12 :=
    s_set (o_fr (v_fz (o_def0 (v_cons rfl rfl (v_cons rfl rfl (v_cons rfl rfl v_nil))) (f4 cs12)) rfl) rfl) rfl
  have hK : rtK (sem (N + 1)) [some (.fr (.cel b)), some (.fr (.d (.bool g))), some (.fr (.d (.int C))), some (.fr (.d (.int (n : Int)))), some (.fr (.d (.int (m : Int)))), some (.fr (.d (.int (l : Int)))), some (.fr (.d T5)), some (.fr (.d T6)), some (.fr (.d T1)), some (.fr (.d T2)), some (.fr (.d T7)), some (.fr (.d (.str TP.shown))), some (.fr (.d T9)), some (.fr (.d T4)), some (.fr (.d T3)), some (.fr (.d (qD RW))), none, none, none, none] cs12 = .nx [some (.fr (.cel b)), some (.fr (.d (.bool g))), some (.fr (.d (.int C))), some (.fr (.d (.int (n : Int)))), some (.fr (.d (.int (m : Int)))), some (.fr (.d (.int (l : Int)))), some (.fr (.d T5)), some (.fr (.d T6)), some (.fr (.d T1)), some (.fr (.d T2)), some (.fr (.d T7)), some (.fr (.d (.str TP.shown))), some (.fr (.d T9)), some (.fr (.d T4)), some (.fr (.d T3)), some (.fr (.d (qD RW))), none, none, none, none] cs12 :=
    s_ifb (t_orb (t_b (v_op (v_call (ev_bcons rfl v_nil) (rr2 cs12)) (v_call (ev_bcons (v_fz (o_def0 (v_cons rfl rfl (v_cons rfl rfl (v_cons rfl rfl v_nil))) (f5 cs12)) rfl) v_nil) (rr2 cs12)) (o_dd d2))) (cond_f (t_b (v_op (v_call (ev_bcons (v_fz (o_defK (v_cons rfl rfl (v_cons rfl rfl (v_cons rfl rfl v_nil))) rfl rfl (f4 cs12)) rfl) v_nil) (rr2 cs12)) (v_call (ev_bcons rfl v_nil) (rr2 cs12)) (o_dd d2))))) (cond_f s_nil)
  have hM : ∀ x17 x18 x19, rtM (sem (N + 1)) [some (.fr (.cel b)), some (.fr (.d (.bool g))), some (.fr (.d (.int C))), some (.fr (.d (.int (n : Int)))), some (.fr (.d (.int (m : Int)))), some (.fr (.d (.int (l : Int)))), some (.fr (.d T5)), some (.fr (.d T6)), some (.fr (.d T1)), some (.fr (.d T2)), some (.fr (.d T7)), some (.fr (.d (.str TP.shown))), some (.fr (.d T9)), some (.fr (.d T4)), some (.fr (.d T3)), some (.fr (.d (qD RW))), some (.fr (.d T8)), x17, x18, x19] cs12 = .nx [some (.fr (.cel b)), some (.fr (.d (.bool g))), some (.fr (.d (.int C))), some (.fr (.d (.int (n : Int)))), some (.fr (.d (.int (m : Int)))), some (.fr (.d (.int (l : Int)))), some (.fr (.d T5)), some (.fr (.d T6)), some (.fr (.d T1)), some (.fr (.d T2)), some (.fr (.d T7)), some (.fr (.d (.str TP.shown))), some (.fr (.d T9)), some (.fr (.d T4)), some (.fr (.d T3)), some (.fr (.d (qD RW))), some (.fr (.d T8)), x17, x18, x19] cs12 := fun x17 x18 x19 =>
    s_ifb (t_orb (t_b (v_op (v_call (ev_bcons (v_fz (o_def0 (v_cons rfl rfl (v_cons rfl rfl v_nil)) (f6 cs12)) rfl) v_nil) (rr3 cs12)) (v_call (ev_bcons (v_fz (o_def0 (v_cons rfl rfl v_nil) (f7 cs12)) rfl) v_nil) (rr3 cs12)) (o_dd d3))) (cond_f (t_not (t_tru (v_fz (o_def0 (v_cons rfl rfl (v_cons rfl rfl (v_cons rfl rfl (v_cons rfl rfl v_nil)))) (f8 cs12)) rfl) rfl) rfl))) (cond_f s_nil)
  have fin : ∃ cs', (sSeq rtN (sSeq (rtO (sem (N + 1))) (rtP (sem (N + 1))))) [some (.fr (.cel b)), some (.fr (.d (.bool g))), some (.fr (.d (.int C))), some (.fr (.d (.int (n : Int)))), some (.fr (.d (.int (m : Int)))), some (.fr (.d (.int (l : Int)))), some (.fr (.d T5)), some (.fr (.d T6)), some (.fr (.d T1)), some (.fr (.d T2)), some (.fr (.d T7)), some (.fr (.d (.str TP.shown))), some (.fr (.d T9)), some (.fr (.d T4)), some (.fr (.d T3)), some (.fr (.d (qD RW))), some (.fr (.d T8)), none, none, none] cs12 = .rt (.fr (.d (.bool true))) cs' := by
    cases g with
    | true => exact ⟨cs12, se_rt (s_ifb (t_tru rfl rfl) (cond_t (s_ret (o_fr rfl rfl))))⟩
    | false =>
      obtain ⟨q, cs13, h1, h2, h3, h4, h5⟩ := lq rfl
      refine ⟨cs13, se_step (s_ifb (t_tru rfl rfl) (cond_f s_nil)) (se_step (s_set (o_fr (v_fz (o_def0 (v_cons (v_fz (o_def0 (v_cons rfl rfl v_nil) (f2 cs12)) rfl) rfl (v_cons rfl rfl (v_cons rfl rfl v_nil))) (h1 cs12)) rfl) rfl) rfl) ?_)⟩
      refine s_ret (o_fr (v_andb (v_op (v_op (v_ix rfl rfl (x_t (at_lit (n := 0) rfl rfl))) (v_ix rfl rfl (x_t (at_lit (n := 1) rfl rfl))) (o_dd h2)) (v_op (v_ix rfl rfl (x_t (at_lit (n := 0) rfl rfl))) (v_ix rfl rfl (x_t (at_lit (n := 1) rfl rfl))) (o_dd h3)) (o_dd h4)) (cond_t (v_fz (o_def0 (v_cons (v := .cel b) rfl rfl (v_cons rfl rfl (v_cons rfl rfl (v_cons rfl rfl v_nil)))) h5) rfl))) rfl)
  obtain ⟨cs', hfin⟩ := fin
  refine ⟨cs', ?_⟩
  rw [e__law_right, rt_split]
  exact congrArg bodyR (se_step hA (se_step hBs (se_step hC (se_step hD (se_step hE (se_step hF (se_step hG (se_step hH (se_step hI (se_step hJ (se_step hK (se_step (plain _ _ _ _ _ _ _ _ _ _ _ _ _ _ _ _ _) (se_step (hM _ _ _) hfin)))))))))))))
end
theorem law_all (ns : List Int) (h : ns.length ≤ 63) : ∃ cs, sem fuel .law [.lk (ns.map PyData.int)] [] = .ok (.fr (.d (.bool true))) cs := by
  obtain ⟨m, hm, hm4⟩ : ∃ m : Nat, max 1 (min 3 (ns.length : Int)) = (m : Int) ∧ m ≤ 3 := ⟨(max 1 (min 3 (ns.length : Int))).toNat, by omega, by omega⟩
  obtain ⟨s', cs', e⟩ := turns_ok (n := 28) (q := 700) (by decide) (fun b cs B => right_ok (by decide) B) ns (List.range m) none [] (fun k hk => by have := List.mem_range.mp hk; omega)
  have q : bCons (eCall maxB (bCons (eC (.int 1)) (bCons (eCall minB (bCons (eC (.int 3)) (bCons (eCall lenB (bCons (eVar 0) (aNil))) (aNil)))) (aNil)))) (aNil) [some (.fr (.lk (ns.map .int))), none] [] = .ok [.d (.int (m : Int))] [] := by
    simp [hm]
  have r := range_ev q (by omega)
  rw [rangeL_tb] at r
  refine ⟨cs', ?_⟩
  show sem (29 + 1) .law [.lk (ns.map PyData.int)] [] = _
  rw [e_law]
  have f1 : sFor (pRange1 (bCons (eCall maxB (bCons (eC (.int 1)) (bCons (eCall minB (bCons (eC (.int 3)) (bCons (eCall lenB (bCons (eVar 0) (aNil))) (aNil)))) (aNil)))) (aNil))) (gNm 1) (turnB (sem 29)) [some (.fr (.lk (ns.map .int))), none] [] = .nx [some (.fr (.lk (ns.map .int))), s'] cs' := by
    rw [ev_sFor, r, R.go_ok]
    exact e
  show bodyR (sSeq (sFor (pRange1 _) (gNm 1) (turnB (sem 29))) (sRet (oFr (eC (.bool true)))) [some (.fr (.lk (ns.map .int))), none] []) = _
  rw [ev_seq, f1, RS.seq_nx]
  rfl
end LW
end
theorem PySem.Challenge.cw_alikechances_k83_noise_on_news_holds : PySem.Challenge.rw_alikechances_k83_noise_on_news.Holds :=
  LW.fin_of LW.law_all
