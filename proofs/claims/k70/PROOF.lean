import PyProof.Rows.All
import Wide.All
import OpenK.AllK
import Wide.FinOn
import HandS.ForMost
import HandS.Wide
import HandS.TupSets
import KE.KSortTupG
import KE.GoesMore
import HandS.More
import HandS.OwnEq
import PyProof.CodeObj
import KE.KLam
import KE.KNest
import HandS.Lambda
import HandS.Nested
import HandS.Codes
import HandS.Defaults
import HandS.HeadHook1
import HandS.HeadHook2
import HandS.IsInst
import HandS.Evl
import HandS.Walk
import HandS.Text
import PyProof.EqLayable
import HandS.Style
import HandS.Dict
import HandS.DictComp
import PyProof.InstSpecial
import HandS.HeadHook4
import KE.KStateDown
import KE.KNestM
import HandS.Base
import HandS.Call
import HandS.Ends
import HandS.Words
import HandS.WordsExc
import HandS.Head0
import HandS.Head1
import HandS.Head2
import HandS.HeadEnd
import HandS.HeadHook3
import HandS.HeadWalk
import HandS.EndTab
import PySem.Challenge.RW_deedline_k70_whole_tables_with_the_same
set_option Elab.async false
set_option linter.all false
set_option maxRecDepth 100000
set_option maxHeartbeats 2000000
namespace K7
open PySem PySem.Spec PyProof.Rows L2
def CPowW (i j : Int) : Prop := 0 ≤ j ∧ (Builtin.Int.intBits i : Int) * j ≤ 2 ^ 27
theorem op_powW {X : Cx} : OpR X (binaryOp .Pow) (rI CPowW fun i j => .int (i ^ j.toNat)) := opI fun _ _ _ _ _ _ _ hc q => pow_int hc.1 hc.2 q
abbrev IS := Addr × Int × Str
def refIS (p : IS) : V := V.ref p.1
def keyIS (p : IS) : List (Int ⊕ List Nat) := [Sum.inl p.2.1, Sum.inr p.2.2.cps.toList]
def leIS (x y : IS) : Prop := lexLt itemOrd (keyIS y) (keyIS x) = false
theorem perm_map {α β : Type} (f : α → β) : ∀ {m n : List β}, m.Perm n → ∀ l : List α, n = l.map f → ∃ l' : List α, l'.Perm l ∧ l'.map f = m := by
  intro m n h
  induction h with
  | nil =>
    intro l e
    cases l with
    | nil => exact ⟨[], .nil, rfl⟩
    | cons a r => cases e
  | cons x h ih =>
    intro l e
    cases l with
    | nil => cases e
    | cons a r =>
      rw [List.map_cons] at e
      injection e with e1 e2
      obtain ⟨l', p, q⟩ := ih r e2
      exact ⟨a :: l', .cons a p, by rw [List.map_cons, q, e1]⟩
  | swap x y t =>
    intro l e
    match l, e with
    | [], e => cases e
    | [_], e => cases e
    | a :: b :: r, e =>
      rw [List.map_cons, List.map_cons] at e
      injection e with e1 e2
      injection e2 with e2 e3
      exact ⟨b :: a :: r, List.Perm.swap a b r, by rw [List.map_cons, List.map_cons, ← e1, ← e2, ← e3]⟩
  | trans h1 h2 ih1 ih2 =>
    intro l e
    obtain ⟨l1, p1, q1⟩ := ih2 l e
    obtain ⟨l2, p2, q2⟩ := ih1 l1 q1.symm
    exact ⟨l2, p2.trans p1, q2⟩
def shIS : Nat → Bool := fun i => i == 1
def rSortedIS (K : PySem.W.Frag) : List V → Hp → VK → Prop := fun vs H Q => ∃ (a : Addr) (ps : List IS), vs = [V.ref a] ∧ SqL K H a (ps.map refIS) ∧ (∀ p ∈ ps, SqT K H p.1 [.int p.2.1, .str p.2.2]) ∧
  ∀ (qs : List IS) (p : Addr), qs.Perm ps → qs.Pairwise leIS → H p = none → Q (.ref p) (upd H p (.lst (qs.map refIS)))
theorem vals_refIS : ∀ {ps : List IS} {us : List Value}, Vals (ps.map refIS) us → us = ps.map fun p => Value.ref p.1
  | [], _, h => by
    rw [List.map_nil] at h
    cases h
    rfl
  | p :: ps, _, h => by
    rw [List.map_cons] at h
    cases h with
    | cons r t =>
      cases r
      rw [List.map_cons, ← vals_refIS t]
theorem refIS_vals : ∀ ps : List IS, Vals (ps.map refIS) (ps.map fun p => Value.ref p.1)
  | [] => .nil
  | p :: ps => .cons rfl (refIS_vals ps)
section
variable {X : Cx} {pins : List (Addr × Obj)} {σ : L2.St} {H : Hp} {s : Shared}
theorem is_raw (I : Inv X pins σ H s) {a : Addr} {n : Int} {x : Str} (h : SqT X.K H a [.int n, .str x]) :
    ∃ (o : Obj) (k : Nat) (t u : Tok), s.heap.get? a = some o ∧ o.cls = .type "tuple" ∧ o.data = .seq #[.int n t, .str x u] k := by
  obtain ⟨its, rv, hT, _⟩ := I.tuple h
  cases rv with
  | cons r1 t1 =>
    cases t1 with
    | cons r2 t2 =>
      cases t2
      obtain ⟨t, rfl⟩ := r1
      obtain ⟨u, rfl⟩ := r2
      obtain ⟨o, ho, hc, k, hd⟩ := hT
      exact ⟨o, k, t, u, ho, hc, hd⟩
theorem is_key (I : Inv X pins σ H s) {p : IS} (h : SqT X.K H p.1 [.int p.2.1, .str p.2.2]) : G.tupKeyC s.heap shIS (.ref p.1) = some (keyIS p) := by
  obtain ⟨o, k, t, u, ho, hc, hd⟩ := is_raw I h
  have e1 : G.isTupObj s.heap (.ref p.1) = true := by
    simp only [G.isTupObj, ho, hc]
    decide
  unfold G.tupKeyC
  rw [if_pos e1]
  simp only [tupKey, ho, hd]
  rfl
theorem is_tups (I : Inv X pins σ H s) : ∀ (ps : List IS), (∀ p ∈ ps, SqT X.K H p.1 [.int p.2.1, .str p.2.2]) → ∃ fs, TupsOf s.heap shIS (ps.map fun p => Value.ref p.1) fs
  | [], _ => ⟨[], .nil⟩
  | p :: ps, h => by
    obtain ⟨fs, hf⟩ := is_tups I ps fun q hq => h q (List.mem_cons_of_mem _ hq)
    obtain ⟨o, k, t, u, ho, hc, hd⟩ := is_raw I (h p List.mem_cons_self)
    exact ⟨_, .cons ⟨p.1, o, _, k, rfl, ho, hc, hd, rfl, fun _ => ⟨_, _, rfl⟩, fun e => absurd e (by decide)⟩ hf⟩
theorem cr_sortedIS : CallR X (.builtin "sorted") (rSortedIS X.K) := by
  intro pins s σ H vs us Q I r h
  obtain ⟨a, ps, rfl, hs, hx, q⟩ := h
  obtain ⟨its, rv, hl, hz⟩ := I.list hs
  rw [Vals.ref1 r]
  have ei := vals_refIS rv
  subst ei
  obtain ⟨fs, hf⟩ := is_tups I ps hx
  have hk : ∀ v, v ∈ (ps.map fun p => Value.ref p.1) → ∃ l, G.tupKeyC s.heap shIS v = some l := fun v hv => by
    obtain ⟨p, hp, rfl⟩ := List.mem_map.mp hv
    exact ⟨_, is_key I (hx p hp)⟩
  have hlen : (ps.map fun p => Value.ref p.1).length ≤ sizeLine := by
    rw [← rv.length]
    exact hz
  refine G.sorted_tups (vs := ps.map fun p => Value.ref p.1) hl.isList hf hk hlen fun st' hp hs' _ => ?_
  obtain ⟨ep, he'⟩ := sortedAll_at s.heap (ps.map fun p => Value.ref p.1) ((arrOf st').map (·.2))
  have hpl : (arrOf st').toList.Perm ((ps.map fun p => Value.ref p.1).zip (ps.map fun p => Value.ref p.1)) := by
    rw [← pairsOf_toList]
    exact hp.toList
  have hz2 : ((ps.map fun p => Value.ref p.1).zip (ps.map fun p => Value.ref p.1)) = ps.map fun p => (Value.ref p.1, Value.ref p.1) := by
    rw [List.zip_map]
    have : ∀ l : List IS, (l.zip l).map (Prod.map (fun p : IS => Value.ref p.1) fun p : IS => Value.ref p.1) = l.map fun p => (Value.ref p.1, Value.ref p.1) := fun l => by
      induction l with
      | nil => rfl
      | cons x l ih => rw [List.zip_cons_cons, List.map_cons, ih]; rfl
    exact this ps
  rw [hz2] at hpl
  obtain ⟨qs, pq, eq⟩ := perm_map _ hpl ps rfl
  have eout : ((arrOf st').map (·.2)).toList = qs.map fun p => Value.ref p.1 := by
    rw [Array.toList_map, ← eq, List.map_map]
    rfl
  have hin : ∀ z ∈ qs, z ∈ ps := fun z hz => pq.mem_iff.mp hz
  have hKK : ∀ i z, qs[i]? = some z → KK (G.tupKindC s.heap shIS) (arrOf st') i = keyIS z := fun i z e => by
    have e1 : (arrOf st')[i]? = some (Value.ref z.1, Value.ref z.1) := by
      rw [← Array.getElem?_toList, ← eq, List.getElem?_map, e]
      rfl
    unfold KK
    rw [e1]
    show (G.tupKeyC s.heap shIS (.ref z.1)).getD [] = keyIS z
    rw [is_key I (hx z (hin z (List.mem_of_getElem? e)))]
    rfl
  have hsz : (pairsOf (ps.map fun p => Value.ref p.1)).size = qs.length := by
    rw [pairsOf_size, List.length_map, pq.length_eq]
  have hpw : qs.Pairwise leIS := by
    rw [List.pairwise_iff_getElem]
    intro i j hi hj hij
    have h1 := hs' i j (Nat.le_of_lt hij) (by rw [hsz]; exact hj)
    rw [hKK i qs[i] (List.getElem?_eq_getElem hi), hKK j qs[j] (List.getElem?_eq_getElem hj)] at h1
    exact h1
  have hl2 : (qs.map refIS).length ≤ sizeLine := by
    rw [List.length_map, pq.length_eq, ← List.length_map (f := refIS)]
    exact hz
  exact ⟨.ref _, upd H (s.heap.objs.size + 1) (.lst (qs.map refIS)), I.laid (t' := s.toks) (fun _ _ => sortedAll_old) (Nat.le_succ _) ⟨hl2, ((arrOf st').map (·.2)).toList, ep, by rw [eout]; exact refIS_vals qs, by rw [Array.toArray_toList]; exact he'⟩, rfl, q _ _ pq hpw (I.hok.fresh (Nat.le_succ _))⟩
end
end K7
set_option Elab.async false
set_option linter.all false
set_option maxRecDepth 100000
set_option maxHeartbeats 2000000
namespace PySem
open Sem (wp)
open AutoSeq1 (wpAny_loadPart')
theorem meets_enumerate_newT (l : Addr) (items : Array Value) (n : Nat) (dct : Option Addr) (sl : Array (Option Value)) :
    Meets (Builtin.«enumerate.__new__» ⟨[.type "enumerate", .ref l], []⟩) (fun _ R s => s.heap.get? l = some { cls := .type "tuple", dict := dct, data := .seq items n, slots := sl } ∧
      R (.ok (.ret (.ref (s.heap.push { cls := .type "tuple_iterator", data := .fields #[.ref l, .int 0 0] }).objs.size)))
        { s with heap := (s.heap.push { cls := .type "tuple_iterator", data := .fields #[.ref l, .int 0 0] }).push { cls := .type "enumerate", data := .fields #[.none, .bool false, .ref s.heap.objs.size, rawInt 0, .none, .none] } }) :=
  .of_wp fun prog w A R s h => by
    obtain ⟨hp, g, d, tk, os⟩ := s; obtain ⟨hl, h⟩ := h
    have hsub := sub_enumerate
    have hL : Heap.IsTuple (Shared.heap ⟨hp, g, d, tk, os⟩) l items := ⟨_, hl, rfl, n, rfl⟩
    wp_walk using wpAny_loadPart' hl
    refine wpAny_stack_any fun st => wpAny_pure ?_
    split
    · rename_i c _ _ _ _ _
      cases (c == Value.type "enumerate")
      · wp_walk using wpAny_loadPart' hl, wpAny_pyIter_tuple hL
        exact ⟨_, rfl, h⟩
      · wp_walk using wpAny_loadPart' hl, wpAny_pyIter_tuple hL
        exact ⟨_, rfl, h⟩
    · wp_walk using wpAny_loadPart' hl, wpAny_pyIter_tuple hL
      exact ⟨_, rfl, h⟩
section
variable {prog : Program} {w : World} {A : Around} {E : Value → Shared → Prop} {s : Shared}
theorem call_enumerate_tupleK {l : Addr} {items : Array Value} {Q : Value → Shared → Prop} (hL : s.heap.IsTuple l items)
    (h : ∀ h', IsEnum h' (s.heap.objs.size + 1) s.heap.objs.size 0 .none → h'.IsTupleIter s.heap.objs.size l 0 → h'.objs.size = s.heap.objs.size + 2 →
      (∀ b o, s.heap.get? b = some o → h'.get? b = some o) → Q (.ref (s.heap.objs.size + 1)) { s with heap := h' }) :
    wpAny (model prog w) A (call (.type "enumerate") [.ref l]) Q E s := by
  obtain ⟨⟨c, dct, dt, sl⟩, hl, hc, n, hd⟩ := hL
  replace hc : c = .type "tuple" := hc
  replace hd : dt = .seq items n := hd
  subst hc hd
  refine callType_new F.called_enumerate (by decide) (F.typeCall_enumerate_1 _) (F.newCall_enumerate_1 _) (fun obj => F.args_object_init_2 obj _) F.entry_enumerate_new
    (meets_enumerate_newT l items n dct sl) ⟨hl, ?_⟩
  have hz : (s.heap.push { cls := .type "tuple_iterator", data := .fields #[.ref l, .int 0 0] }).objs.size = s.heap.objs.size + 1 := Heap.size_push ..
  show _ ∧ _
  rw [hz]
  have he : IsEnum ((s.heap.push { cls := .type "tuple_iterator", data := .fields #[.ref l, .int 0 0] }).push
      { cls := .type "enumerate", data := .fields #[.none, .bool false, .ref s.heap.objs.size, rawInt 0, .none, .none] }) (s.heap.objs.size + 1) s.heap.objs.size 0 .none := by
    have := Heap.get?_push_size (s.heap.push { cls := .type "tuple_iterator", data := .fields #[.ref l, .int 0 0] })
      (o := { cls := .type "enumerate", data := .fields #[.none, .bool false, .ref s.heap.objs.size, rawInt 0, .none, .none] }) rfl
    rw [hz] at this; exact this
  refine ⟨⟨_, he, rfl⟩, h _ he ⟨_, Heap.get?_push_of_some _ (Heap.get?_push_size _ rfl), rfl, rfl⟩ (by rw [Heap.size_push, hz]) fun b o x => Heap.get?_push_of_some _ (Heap.get?_push_of_some _ x)⟩
theorem wpAny_pyNext_enum_endT {e it l : Addr} {i : Nat} {items : Array Value} {old : Value} {Q : Option Value → Shared → Prop} (hh : A.handled = none)
    (he : IsEnum s.heap e it i old) (hit : s.heap.IsTupleIter it l i) (hl : s.heap.IsTuple l items) (hx : items[i]? = none)
    (hQ : ∀ h', Heap.ExtBut it s.heap h' → Q none { s with heap := h' }) : wpAny (model prog w) A (pyNext (.ref e)) Q E s := by
  have hT : s.TypeIs (.ref e) "enumerate" := ⟨_, he, rfl⟩
  unfold pyNext
  refine wpAny_bind (wpAny_attempt (wpAny_callSpecial?_slot (name := Str.ofString "__next__") hT F.slot_enumerate_next
    (wpAny_call_entry F.slot_enumerate_next hT F.entry_enumerate_next ?_ (F.args_enumerate_next_1 _))))
  show wpAny _ _ (field (.ref e) 2 >>= _) _ _ _
  refine wpAny_bind (wpAny_field he rfl (x := .ref it) rfl ?_)
  refine wpAny_bind (wpAny_nextOf_tuple_end (show A.in1.handled = none from hh) hit hl hx fun h' x he' hx' => ?_)
  obtain ⟨o, ho, hc⟩ := hx'
  refine wpAny_bind (wpAny_isInstance (T := "StopIteration") (b := true) ⟨o, ho, hc⟩ isSubtype_stop ?_)
  exact wpAny_pure (hQ _ he')
end
end PySem
namespace K7
open PySem PySem.Spec PyProof.Rows L2
def IteT (K : PySem.W.Frag) (a : Addr) : It :=
  ⟨fun i H => ∃ (xs : List V) (x : V), SqT K H a xs ∧ xs[i]? = some x, fun i H v H' => ∃ T x, v = .ref T ∧ H T = none ∧ H' = upd H T (.tup [.int (i : Nat), x]) ∧ ∀ xs, SqT K H a xs → xs[i]? = some x, fun i H => ∃ xs : List V, SqT K H a xs ∧ xs.length ≤ i⟩
theorem turn_enumT {P : Program} {w : World} {K : PySem.W.Frag} {elts : List Expr} {kk : Nat} {tpos : Pos} (a e it : Addr) :
    Turn P w K (.Tuple elts kk tpos) (IteT K a) [e, it] e (fun i h => (∃ old, IsEnum h e it ((i : Nat) : Int) old) ∧ h.IsTupleIter it a i ∧ e ≠ it ∧ a ≠ it ∧ a ≠ e) where
  mem := by simp
  obj := fun i h st b hb => by
    obtain ⟨⟨old, he⟩, ⟨o, ho, hc, hd⟩, _⟩ := st
    have e' : b = e ∨ b = it := by simpa using hb
    rcases e' with z | z
    · rw [z]; exact ⟨_, he, fun v q => nomatch q⟩
    · rw [z]; exact ⟨o, ho, fun v q => by rw [hd] at q; cases q⟩
  keep := fun i h h' st k => let ⟨⟨old, he⟩, hi, hne⟩ := st; ⟨⟨old, k e (by simp) _ he⟩, hi.at fun o q => k it (by simp) o q, hne⟩
  item := by
    intro X hP hw hK hc i pins s σ H E I hf st hg
    subst hP hw hK
    obtain ⟨⟨old, he⟩, hit, hne, hne2, hne3⟩ := st
    obtain ⟨xs, x, hq, hx⟩ := hg
    obtain ⟨its, rv, p, hz⟩ := I.tuple hq
    obtain ⟨u, hu, ru⟩ := rv.get hx
    have hel : e < s.heap.objs.size := Heap.lt_size he
    have hil : it < s.heap.objs.size := by obtain ⟨_, q, _⟩ := hit; exact Heap.lt_size q
    have pt : s.heap.IsTuple a its.toArray := p
    have hlt : i < its.length := (List.getElem?_eq_some_iff.mp hu).1
    have DD : Draws X.prog X.w X.A.in1 it [it, a] its.toArray.size (fun i v => its.toArray[i]? = some v) (fun i h => h.IsTupleIter it a i ∧ h.IsTuple a its.toArray) := Draws.tuple (show X.A.in1.handled = none from I.ok.hd hc) it a hne2 its.toArray
    refine wpAny_pyNext_enum_itemD DD he ⟨hit, pt⟩ (by simpa using hlt) hne (by
      intro z
      rcases List.mem_cons.mp z with z | z
      · exact hne z
      · exact hne3 (List.mem_singleton.mp z).symm) fun x' h' tk hx' ho hst hT hsz hk => ?_
    have ex : x' = u := by
      have h1 : its.toArray[i]? = some x' := hx'
      have h2 : its.toArray[i]? = some u := by simpa using hu
      exact Option.some.inj (h1.symm.trans h2)
    subst ex
    obtain ⟨hit', _⟩ := hst
    refine ⟨_, rfl, wpAny_letOwnedTupleGo_enum (s := { s with heap := h', toks := tk + 1 }) ho fun h'' he' sb => ?_⟩
    have hT2 : h''.get? s.heap.objs.size = some { cls := .type "tuple", data := .seq #[.int i tk, x'] } := (sb.2 _ (Nat.ne_of_gt hel)).trans hT
    have new : ObjOk X.prog X.w (upd H s.heap.objs.size (.tup [.int (i : Nat), x])) h'' s.heap.objs.size (.tup [.int (i : Nat), x]) :=
      ⟨by show 2 ≤ sizeLine; decide, [.int i tk, x'], .cons ⟨_, rfl⟩ (.cons ru .nil), ⟨_, hT2, rfl, _, rfl⟩⟩
    have I1 : Inv X pins σ (upd H s.heap.objs.size (.tup [.int (i : Nat), x])) { s with heap := h'', toks := tk + 1 } :=
      I.turnedNew (ch := [e, it]) (fun b ob hb q => (sb.2 b (fun z => hb (by simp [z]))).trans (hk b ob (fun z => hb (by simp [z])) (fun z => hb (by simp [z])) q)) hf (Nat.le_refl _) new
    refine ⟨.ref s.heap.objs.size, _, I1, rfl, ⟨_, x, rfl, I.hok.fresh (Nat.le_refl _), rfl, fun ys hy => by rw [I.tuple_inj hy hq]; exact hx⟩, ⟨⟨x', ?_⟩, hit'.at fun o q => (sb.2 it (Ne.symm hne)).trans q, hne, hne2, hne3⟩, fun b hb => ?_⟩
    · have e1 : ((i + 1 : Nat) : Int) = (i : Int) + 1 := by omega
      rw [e1]; exact he'
    · have hb' : b < s.heap.objs.size := by
        have e' : b = e ∨ b = it := by simpa using hb
        rcases e' with z | z
        · rw [z]; exact hel
        · rw [z]; exact hil
      rw [upd_ne (Nat.ne_of_lt hb')]
      exact (hf b hb).1
  done := by
    intro X hP hw hK hc i pins s σ H E I hf st hg
    subst hP hw hK
    obtain ⟨⟨old, he⟩, hit, hne, hne2, hne3⟩ := st
    obtain ⟨xs, hq, hx⟩ := hg
    obtain ⟨its, rv, p, hz⟩ := I.tuple hq
    obtain ⟨f0, f1, f2, f3, f4, f5⟩ := hf it (by simp)
    have hl := rv.length
    have pt : s.heap.IsTuple a its.toArray := p
    exact wpAny_pyNext_enum_endT (I.ok.hd hc) he hit pt (by simp; omega) fun h' eb => ⟨rfl, I.turned (t' := s.toks) (fun b o hb q => eb b o hb q) f0 f1 f3 f4 f5⟩
  self := fun A i s Q E st h => let ⟨⟨_, he⟩, _⟩ := st; wpAny_pyIter_enum he h
def iEnumT (K : PySem.W.Frag) (ta : TA) : TI := fun σ H R => ta σ H fun vs H1 => ∃ a xs, vs = [.ref a] ∧ SqT K H1 a xs ∧ R (IteT K a) H1
theorem pi_enumT {X : Cx} {e : Expr} {ta : TA} {p pos tpos : Pos} {elts : List Expr} {kk : Nat} (hg : Gl X "enumerate") (hm : X.mg "enumerate" = none) (ha : PA X [e] ta) (hs : starEach [e] X.env = [(false, eval e X.env)] := by rfl) :
    PI X (.Tuple elts kk tpos) (.Call (.Name "enumerate" p) [e] [] pos) (iEnumT X.K ta) := by
  refine ⟨fun pins s σ H R I h => ?_⟩
  refine Call_ (ld_blt I hg hm boot_enumerate (PyProof.Rows.callWith_type1 (thn (ha.run pos pins s σ H _ I h) fun us s1 ⟨vs, H1, I1, r1, q1⟩ => ?_) hs rfl))
  obtain ⟨a, xs, ex, hq, q⟩ := q1
  subst ex
  cases r1 with
  | cons r rr =>
    cases rr
    cases r
    obtain ⟨its, rv, p', hz⟩ := I1.tuple hq
    have pt : s1.heap.IsTuple a its.toArray := p'
    have ha' : a < s1.heap.objs.size := by
      obtain ⟨o, ho, _⟩ := p'
      exact Heap.lt_size ho
    refine call_enumerate_tupleK pt fun h' he hit hsz hk => wpAny_pyIter_enum he ?_
    have I2 : Inv X pins σ H1 { s1 with heap := h' } := I1.kept (t' := s1.toks) hk
    refine ⟨s1.heap.objs.size + 1, [s1.heap.objs.size + 1, s1.heap.objs.size], _, _, H1, rfl, I2, turn_enumT a (s1.heap.objs.size + 1) s1.heap.objs.size, ⟨⟨.none, he⟩, hit, Nat.succ_ne_self _, Nat.ne_of_lt ha', Nat.ne_of_lt (Nat.lt_succ_of_lt ha')⟩, fun b hb => ?_, q⟩
    have e' : b = s1.heap.objs.size + 1 ∨ b = s1.heap.objs.size := by simpa using hb
    have hle : s1.heap.objs.size ≤ b := by
      rcases e' with z | z
      · rw [z]; exact Nat.le_add_right _ _
      · rw [z]; exact Nat.le_refl _
    exact I1.fpOk hle (I1.hok.fresh hle)
end K7
set_option Elab.async false
set_option linter.all false
set_option maxRecDepth 100000
set_option maxHeartbeats 2000000
namespace K7N
open PySem PySem.Spec PyProof.Rows PySem.SeqAt
section
variable {M : Model} {prog : Program} {w : World} {A : Around} {E : Value → Shared → Prop} {s : Shared} {K : PySem.W.Frag} {x y C f : Addr} {ox : Obj} {od : Option Obj}
theorem objNe_entry (X : K.In s.heap) (I : PySem.W.InstAt s.heap x ox C od) (hs : PySem.W.findIn K (.ref C) "__eq__" = some (some (.ref f))) (hf : PySem.W.isFn K (.ref f) = true) (hu : A.units < cLine) {Q : Fin → Shared → Prop}
    (hcall : wpAny (model prog w) A (call (.ref f) [.ref x, .ref y]) (fun v s' => ∃ b, v = .bool b ∧ Q (.done (.ret (.bool (!b)))) s') E s) :
    wpAny (model prog w) A (Builtin.«object.__ne__» ⟨[.ref x, .ref y], []⟩) Q E s := by
  unfold Builtin.«object.__ne__»
  repeat (first
    | with_reducible refine wpAny_cRoomFor hu ?_
    | (refine wpAny_bind (m := callSpecialIfBound? (.ref x) (Str.ofString "__eq__") [.ref y])
        (PySem.W.ifBound_K X I hs hf (wpAny_mono hcall (fun r s' hr => by
          obtain ⟨b, rfl, hq⟩ := hr
          repeat (first | exact hq | exact wpAny_pure hq | exact wpAny_truthy_bool hq | (refine wpAny_bind (m := truthy (.bool _)) (wpAny_truthy_bool ?_)) | wp_step)) fun _ _ e => e)))
    | wp_step)
theorem call_objNe {Q : Value → Shared → Prop} (X : K.In s.heap) (I : PySem.W.InstAt s.heap x ox C od) (hm : PySem.W.mroIn K C (.type "object") = some true) (hs : PySem.W.findIn K (.ref C) "__eq__" = some (some (.ref f))) (hf : PySem.W.isFn K (.ref f) = true) (hu : A.in1.units < cLine)
    (hcall : wpAny (model prog w) A.in1 (call (.ref f) [.ref x, .ref y]) (fun v s' => ∃ b, v = .bool b ∧ Q (.bool (!b)) s') E s) :
    wpAny (model prog w) A (call (.builtin "object.__ne__") [.ref x, .ref y]) Q E s :=
  wpAny_call (codeAny_call_builtin F.cmp_object.ne.plain F.cmpEntry_ne (PySem.W.check_slot F.cmpKind_ne F.cmpSplit_ne (I.type.andThen (PySem.W.looks_mroIn X hm)) (F.cmpArgs_ne _ _) (objNe_entry X I hs hf hu (wpAny_mono hcall (fun v s' hv => by
    obtain ⟨b, rfl, hq⟩ := hv
    first | exact ⟨b, rfl, wpAny_pure hq⟩ | exact ⟨b, rfl, hq⟩) fun _ _ e => e))))
theorem ifBound_objNe {args : List Value} {Q : Option Value → Shared → Prop} (X : K.In s.heap) (I : PySem.W.InstAt s.heap x ox C od) (hs : PySem.W.findIn K (.ref C) "__ne__" = some (some (.builtin "object.__ne__")))
    (h : wpAny M A (call (.builtin "object.__ne__") (.ref x :: args)) (fun v => Q (some v)) E s) : wpAny M A (callSpecialIfBound? (.ref x) "__ne__" args) Q E s := by
  simp only [callSpecialIfBound?, bindSpecialIfBound?]
  refine wpAny_holding (wpAny_bind (wpAny_bind (wpAny_bind (I.type.here ((PySem.W.looks_findIn X hs).here ?_)))))
  refine wpAny_bind (wpAny_askSetting (wpAny_ite ?_))
  have fin : wpAny M A (call (.builtin "object.__ne__") ([.ref x] ++ args) >>= fun v => pure (some v)) Q E s := wpAny_bind (wpAny_mono h (fun v s' h' => wpAny_pure h') fun _ _ h' => h')
  split
  · exact wpAny_bind (wpAny_of_eq (F.cmp_object.ne.bind _) (wpAny_pure (by exact fin)))
  · exact wpAny_tryCatch (wpAny_bind (wpAny_of_eq (F.cmp_object.ne.bind _) (wpAny_pure (by exact fin))))
theorem rc_ne {oy : Obj} {ody : Option Obj} {Q : Value → Shared → Prop} (hu : A.in1.units < cLine) (hu0 : A.units < cLine) (X : K.In s.heap) (I : PySem.W.InstAt s.heap x ox C od) (J : PySem.W.InstAt s.heap y oy C ody) (hm : PySem.W.mroIn K C (.type "object") = some true)
    (hs : PySem.W.findIn K (.ref C) "__eq__" = some (some (.ref f))) (hf : PySem.W.isFn K (.ref f) = true) (hn : PySem.W.findIn K (.ref C) "__ne__" = some (some (.builtin "object.__ne__")))
    (hcall : wpAny (model prog w) A.in1 (call (.ref f) [.ref x, .ref y]) (fun v s' => ∃ b, v = .bool b ∧ Q (.bool (!b)) s') E s) :
    wpAny (model prog w) A (richCompare .NotEq (.ref x) (.ref y)) Q E s := by
  have one : wpAny (model prog w) A (tryCompare (.ref x) "__ne__" (.ref y)) (fun r s' => ∃ b, r = some (.bool (!b)) ∧ Q (.bool (!b)) s') E s := by
    unfold tryCompare
    refine wpAny_bind (ifBound_objNe X I hn (call_objNe X I hm hs hf hu (wpAny_mono hcall (fun v s' hv => ?_) fun _ _ e => e)))
    obtain ⟨b, rfl, hq⟩ := hv
    exact ⟨b, rfl, wpAny_pure ⟨b, rfl, hq⟩⟩
  simp only [richCompare, cmpInfo_NotEq, oneThing_ref]
  refine wpAny_holding (wpAny_bind (wpAny_cRoomFor hu0 ?_))
  refine wpAny_bind (I.type.here ?_)
  refine wpAny_bind (J.type.here ?_)
  rw [show (Value.ref C != Value.ref C) = false from by simp]
  simp only [Bool.false_eq_true, if_false]
  refine wpAny_bind (wpAny_pure ?_)
  simp only [Bool.false_eq_true, if_false]
  refine wpAny_bind (m := tryCompare (.ref x) _ (.ref y)) (wpAny_mono one (fun r s1 z => ?_) fun _ _ e => e)
  obtain ⟨b, rfl, hq⟩ := z
  exact wpAny_pure hq
end
end K7N
namespace K7
open PySem PySem.Spec PyProof.Rows L2
def rNeOwn (C : Addr) (sp : Sp) : R2 := fun x y H Q => ∃ a b dx dy fs gs, x = .ref a ∧ y = .ref b ∧ H a = some (.ins C dx fs) ∧ H b = some (.ins C dy gs) ∧ sp [x, y] H (fun v H' => ∃ k, v = .bl k ∧ Q (.bl (!k)) H') E0
theorem op_neOwn {X : Cx} {n : Nat} {C f : Addr} {fd : FuncData} {ps : List Str} {sp : Sp} (F : FnOk X.prog X.w X.K X.mg X.base CX0 n f fd ps sp) (hr : Room (n + 1) X.A) (hb : Binds X.K fd ps []) (hm : PySem.W.mroIn X.K C (.type "object") = some true)
    (hs : PySem.W.findIn X.K (.ref C) "__eq__" = some (some (.ref f))) (hf : PySem.W.isFn X.K (.ref f) = true) (hn : PySem.W.findIn X.K (.ref C) "__ne__" = some (some (.builtin "object.__ne__"))) : OpR X (compareOp .NotEq) (rNeOwn C sp) := by
  intro pins s σ H x y v u Q I rx ry hq
  obtain ⟨a, b, dx, dy, fs, gs, rfl, rfl, ha, hb', hsp⟩ := hq
  cases rx
  cases ry
  show wpAny (model X.prog X.w) X.A (richCompare .NotEq (.ref a) (.ref b)) (EP X pins σ Q) X.xe s
  obtain ⟨mA, J, _⟩ := ins_get I.hok ha
  obtain ⟨mB, J', _⟩ := ins_get I.hok hb'
  obtain ⟨od, J, _⟩ := J.look
  obtain ⟨od', J', _⟩ := J'.look
  have hr1 : Room n X.A.in1 := hr.in1
  refine K7N.rc_ne hr1.units0 hr.units0 I.kIn J J' hm hs hf hn ?_
  have e0 : Env0 X.prog X.w X.K X.mg X.base X.A.in1 X.stack s H := I.env0.in1
  have hl := F.len _ _ _ _ hsp
  have r2 : Vals [V.ref a, V.ref b] [Value.ref a, Value.ref b] := .cons rfl (.cons rfl .nil)
  refine wpAny_call (codeAny_mono (F.run X.A.in1 X.stack s H ⟨[.ref a, .ref b], []⟩ [.ref a, .ref b] [.ref a, .ref b] _ E0 hr1 e0 (by
    have := hb s [.ref a, .ref b] I.kIn (by simpa using hl)
    simpa using this) r2 hsp) fun r s' hq => ?_)
  cases r with
  | error e => exact False.elim hq
  | ok fl =>
    cases fl with
    | ret w' =>
      obtain ⟨z, H', I', rz, k, ez, q⟩ := I.after hq
      subst ez
      cases rz
      exact ⟨k, rfl, .bl (!k), H', I', rfl, q⟩
    | next => exact False.elim hq
    | brk => exact False.elim hq
    | cont => exact False.elim hq
end K7
set_option Elab.async false
set_option linter.all false
set_option maxRecDepth 100000
set_option maxHeartbeats 2000000
namespace K7
open PySem PySem.Spec PyProof.Rows L2 LamX NdefX
def CellO (c : Addr) (v : V) : HO := .ext fun h => ∃ u, L2.RelV v u ∧ h.IsCell c (some u)
theorem cellO_ok {P : Program} {w : World} {H : Hp} {h : Heap} {c : Addr} {v : V} {u : Value} (r : L2.RelV v u) (z : h.IsCell c (some u)) : ObjOk P w H h c (CellO c v) := by
  obtain ⟨o, ho, hd⟩ := id z
  refine ⟨⟨u, r, z⟩, ⟨o, ho⟩, fun h1 h2 ⟨u1, r1, o1, ho1, hd1⟩ st => ⟨u1, r1, o1, st _ ho1, hd1⟩⟩
theorem cellO_at {P : Program} {w : World} {H : Hp} {h : Heap} {c : Addr} {v : V} (hok : HOk P w H h) (e : H c = some (CellO c v)) : ∃ u, L2.RelV v u ∧ h.IsCell c (some u) := by
  obtain ⟨z, _, _⟩ := hok c _ e
  exact z
structure LF where
  qual : Str
  params : Arguments
  body : Expr
  scope : Scope
  cl : List (Str × Addr)
  c : Addr
def FnL (f : Addr) (F : LF) : HO := .ext fun h => ∃ (od : Option Addr) (sl : Array (Option Value)) (pm ctv : Value), h.get? f = some (⟨.type "function", od, .func (PySem.W.kla_fn "<lambda>" F.qual F.params F.body F.scope F.cl pm (.ref F.c) ctv), sl⟩ : Obj)
theorem fnL_at {P : Program} {w : World} {H : Hp} {h : Heap} {f : Addr} {F : LF} (hok : HOk P w H h) (e : H f = some (FnL f F)) :
    ∃ (od : Option Addr) (sl : Array (Option Value)) (pm ctv : Value), h.get? f = some (⟨.type "function", od, .func (PySem.W.kla_fn "<lambda>" F.qual F.params F.body F.scope F.cl pm (.ref F.c) ctv), sl⟩ : Obj) := by
  obtain ⟨z, _, _⟩ := hok f _ e
  exact z
section
variable {X : Cx} {pins : List (Addr × Obj)} {σ : L2.St} {H : Hp} {s : Shared}
theorem inv_fnL {F : LF} {o : Obj} {t' : Nat} {pm ctv : Value} (I : Inv X pins σ H s) (ho : o = { cls := .type "function", data := .func (PySem.W.kla_fn "<lambda>" F.qual F.params F.body F.scope F.cl pm (.ref F.c) ctv) }) :
    Inv X pins σ (upd H s.heap.objs.size (FnL s.heap.objs.size F)) { s with heap := s.heap.push o, toks := t' } := by
  subst ho
  refine I.laid (a := s.heap.objs.size) (fun b u e => Heap.get?_push_of_some _ e) (Nat.le_refl _) ?_
  have e : (s.heap.push ({ cls := .type "function", data := .func (PySem.W.kla_fn "<lambda>" F.qual F.params F.body F.scope F.cl pm (.ref F.c) ctv) } : Obj)).get? s.heap.objs.size = some ({ cls := .type "function", data := .func (PySem.W.kla_fn "<lambda>" F.qual F.params F.body F.scope F.cl pm (.ref F.c) ctv) } : Obj) := Heap.get?_push_size _ rfl
  exact ⟨⟨_, _, pm, ctv, e⟩, ⟨_, e⟩, fun h1 h2 ⟨od, sl, p, t, z⟩ st => ⟨od, sl, p, t, st _ z⟩⟩
theorem lam_make3 {T : List (Addr × Str)} {c P : Addr} {params : Arguments} {body : Expr} {scope : Scope} {pos : Pos} {E : Value → Shared → Prop} {Q : Value → Shared → Prop} (I : Inv X pins σ H s) (TB : TabB X.base X.mg c P) (hcode : X.env.code = .ref c)
    (hm : (P, X.env.qual ++ "<lambda>") ∈ T) (hu : ∀ p ∈ T, p.1 = P → p.2 = X.env.qual ++ "<lambda>") (hT : Tabs T H) (hdef : defaultsOf params X.env = ([], [])) (hfree : ∀ y ∈ scope.names, y.2 = .free → ∃ c, X.env.cells.lookup y.1 = some c)
    (h : ∀ (f c' : Addr) (H1 : Hp) (s' : Shared), Inv X pins σ H1 s' → ExtN H H1 → (∀ b, H1 b = Option.none → H b = Option.none) → Tabs T H1 → H f = none →
      H1 f = some (FnL f ⟨X.env.qual ++ "<lambda>", params, body, scope, cloFrom X.env.cells scope.names [], c'⟩) → H1 c' = some (CodeO c' (X.env.qual ++ "<lambda>")) → Q (.ref f) s') :
    wpAny (model X.prog X.w) X.A (eval (.Lambda params body scope pos) X.env) Q E s := by
  obtain ⟨ps, hP, ht, ha⟩ := hT _ hm
  refine PySem.W.kla_eval hdef ?_
  have bP : s.heap.BuiltinsAt X.mg P := TB.bm.keeps I.bk
  have hP' : s.heap.get? P = some { cls := .none, data := .fields ps } := I.hok P _ hP
  cases hc : codeAmong pos ps.toList with
  | none =>
    refine PySem.W.kla_makeFunction (mg := X.mg) (c := c) (P := P) (ps := ps) (closure_ok hfree) I.ok.glob (I.mod.glob.keeps I.bk) hcode (TB.code.keeps I.bk) hP' ht hc TB.gP bP fun c' ctv h' tk hx hge hlt hrec htb => ?_
    obtain ⟨c2, oc, vs, t, e2, hoc, hd, hv⟩ := hrec
    cases e2
    have nC : H c' = none := I.hok.fresh hge
    have I1 := inv_table (t' := tk) (more := #[rawInt pos.line, rawInt pos.col, .ref c']) (h' := h') I hP (fun b o hb e => hx b o hb e) htb hge ⟨oc, vs, t, hoc, hd, hv⟩
    have hE : ExtN H (upd (upd H P (.tbl (ps ++ #[rawInt pos.line, rawInt pos.col, .ref c']))) c' (CodeO c' (X.env.qual ++ "<lambda>"))) := fun b o e n => by
      rw [upd_ne (ne_of_none e nC), upd_ne (fun z => n ps (Option.some.inj (e.symm.trans (by rw [z]; exact hP))))]
      exact e
    have eL : (ps ++ #[rawInt pos.line, rawInt pos.col, .ref c']).toList = ps.toList ++ [rawInt pos.line, rawInt pos.col, .ref c'] := by simp
    have T1 : Tabs T (upd (upd H P (.tbl (ps ++ #[rawInt pos.line, rawInt pos.col, .ref c']))) c' (CodeO c' (X.env.qual ++ "<lambda>"))) := fun p hp => by
      by_cases hb : p.1 = P
      · rw [hu p hp hb, hb]
        refine ⟨_, by rw [upd_ne (ne_of_none hP nC), upd_same], by rw [eL]; exact PySem.TriplesOk_snoc _ _ _ _ ht, fun p' cv hcv => ?_⟩
        rw [eL] at hcv
        rcases among_app _ ht hcv with z | z
        · obtain ⟨c0, e1, e2⟩ := ha p' cv z
          exact ⟨c0, e1, hE _ _ e2 codeO_ne⟩
        · exact ⟨c', z, upd_same⟩
      · obtain ⟨ps', a1, a2, a3⟩ := hT p hp
        refine ⟨ps', by rw [upd_ne (ne_of_none a1 nC), upd_ne hb]; exact a1, a2, fun p' cv hcv => ?_⟩
        obtain ⟨c0, e1, e2⟩ := a3 p' cv hcv
        exact ⟨c0, e1, hE _ _ e2 codeO_ne⟩
    have nF := I1.hok.fresh (Nat.le_refl _)
    have I2 := inv_fnL (F := ⟨X.env.qual ++ "<lambda>", params, body, scope, cloFrom X.env.cells scope.names [], c'⟩) (t' := tk) (pm := (X.mg "__name__").getD .none) (ctv := ctv) I1 rfl
    refine h h'.objs.size c' _ _ I2 (fun b o e n => ?_) (fun b e => upd_none (upd_none (upd_none e))) (T1.ext fun b o e => ?_) (I.hok.fresh (Nat.le_trans hge (Nat.le_of_lt hlt))) upd_same ?_
    · have e1 := hE b o e n
      exact (upd_ne (ne_of_none e1 nF)).trans e1
    · exact (upd_ne (ne_of_none e nF)).trans e
    · exact (upd_ne (Nat.ne_of_lt hlt)).trans upd_same
  | some cv =>
    obtain ⟨c', e, hco⟩ := ha pos cv hc
    subst e
    refine PySem.W.kla_makeFunctionHit (mg := X.mg) (c := c) (P := P) (ps := ps) (closure_ok hfree) I.ok.glob (I.mod.glob.keeps I.bk) hcode (TB.code.keeps I.bk) hP' ht hc bP fun ctv h' tk hx hsz => ?_
    have I1 : Inv X pins σ H { s with heap := h', toks := tk } := I.kept hx
    have nF : H h'.objs.size = none := I1.hok.fresh (Nat.le_refl _)
    have I2 := inv_fnL (F := ⟨X.env.qual ++ "<lambda>", params, body, scope, cloFrom X.env.cells scope.names [], c'⟩) (t' := tk) (pm := (X.mg "__name__").getD .none) (ctv := ctv) I1 rfl
    refine h h'.objs.size c' _ _ I2 (fun b o e n => ?_) (fun b e => upd_none e) (hT.ext fun b o e => ?_) nF upd_same ?_
    · exact (upd_ne (ne_of_none e nF)).trans e
    · exact (upd_ne (ne_of_none e nF)).trans e
    · exact (upd_ne (ne_of_none hco nF)).trans hco
end
structure PR (X : Cx) (st : List Stmt) (t : TS) : Prop where
  run : ∀ (pins : List (Addr × Obj)) (s : Shared) (σ : L2.St) (H : Hp) (nx : L2.St → Hp → Prop) (rt : VK) (RT : Value → Shared → Prop),
    (∀ v σ' H' u s', Inv X pins σ' H' s' → L2.RelV v u → rt v H' → RT u s') →
    (∀ v σ' H' u s' x cc y w, Inv X pins σ' H' s' → L2.RelV v u → X.env.cells.lookup x = some cc → s'.heap.IsCell cc (some w) → L2.RelV y w → rt v (upd H' cc (CellO cc y)) → RT u s') →
    Inv X pins σ H s → t { nx := nx, rt := rt } σ H → wpAny (model X.prog X.w) X.A (execs st X.env) (fun f s' => match f with
      | .next => ∃ σ' H', Inv X pins σ' H' s' ∧ nx σ' H'
      | .ret u => RT u s'
      | _ => False) X.xe s
section
variable {X : Cx} {st : Stmt} {rest sts a b : List Stmt} {t u : TS} {pos : Pos}
theorem PR.of (h : PSs X sts t) : PR X sts t := ⟨fun pins s σ H nx rt RT h1 _ I q => thn (h.run pins s σ H { nx := nx, rt := rt } I q) fun f s' z => by
  cases f with
  | next => exact z
  | ret v =>
    obtain ⟨x, σ', H', I', r, q'⟩ := z
    exact h1 x σ' H' v s' I' r q'
  | brk =>
    obtain ⟨_, _, _, z⟩ := z
    exact z
  | cont =>
    obtain ⟨_, _, _, z⟩ := z
    exact z⟩
theorem pr_cons (h1 : PS X st t) (h2 : PR X rest u) : PR X (st :: rest) (tSeq t u) := by
  refine ⟨fun pins s σ H nx rt RT r1 r2 I h => ?_⟩
  refine wpAny_execs_cons (thn (h1.run pins s σ H { nx := u { nx := nx, rt := rt }, rt := rt } I h) fun f s1 q => ?_)
  cases f with
  | next =>
    obtain ⟨σ', H', I', q⟩ := q
    exact h2.run pins s1 σ' H' nx rt RT r1 r2 I' q
  | ret v =>
    obtain ⟨x, σ', H', I', r, q'⟩ := q
    exact r1 x σ' H' v s1 I' r q'
  | brk =>
    obtain ⟨_, _, _, z⟩ := q
    exact z.elim
  | cont =>
    obtain ⟨_, _, _, z⟩ := q
    exact z.elim
theorem pr_if {c : Expr} {tc : TT} (hc : PT X c tc) (ha : PR X a t) (h2 : PR X rest u) : PR X (.If c a [] pos :: rest) (tSeq (tIfS tc t tNext) u) := by
  refine ⟨fun pins s σ H nx rt RT r1 r2 I h => ?_⟩
  refine wpAny_execs_cons (wpAny_If (thn (hc.run pins s σ H _ I h) fun d s1 ⟨H1, I1, q1⟩ => ?_))
  cases d with
  | true =>
    refine thn (ha.run pins s1 σ H1 (u { nx := nx, rt := rt }) rt RT r1 r2 I1 q1) fun f s2 q => ?_
    cases f with
    | next =>
      obtain ⟨σ', H', I', q⟩ := q
      exact h2.run pins s2 σ' H' nx rt RT r1 r2 I' q
    | ret v => exact q
    | brk => exact q.elim
    | cont => exact q.elim
  | false => exact wpAny_execs_nil (h2.run pins s1 σ H1 nx rt RT r1 r2 I1 q1)
def tLam0 (T : List (Addr × Str)) (mk : Addr → LF) : TS := fun D σ H => Tabs T H ∧ ∀ (f c' : Addr) (H1 : Hp), ExtN H H1 → (∀ b, H1 b = Option.none → H b = Option.none) → Tabs T H1 → H f = none → H1 f = some (FnL f (mk c')) → H1 c' = some (CodeO c' (mk c').qual) → D.rt (.ref f) H1
theorem ps_lam0 {T : List (Addr × Str)} {c P : Addr} {params : Arguments} {body : Expr} {scope : Scope} {lpos : Pos} (TB : TabB X.base X.mg c P) (hcode : X.env.code = .ref c) (hm : (P, X.env.qual ++ "<lambda>") ∈ T) (hu : ∀ p ∈ T, p.1 = P → p.2 = X.env.qual ++ "<lambda>")
    (hdef : defaultsOf params X.env = ([], [])) (hfree : ∀ y ∈ scope.names, y.2 ≠ .free) (hclo : ∀ cells, cloFrom cells scope.names [] = []) :
    PS X (.Return (some (.Lambda params body scope lpos)) pos) (tLam0 T fun c' => ⟨X.env.qual ++ "<lambda>", params, body, scope, [], c'⟩) := by
  refine ⟨fun pins s σ H D I h => ?_⟩
  obtain ⟨hT, h⟩ := h
  refine wpAny_Return_some (lam_make3 I TB hcode hm hu hT hdef (fun y hy e => absurd e (hfree y hy)) fun f c' H1 s' I1 e1 e2 T1 f0 f1 c1 => ?_)
  rw [hclo] at f1
  exact ⟨.ref f, σ, H1, I1, rfl, h f c' H1 e1 e2 T1 f0 f1 c1⟩
def tLam1 (T : List (Addr × Str)) (i : Nat) (x : Str) (mk : Addr → Addr → LF) : TS := fun D σ H => Tabs T H ∧ ∃ v, σ[i]? = some (some v) ∧ ∀ (f c' cc : Addr) (H1 : Hp), ExtN H H1 → (∀ b, H1 b = Option.none → H b = Option.none) → Tabs T H1 → H f = none → H cc = none →
  H1 f = some (FnL f (mk c' cc)) → H1 c' = some (CodeO c' (mk c' cc).qual) → H1 cc = some (CellO cc v) → D.rt (.ref f) H1
theorem tabs_upd {T : List (Addr × Str)} {H : Hp} {a : Addr} {o : HO} (hT : Tabs T H) (h : H a = none) : Tabs T (upd H a o) := hT.ext fun b o e => by rw [upd_ne (ne_of_none e h)]; exact e
theorem pr_lam1 {T : List (Addr × Str)} {c P : Addr} {params : Arguments} {body : Expr} {scope : Scope} {lpos : Pos} {i : Nat} {x : Str} (TB : TabB X.base X.mg c P) (hcode : X.env.code = .ref c) (hm : (P, X.env.qual ++ "<lambda>") ∈ T) (hu : ∀ p ∈ T, p.1 = P → p.2 = X.env.qual ++ "<lambda>")
    (hdef : defaultsOf params X.env = ([], [])) (hfree : ∀ y ∈ scope.names, y.2 = .free → y.1 = x) (hclo : ∀ cells : List (Str × Addr), cloFrom cells scope.names [] = [(x, (cells.lookup x).getD 0)]) (hN : X.N[i]? = some x) (hx : X.env.scope.names.lookup x = some .cell) :
    PR X [.Return (some (.Lambda params body scope lpos)) pos] (tLam1 T i x fun c' cc => ⟨X.env.qual ++ "<lambda>", params, body, scope, [(x, cc)], c'⟩) := by
  refine ⟨fun pins s σ H nx rt RT r1 r2 I h => ?_⟩
  obtain ⟨hT, v, hv, h⟩ := h
  have hcell : ∃ cc, X.env.cells.lookup x = some cc := I.ok.has x (.inl hx)
  obtain ⟨cc, hcc⟩ := hcell
  refine wpAny_execs_cons (wpAny_Return_some (lam_make3 I TB hcode hm hu hT hdef (fun y hy e => by rw [hfree y hy e]; exact ⟨cc, hcc⟩) fun f c' H1 s' I1 e1 e2 T1 f0 f1 c1 => ?_))
  rw [hclo, hcc] at f1
  obtain ⟨m, hn, hl⟩ := I1.loc
  obtain ⟨w', rw', l⟩ := hl i x v hN hv (.inr (.inl hx))
  have hc1 : s'.heap.IsCell cc (some w') := by
    rcases l with ⟨k, _⟩ | ⟨_, c3, e3, z⟩
    · have k' : X.env.scope.names.lookup x = some .local := k
      rw [hx] at k'
      cases k'
    · rw [hcc] at e3
      cases e3
      exact z
  have n1 : H1 cc = none := I1.freeC x cc hcc
  have nf : f ≠ cc := ne_of_none f1 n1
  have nc : c' ≠ cc := ne_of_none c1 n1
  refine r2 (.ref f) σ H1 (.ref f) s' x cc v w' I1 rfl hcc hc1 rw' (h f c' cc _ (fun b o e n => ?_) (fun b e => e2 b (upd_none e)) (tabs_upd T1 n1) f0 (I.freeC x cc hcc) ?_ ?_ upd_same)
  · have e3 := e1 b o e n
    rw [upd_ne (ne_of_none e3 n1)]
    exact e3
  · rw [upd_ne nf]
    exact f1
  · rw [upd_ne nc]
    exact c1
end
theorem fn_ofR {P : Program} {w : World} {K : PySem.W.Frag} {mg : Str → Option Value} {base : Heap} {k : Nat} {f : Addr} {name qual : Str} {params : Arguments} {body : List Stmt} {scope : Scope} {dV kV doc pm cdv ct oc : Value} {an od : Option Addr}
    {osl : Array (Option Value)} {N ps : List Str} {sp : Sp} (lk : K.lookup f = some ⟨oc, od, .func (PySem.W.fnOf name qual params body scope dV kV doc pm an cdv ct), osl⟩) (hcd : PySem.W.codeIn K cdv qual = true) (S : FnScope N ps scope)
    (len : ∀ vs H Q E, sp vs H Q E → vs.length = ps.length)
    (hbody : ∀ (A : Around) (outer : List Env) (s : Shared) (H : Hp) (vs : List V) (Q : VK) (E : XK), Room k (A.deeper (envOfC qual scope s.heap.objs.size f cdv)) → sp vs H Q E →
      ∃ t, PR (cxOf CX0 P w K mg base N qual scope f cdv A outer s H E) body t ∧ t { nx := fun _ H' => Q .non H', rt := Q } (start N vs) H) :
    FnOk P w K mg base CX0 (k + 1) f (PySem.W.fnOf name qual params body scope dV kV doc pm an cdv ct) ps sp := by
  refine ⟨len, fun A outer s H args us vs Q E hr e0 hb r hsp => ?_⟩
  have hl := len _ _ _ _ hsp
  have KX : K.In s.heap := e0.mod.kin.keeps fun b o e => (e0.bs b o e).1
  have lim : s.heap.NoLimit := e0.mod.nolimit.keeps fun b o e => (e0.bs b o e).1
  have hkind : ∀ y ∈ ps.zip us, scope.names.lookup y.1 = some .local ∨ (scope.names.lookup y.1 = some .cell ∧ ((cellsFrom (s.heap.objs.size + 1) scope.names []).lookup y.1).isSome = true) := fun ⟨n, v⟩ hy => by
    rcases S.par n (List.of_mem_zip hy).1 with q | q
    · exact .inl q
    · exact .inr ⟨q, PySem.W.cellsFrom_some _ _ _ (.inl q)⟩
  refine codeAny_call_function hr.depth (KX _ _ lk) rfl S.co S.gen rfl (PySem.W.codeRec_of KX hcd) (hb _ _ _ _ ?_)
  refine wpAny_newFunctionEnv_cells S.kind hkind fun env he s1 x => ?_
  subst he
  refine ⟨lim.keeps x.toInCall.keep, codeAny_func ?_⟩
  obtain ⟨t, ht, hq⟩ := hbody A outer s H vs Q E (hr.deeper _) hsp
  have I : Inv (cxOf CX0 P w K mg base N qual scope f cdv A outer s H E) [] (start N vs) H s1 := inv_start S hr.hd e0 hl r x
  have fin : ∀ (v : V) (σ' : L2.St) (H' : Hp) (u : Value) (s' : Shared), Inv (cxOf CX0 P w K mg base N qual scope f cdv A outer s H E) [] σ' H' s' → L2.RelV v u → Q v H' → CE outer P w H s Q u s' :=
    fun v σ' H' u s' J rv q => ⟨v, H', J.os, J.bare, J.base, J.hok, rv, q⟩
  refine wpAny_mono (ht.run [] s1 (start N vs) H _ _ (CE outer P w H s Q) fin (fun v σ' H' u s' x cc y z J rv hx hc ry q => ?_) I hq) (fun fl s' hs => ?_) fun e s' hs => hs
  · have nc : H' cc = none := J.freeC x cc hx
    have hge : s.heap.objs.size ≤ cc := J.ok.cab x cc rfl hx
    have hok : HOk P w (upd H' cc (CellO cc y)) s'.heap := fun b o e => by
      by_cases hb : b = cc
      · subst hb
        rw [upd_same] at e
        cases e
        exact cellO_ok ry hc
      · rw [upd_ne hb] at e
        exact (J.hok b o e).stay (fun c' v' _ q => q) (fun c' q => by rw [upd_ne (ne_of_none q nc)]; exact q) fun c' xs q => by rw [upd_ne (ne_of_none q nc)]; exact q
    have un : Un (frs outer) [] H H' s.heap s'.heap := J.base
    refine ⟨v, upd H' cc (CellO cc y), J.os, J.bare, ⟨un.keep, un.slot, fun b o e n hx' => ?_, un.there, fun b xs e => ?_, fun b o u' e => ?_, fun b ps' e => ?_⟩, hok, rv, q⟩
    · have hb : b ≠ cc := fun z => Nat.lt_irrefl _ (Nat.lt_of_lt_of_le (by rw [z] at e; exact Heap.lt_size e) hge)
      rw [upd_ne hb]
      exact un.free b o e n hx'
    · have e' := un.tups b xs e
      rw [upd_ne (ne_of_none e' nc)]
      exact e'
    · have e' := un.frzs b o u' e
      rw [upd_ne (ne_of_none e' nc)]
      exact e'
    · obtain ⟨more, e'⟩ := un.tbls b ps' e
      exact ⟨more, by rw [upd_ne (ne_of_none e' nc)]; exact e'⟩
  · cases fl with
    | ret u => exact hs
    | next =>
      obtain ⟨σ', H', J, q⟩ := hs
      exact fin V.non σ' H' Value.none s' J rfl q
    | brk => exact False.elim hs
    | cont => exact False.elim hs
end K7
set_option Elab.async false
set_option linter.all false
set_option maxRecDepth 100000
set_option maxHeartbeats 2000000
namespace K7
open PySem PySem.Spec PyProof.Rows L2 LamX NdefX
structure HeldF (P : Program) (w : World) (K : PySem.W.Frag) (mg : Str → Option Value) (base : Heap) (k : Nat) (f : Addr) (sp : Sp) : Prop where
  run : ∀ (A : Around) (outer : List Env) (s : Shared) (H : Hp) (us : List Value) (vs : List V) (Q : VK), Room k A → Env0 P w K mg base A outer s H → Vals vs us → sp vs H Q E0 →
    codeAny (model P w) A (.call (.ref f) ⟨us, []⟩) (CR CX0 outer P w H s Q E0) s
def FnH (K : PySem.W.Frag) (H : Hp) (f : Addr) : Prop := (∃ oc od fd sl, K.lookup f = some ⟨oc, od, .func fd, sl⟩) ∨ ∃ F, H f = some (FnL f F)
theorem FnH.ext {K : PySem.W.Frag} {H H' : Hp} {f : Addr} (h : FnH K H f) (e : ∀ b o, H b = some o → H' b = some o) : FnH K H' f := by
  rcases h with h | ⟨F, h⟩
  · exact .inl h
  · exact .inr ⟨F, e _ _ h⟩
section
variable {P : Program} {w : World} {K : PySem.W.Frag} {mg : Str → Option Value} {base : Heap} {k : Nat} {f : Addr}
theorem held_def {fd : FuncData} {ps : List Str} {sp : Sp} (F : FnOk P w K mg base CX0 k f fd ps sp) (hb : Binds K fd ps []) : HeldF P w K mg base k f sp := by
  refine ⟨fun A outer s H us vs Q hr e0 r h => ?_⟩
  have KX : K.In s.heap := e0.mod.kin.keeps fun b o e => (e0.bs b o e).1
  have hl := F.len _ _ _ _ h
  have hb' := hb s us KX (by rw [List.append_nil, ← r.length]; exact hl)
  rw [List.append_nil] at hb'
  exact F.run A outer s H ⟨us, []⟩ us vs Q E0 hr e0 hb' r h
theorem HeldF.mono {j : Nat} {sp : Sp} (h : HeldF P w K mg base j f sp) (hk : j ≤ k) : HeldF P w K mg base k f sp := ⟨fun A outer s H us vs Q hr => h.run A outer s H us vs Q (hr.mono hk)⟩
theorem HeldF.imp {sp sp' : Sp} (h : HeldF P w K mg base k f sp) (hi : ∀ vs H Q E, sp' vs H Q E → sp vs H Q E) : HeldF P w K mg base k f sp' := ⟨fun A outer s H us vs Q hr e0 r q => h.run A outer s H us vs Q hr e0 r (hi _ _ _ _ q)⟩
end
abbrev LF.nf (F : LF) : NF := ⟨"<lambda>", F.qual, F.params, [], F.scope, F.cl, F.c⟩
section
variable {P : Program} {w : World} {K : PySem.W.Frag} {mg : Str → Option Value} {base : Heap} {N ps fr : List Str} {F : LF} {f : Addr} {k : Nat}
theorem run_lam (S : NScope N ps fr F.scope) (hb : ∀ (pm ctv : Value) (us : List Value), us.length = ps.length → bindArgs (PySem.W.kla_fn "<lambda>" F.qual F.params F.body F.scope F.cl pm (.ref F.c) ctv) ⟨us, []⟩ = pure (ps.zip us))
    {A : Around} {outer : List Env} {s : Shared} {H : Hp} {us : List Value} {vs : List V} {ws : List (Option V)} {Q : VK} {te : TE} (hr : Room (k + 1) A) (e0 : Env0 P w K mg base A outer s H)
    (hf : ∃ (od : Option Addr) (sl : Array (Option Value)) (pm ctv : Value), s.heap.get? f = some (⟨.type "function", od, .func (PySem.W.kla_fn "<lambda>" F.qual F.params F.body F.scope F.cl pm (.ref F.c) ctv), sl⟩ : Obj)) (hc : H F.c = some (CodeO F.c F.qual)) (C : CellsAt F.cl fr ws s.heap H) (r : Vals vs us) (hl : vs.length = ps.length)
    (hbody : Room k (A.deeper (envF F.nf f s.heap.objs.size)) → PE (ncx CX0 P w K mg base N F.nf f A outer s H E0) F.body te) (hq : te (startF N vs ws) H Q) :
    codeAny (model P w) A (.call (.ref f) ⟨us, []⟩) (CR CX0 outer P w H s Q E0) s := by
  have lim : s.heap.NoLimit := e0.mod.nolimit.keeps fun b o e => (e0.bs b o e).1
  obtain ⟨od, sl, pm, ctv, ho⟩ := hf
  refine PySem.W.kla_callFunE hr.depth ho rfl S.co S.gen rfl (codeO_at e0.hok hc) ?_
  rw [hb pm ctv us (by rw [← r.length]; exact hl)]
  refine wpAny_pure (wpAny_newFunctionEnv S.nocell (fun ⟨n, _⟩ hy => S.par n (List.of_mem_zip hy).1) (fun h₁ hns hsb => ⟨lim.fresh _ hsb, ?_⟩) S.kind)
  show codeAny _ _ (.expr F.body (envF F.nf f s.heap.objs.size)) _ _
  have kp : ∀ b o, s.heap.get? b = some o → h₁.get? b = some o := fun b o e => hsb.extBut b o (Nat.ne_of_lt (Heap.lt_size e)) (Heap.get?_push_of_some _ e)
  have I : Inv (ncx CX0 P w K mg base N F.nf f A outer s H E0) [] (startF N vs ws) H { s with heap := h₁, toks := s.toks + (ps.zip us).length } := inv_startN (F := F.nf) S hr.hd e0 hl r C hns kp
  refine PySem.W.kla_codeExpr (wpAny_mono ((hbody (hr.deeper _)).run [] _ (startF N vs ws) H Q I hq) (fun v s' hq' => ?_) fun e s' hq' => hq')
  obtain ⟨w', H', J', rv, q⟩ := hq'
  exact ⟨w', H', J'.os, J'.bare, J'.base, J'.hok, rv, q⟩
end
def hideC (H : Hp) (c : Addr) : Hp := fun b => if b = c then none else H b
theorem hideC_same {H : Hp} {c : Addr} : hideC H c c = none := by unfold hideC; rw [if_pos rfl]
theorem hideC_ne {H : Hp} {b c : Addr} (h : b ≠ c) : hideC H c b = H b := by unfold hideC; rw [if_neg h]
theorem hideC_some {H : Hp} {b c : Addr} {o : HO} (h : hideC H c b = some o) : H b = some o ∧ b ≠ c := by
  by_cases e : b = c
  · rw [e, hideC_same] at h
    cases h
  · rw [hideC_ne e] at h
    exact ⟨h, e⟩
section
variable {P : Program} {w : World} {K : PySem.W.Frag} {mg : Str → Option Value} {base : Heap} {A : Around} {outer : List Env} {s : Shared} {H : Hp} {cc : Addr} {y : V}
theorem cell_not {v : V} : ∀ z, CellO cc v ≠ HO.own z := fun z e => by
  unfold CellO at e
  cases e
theorem cell_notT {v : V} : ∀ z, CellO cc v ≠ HO.tup z := fun z e => by
  unfold CellO at e
  cases e
theorem env0_hide (e0 : Env0 P w K mg base A outer s H) (hc : H cc = some (CellO cc y)) : Env0 P w K mg base A outer s (hideC H cc) := by
  refine ⟨e0.frames, e0.mod, fun b o e => ⟨(e0.bs b o e).1, ?_⟩, e0.bsz, e0.funs, fun b hb => ?_, fun b o e => ?_, e0.bare⟩
  · have h1 := (e0.bs b o e).2
    by_cases z : b = cc
    · rw [z]
      exact hideC_same
    · rw [hideC_ne z]
      exact h1
  · have h1 := e0.frf b hb
    by_cases z : b = cc
    · rw [z]
      exact hideC_same
    · rw [hideC_ne z]
      exact h1
  · obtain ⟨h1, h2⟩ := hideC_some e
    refine (e0.hok b o h1).stay (fun c' v' _ q => q) (fun c' q => ?_) fun c' xs q => ?_
    · rw [hideC_ne fun z => by rw [z, hc] at q; exact cell_not _ (Option.some.inj q)]
      exact q
    · rw [hideC_ne fun z => by rw [z, hc] at q; exact cell_notT _ (Option.some.inj q)]
      exact q
theorem cr_hide {Q : VK} {r : Result} {s' : Shared} (e0 : Env0 P w K mg base A outer s H) (hc : H cc = some (CellO cc y)) (h : CR CX0 outer P w (hideC H cc) s (fun v H' => H' cc = none → Q v (upd H' cc (CellO cc y))) E0 r s') : CR CX0 outer P w H s Q E0 r s' := by
  cases r with
  | error e => exact False.elim h
  | ok fl =>
    cases fl with
    | next => exact False.elim h
    | brk => exact False.elim h
    | cont => exact False.elim h
    | ret u =>
      obtain ⟨v, H', os, bare, un, hok, rv, q⟩ := h
      obtain ⟨uc, ruc, hcell⟩ := cellO_at e0.hok hc
      obtain ⟨oc, hoc, hdc⟩ := id hcell
      have nfr : cc ∉ frs outer := fun z => by
        have := e0.frf cc z
        rw [hc] at this
        cases this
      have n1 : H' cc = none := un.free cc oc hoc hideC_same (by simp)
      have k1 : s'.heap.get? cc = some oc := un.keep cc oc hoc hideC_same nfr (by simp)
      have hok' : HOk P w (upd H' cc (CellO cc y)) s'.heap := fun b o e => by
        by_cases hb : b = cc
        · subst hb
          rw [upd_same] at e
          cases e
          exact cellO_ok ruc ⟨oc, k1, hdc⟩
        · rw [upd_ne hb] at e
          exact (hok b o e).stay (fun c' v' _ q => q) (fun c' q => by rw [upd_ne (ne_of_none q n1)]; exact q) fun c' xs q => by rw [upd_ne (ne_of_none q n1)]; exact q
      have hid : ∀ {b : Addr}, H b = none → hideC H cc b = none := fun {b} n => by
        by_cases z : b = cc
        · rw [z]
          exact hideC_same
        · rw [hideC_ne z]
          exact n
      have nb : ∀ {b : Addr}, H b = none → b ≠ cc := fun {b} n z => by
        rw [z, hc] at n
        cases n
      refine ⟨v, upd H' cc (CellO cc y), os, bare, ⟨fun b o e n => un.keep b o e (hid n), fun b o e n => un.slot b o e (hid n), fun b o e n hx => ?_, un.there, fun b xs e => ?_, fun b o u' e => ?_, fun b ps' e => ?_⟩, hok', rv, q n1⟩
      · rw [upd_ne (nb n)]
        exact un.free b o e (hid n) hx
      · have z : b ≠ cc := fun z => by rw [z, hc] at e; exact cell_notT _ (Option.some.inj e)
        have e' := un.tups b xs (by rw [hideC_ne z]; exact e)
        rw [upd_ne z]
        exact e'
      · have z : b ≠ cc := fun z => by
          rw [z, hc] at e
          have e := Option.some.inj e
          unfold CellO at e
          cases e
        have e' := un.frzs b o u' (by rw [hideC_ne z]; exact e)
        rw [upd_ne z]
        exact e'
      · have z : b ≠ cc := fun z => by
          rw [z, hc] at e
          have e := Option.some.inj e
          unfold CellO at e
          cases e
        obtain ⟨more, e'⟩ := un.tbls b ps' (by rw [hideC_ne z]; exact e)
        exact ⟨more, by rw [upd_ne z]; exact e'⟩
end
theorem codeO_cell {c cc : Addr} {q : Str} {v : V} {H : Hp} (h1 : H c = some (CodeO c q)) (h2 : H cc = some (CellO cc v)) (hok : ∃ P w h, HOk P w H h) : c ≠ cc := by
  rintro rfl
  rw [h1] at h2
  obtain ⟨P, w, h, ok⟩ := hok
  obtain ⟨⟨oc, vs, t, e1, e2, e3⟩, _, _⟩ := ok c _ h1
  have h2' : H c = some (CellO c v) := by rw [h1]; exact h2
  obtain ⟨u, _, o, ho, hd⟩ := cellO_at ok h2'
  rw [e1] at ho
  cases ho
  rw [e2] at hd
  cases hd
section
variable {P : Program} {w : World} {K : PySem.W.Frag} {mg : Str → Option Value} {base : Heap} {N ps : List Str} {F : LF} {f : Addr} {k : Nat}
theorem held_lam0 {sp : Sp} (S : NScope N ps [] F.scope) (hcl : F.cl = []) (hb : ∀ (pm ctv : Value) (us : List Value), us.length = ps.length → bindArgs (PySem.W.kla_fn "<lambda>" F.qual F.params F.body F.scope F.cl pm (.ref F.c) ctv) ⟨us, []⟩ = pure (ps.zip us))
    (len : ∀ vs H Q E, sp vs H Q E → vs.length = ps.length)
    (hbody : ∀ (A : Around) (outer : List Env) (s : Shared) (H : Hp) (vs : List V) (Q : VK) (E : XK), Room k (A.deeper (envF F.nf f s.heap.objs.size)) → sp vs H Q E → ∃ te, PE (ncx CX0 P w K mg base N F.nf f A outer s H E0) F.body te ∧ te (startF N vs []) H Q) :
    HeldF P w K mg base (k + 1) f (fun vs H Q E => H f = some (FnL f F) ∧ H F.c = some (CodeO F.c F.qual) ∧ sp vs H Q E) := by
  refine ⟨fun A outer s H us vs Q hr e0 r h => ?_⟩
  obtain ⟨h1, h2, h3⟩ := h
  obtain ⟨te, p, q⟩ := hbody A outer s H vs Q E0 (hr.deeper _) h3
  refine run_lam (fr := []) (ws := []) S hb hr e0 (fnL_at e0.hok h1) h2 ⟨rfl, fun y c e => ?_, fun x y c e => ?_, fun i y e => ?_⟩ r (len _ _ _ _ h3) (fun _ => p) q
  · rw [hcl] at e
    cases e
  · rw [hcl] at e
    cases e
  · simp at e
theorem held_lam1 {sp : Sp} {x : Str} {cc : Addr} {y : V} (S : NScope N ps [x] F.scope) (hcl : F.cl = [(x, cc)]) (hb : ∀ (pm ctv : Value) (us : List Value), us.length = ps.length → bindArgs (PySem.W.kla_fn "<lambda>" F.qual F.params F.body F.scope F.cl pm (.ref F.c) ctv) ⟨us, []⟩ = pure (ps.zip us))
    (len : ∀ vs H Q E, sp vs H Q E → vs.length = ps.length)
    (hbody : ∀ (A : Around) (outer : List Env) (s : Shared) (H : Hp) (vs : List V) (Q : VK), Room k (A.deeper (envF F.nf f s.heap.objs.size)) → sp vs H Q E0 → H cc = some (CellO cc y) →
      ∃ te, PE (ncx CX0 P w K mg base N F.nf f A outer s (hideC H cc) E0) F.body te ∧ te (startF N vs [some y]) (hideC H cc) (fun v H' => H' cc = none → Q v (upd H' cc (CellO cc y)))) :
    HeldF P w K mg base (k + 1) f (fun vs H Q E => H f = some (FnL f F) ∧ H F.c = some (CodeO F.c F.qual) ∧ H cc = some (CellO cc y) ∧ sp vs H Q E0) := by
  refine ⟨fun A outer s H us vs Q hr e0 r h => ?_⟩
  obtain ⟨h1, h2, hc, h3⟩ := h
  obtain ⟨te, p, q⟩ := hbody A outer s H vs Q (hr.deeper _) h3 hc
  have e1 := env0_hide e0 hc
  have nc : F.c ≠ cc := codeO_cell h2 hc ⟨_, _, _, e0.hok⟩
  refine codeAny_mono (run_lam (fr := [x]) (ws := [some y]) S hb hr e1 (fnL_at e0.hok h1) (by rw [hideC_ne nc]; exact h2) ⟨rfl, fun z c e => ?_, fun x1 x2 c e1 e2 => ?_, fun i z e => ?_⟩ r (len _ _ _ _ h3) (fun _ => p) q) fun r s' hq => cr_hide e0 hc hq
  · rw [hcl] at e
    have ez : c = cc := by
      simp only [List.lookup_cons, List.lookup_nil] at e
      split at e
      · exact (Option.some.inj e).symm
      · cases e
    rw [ez]
    obtain ⟨u, _, z'⟩ := cellO_at e0.hok hc
    exact ⟨hideC_same, some u, z'⟩
  · rw [hcl] at e1 e2
    have m1 := PySem.mem_of_lookup e1
    have m2 := PySem.mem_of_lookup e2
    have z1 := List.mem_singleton.mp m1
    have z2 := List.mem_singleton.mp m2
    injection z1 with z1 _
    injection z2 with z2 _
    rw [z1, z2]
  · cases i with
    | zero =>
      have ez : x = z := Option.some.inj e
      subst ez
      refine ⟨cc, by rw [hcl]; simp [List.lookup], fun v hv => ?_⟩
      have ev : y = v := by
        have hv' : some (some y) = some (some v) := hv
        exact Option.some.inj (Option.some.inj hv')
      subst ev
      exact cellO_at e0.hok hc
    | succ i => simp at e
end
section
variable {X : Cx} {k : Nat} {x m : Str} {p pos apos : Pos} {e o : Expr} {es : List Expr} {ta : TE} {t : TA}
theorem fnH_at {pins : List (Addr × Obj)} {σ : L2.St} {H : Hp} {s : Shared} {f : Addr} (I : Inv X pins σ H s) (h : FnH X.K H f) : PySem.W.FnAt f s.heap := by
  rcases h with ⟨oc, od, fd, sl, e⟩ | ⟨F, e⟩
  · exact ⟨oc, od, fd, sl, I.kIn _ _ e⟩
  · obtain ⟨od, sl, pm, ctv, ho⟩ := fnL_at I.hok e
    exact ⟨_, od, _, sl, ho⟩
theorem run_held {pins : List (Addr × Obj)} {σ : L2.St} {H : Hp} {s : Shared} {Q : VK} {f : Addr} {us : List Value} {vs : List V} {sp : Sp} (hr : Room k X.A) (F : HeldF X.prog X.w X.K X.mg X.base k f sp) (I : Inv X pins σ H s) (r : Vals vs us) (q : sp vs H Q E0) :
    wpAny (model X.prog X.w) X.A (call (.ref f) us) (EP X pins σ Q) X.xe s := by
  refine wpAny_call (codeAny_mono (F.run X.A X.stack s H us vs Q hr I.env0 r q) fun r s' hq => ?_)
  cases r with
  | error e => exact False.elim hq
  | ok fl =>
    cases fl with
    | ret u => exact I.after hq
    | next => exact False.elim hq
    | brk => exact False.elim hq
    | cont => exact False.elim hq
def tCallH (P : Program) (w : World) (K : PySem.W.Frag) (mg : Str → Option Value) (base : Heap) (k i : Nat) (t : TA) : TE := fun σ H Q => ∃ f sp, σ[i]? = some (some (.ref f)) ∧ HeldF P w K mg base k f sp ∧ FnH K H f ∧ t σ H fun vs H1 => FnH K H1 f ∧ sp vs H1 Q E0
theorem pe_callH (i : Nat) (hr : Room k X.A) (hN : X.N[i]? = some x) (hv : Vis X.env.scope x) (ha : PA X (e :: es) t)
    (hd : (x == ("__debug__" : Str)) = false := by decide) (hcd : (x == ("__classdict__" : Str)) = false := by decide)
    (he : starEach (e :: es) X.env = (false, eval e X.env) :: starEach es X.env := by rfl) (hpl : (backTo pos (starEach es X.env)).any (·.1) = false := by rfl) :
    PE X (.Call (.Name x p) (e :: es) [] pos) (tCallH X.prog X.w X.K X.mg X.base k i t) := by
  refine ⟨fun pins s σ H Q I h => ?_⟩
  obtain ⟨f, sp, hs, hF, hf, ht⟩ := h
  refine wpAny_Call_Name_kw (thn ((pe_var (pos := p) hN hv hd hcd).run pins s σ H (fun v H1 => v = .ref f ∧ H1 = H) I ⟨.ref f, hs, rfl, rfl⟩) fun u s1 ⟨v, H1, I1, r1, q1⟩ => ?_)
  obtain ⟨ev, eH⟩ := q1
  subst ev
  rw [eH] at I1
  obtain rfl : u = Value.ref f := r1
  refine PySem.W.callWith_F (first := []) (fnH_at I1 hf) (thn (ha.run pos pins s1 σ H _ I1 ht) fun us s2 ⟨vs, H2, I2, r, h1, q⟩ => ⟨fnH_at I2 h1, ?_⟩) he hpl
  show wpAny _ _ (call (.ref f) us) _ _ _
  exact run_held hr hF I2 r q
def tFldH (P : Program) (w : World) (K : PySem.W.Frag) (mg : Str → Option Value) (base : Heap) (k : Nat) (m : Str) (ta : TE) (t : TA) : TE := fun σ H Q => ta σ H fun y H1 => ∃ a C dx fs f sp, y = .ref a ∧ H1 a = some (.ins C dx fs) ∧ Cls K C ∧ NoAttr K C m ∧ fs.lookup m = some (.ref f) ∧
  HeldF P w K mg base k f sp ∧ FnH K H1 f ∧ t σ H1 fun vs H2 => FnH K H2 f ∧ sp vs H2 Q E0
theorem getmethN {pins : List (Addr × Obj)} {σ : L2.St} {H : Hp} {s : Shared} {a C dx : Addr} {fs : List (Str × V)} {pl : Sem Bool} {A : Around} {E : Value → Shared → Prop} {v : V} {Q : Value × List Value → Shared → Prop} (I : Inv X pins σ H s) (e : H a = some (.ins C dx fs)) (c : Cls X.K C) (n : NoAttr X.K C m)
    (l : fs.lookup m = some v) (h : ∀ u s', Inv X pins σ H s' → L2.RelV v u → Q (u, []) s') : wpAny (model X.prog X.w) A (getMethod (.ref a) m pl) Q E s := by
  obtain ⟨mA, O, r, _, _, _⟩ := ins_get I.hok e
  obtain ⟨od, J, hl⟩ := O.look
  obtain ⟨g1, g2⟩ := PySem.W.plainGet_of (c.get m)
  exact PySem.W.method_usual I.kIn J g1 g2 (r := none) n rfl (getattr_ok I e c n l fun u s' I' ru => h u s' I' ru)
theorem pe_fldH {pl : Sem Bool} (hr : Room k X.A) (he : PE X o ta) (ha : PA X (e :: es) t)
    (hst : starEach (e :: es) X.env = (false, eval e X.env) :: starEach es X.env := by rfl) (hpl : (backTo pos (starEach es X.env)).any (·.1) = false := by rfl)
    (ht : eval (.Call (.Attribute o m apos) (e :: es) [] pos) X.env = (do
      let ov ← eval o X.env
      standAt apos.atName
      let (f, first) ← holding [ov] (getMethod ov m pl)
      callWith pos f first (backTo pos (starEach (e :: es) X.env)) (backToKw pos (keywordEach [] X.env))) := by rfl) :
    PE X (.Call (.Attribute o m apos) (e :: es) [] pos) (tFldH X.prog X.w X.K X.mg X.base k m ta t) := by
  refine ⟨fun pins s σ H Q I h => ?_⟩
  refine PySem.W.methodCall_KW (pl := pl) (thn (he.run pins s σ H _ I h) fun u s1 ⟨y, H1, I1, rx, a, C, dx, fs, f, sp, ex, ea, c, n, l, hF, hf, q⟩ => ?_) ht
  subst ex
  obtain rfl : u = Value.ref a := rx
  refine getmethN I1 ea c n l fun v s2 I2 rv => ?_
  obtain rfl : v = Value.ref f := rv
  refine PySem.W.callWith_F (first := []) (fnH_at I2 hf) (thn (ha.run pos pins s2 σ H1 _ I2 q) fun us s3 ⟨vs, H2, I3, r, h1, q2⟩ => ⟨fnH_at I3 h1, ?_⟩) hst hpl
  show wpAny _ _ (call (.ref f) us) _ _ _
  exact run_held hr hF I3 r q2
end
end K7
set_option Elab.async false
set_option linter.all false
set_option maxRecDepth 100000
set_option maxHeartbeats 4000000
namespace K70
open PySem PySem.Spec PyProof.Rows L2
def top (i : Nat) : Stmt := PySem.Challenge.pw_deedline_k70_whole_tables_with_the_same.main.body.getD i (.Pass ⟨0, 0, 0, 0⟩)
abbrev s_is_integer : Stmt := top 7
abbrev n_is_integer : List Str := ["value"]
theorem sc_is_integer : FnScope n_is_integer ["value"] (defScope s_is_integer) := ⟨rfl, rfl, rfl, by decide +kernel, rfl, by decide +kernel, by decide +kernel⟩
abbrev s_is_within : Stmt := top 8
abbrev n_is_within : List Str := ["value", "least", "most"]
theorem sc_is_within : FnScope n_is_within ["value", "least", "most"] (defScope s_is_within) := ⟨rfl, rfl, rfl, by decide +kernel, rfl, by decide +kernel, by decide +kernel⟩
abbrev s_is_text : Stmt := top 9
abbrev n_is_text : List Str := ["value", "sign"]
theorem sc_is_text : FnScope n_is_text ["value"] (defScope s_is_text) := ⟨rfl, rfl, rfl, by decide +kernel, rfl, by decide +kernel, by decide +kernel⟩
abbrev s_require_text : Stmt := top 10
abbrev n_require_text : List Str := ["value"]
theorem sc_require_text : FnScope n_require_text ["value"] (defScope s_require_text) := ⟨rfl, rfl, rfl, by decide +kernel, rfl, by decide +kernel, by decide +kernel⟩
abbrev s_hash_in : Stmt := top 13
abbrev n_hash_in : List Str := ["text", "found", "sign"]
theorem sc_hash_in : FnScope n_hash_in ["text"] (defScope s_hash_in) := ⟨rfl, rfl, rfl, by decide +kernel, rfl, by decide +kernel, by decide +kernel⟩
abbrev s_turned_bits : Stmt := top 14
abbrev n_turned_bits : List Str := ["value", "bits", "found", "left", "step"]
theorem sc_turned_bits : FnScope n_turned_bits ["value", "bits"] (defScope s_turned_bits) := ⟨rfl, rfl, rfl, by decide +kernel, rfl, by decide +kernel, by decide +kernel⟩
abbrev s_spot_in : Stmt := top 15
abbrev n_spot_in : List Str := ["text"]
theorem sc_spot_in : FnScope n_spot_in ["text"] (defScope s_spot_in) := ⟨rfl, rfl, rfl, by decide +kernel, rfl, by decide +kernel, by decide +kernel⟩
abbrev s_require_below : Stmt := top 16
abbrev n_require_below : List Str := ["value", "bits", "most"]
theorem sc_require_below : FnScope n_require_below ["value", "bits", "most"] (defScope s_require_below) := ⟨rfl, rfl, rfl, by decide +kernel, rfl, by decide +kernel, by decide +kernel⟩
abbrev s_hash_of : Stmt := top 17
abbrev n_hash_of : List Str := ["text"]
theorem sc_hash_of : FnScope n_hash_of ["text"] (defScope s_hash_of) := ⟨rfl, rfl, rfl, by decide +kernel, rfl, by decide +kernel, by decide +kernel⟩
abbrev s_spot_of : Stmt := top 18
abbrev n_spot_of : List Str := ["text"]
theorem sc_spot_of : FnScope n_spot_of ["text"] (defScope s_spot_of) := ⟨rfl, rfl, rfl, by decide +kernel, rfl, by decide +kernel, by decide +kernel⟩
abbrev s_bucket_spots : Stmt := top 19
abbrev n_bucket_spots : List Str := ["bucket", "bits", "many", "first"]
theorem sc_bucket_spots : FnScope n_bucket_spots ["bucket", "bits"] (defScope s_bucket_spots) := ⟨rfl, rfl, rfl, by decide +kernel, rfl, by decide +kernel, by decide +kernel⟩
abbrev s_buckets_above : Stmt := top 25
abbrev n_buckets_above : List Str := ["many", "found"]
theorem sc_buckets_above : FnScope n_buckets_above ["many"] (defScope s_buckets_above) := ⟨rfl, rfl, rfl, by decide +kernel, rfl, by decide +kernel, by decide +kernel⟩
abbrev s_buckets_for : Stmt := top 26
abbrev n_buckets_for : List Str := ["many", "found"]
theorem sc_buckets_for : FnScope n_buckets_for ["many"] (defScope s_buckets_for) := ⟨rfl, rfl, rfl, by decide +kernel, rfl, by decide +kernel, by decide +kernel⟩
abbrev s_empty_buckets : Stmt := top 27
abbrev n_empty_buckets : List Str := ["many", "at"]
theorem sc_empty_buckets : FnScope n_empty_buckets ["many"] (defScope s_empty_buckets) := ⟨rfl, rfl, rfl, by decide +kernel, rfl, by decide +kernel, by decide +kernel⟩
abbrev s_without_name : Stmt := top 28
abbrev n_without_name : List Str := ["buckets", "number", "name", "at", "index", "bucket", "one"]
theorem sc_without_name : FnScope n_without_name ["buckets", "number", "name"] (defScope s_without_name) := ⟨rfl, rfl, rfl, by decide +kernel, rfl, by decide +kernel, by decide +kernel⟩
abbrev s_Table_d_init : Stmt := inClass (top 29) 0
abbrev n_Table_d_init : List Str := ["self", "spread"]
theorem sc_Table_d_init : FnScope n_Table_d_init ["self", "spread"] (defScope s_Table_d_init) := ⟨rfl, rfl, rfl, by decide +kernel, rfl, by decide +kernel, by decide +kernel⟩
abbrev s_Table_move_on : Stmt := inClass (top 29) 1
abbrev n_Table_move_on : List Str := ["self", "many", "name"]
theorem sc_Table_move_on : FnScope n_Table_move_on ["self"] (defScope s_Table_move_on) := ⟨rfl, rfl, rfl, by decide +kernel, rfl, by decide +kernel, by decide +kernel⟩
abbrev s_Table_begin_move : Stmt := inClass (top 29) 2
abbrev n_Table_begin_move : List Str := ["self", "many"]
theorem sc_Table_begin_move : FnScope n_Table_begin_move ["self", "many"] (defScope s_Table_begin_move) := ⟨rfl, rfl, rfl, by decide +kernel, rfl, by decide +kernel, by decide +kernel⟩
abbrev s_Table_put_new : Stmt := inClass (top 29) 3
abbrev n_Table_put_new : List Str := ["self", "name", "number", "rows", "spot", "one"]
theorem sc_Table_put_new : FnScope n_Table_put_new ["self", "name"] (defScope s_Table_put_new) := ⟨rfl, rfl, rfl, by decide +kernel, rfl, by decide +kernel, by decide +kernel⟩
abbrev s_Table_put : Stmt := inClass (top 29) 4
abbrev n_Table_put : List Str := ["self", "name", "value", "is_new", "many"]
theorem sc_Table_put : FnScope n_Table_put ["self", "name", "value"] (defScope s_Table_put) := ⟨rfl, rfl, rfl, by decide +kernel, rfl, by decide +kernel, by decide +kernel⟩
abbrev s_Table_get : Stmt := inClass (top 29) 5
abbrev n_Table_get : List Str := ["self", "name", "other"]
theorem sc_Table_get : FnScope n_Table_get ["self", "name", "other"] (defScope s_Table_get) := ⟨rfl, rfl, rfl, by decide +kernel, rfl, by decide +kernel, by decide +kernel⟩
abbrev s_Table_take : Stmt := inClass (top 29) 6
abbrev n_Table_take : List Str := ["self", "name", "other", "number", "value", "many", "one"]
theorem sc_Table_take : FnScope n_Table_take ["self", "name", "other"] (defScope s_Table_take) := ⟨rfl, rfl, rfl, by decide +kernel, rfl, by decide +kernel, by decide +kernel⟩
abbrev s_Table_scan : Stmt := inClass (top 29) 7
abbrev n_Table_scan : List Str := ["self", "cursor", "count"]
theorem sc_Table_scan : FnScope n_Table_scan ["self", "cursor", "count"] (defScope s_Table_scan) := ⟨rfl, rfl, rfl, by decide +kernel, rfl, by decide +kernel, by decide +kernel⟩
abbrev s_Table_all_names : Stmt := inClass (top 29) 8
abbrev n_Table_all_names : List Str := ["self"]
theorem sc_Table_all_names : FnScope n_Table_all_names ["self"] (defScope s_Table_all_names) := ⟨rfl, rfl, rfl, by decide +kernel, rfl, by decide +kernel, by decide +kernel⟩
abbrev s_Table_all_items : Stmt := inClass (top 29) 9
abbrev n_Table_all_items : List Str := ["self", "name"]
theorem sc_Table_all_items : FnScope n_Table_all_items ["self"] (defScope s_Table_all_items) := ⟨rfl, rfl, rfl, by decide +kernel, rfl, by decide +kernel, by decide +kernel⟩
abbrev s_Table_counts : Stmt := inClass (top 29) 10
abbrev n_Table_counts : List Str := ["self"]
theorem sc_Table_counts : FnScope n_Table_counts ["self"] (defScope s_Table_counts) := ⟨rfl, rfl, rfl, by decide +kernel, rfl, by decide +kernel, by decide +kernel⟩
abbrev s_Table_rows : Stmt := inClass (top 29) 11
abbrev n_Table_rows : List Str := ["self", "bucket"]
theorem sc_Table_rows : FnScope n_Table_rows ["self"] (defScope s_Table_rows) := ⟨rfl, rfl, rfl, by decide +kernel, rfl, by decide +kernel, by decide +kernel⟩
abbrev s_Table_d_len : Stmt := inClass (top 29) 14
abbrev n_Table_d_len : List Str := ["self"]
theorem sc_Table_d_len : FnScope n_Table_d_len ["self"] (defScope s_Table_d_len) := ⟨rfl, rfl, rfl, by decide +kernel, rfl, by decide +kernel, by decide +kernel⟩
abbrev s_Table_d_eq : Stmt := inClass (top 29) 16
abbrev n_Table_d_eq : List Str := ["self", "other"]
theorem sc_Table_d_eq : FnScope n_Table_d_eq ["self", "other"] (defScope s_Table_d_eq) := ⟨rfl, rfl, rfl, by decide +kernel, rfl, by decide +kernel, by decide +kernel⟩
abbrev s_scanned_names : Stmt := top 30
abbrev n_scanned_names : List Str := ["names", "spots", "cursor", "count", "rows", "last", "found", "name"]
theorem sc_scanned_names : FnScope n_scanned_names ["names", "spots", "cursor", "count"] (defScope s_scanned_names) := ⟨rfl, rfl, rfl, by decide +kernel, rfl, by decide +kernel, by decide +kernel⟩
abbrev s_law_dice : Stmt := top 32
abbrev n_law_dice : List Str := ["script", "at", "cell", "great", "left", "mixed"]
theorem sc_law_dice : FnScope n_law_dice ["script", "at"] (defScope s_law_dice) := ⟨rfl, rfl, rfl, by decide +kernel, rfl, by decide +kernel, by decide +kernel⟩
abbrev s_law_roll : Stmt := top 33
abbrev n_law_roll : List Str := ["dice", "total", "size", "drawn", "one", "two"]
theorem sc_law_roll : FnScope n_law_roll ["dice", "total"] (defScope s_law_roll) := ⟨rfl, rfl, rfl, by decide +kernel, rfl, by decide +kernel, by decide +kernel⟩
abbrev s_law_one_of : Stmt := top 34
abbrev n_law_one_of : List Str := ["dice", "items"]
theorem sc_law_one_of : FnScope n_law_one_of ["dice", "items"] (defScope s_law_one_of) := ⟨rfl, rfl, rfl, by decide +kernel, rfl, by decide +kernel, by decide +kernel⟩
abbrev s_law_mixed : Stmt := top 35
abbrev n_law_mixed : List Str := ["dice", "items", "left", "found"]
theorem sc_law_mixed : FnScope n_law_mixed ["dice", "items"] (defScope s_law_mixed) := ⟨rfl, rfl, rfl, by decide +kernel, rfl, by decide +kernel, by decide +kernel⟩
abbrev s_law_spot_of : Stmt := top 36
abbrev n_law_spot_of : List Str := ["number", "found", "left", "step"]
theorem sc_law_spot_of : FnScope n_law_spot_of ["number"] (defScope s_law_spot_of) := ⟨rfl, rfl, rfl, by decide +kernel, rfl, by decide +kernel, by decide +kernel⟩
abbrev s_law_hash : Stmt := top 37
abbrev n_law_hash : List Str := ["text", "found", "sign"]
theorem sc_law_hash : FnScope n_law_hash ["text"] (defScope s_law_hash) := ⟨rfl, rfl, rfl, by decide +kernel, rfl, by decide +kernel, by decide +kernel⟩
abbrev s_law_names : Stmt := top 38
abbrev n_law_names : List Str := ["dice", "some"]
theorem sc_law_names : FnScope n_law_names ["dice"] (defScope s_law_names) := ⟨rfl, rfl, rfl, by decide +kernel, rfl, by decide +kernel, by decide +kernel⟩
abbrev s_law_spread : Stmt := top 39
abbrev n_law_spread : List Str := ["dice", "way", "by"]
theorem sc_law_spread : FnScope n_law_spread ["dice"] (defScope s_law_spread) := ⟨rfl, rfl, rfl, by decide +kernel, rfl, by decide +kernel, by decide +kernel⟩
abbrev s_law_table_with : Stmt := top 40
abbrev n_law_table_with : List Str := ["dice", "spread", "names", "table", "others", "extra", "name", "turn"]
theorem sc_law_table_with : FnScope n_law_table_with ["dice", "spread", "names"] (defScope s_law_table_with) := ⟨rfl, rfl, rfl, by decide +kernel, rfl, by decide +kernel, by decide +kernel⟩
abbrev s_law_scanned : Stmt := top 41
abbrev n_law_scanned : List Str := ["rows", "cursor", "count", "some", "last", "found", "row", "spot", "name"]
theorem sc_law_scanned : FnScope n_law_scanned ["rows", "cursor", "count"] (defScope s_law_scanned) := ⟨rfl, rfl, rfl, by decide +kernel, rfl, by decide +kernel, by decide +kernel⟩
abbrev s_law_buckets_right : Stmt := top 42
abbrev n_law_buckets_right : List Str := ["table", "spots", "old", "new", "moved", "many", "rows", "fresh", "found", "some", "bits", "size", "at", "bucket", "first", "last", "row", "name"]
theorem sc_law_buckets_right : FnScope n_law_buckets_right ["table", "spots"] (defScope s_law_buckets_right) := ⟨rfl, rfl, rfl, by decide +kernel, rfl, by decide +kernel, by decide +kernel⟩
abbrev s_law_journey_right : Stmt := top 43
abbrev n_law_journey_right : List Str := ["dice", "tables", "rows", "cursor", "told", "is_over", "turn", "names", "spot", "name"]
theorem sc_law_journey_right : FnScope n_law_journey_right ["dice", "tables", "rows"] (defScope s_law_journey_right) := ⟨rfl, rfl, rfl, by decide +kernel, rfl, by decide +kernel, by decide +kernel⟩
abbrev s_law_right : Stmt := top 44
abbrev n_law_right : List Str := ["dice", "names", "spread", "spots", "rows", "tables", "table", "cursors", "cursor", "count", "due", "turn", "name", "spot"]
theorem sc_law_right : FnScope n_law_right ["dice"] (defScope s_law_right) := ⟨rfl, rfl, rfl, by decide +kernel, rfl, by decide +kernel, by decide +kernel⟩
abbrev s_law : Stmt := top 45
abbrev n_law : List Str := ["script", "at"]
theorem sc_law : FnScope n_law ["script"] (defScope s_law) := ⟨rfl, rfl, rfl, by decide +kernel, rfl, by decide +kernel, by decide +kernel⟩
theorem bt_abs : bootBuiltins "abs" = some (.builtin "abs") := by decide +kernel
theorem bt_all : bootBuiltins "all" = some (.builtin "all") := by decide +kernel
theorem bt_bool : bootBuiltins "bool" = some (.type "bool") := by decide +kernel
theorem bt_dict : bootBuiltins "dict" = some (.type "dict") := by decide +kernel
theorem bt_enumerate : bootBuiltins "enumerate" = some (.type "enumerate") := by decide +kernel
theorem bt_int : bootBuiltins "int" = some (.type "int") := by decide +kernel
theorem bt_isinstance : bootBuiltins "isinstance" = some (.builtin "isinstance") := by decide +kernel
theorem bt_len : bootBuiltins "len" = some (.builtin "len") := by decide +kernel
theorem bt_list : bootBuiltins "list" = some (.type "list") := by decide +kernel
theorem bt_max : bootBuiltins "max" = some (.builtin "max") := by decide +kernel
theorem bt_min : bootBuiltins "min" = some (.builtin "min") := by decide +kernel
theorem bt_ord : bootBuiltins "ord" = some (.builtin "ord") := by decide +kernel
theorem bt_range : bootBuiltins "range" = some (.type "range") := by decide +kernel
theorem bt_sorted : bootBuiltins "sorted" = some (.builtin "sorted") := by decide +kernel
theorem bt_str : bootBuiltins "str" = some (.type "str") := by decide +kernel
theorem bt_tuple : bootBuiltins "tuple" = some (.type "tuple") := by decide +kernel
structure Txt (K : PySem.W.Frag) (mg : Str → Option Value) : Prop where
  b_abs : mg "abs" = none
  b_all : mg "all" = none
  b_bool : mg "bool" = none
  b_dict : mg "dict" = none
  b_enumerate : mg "enumerate" = none
  b_int : mg "int" = none
  b_isinstance : mg "isinstance" = none
  b_len : mg "len" = none
  b_list : mg "list" = none
  b_max : mg "max" = none
  b_min : mg "min" = none
  b_ord : mg "ord" = none
  b_range : mg "range" = none
  b_sorted : mg "sorted" = none
  b_str : mg "str" = none
  b_tuple : mg "tuple" = none
  g_MAX_TEXT : ∃ u, mg "MAX_TEXT" = some u ∧ L2.RelV (.int 200) u
  g_HASH_BITS : ∃ u, mg "HASH_BITS" = some u ∧ L2.RelV (.int 16) u
  g_LEAST_BUCKETS : ∃ u, mg "LEAST_BUCKETS" = some u ∧ L2.RelV (.int 4) u
  g_MOST_BUCKETS : ∃ u, mg "MOST_BUCKETS" = some u ∧ L2.RelV (.int 65536) u
  g_MOST_COUNT : ∃ u, mg "MOST_COUNT" = some u ∧ L2.RelV (.int 1000) u
  g_LAST_SPOT : ∃ u, mg "LAST_SPOT" = some u ∧ L2.RelV (.int 65535) u
  f_hash_in : mg "hash_in" = some (.ref (He.ga K "hash_in"))
  f_Table : mg "Table" = some (.ref (He.ga K "Table"))
  cl_Table : Cls K (He.ga K "Table")
  na_Table_own_spread : NoAttr K (He.ga K "Table") "own_spread"
  na_Table_own_values : NoAttr K (He.ga K "Table") "own_values"
  na_Table_own_hashes : NoAttr K (He.ga K "Table") "own_hashes"
  na_Table_own_spots : NoAttr K (He.ga K "Table") "own_spots"
  na_Table_own_names : NoAttr K (He.ga K "Table") "own_names"
  na_Table_own_old : NoAttr K (He.ga K "Table") "own_old"
  na_Table_own_new : NoAttr K (He.ga K "Table") "own_new"
  na_Table_own_moved : NoAttr K (He.ga K "Table") "own_moved"
end K70
set_option Elab.async false
set_option linter.all false
set_option maxRecDepth 100000
set_option maxHeartbeats 2000000
namespace K7
open PySem PySem.Spec PyProof.Rows L2
section
variable {X : Cx} {K : PySem.W.Frag} {tg e o l value elt : Expr} {es : List Expr} {t ta : TA} {te tl tv td to : TE} {pos apos cpos p : Pos}
theorem pg_tupK (hK : X.K = K) {es : List Expr} {k : Nat} {t : TGs} {n : Nat} (hc : X.calm = true) (h : PGs X es t)
    (hn : (assignEach es X.env).length = n := by rfl) (hst : (assignEach es X.env).findIdx? (·.1) = none := by rfl) : PG X (.Tuple es k pos) (gTup K n t) := by
  subst hK
  exact pg_tup hc h hn hst
theorem pe_fldK {f : Str} (hK : X.K = K) (he : PE X e te) (hb : attributeBase e f X.env (eval e X.env) = eval e X.env) : PE X (.Attribute e f pos) (tFld K te f) := by
  subst hK
  exact pe_fld he hb
theorem ps_fldK {f : Str} {pos' : Pos} (hK : X.K = K) (ha : PE X o te) (hv : PE X value tv) (hs : swapsWith value (some (.Attribute o f pos')) pos.line X.env = pure false) : PS X (.Assign [.Attribute o f pos'] value pos) (sFld K te tv f) := by
  subst hK
  exact ps_fld ha hv hs
theorem ix_listK (hK : X.K = K) : IxR X (rIxL K) := by
  subst hK
  exact ix_list
theorem ix_tupK (hK : X.K = K) : IxR X (rIxT K) := by
  subst hK
  exact ix_tup
theorem sl_listK (hK : X.K = K) : SlR X (rSlL K) := by
  subst hK
  exact sl_list
theorem sl_tupK (hK : X.K = K) : SlR X (rSlT K) := by
  subst hK
  exact sl_tup
def rLenQ (K : PySem.W.Frag) : List V → Hp → VK → Prop := fun xs H Q => ∃ p ys, xs = [.ref p] ∧ (SqL K H p ys ∨ SqT K H p ys) ∧ Q (.int ys.length) H
theorem call_lenK (hK : X.K = K) : CallR X (.builtin "len") (rLenQ K) := by
  subst hK
  exact call_len_seq
def rListQ (K : PySem.W.Frag) : List V → Hp → VK → Prop := fun xs H Q => ∃ p ys, xs = [.ref p] ∧ (SqL K H p ys ∨ SqT K H p ys) ∧ ∀ l, H l = none → Q (.ref l) (upd H l (.lst ys))
theorem call_listK (hK : X.K = K) : CallR X (.type "list") (rListQ K) := by
  subst hK
  exact call_list_of
def rTupQ (K : PySem.W.Frag) : List V → Hp → VK → Prop := fun xs H Q => ∃ p ys, xs = [.ref p] ∧ ((SqL K H p ys ∧ ∀ l, H l = none → Q (.ref l) (upd H l (.tup ys))) ∨ (SqT K H p ys ∧ Q (.ref p) H))
theorem call_tupK (hK : X.K = K) : CallR X (.type "tuple") (rTupQ K) := by
  subst hK
  exact call_tuple_of
def rDictQ (K : PySem.W.Frag) : List V → Hp → VK → Prop := fun xs H Q => ∃ (a : Addr) (ps : List Addr) (kvs : List (Key × V)), xs = [.ref a] ∧ SqL K H a (ps.map V.ref) ∧ Paired (fun p kv => SqT K H p [kV kv.1, kv.2]) ps kvs ∧
    ∀ p, H p = none → Q (.ref p) (upd H p (.dK (mergeK [] kvs)))
theorem call_dictK (hK : X.K = K) (hc : X.calm = true) : CallR X (.type "dict") (rDictQ K) := by
  subst hK
  exact call_dictP hc
theorem op_eqK (hK : X.K = K) (hu : X.A.units + 64 < cLine) : OpR X (compareOp .Eq) (rEqD K) := by
  subst hK
  exact op_eqD hu
theorem op_neK (hK : X.K = K) (hu : X.A.units + 64 < cLine) : OpR X (compareOp .NotEq) (rNeD K) := by
  subst hK
  exact op_neD hu
theorem op_inK (hK : X.K = K) : OpR X (compareOp .In) (rIn K false) := by
  subst hK
  exact op_in_seq
theorem op_notinK (hK : X.K = K) : OpR X (compareOp .NotIn) (rIn K true) := by
  subst hK
  exact op_notIn_seq
theorem pi_listK (hK : X.K = K) (hl : PE X l tl) : PI X tg l (iList K tl) := by
  subst hK
  exact pi_list hl
theorem pi_tupK (hK : X.K = K) (hl : PE X l tl) : PI X tg l (iTup K tl) := by
  subst hK
  exact pi_tup hl
theorem pi_enumK {tpos : Pos} {elts : List Expr} {kk : Nat} (hK : X.K = K) (hg : Gl X "enumerate") (hm : X.mg "enumerate" = none) (ha : PA X [e] ta) (hs : starEach [e] X.env = [(false, eval e X.env)] := by rfl) :
    PI X (.Tuple elts kk tpos) (.Call (.Name "enumerate" p) [e] [] pos) (iEnum K ta) := by
  subst hK
  exact pi_enum hg hm ha hs
theorem pi_enumTK {tpos : Pos} {elts : List Expr} {kk : Nat} (hK : X.K = K) (hg : Gl X "enumerate") (hm : X.mg "enumerate" = none) (ha : PA X [e] ta) (hs : starEach [e] X.env = [(false, eval e X.env)] := by rfl) :
    PI X (.Tuple elts kk tpos) (.Call (.Name "enumerate" p) [e] [] pos) (iEnumT K ta) := by
  subst hK
  exact pi_enumT hg hm ha hs
theorem call_isiK (hK : X.K = K) : CallR X (.builtin "isinstance") (rIsi K) := by
  subst hK
  exact call_isi
theorem cr_allK (hK : X.K = K) (hc : X.calm = true) : CallR X (.builtin "all") (rAll K) := by
  subst hK
  exact cr_all hc
theorem cr_sortedISK (hK : X.K = K) : CallR X (.builtin "sorted") (rSortedIS K) := by
  subst hK
  exact cr_sortedIS
theorem cr_sortedSK (hK : X.K = K) : CallR X (.builtin "sorted") (rSortedS K) := by
  subst hK
  exact cr_sortedS
theorem pe_bmK {name : Str} {T id : String} {r : V → List V → Hp → VK → Prop} (hK : X.K = K) (pa : PlainAttrs T) (slot : Slot T name id) (hty : typeOf (.builtin id) = pure (.type "method_descriptor")) (hm : MtR X id r) (ho : PE X o to) (ha : PA X (e :: es) t)
    (hbase : attributeBase o name X.env (eval o X.env) = eval o X.env := by rfl)
    (hfew : ((backTo cpos (starEach (e :: es) X.env)).all (fun x => !x.1) && (backToKw cpos (keywordEach [] X.env)).all (fun x => x.1.isSome)
      && decide ((e :: es).length + ([] : List Keyword).length + (if ([] : List Keyword).isEmpty then 0 else 1) < 30)) = true := by rfl)
    (hline : (apos.endLine == cpos.line) = true := by rfl) (hs : starEach (e :: es) X.env = (false, eval e X.env) :: starEach es X.env := by rfl) (hplain : (backTo cpos (starEach es X.env)).any (·.1) = false := by rfl) :
    PE X (.Call (.Attribute o name apos) (e :: es) [] cpos) (tBM K T r to t) := by
  subst hK
  exact pe_bm pa slot hty hm ho ha hbase hfew hline hs hplain
theorem pe_callHK {P : Program} {w : World} {mg : Str → Option Value} {base : Heap} {k : Nat} {x : Str} (hP : X.prog = P) (hw : X.w = w) (hK : X.K = K) (hm : X.mg = mg) (hb : X.base = base) (i : Nat) (hr : Room k X.A) (hN : X.N[i]? = some x) (hv : Vis X.env.scope x) (ha : PA X (e :: es) t)
    (hd : (x == ("__debug__" : Str)) = false := by decide) (hcd : (x == ("__classdict__" : Str)) = false := by decide)
    (he : starEach (e :: es) X.env = (false, eval e X.env) :: starEach es X.env := by rfl) (hpl : (backTo pos (starEach es X.env)).any (·.1) = false := by rfl) :
    PE X (.Call (.Name x p) (e :: es) [] pos) (tCallH P w K mg base k i t) := by
  subst hP hw hK hm hb
  exact pe_callH i hr hN hv ha hd hcd he hpl
end
end K7
set_option Elab.async false
set_option linter.all false
set_option maxRecDepth 100000
set_option maxHeartbeats 4000000
namespace K70
open PySem PySem.Spec PyProof.Rows L2 Evl
open C8 (Cal Met Mak pe_c pe_mt pe_mt0 pe_mk pe_gc InsC call_isC)
def hashL (f : Int) : List Nat → Int
  | [] => f
  | c :: r => hashL ((f * 33 + (c : Int)) % 65536) r
theorem hashL_snoc : ∀ (l : List Nat) (f : Int) (c : Nat), hashL f (l ++ [c]) = (hashL f l * 33 + (c : Int)) % 65536
  | [], _, _ => rfl
  | _ :: r, _, c => hashL_snoc r _ c
def hashT (x : Str) : Int := hashL 0 x.cps.toList
def turn (v : Int) : Nat → Int × Int
  | 0 => (0, v)
  | n + 1 => ((turn v n).1 * 2 + (turn v n).2 % 2, (turn v n).2 / 2)
def spotI (v : Int) : Int := (turn v 16).1
def TextOk (x : Str) : Prop := x.length ≤ 200 ∧ ∀ c ∈ x.cps.toList, (!decide ((⟨#[c]⟩ : Str).cps.toList < (" " : Str).cps.toList)) = true ∧ (!decide (("~" : Str).cps.toList < (⟨#[c]⟩ : Str).cps.toList)) = true
def aboveN : Nat → Int → Int → Int
  | 0, f, _ => f
  | n + 1, f, m => if f ≤ m ∧ f < 65536 then aboveN n (f * 2) m else f
def sp_is_integer : Sp := fun vs H Q _ => ∃ n : Int, vs = [.int n] ∧ Q (.bl true) H
def sp_is_within : Sp := fun vs H Q _ => ∃ n a b : Int, vs = [.int n, .int a, .int b] ∧ Q (.bl (decide (a ≤ n ∧ n ≤ b))) H
def sp_is_text : Sp := fun vs H Q _ => ∃ x : Str, vs = [.str x] ∧ TextOk x ∧ RetV (.bl true) H Q
def sp_require_text : Sp := fun vs H Q _ => ∃ x : Str, vs = [.str x] ∧ TextOk x ∧ RetV .non H Q
def sp_hash_in : Sp := fun vs H Q _ => ∃ x : Str, vs = [.str x] ∧ Q (.int (hashT x)) H
def sp_law_hash : Sp := sp_hash_in
def sp_turned_bits : Sp := fun vs H Q _ => ∃ (v : Int) (n : Nat), vs = [.int v, .int n] ∧ n ≤ 16 ∧ Q (.int (turn v n).1) H
def sp_spot_in : Sp := fun vs H Q _ => ∃ x : Str, vs = [.str x] ∧ Q (.int (spotI (hashT x))) H
def sp_law_spot_of : Sp := fun vs H Q _ => ∃ v : Int, vs = [.int v] ∧ Q (.int (spotI v)) H
def sp_require_below : Sp := fun vs H Q _ => ∃ (v : Int) (n : Nat), vs = [.int v, .int n, .int 16] ∧ n ≤ 16 ∧ 0 ≤ v ∧ v < 2 ^ n ∧ Q .non H
def sp_hash_of : Sp := fun vs H Q _ => ∃ x : Str, vs = [.str x] ∧ TextOk x ∧ RetV (.int (hashT x)) H Q
def sp_spot_of : Sp := fun vs H Q _ => ∃ x : Str, vs = [.str x] ∧ TextOk x ∧ RetV (.int (spotI (hashT x))) H Q
def sp_bucket_spots : Sp := fun vs H Q _ => ∃ (v : Int) (n : Nat), vs = [.int v, .int n] ∧ n ≤ 16 ∧ 0 ≤ v ∧ v < 2 ^ n ∧
  ∀ t H', Ex H H' → H t = none → H' t = some (.tup [.int ((turn v n).1 * 2 ^ (16 - n)), .int ((turn v n).1 * 2 ^ (16 - n) + 2 ^ (16 - n) - 1)]) → Q (.ref t) H'
def sp_buckets_above : Sp := fun vs H Q _ => ∃ m : Int, vs = [.int m] ∧ ∀ n : Nat, 2 ≤ n → n ≤ 16 → Q (.int (2 ^ n)) H
def sp_buckets_for : Sp := fun vs H Q _ => ∃ m : Int, vs = [.int m] ∧ m ≤ 1000 ∧ ∀ n : Nat, 2 ≤ n → n ≤ 16 → Q (.int (2 ^ n)) H
section
variable {P : Program} {w : World} {K : PySem.W.Frag} {mg : Str → Option Value} {base : Heap}
theorem itB {b : Bool} {A B : Prop} (e : b = true) (h : A) : if b = true then A else B := by rw [if_pos e]; exact h
theorem itN {b : Bool} {A B : Prop} (e : b = false) (h : B) : if b = true then A else B := by rw [if_neg (by rw [e]; decide)]; exact h
theorem pow16 (n : Nat) : (0 : Int) < 2 ^ (16 - n) ∧ (2 : Int) ^ (16 - n) ≤ 65536 := by
  have h : (2 : Nat) ^ (16 - n) ≤ 2 ^ 16 := Nat.pow_le_pow_right (by decide) (by omega)
  have h0 : 0 < (2 : Nat) ^ (16 - n) := Nat.pow_pos (by decide)
  have e : (2 : Int) ^ (16 - n) = ((2 ^ (16 - n) : Nat) : Int) := by rw [Int.natCast_pow]; rfl
  rw [e]
  constructor
  · exact Int.ofNat_lt.mpr h0
  · exact Int.ofNat_le.mpr h
theorem ok0 {x qual : Str} {params : Arguments} {body : List Stmt} {scope : Scope} {dvs : List V} {kws : List (Str × V)} {f : Addr} {fd : FuncData} {N ps : List Str} {k : Nat} {sp : Sp} (F : FunD K x qual params body scope dvs kws f fd) (S : FnScope N ps scope)
    (len : ∀ vs H Q E, sp vs H Q E → vs.length = ps.length)
    (hbody : ∀ (cdv : Value) (A : Around) (outer : List Env) (s : Shared) (H : Hp) (vs : List V) (Q : VK) (E : XK), Room k (A.deeper (envOfC qual scope s.heap.objs.size f cdv)) → sp vs H Q E →
      ∃ t, PSs (cxOf CX0 P w K mg base N qual scope f cdv A outer s H E).nox body t ∧ t { nx := fun _ H' => Q .non H', rt := Q } (start N vs) H) : FnOk P w K mg base CX0 (k + 1) f fd ps sp :=
  F.ok S len fun cdv A outer s H vs Q E hr hsp => by
    obtain ⟨t, h, q⟩ := hbody cdv A outer s H vs Q E hr hsp
    exact ⟨t, h.nox, q⟩
theorem ok_is_integer {f : Addr} {fd : FuncData} {dvs : List V} (F : FunD K "is_integer" "is_integer" (defArgs s_is_integer) (defBody s_is_integer) (defScope s_is_integer) dvs [] f fd) (T : Txt K mg) :
    FnOk P w K mg base CX0 1 f fd ["value"] sp_is_integer := by
  have nd := sc_is_integer.nd
  refine ok0 F sc_is_integer (fun vs H Q E h => by
    obtain ⟨n, rfl, k⟩ := h
    rfl) (fun cdv A outer s H vs Q E hr h => ?_)
  obtain ⟨n, rfl, k⟩ := h
  refine ⟨_, (pss_one (ps_ret (pe_and (pe_callB (K7.call_isiK (K := K) rfl) (by rfl) T.b_isinstance bt_isinstance (pa_cons (pv 0) (pa_cons (pe_bltn (v := .ty "int") (by rfl) T.b_int bt_int rfl) pa_nil))) (pe_one (pe_not (pe_callB (K7.call_isiK (K := K) rfl) (by rfl) T.b_isinstance bt_isinstance (pa_cons (pv 0) (pa_cons (pe_bltn (v := .ty "bool") (by rfl) T.b_bool bt_bool rfl) pa_nil)))))))), ?_⟩
  refine ⟨_, rfl, _, .ty "int", _, _, true, rfl, .ty _, .base (.int n), kit_ty (by decide +kernel), true, rfl, ?_⟩
  refine iteT ?_
  exact ⟨_, rfl, _, .ty "bool", _, _, false, rfl, .ty _, .base (.int n), kit_ty (by decide +kernel), false, rfl, k⟩
theorem ok_is_within {f : Addr} {fd : FuncData} {dvs : List V} (F : FunD K "is_within" "is_within" (defArgs s_is_within) (defBody s_is_within) (defScope s_is_within) dvs [] f fd) (T : Txt K mg)
    (c_is_integer : Cal P w K mg base 1 "is_integer" sp_is_integer []) :
    FnOk P w K mg base CX0 2 f fd ["value", "least", "most"] sp_is_within := by
  have nd := sc_is_within.nd
  refine ok0 F sc_is_within (fun vs H Q E h => by
    obtain ⟨n, a, b, rfl, k⟩ := h
    rfl) (fun cdv A outer s H vs Q E hr h => ?_)
  obtain ⟨n, a, b, rfl, k⟩ := h
  refine ⟨_, (pss_one (ps_ret (pe_and (pe_c c_is_integer hr (by decide) (by rfl) (pa_cons (pv 0) pa_nil)) (pe_one (pe_chain op_le op_le (pv 1) (pv 0) (pv 2)))))), ?_⟩
  refine ⟨_, rfl, n, rfl, true, rfl, ?_⟩
  refine iteT ?_
  refine ⟨_, rfl, _, rfl, a, n, rfl, rfl, _, rfl, ?_⟩
  by_cases h1 : a ≤ n
  · rw [decide_eq_true h1]
    refine iteT ?_
    refine ⟨_, rfl, n, b, rfl, rfl, ?_⟩
    have e : decide (a ≤ n ∧ n ≤ b) = decide (n ≤ b) := by simp [h1]
    rw [e] at k
    exact k
  · rw [decide_eq_false h1]
    refine iteF ?_
    have e : decide (a ≤ n ∧ n ≤ b) = false := by simp [h1]
    rw [e] at k
    exact k
theorem ok_hash_in {f : Addr} {fd : FuncData} {dvs : List V} (F : FunD K "hash_in" "hash_in" (defArgs s_hash_in) (defBody s_hash_in) (defScope s_hash_in) dvs [] f fd) (T : Txt K mg) :
    FnOk P w K mg base CX0 1 f fd ["text"] sp_hash_in := by
  have nd := sc_hash_in.nd
  refine ok0 F sc_hash_in (fun vs H Q E h => by
    obtain ⟨x, rfl, k⟩ := h
    rfl) (fun cdv A outer s H vs Q E hr h => ?_)
  obtain ⟨x, rfl, k⟩ := h
  refine ⟨_, (pss_cons (ps_set (i := 1) nd rfl (Or.inl rfl) pe_int)
     (pss_cons (ps_for PassesOwn.never rfl (pi_str (pv 0)) (pg_name (i := 2) nd rfl (Or.inl rfl)) (pss_one (ps_set (i := 1) nd rfl (Or.inl rfl) (pe_op op_mod (pe_op op_add (pe_op op_mul (pv 1) pe_int) (pe_callB call_ord (by rfl) T.b_ord bt_ord (pa_cons (pv 2) pa_nil))) pe_int))))
     (pss_one (ps_ret (pv 1))))), ?_⟩
  refine ⟨_, rfl, x, rfl, for_it walk_str (fun i σ H' => (∃ v2 : Option V, σ = [some (.str x), some (.int (hashL 0 (x.cps.toList.take i))), v2]) ∧ H' = H) ⟨⟨none, rfl⟩, rfl⟩ (fun _ _ _ _ _ => trivial) ?_ ?_⟩
  · rintro i y σ H1 H' hi ⟨⟨v2, rfl⟩, rfl⟩ ⟨rfl, c, hc, rfl⟩
    refine ⟨_, rfl, _, _, rfl, rfl, .inr ⟨by decide, by decide⟩, _, rfl, _, rfl, rfl, _, _, rfl, rfl, _, _, rfl, rfl, (by show (0 : Int) < 65536; decide), ?_⟩
    refine ⟨⟨some (.str ⟨#[c]⟩), ?_⟩, rfl⟩
    have hc' : x.cps.toList[i]? = some c := by simpa using hc
    rw [List.take_add_one, hc']
    show _ = [some (V.str x), some (V.int (hashL 0 (x.cps.toList.take i ++ [c]))), some (V.str ⟨#[c]⟩)]
    rw [hashL_snoc]
    rfl
  · rintro σ H' ⟨⟨v2, rfl⟩, rfl⟩
    refine ⟨_, rfl, ?_⟩
    have e : x.cps.toList.take x.cps.size = x.cps.toList := List.take_of_length_le (by simp)
    show Q (V.int (hashL 0 (x.cps.toList.take x.cps.size))) _
    rw [e]
    exact k
theorem ok_law_hash {f : Addr} {fd : FuncData} {dvs : List V} (F : FunD K "_law_hash" "_law_hash" (defArgs s_law_hash) (defBody s_law_hash) (defScope s_law_hash) dvs [] f fd) (T : Txt K mg) :
    FnOk P w K mg base CX0 1 f fd ["text"] sp_law_hash := by
  have nd := sc_law_hash.nd
  refine ok0 F sc_law_hash (fun vs H Q E h => by
    obtain ⟨x, rfl, k⟩ := h
    rfl) (fun cdv A outer s H vs Q E hr h => ?_)
  obtain ⟨x, rfl, k⟩ := h
  refine ⟨_, (pss_cons (ps_set (i := 1) nd rfl (Or.inl rfl) pe_int)
     (pss_cons (ps_for PassesOwn.never rfl (pi_str (pv 0)) (pg_name (i := 2) nd rfl (Or.inl rfl)) (pss_one (ps_set (i := 1) nd rfl (Or.inl rfl) (pe_op op_mod (pe_op op_add (pe_op op_mul (pv 1) pe_int) (pe_callB call_ord (by rfl) T.b_ord bt_ord (pa_cons (pv 2) pa_nil))) pe_int))))
     (pss_one (ps_ret (pv 1))))), ?_⟩
  refine ⟨_, rfl, x, rfl, for_it walk_str (fun i σ H' => (∃ v2 : Option V, σ = [some (.str x), some (.int (hashL 0 (x.cps.toList.take i))), v2]) ∧ H' = H) ⟨⟨none, rfl⟩, rfl⟩ (fun _ _ _ _ _ => trivial) ?_ ?_⟩
  · rintro i y σ H1 H' hi ⟨⟨v2, rfl⟩, rfl⟩ ⟨rfl, c, hc, rfl⟩
    refine ⟨_, rfl, _, _, rfl, rfl, .inr ⟨by decide, by decide⟩, _, rfl, _, rfl, rfl, _, _, rfl, rfl, _, _, rfl, rfl, (by show (0 : Int) < 65536; decide), ?_⟩
    refine ⟨⟨some (.str ⟨#[c]⟩), ?_⟩, rfl⟩
    have hc' : x.cps.toList[i]? = some c := by simpa using hc
    rw [List.take_add_one, hc']
    show _ = [some (V.str x), some (V.int (hashL 0 (x.cps.toList.take i ++ [c]))), some (V.str ⟨#[c]⟩)]
    rw [hashL_snoc]
    rfl
  · rintro σ H' ⟨⟨v2, rfl⟩, rfl⟩
    refine ⟨_, rfl, ?_⟩
    have e : x.cps.toList.take x.cps.size = x.cps.toList := List.take_of_length_le (by simp)
    show Q (V.int (hashL 0 (x.cps.toList.take x.cps.size))) _
    rw [e]
    exact k
theorem ok_turned_bits {f : Addr} {fd : FuncData} {dvs : List V} (F : FunD K "turned_bits" "turned_bits" (defArgs s_turned_bits) (defBody s_turned_bits) (defScope s_turned_bits) dvs [] f fd) (T : Txt K mg) :
    FnOk P w K mg base CX0 1 f fd ["value", "bits"] sp_turned_bits := by
  have nd := sc_turned_bits.nd
  refine ok0 F sc_turned_bits (fun vs H Q E h => by
    obtain ⟨v, n, rfl, hn, k⟩ := h
    rfl) (fun cdv A outer s H vs Q E hr h => ?_)
  obtain ⟨v, n, rfl, hn, k⟩ := h
  refine ⟨_, (pss_cons (ps_set (i := 2) nd rfl (Or.inl rfl) pe_int)
     (pss_cons (ps_set (i := 3) nd rfl (Or.inl rfl) (pv 0))
     (pss_cons (ps_for PassesOwn.never rfl (pi_range1 (by rfl) T.b_range (pa_cons (pv 1) pa_nil)) (pg_name (i := 4) nd rfl (Or.inl rfl)) (pss_cons (ps_set (i := 2) nd rfl (Or.inl rfl) (pe_op op_add (pe_op op_mul (pv 2) pe_int) (pe_op op_mod (pv 3) pe_int)))
     (pss_one (ps_set (i := 3) nd rfl (Or.inl rfl) (pe_op op_fdiv (pv 3) pe_int)))))
     (pss_one (ps_ret (pv 2)))))), ?_⟩
  refine ⟨_, rfl, _, rfl, _, rfl, by omega, by omega, for_range (lo := 0) (n := ((n : Int)).toNat) (fun i σ H' => (∃ v4 : Option V, σ = [some (.int v), some (.int n), some (.int (turn v i).1), some (.int (turn v i).2), v4]) ∧ H' = H) ⟨⟨none, rfl⟩, rfl⟩ ?_ ?_⟩
  · rintro i σ H' hi ⟨⟨v4, rfl⟩, rfl⟩
    refine ⟨_, rfl, _, _, rfl, rfl, .inr ⟨by decide, by decide⟩, _, rfl, _, _, rfl, rfl, (by show (0 : Int) < 2; decide), _, _, rfl, rfl, ?_⟩
    refine ⟨_, rfl, _, _, rfl, rfl, ⟨by decide, by decide⟩, ?_⟩
    exact ⟨⟨_, rfl⟩, rfl⟩
  · rintro σ H' ⟨⟨v4, rfl⟩, rfl⟩
    exact ⟨_, rfl, k⟩
theorem ok_spot_in {f : Addr} {fd : FuncData} {dvs : List V} (F : FunD K "spot_in" "spot_in" (defArgs s_spot_in) (defBody s_spot_in) (defScope s_spot_in) dvs [] f fd) (T : Txt K mg)
    (c_turned_bits : Cal P w K mg base 1 "turned_bits" sp_turned_bits [])
    (c_hash_in : Cal P w K mg base 1 "hash_in" sp_hash_in []) :
    FnOk P w K mg base CX0 2 f fd ["text"] sp_spot_in := by
  have nd := sc_spot_in.nd
  refine ok0 F sc_spot_in (fun vs H Q E h => by
    obtain ⟨x, rfl, k⟩ := h
    rfl) (fun cdv A outer s H vs Q E hr h => ?_)
  obtain ⟨x, rfl, k⟩ := h
  refine ⟨_, (pss_one (ps_ret (pe_c c_turned_bits hr (by decide) (by rfl) (pa_cons (pe_c c_hash_in hr (by decide) (by rfl) (pa_cons (pv 0) pa_nil)) (pa_cons (pe_gc (by rfl) T.g_HASH_BITS) pa_nil))))), ?_⟩
  exact ⟨_, rfl, x, rfl, hashT x, 16, rfl, by decide, k⟩
theorem ok_law_spot_of {f : Addr} {fd : FuncData} {dvs : List V} (F : FunD K "_law_spot_of" "_law_spot_of" (defArgs s_law_spot_of) (defBody s_law_spot_of) (defScope s_law_spot_of) dvs [] f fd) (T : Txt K mg) :
    FnOk P w K mg base CX0 1 f fd ["number"] sp_law_spot_of := by
  have nd := sc_law_spot_of.nd
  refine ok0 F sc_law_spot_of (fun vs H Q E h => by
    obtain ⟨v, rfl, k⟩ := h
    rfl) (fun cdv A outer s H vs Q E hr h => ?_)
  obtain ⟨v, rfl, k⟩ := h
  refine ⟨_, (pss_cons (ps_par (i := 1) (j := 2) (by rfl) nd rfl rfl (by decide) rfl rfl (pa_cons pe_int (pa_cons (pv 0) pa_nil)) (by rfl))
     (pss_cons (ps_for PassesOwn.never rfl (pi_range1 (by rfl) T.b_range (pa_cons pe_int pa_nil)) (pg_name (i := 3) nd rfl (Or.inl rfl)) (pss_one (ps_par (i := 1) (j := 2) (by rfl) nd rfl rfl (by decide) rfl rfl (pa_cons (pe_op op_add (pe_op op_mul (pv 1) pe_int) (pe_op op_mod (pe_callTy call_int1 (by rfl) T.b_int bt_int (pa_cons (pv 2) pa_nil)) pe_int)) (pa_cons (pe_op op_fdiv (pv 2) pe_int) pa_nil)) (by rfl))))
     (pss_one (ps_ret (pv 1))))), ?_⟩
  refine ⟨_, rfl, _, _, rfl, ?_⟩
  refine ⟨16, rfl, by decide, by decide, for_range (lo := 0) (n := (16 : Int).toNat) (fun i σ H' => (∃ v4 : Option V, σ = [some (.int v), some (.int (turn v i).1), some (.int (turn v i).2), v4]) ∧ H' = H) ⟨⟨none, rfl⟩, rfl⟩ ?_ ?_⟩
  · rintro i σ H' hi ⟨⟨v4, rfl⟩, rfl⟩
    refine ⟨_, rfl, _, _, rfl, rfl, .inr ⟨by decide, by decide⟩, _, rfl, .inl ⟨_, rfl, ?_⟩⟩
    refine ⟨_, _, rfl, rfl, (by show (0 : Int) < 2; decide), _, _, rfl, rfl, _, rfl, _, _, rfl, rfl, ⟨by decide, by decide⟩, _, _, rfl, ?_⟩
    exact ⟨⟨_, rfl⟩, rfl⟩
  · rintro σ H' ⟨⟨v4, rfl⟩, rfl⟩
    exact ⟨_, rfl, k⟩
theorem ok_require_below {f : Addr} {fd : FuncData} {dvs : List V} (F : FunD K "require_below" "require_below" (defArgs s_require_below) (defBody s_require_below) (defScope s_require_below) dvs [] f fd) (T : Txt K mg)
    (c_is_integer : Cal P w K mg base 1 "is_integer" sp_is_integer [])
    (c_is_within : Cal P w K mg base 2 "is_within" sp_is_within []) :
    FnOk P w K mg base CX0 3 f fd ["value", "bits", "most"] sp_require_below := by
  have nd := sc_require_below.nd
  refine ok0 F sc_require_below (fun vs H Q E h => by
    obtain ⟨v, n, rfl, hn, h0, h1, k⟩ := h
    rfl) (fun cdv A outer s H vs Q E hr h => ?_)
  obtain ⟨v, n, rfl, hn, h0, h1, k⟩ := h
  refine ⟨_, (pss_cons (ps_if (PW.pt (pw_or (pt_not (pt_val (pe_c c_is_integer hr (by decide) (by rfl) (pa_cons (pv 0) pa_nil)))) (pw_or1 (pt_cmpR op_lt (pv 0) pe_int (nomark _))))) (pss_one ps_never) pss_nil)
     (pss_cons (ps_if (pt_not (pt_val (pe_c c_is_within hr (by decide) (by rfl) (pa_cons (pv 1) (pa_cons pe_int (pa_cons (pv 2) pa_nil)))))) (pss_one ps_never) pss_nil)
     (pss_one (ps_if (pt_cmpR op_gt (pe_op op_shr (pv 0) (pv 1)) pe_int (nomark _)) (pss_one ps_never) pss_nil)))), ?_⟩
  refine ⟨_, rfl, v, rfl, true, rfl, iteF ⟨_, rfl, _, _, rfl, rfl, _, rfl, itN (decide_eq_false (by omega)) ?_⟩⟩
  refine ⟨_, rfl, _, rfl, (n : Int), 0, 16, rfl, _, rfl, itN (by simp; omega) ?_⟩
  refine ⟨_, rfl, _, rfl, _, _, rfl, rfl, (by show (0 : Int) ≤ n; omega), _, _, rfl, rfl, _, rfl, itN (decide_eq_false ?_) k⟩
  have e : v / 2 ^ (n : Int).toNat = 0 := Int.ediv_eq_zero_of_lt h0 (by simpa using h1)
  rw [e]
  decide
theorem ok_is_text {f : Addr} {fd : FuncData} {dvs : List V} (F : FunD K "is_text" "is_text" (defArgs s_is_text) (defBody s_is_text) (defScope s_is_text) dvs [] f fd) (T : Txt K mg) :
    FnOk P w K mg base CX0 1 f fd ["value"] sp_is_text := by
  have nd := sc_is_text.nd
  refine ok0 F sc_is_text (fun vs H Q E h => by
    obtain ⟨x, rfl, ht, k⟩ := h
    rfl) (fun cdv A outer s H vs Q E hr h => ?_)
  obtain ⟨x, rfl, ht, k⟩ := h
  refine ⟨_, (pss_one (ps_ret (pe_and (pe_callB (K7.call_isiK (K := K) rfl) (by rfl) T.b_isinstance bt_isinstance (pa_cons (pv 0) (pa_cons (pe_bltn (v := .ty "str") (by rfl) T.b_str bt_str rfl) pa_nil))) (pe_and (pe_cmpR op_le (pe_callB call_len_str (by rfl) T.b_len bt_len (pa_cons (pv 0) pa_nil)) (pe_gc (by rfl) T.g_MAX_TEXT) (nomark _)) (pe_one (pe_callB (K7.cr_allK (K := K) rfl rfl) (by rfl) T.b_all bt_all (pa_cons (pe_lc (own := [("sign", 1)]) rfl nd (pi_str (pv 0)) (blkOk_by (N := n_is_text) (sc := defScope s_is_text) (own := [("sign", 1)]) (by decide +kernel)) (fun _ _ _ _ _ => (pg_name (i := 1) nd rfl (Or.inl rfl))) (fun _ _ _ _ _ => pts_nil) (fun _ _ _ _ _ => (pe_chain op_le_str op_le_str pe_str (pv 1) pe_str))) pa_nil))))))), ?_⟩
  obtain ⟨hl, hc⟩ := ht
  refine ⟨_, rfl, _, .ty "str", _, _, true, rfl, .ty _, .base (.str x), kit_ty (by decide +kernel), true, rfl, iteT ⟨_, rfl, x, rfl, Nat.le_trans hl (by decide), _, _, rfl, rfl, _, rfl, itB (decide_eq_true (by omega)) ?_⟩⟩
  refine ⟨_, rfl, x, rfl, fun D hD => lc_it walk_str (fun i H' => Ex H H' ∧ H' D = some (.lst (List.replicate i (V.bl true)))) ⟨Ex.new hD, upd_same⟩ (fun _ _ _ _ => trivial) ?_ ?_⟩
  · rintro i y H1 H' hi ⟨e1, h1⟩ ⟨rfl, c, hcc, rfl⟩
    have hm : c ∈ x.cps.toList := by
      have : x.cps.toList[i]? = some c := by simpa using hcc
      exact List.mem_of_getElem? this
    obtain ⟨h2, h3⟩ := hc c hm
    have hi2 : i < x.length := hi
    refine ⟨rfl, _, rfl, _, _, rfl, rfl, _, rfl, itB h2 ⟨_, _, rfl, rfl, ?_⟩⟩
    refine ⟨_, h1, ?_, Ex.mut e1 hD, ?_⟩
    · rw [List.length_replicate]
      exact Nat.lt_of_lt_of_le (Nat.lt_of_lt_of_le hi2 hl) (by decide)
    · rw [upd_same, h3, List.replicate_succ']
  · rintro H' ⟨e1, h1⟩
    refine ⟨D, List.replicate x.cps.size true, rfl, sq_of (by rw [List.map_replicate]; exact h1), ?_⟩
    have e : (List.replicate x.cps.size true).all id = true := by simp
    rw [e]
    exact k H' e1
theorem ok_require_text {f : Addr} {fd : FuncData} {dvs : List V} (F : FunD K "require_text" "require_text" (defArgs s_require_text) (defBody s_require_text) (defScope s_require_text) dvs [] f fd) (T : Txt K mg)
    (c_is_text : Cal P w K mg base 1 "is_text" sp_is_text []) :
    FnOk P w K mg base CX0 2 f fd ["value"] sp_require_text := by
  have nd := sc_require_text.nd
  refine ok0 F sc_require_text (fun vs H Q E h => by
    obtain ⟨x, rfl, ht, k⟩ := h
    rfl) (fun cdv A outer s H vs Q E hr h => ?_)
  obtain ⟨x, rfl, ht, k⟩ := h
  refine ⟨_, (pss_one (ps_if (pt_not (pt_val (pe_c c_is_text hr (by decide) (by rfl) (pa_cons (pv 0) pa_nil)))) (pss_one ps_never) pss_nil)), ?_⟩
  exact ⟨_, rfl, x, rfl, ht, fun H2 e2 => ⟨true, rfl, iteF (k H2 e2)⟩⟩
theorem ok_hash_of {f : Addr} {fd : FuncData} {dvs : List V} (F : FunD K "hash_of" "hash_of" (defArgs s_hash_of) (defBody s_hash_of) (defScope s_hash_of) dvs [] f fd) (T : Txt K mg)
    (c_require_text : Cal P w K mg base 2 "require_text" sp_require_text [])
    (c_hash_in : Cal P w K mg base 1 "hash_in" sp_hash_in []) :
    FnOk P w K mg base CX0 3 f fd ["text"] sp_hash_of := by
  have nd := sc_hash_of.nd
  refine ok0 F sc_hash_of (fun vs H Q E h => by
    obtain ⟨x, rfl, ht, k⟩ := h
    rfl) (fun cdv A outer s H vs Q E hr h => ?_)
  obtain ⟨x, rfl, ht, k⟩ := h
  refine ⟨_, (pss_cons (ps_expr (pe_c c_require_text hr (by decide) (by rfl) (pa_cons (pv 0) pa_nil)))
     (pss_one (ps_ret (pe_c c_hash_in hr (by decide) (by rfl) (pa_cons (pv 0) pa_nil))))), ?_⟩
  exact ⟨_, rfl, x, rfl, ht, fun H2 e2 => ⟨_, rfl, x, rfl, k H2 e2⟩⟩
theorem ok_spot_of {f : Addr} {fd : FuncData} {dvs : List V} (F : FunD K "spot_of" "spot_of" (defArgs s_spot_of) (defBody s_spot_of) (defScope s_spot_of) dvs [] f fd) (T : Txt K mg)
    (c_require_text : Cal P w K mg base 2 "require_text" sp_require_text [])
    (c_spot_in : Cal P w K mg base 2 "spot_in" sp_spot_in []) :
    FnOk P w K mg base CX0 3 f fd ["text"] sp_spot_of := by
  have nd := sc_spot_of.nd
  refine ok0 F sc_spot_of (fun vs H Q E h => by
    obtain ⟨x, rfl, ht, k⟩ := h
    rfl) (fun cdv A outer s H vs Q E hr h => ?_)
  obtain ⟨x, rfl, ht, k⟩ := h
  refine ⟨_, (pss_cons (ps_expr (pe_c c_require_text hr (by decide) (by rfl) (pa_cons (pv 0) pa_nil)))
     (pss_one (ps_ret (pe_c c_spot_in hr (by decide) (by rfl) (pa_cons (pv 0) pa_nil))))), ?_⟩
  exact ⟨_, rfl, x, rfl, ht, fun H2 e2 => ⟨_, rfl, x, rfl, k H2 e2⟩⟩
theorem ok_bucket_spots {f : Addr} {fd : FuncData} {dvs : List V} (F : FunD K "bucket_spots" "bucket_spots" (defArgs s_bucket_spots) (defBody s_bucket_spots) (defScope s_bucket_spots) dvs [] f fd) (T : Txt K mg)
    (c_require_below : Cal P w K mg base 3 "require_below" sp_require_below [])
    (c_turned_bits : Cal P w K mg base 1 "turned_bits" sp_turned_bits []) :
    FnOk P w K mg base CX0 4 f fd ["bucket", "bits"] sp_bucket_spots := by
  have nd := sc_bucket_spots.nd
  refine ok0 F sc_bucket_spots (fun vs H Q E h => by
    obtain ⟨v, n, rfl, hn, h0, h1, k⟩ := h
    rfl) (fun cdv A outer s H vs Q E hr h => ?_)
  obtain ⟨v, n, rfl, hn, h0, h1, k⟩ := h
  refine ⟨_, (pss_cons (ps_expr (pe_c c_require_below hr (by decide) (by rfl) (pa_cons (pv 0) (pa_cons (pv 1) (pa_cons (pe_gc (by rfl) T.g_HASH_BITS) pa_nil)))))
     (pss_cons (ps_set (i := 2) nd rfl (Or.inl rfl) (pe_op op_shl pe_int (pe_op op_sub (pe_gc (by rfl) T.g_HASH_BITS) (pv 1))))
     (pss_cons (ps_set (i := 3) nd rfl (Or.inl rfl) (pe_op op_mul (pe_c c_turned_bits hr (by decide) (by rfl) (pa_cons (pv 0) (pa_cons (pv 1) pa_nil))) (pv 2)))
     (pss_one (ps_ret (pe_tup (pa_cons (pv 3) (pa_cons (pe_op op_sub (pe_op op_add (pv 3) (pv 2)) pe_int) pa_nil)))))))), ?_⟩
  have p16 := pow16 n
  have e16 : ((16 : Int) - (n : Int)).toNat = 16 - n := by omega
  refine ⟨_, rfl, _, rfl, v, n, rfl, hn, h0, h1, ?_⟩
  refine ⟨_, rfl, _, _, rfl, rfl, _, _, rfl, rfl, ⟨by omega, by omega, by decide⟩, ?_⟩
  show tSeq _ _ _ [some (V.int v), some (V.int n), some (V.int (1 * 2 ^ ((16 : Int) - (n : Int)).toNat)), none] H
  rw [e16, Int.one_mul]
  refine ⟨_, rfl, _, rfl, v, n, rfl, hn, _, rfl, _, _, rfl, rfl, .inr ⟨by omega, by omega⟩, ?_⟩
  refine ⟨_, rfl, _, rfl, _, rfl, _, _, rfl, rfl, _, _, rfl, rfl, (by show 2 ≤ sizeLine; decide), fun t ht => ?_⟩
  exact k t _ (Ex.new ht) ht upd_same
theorem ok_buckets_above {f : Addr} {fd : FuncData} {dvs : List V} (F : FunD K "buckets_above" "buckets_above" (defArgs s_buckets_above) (defBody s_buckets_above) (defScope s_buckets_above) dvs [] f fd) (T : Txt K mg) :
    FnOk P w K mg base CX0 1 f fd ["many"] sp_buckets_above := by
  have nd := sc_buckets_above.nd
  refine ok0 F sc_buckets_above (fun vs H Q E h => by
    obtain ⟨m, rfl, k⟩ := h
    rfl) (fun cdv A outer s H vs Q E hr h => ?_)
  obtain ⟨m, rfl, k⟩ := h
  refine ⟨_, (pss_cons (ps_set (i := 1) nd rfl (Or.inl rfl) (pe_gc (by rfl) T.g_LEAST_BUCKETS))
     (pss_cons (ps_while PassesOwn.never (PW.pt (pw_and (pt_cmpR op_le (pv 1) (pv 0) (nomark _)) (pw_and1 (pt_cmpR op_lt (pv 1) (pe_gc (by rfl) T.g_MOST_BUCKETS) (nomark _))))) (pss_one (ps_set (i := 1) nd rfl (Or.inl rfl) (pe_op op_mul (pv 1) pe_int))))
     (pss_one (ps_ret (pv 1))))), ?_⟩
  refine ⟨fun c σ H' => ∃ n : Nat, 2 ≤ n ∧ n ≤ 16 ∧ c = 16 - n ∧ σ = [some (.int m), some (.int (2 ^ n))] ∧ H' = H, ⟨14, 2, by decide, by decide, rfl, by rw [show (2 : Int) ^ 2 = 4 from by decide]; rfl, rfl⟩, ?_⟩
  rintro c σ H' ⟨n, h2, h16, rfl, rfl, rfl⟩
  refine ⟨_, rfl, _, rfl, _, _, rfl, rfl, _, rfl, ite2 (fun _ => ?_) fun _ => itN rfl ⟨_, rfl, k n h2 h16⟩⟩
  refine ⟨_, rfl, _, _, rfl, rfl, _, rfl, ?_⟩
  generalize hM : (65536 : Int) = M
  refine ite2 (fun hlt => ?_) fun _ => ⟨_, rfl, k n h2 h16⟩
  have hlt' : (2 : Int) ^ n < 65536 := by
    rw [hM]
    exact of_decide_eq_true hlt
  have hn : n < 16 := by
    rcases Nat.lt_or_ge n 16 with h | h
    · exact h
    · have e : n = 16 := by omega
      rw [e] at hlt'
      exact absurd hlt' (by decide)
  refine ⟨_, fun σ' H' p => ⟨16 - (n + 1), by omega, n + 1, by omega, by omega, rfl, p⟩, ?_⟩
  refine ⟨_, rfl, _, _, rfl, rfl, .inr ⟨by decide, by decide⟩, ?_⟩
  exact ⟨rfl, rfl⟩
theorem ok_buckets_for {f : Addr} {fd : FuncData} {dvs : List V} (F : FunD K "buckets_for" "buckets_for" (defArgs s_buckets_for) (defBody s_buckets_for) (defScope s_buckets_for) dvs [] f fd) (T : Txt K mg) :
    FnOk P w K mg base CX0 1 f fd ["many"] sp_buckets_for := by
  have nd := sc_buckets_for.nd
  refine ok0 F sc_buckets_for (fun vs H Q E h => by
    obtain ⟨m, rfl, hm, k⟩ := h
    rfl) (fun cdv A outer s H vs Q E hr h => ?_)
  obtain ⟨m, rfl, hm, k⟩ := h
  refine ⟨_, (pss_cons (ps_set (i := 1) nd rfl (Or.inl rfl) (pe_gc (by rfl) T.g_LEAST_BUCKETS))
     (pss_cons (ps_while PassesOwn.never (pt_cmpR op_lt (pv 1) (pe_op op_mul pe_int (pv 0)) (nomark _)) (pss_one (ps_set (i := 1) nd rfl (Or.inl rfl) (pe_op op_mul (pv 1) pe_int))))
     (pss_one (ps_ret (pv 1))))), ?_⟩
  refine ⟨fun c σ H' => ∃ n : Nat, 2 ≤ n ∧ n ≤ 16 ∧ c = 16 - n ∧ σ = [some (.int m), some (.int (2 ^ n))] ∧ H' = H, ⟨14, 2, by decide, by decide, rfl, by rw [show (2 : Int) ^ 2 = 4 from by decide]; rfl, rfl⟩, ?_⟩
  rintro c σ H' ⟨n, h2, h16, rfl, rfl, rfl⟩
  refine ⟨_, rfl, _, rfl, _, _, rfl, rfl, .inl ⟨by decide, by decide⟩, _, _, rfl, rfl, _, rfl, ite2 (fun hlt => ?_) fun _ => ⟨_, rfl, k n h2 h16⟩⟩
  have hlt' : (2 : Int) ^ n < 2 * m := of_decide_eq_true hlt
  have hn : n < 16 := by
    rcases Nat.lt_or_ge n 16 with h | h
    · exact h
    · have e : n = 16 := by omega
      rw [e] at hlt'
      have : (2 : Int) ^ 16 = 65536 := by decide
      omega
  refine ⟨_, fun σ' H' p => ⟨16 - (n + 1), by omega, n + 1, by omega, by omega, rfl, p⟩, ?_⟩
  refine ⟨_, rfl, _, _, rfl, rfl, .inr ⟨by decide, by decide⟩, ?_⟩
  exact ⟨rfl, rfl⟩
end
end K70
set_option Elab.async false
set_option linter.all false
set_option maxRecDepth 100000
set_option maxHeartbeats 2000000
namespace K7
open PySem PySem.Spec PyProof.Rows L2 Evl
def EvP (te : TE) (σ : L2.St) (H : Hp) (P : V → Hp → Prop) : Prop := ∀ H1, Ex H H1 → ∀ Q : VK, (∀ v H2, Ex H1 H2 → P v H2 → Q v H2) → te σ H1 Q
theorem EvP.of {te : TE} {σ : L2.St} {H : Hp} {v : V} (h : Ev te σ H v) : EvP te σ H fun u _ => u = v := fun H1 e Q q => h H1 e Q fun H2 e2 => q v H2 e2 rfl
def Tgt (g : TG) (σ : L2.St) (x : V) (H : Hp) (σ2 : L2.St) : Prop := ∀ Q : L2.St → Hp → Prop, Q σ2 H → g x σ H Q
theorem tgt_name {σ : L2.St} {x : V} {H : Hp} {i : Nat} : Tgt (gName i) σ x H (σ.set i (some x)) := fun _ q => q
theorem tgt_pair {K : PySem.W.Frag} {σ : L2.St} {T : Addr} {a b : V} {H : Hp} {i j : Nat} (h : SqT K H T [a, b]) : Tgt (gTup K 2 (gCons (gName i) (gCons (gName j) gNil))) σ (.ref T) H ((σ.set i (some a)).set j (some b)) :=
  fun _ q => ⟨T, [a, b], rfl, h, rfl, a, [b], rfl, b, [], rfl, rfl, q⟩
def Got (f : Nat → Bool) (P : Nat → V → Hp → Prop) : Nat → List V → Hp → Prop
  | 0, ys, _ => ys = []
  | n + 1, ys, H => if f n = true then ∃ zs y, ys = zs ++ [y] ∧ Got f P n zs H ∧ P n y H else Got f P n ys H
theorem got_mono {f : Nat → Bool} {P : Nat → V → Hp → Prop} {H H' : Hp} (m : ∀ i v, P i v H → P i v H') : ∀ {n : Nat} {ys : List V}, Got f P n ys H → Got f P n ys H'
  | 0, _, h => h
  | n + 1, ys, h => by
    unfold Got at h ⊢
    split at h
    · rename_i hf
      obtain ⟨zs, y, e, g, p⟩ := h
      rw [if_pos hf]
      exact ⟨zs, y, e, got_mono m g, m n y p⟩
    · rename_i hf
      rw [if_neg hf]
      exact got_mono m h
theorem got_len {f : Nat → Bool} {P : Nat → V → Hp → Prop} {H : Hp} : ∀ {n : Nat} {ys : List V}, Got f P n ys H → ys.length ≤ n
  | 0, _, h => by
    have h : _ = [] := h
    rw [h]
    exact Nat.le_refl _
  | n + 1, ys, h => by
    unfold Got at h
    split at h
    · obtain ⟨zs, y, e, g, p⟩ := h
      have := got_len g
      rw [e, List.length_append, List.length_singleton]
      omega
    · have := got_len h
      omega
theorem got_given {f : Nat → Bool} {v : Nat → V} {H : Hp} : ∀ {n : Nat} {ys : List V}, Got f (fun i u _ => u = v i) n ys H → ys = given n f v
  | 0, _, h => h
  | n + 1, ys, h => by
    unfold Got at h
    split at h
    · rename_i hf
      obtain ⟨zs, y, e, g, p⟩ := h
      rw [given_yes hf, ← got_given g, e, p]
    · rename_i hf
      rw [given_no (by simpa using hf)]
      exact got_given h
theorem got_all {P : Nat → V → Hp → Prop} {H : Hp} : ∀ {n : Nat} {ys : List V}, Got (fun _ => true) P n ys H → ys.length = n ∧ ∀ i y, ys[i]? = some y → P i y H
  | 0, _, h => by
    have h : _ = [] := h
    rw [h]
    exact ⟨rfl, fun i y e => by simp at e⟩
  | n + 1, ys, h => by
    unfold Got at h
    rw [if_pos rfl] at h
    obtain ⟨zs, y, e, g, p⟩ := h
    obtain ⟨l, q⟩ := got_all g
    refine ⟨by rw [e, List.length_append, l]; rfl, fun i z hz => ?_⟩
    rw [e] at hz
    by_cases hi : i < zs.length
    · rw [List.getElem?_append_left hi] at hz
      exact q i z hz
    · rw [List.getElem?_append_right (by omega)] at hz
      have e0 : i - zs.length = 0 := by
        have := (List.getElem?_eq_some_iff.mp hz).1
        simp at this
        omega
      rw [e0] at hz
      have ez : y = z := by simpa using hz
      have ei : i = n := by omega
      rw [ei, ← ez]
      exact p
section
variable {J : It} {n : Nat} {G : Hp → Prop} {Y : Nat → Hp → V → Hp → Prop}
theorem lc_ev (w : Walk J n G Y) {g : TG} {tt : TT} {te : TE} {vs : List Nat} {σ : L2.St} {H : Hp} {D : Addr} {Qd : Hp → Prop} (f : Nat → Bool) (P : Nat → V → Hp → Prop) (hD : H D = none) (hn : n ≤ 90000)
    (hG : ∀ H1, Ex H H1 → G H1) (Pm : ∀ i v H1 H2, Ex H1 H2 → P i v H1 → P i v H2) (Pd : ∀ i v H1 o, Ex H H1 → P i v H1 → P i v (upd H1 D o))
    (hs : ∀ i x H1 H2, i < n → Ex H H1 → (∃ ys, H1 D = some (.lst ys)) → Y i H1 x H2 → Ex H1 H2 ∧ ∃ σ2, Tgt g (wipe σ vs) x H2 σ2 ∧ wipe σ2 vs = wipe σ vs ∧ EvT tt σ2 H2 (f i) ∧ (f i = true → EvP te σ2 H2 (P i)))
    (hd : ∀ ys H', Ex H H' → H' D = some (.lst ys) → Got f P n ys H' → Qd H') :
    ∃ W : Nat → Nat → Hp → Prop, (∃ m, W 0 m (upd H D (.lst []))) ∧ ∀ i m H', W i m H' →
      (J.stop i H' ∧ Qd H') ∨ (J.go i H' ∧ ∃ Nx : Hp → Prop, (∀ H'', Nx H'' → ∃ m', m' < m ∧ W (i + 1) m' H'') ∧ ∀ x H'', J.yld i H' x H'' → g x (wipe σ vs) H'' fun σ2 H2 => wipe σ2 vs = wipe σ vs ∧ tt σ2 H2 fun b H3 =>
        if b = true then te σ2 H3 fun y H4 => ∃ acc, H4 D = some (.lst acc) ∧ acc.length < sizeLine ∧ Nx (upd H4 D (.lst (acc ++ [y]))) else Nx H3) := by
  refine lc_it w (fun i H' => Ex H H' ∧ ∃ ys, H' D = some (.lst ys) ∧ Got f P i ys H') ⟨Ex.new hD, [], upd_same, rfl⟩ (fun i H' _ p => hG H' p.1) ?_ ?_
  · rintro i x H1 H2 hi ⟨e1, ys, h1, g1⟩ hy
    obtain ⟨e2, σ2, tg, wp, ht, he⟩ := hs i x H1 H2 hi e1 ⟨ys, h1⟩ hy
    refine tg _ ⟨wp, ht H2 (Ex.refl H2) _ fun H3 e3 => ?_⟩
    have gm : ∀ {H'}, Ex H2 H' → Got f P i ys H' := fun {H'} e => got_mono (fun j v => Pm j v _ _ (e2.trans e)) g1
    by_cases hf : f i = true
    · rw [if_pos hf]
      refine he hf H3 e3 _ fun v H4 e4 p => ⟨ys, (e3.trans e4) D _ (e2 D _ h1), Nat.lt_of_le_of_lt (Nat.le_trans (got_len g1) (Nat.le_of_lt (Nat.lt_of_lt_of_le hi hn))) (by decide), Ex.mut (((e1.trans e2).trans e3).trans e4) hD, ys ++ [v], upd_same, ?_⟩
      unfold Got
      rw [if_pos hf]
      have e14 := ((e1.trans e2).trans e3).trans e4
      exact ⟨ys, v, rfl, got_mono (fun j u => Pd j u _ _ e14) (gm (e3.trans e4)), Pd i v _ _ e14 p⟩
    · rw [if_neg hf]
      refine ⟨(e1.trans e2).trans e3, ys, e3 D _ (e2 D _ h1), ?_⟩
      unfold Got
      rw [if_neg hf]
      exact gm e3
  · rintro H' ⟨e1, ys, h1, g1⟩
    exact hd ys H' e1 h1 g1
theorem lc_val (w : Walk J n G Y) {g : TG} {tt : TT} {te : TE} {vs : List Nat} {σ : L2.St} {H : Hp} {D : Addr} {Qd : Hp → Prop} (f : Nat → Bool) (v : Nat → V) (hD : H D = none) (hn : n ≤ 90000)
    (hG : ∀ H1, Ex H H1 → G H1)
    (hs : ∀ i x H1 H2, i < n → Ex H H1 → (∃ ys, H1 D = some (.lst ys)) → Y i H1 x H2 → Ex H1 H2 ∧ ∃ σ2, Tgt g (wipe σ vs) x H2 σ2 ∧ wipe σ2 vs = wipe σ vs ∧ EvT tt σ2 H2 (f i) ∧ (f i = true → Ev te σ2 H2 (v i)))
    (hd : ∀ H', Ex H H' → H' D = some (.lst (given n f v)) → Qd H') :
    ∃ W : Nat → Nat → Hp → Prop, (∃ m, W 0 m (upd H D (.lst []))) ∧ ∀ i m H', W i m H' →
      (J.stop i H' ∧ Qd H') ∨ (J.go i H' ∧ ∃ Nx : Hp → Prop, (∀ H'', Nx H'' → ∃ m', m' < m ∧ W (i + 1) m' H'') ∧ ∀ x H'', J.yld i H' x H'' → g x (wipe σ vs) H'' fun σ2 H2 => wipe σ2 vs = wipe σ vs ∧ tt σ2 H2 fun b H3 =>
        if b = true then te σ2 H3 fun y H4 => ∃ acc, H4 D = some (.lst acc) ∧ acc.length < sizeLine ∧ Nx (upd H4 D (.lst (acc ++ [y]))) else Nx H3) :=
  lc_ev w f (fun i u _ => u = v i) hD hn hG (fun _ _ _ _ _ h => h) (fun _ _ _ _ _ h => h) (fun i x H1 H2 hi e hd y => by
    obtain ⟨a, σ2, b, c, d, e⟩ := hs i x H1 H2 hi e hd y
    exact ⟨a, σ2, b, c, d, fun hf => EvP.of (e hf)⟩) fun ys H' e h g => hd H' e (by rw [h, got_given g])
def IsObj (o : Nat → HO) (i : Nat) (v : V) (H : Hp) : Prop := ∃ T, v = .ref T ∧ H T = some (o i)
theorem lc_obj (w : Walk J n G Y) {g : TG} {tt : TT} {te : TE} {vs : List Nat} {σ : L2.St} {H : Hp} {D : Addr} {Qd : Hp → Prop} (o : Nat → HO) (hD : H D = none) (hn : n ≤ 90000)
    (hG : ∀ H1, Ex H H1 → G H1) (hs : ∀ i x H1 H2, i < n → Ex H H1 → (∃ ys, H1 D = some (.lst ys)) → Y i H1 x H2 → Ex H1 H2 ∧ ∃ σ2, Tgt g (wipe σ vs) x H2 σ2 ∧ wipe σ2 vs = wipe σ vs ∧ EvT tt σ2 H2 true ∧ EvP te σ2 H2 (fun v H' => IsObj o i v H' ∧ v ≠ .ref D))
    (hd : ∀ (Ts : List Addr) H', Ex H H' → H' D = some (.lst (Ts.map V.ref)) → Ts.length = n → (∀ i T, Ts[i]? = some T → H' T = some (o i)) → Qd H') :
    ∃ W : Nat → Nat → Hp → Prop, (∃ m, W 0 m (upd H D (.lst []))) ∧ ∀ i m H', W i m H' →
      (J.stop i H' ∧ Qd H') ∨ (J.go i H' ∧ ∃ Nx : Hp → Prop, (∀ H'', Nx H'' → ∃ m', m' < m ∧ W (i + 1) m' H'') ∧ ∀ x H'', J.yld i H' x H'' → g x (wipe σ vs) H'' fun σ2 H2 => wipe σ2 vs = wipe σ vs ∧ tt σ2 H2 fun b H3 =>
        if b = true then te σ2 H3 fun y H4 => ∃ acc, H4 D = some (.lst acc) ∧ acc.length < sizeLine ∧ Nx (upd H4 D (.lst (acc ++ [y]))) else Nx H3) := by
  refine lc_ev w (fun _ => true) (fun i v H' => IsObj o i v H' ∧ v ≠ .ref D) hD hn hG (fun i v H1 H2 e ⟨⟨T, e1, e2⟩, ne⟩ => ⟨⟨T, e1, e T _ e2⟩, ne⟩) (fun i v H1 o e ⟨⟨T, e1, e2⟩, ne⟩ => ⟨⟨T, e1, ?_⟩, ne⟩) (fun i x H1 H2 hi e hd y => ?_) fun ys H' e h g => ?_
  · rw [upd_ne (fun z => ne (by rw [e1, z]))]
    exact e2
  · obtain ⟨e1, σ2, b, c, d, e⟩ := hs i x H1 H2 hi e hd y
    exact ⟨e1, σ2, b, c, d, fun _ => e⟩
  · obtain ⟨hl, hq⟩ := got_all g
    have : ∃ Ts : List Addr, ys = Ts.map V.ref := by
      clear h g hl
      have hr : ∀ y ∈ ys, ∃ T, y = V.ref T := fun y hy => by
        obtain ⟨i, hi⟩ := List.getElem?_of_mem hy
        obtain ⟨⟨T, e, _⟩, _⟩ := hq i y hi
        exact ⟨T, e⟩
      clear hq
      induction ys with
      | nil => exact ⟨[], rfl⟩
      | cons y r ih =>
        obtain ⟨Ts, e1⟩ := ih fun z hz => hr z (List.mem_cons_of_mem _ hz)
        obtain ⟨T, e2⟩ := hr y List.mem_cons_self
        exact ⟨T :: Ts, by rw [e1, e2]; rfl⟩
    obtain ⟨Ts, rfl⟩ := this
    refine hd Ts H' e h (by rw [← hl, List.length_map]) fun i T hT => ?_
    obtain ⟨⟨T', e1, e2⟩, _⟩ := hq i (.ref T) (by rw [List.getElem?_map, hT]; rfl)
    cases e1
    exact e2
def IsPair (a b : Nat → V) (i : Nat) (v : V) (H : Hp) : Prop := ∃ T, v = .ref T ∧ H T = some (.tup [a i, b i])
theorem lc_pair (w : Walk J n G Y) {g : TG} {tt : TT} {te : TE} {vs : List Nat} {σ : L2.St} {H : Hp} {D : Addr} {Qd : Hp → Prop} (a b : Nat → V) (hD : H D = none) (hn : n ≤ 90000)
    (hG : ∀ H1, Ex H H1 → G H1) (hs : ∀ i x H1 H2, i < n → Ex H H1 → (∃ ys, H1 D = some (.lst ys)) → Y i H1 x H2 → Ex H1 H2 ∧ ∃ σ2, Tgt g (wipe σ vs) x H2 σ2 ∧ wipe σ2 vs = wipe σ vs ∧ EvT tt σ2 H2 true ∧ EvP te σ2 H2 (fun v H' => IsPair a b i v H' ∧ v ≠ .ref D))
    (hd : ∀ (Ts : List Addr) H', Ex H H' → H' D = some (.lst (Ts.map V.ref)) → Ts.length = n → (∀ i T, Ts[i]? = some T → H' T = some (.tup [a i, b i])) → Qd H') :
    ∃ W : Nat → Nat → Hp → Prop, (∃ m, W 0 m (upd H D (.lst []))) ∧ ∀ i m H', W i m H' →
      (J.stop i H' ∧ Qd H') ∨ (J.go i H' ∧ ∃ Nx : Hp → Prop, (∀ H'', Nx H'' → ∃ m', m' < m ∧ W (i + 1) m' H'') ∧ ∀ x H'', J.yld i H' x H'' → g x (wipe σ vs) H'' fun σ2 H2 => wipe σ2 vs = wipe σ vs ∧ tt σ2 H2 fun b H3 =>
        if b = true then te σ2 H3 fun y H4 => ∃ acc, H4 D = some (.lst acc) ∧ acc.length < sizeLine ∧ Nx (upd H4 D (.lst (acc ++ [y]))) else Nx H3) := by
  refine lc_ev w (fun _ => true) (fun i v H' => IsPair a b i v H' ∧ v ≠ .ref D) hD hn hG (fun i v H1 H2 e ⟨⟨T, e1, e2⟩, ne⟩ => ⟨⟨T, e1, e T _ e2⟩, ne⟩) (fun i v H1 o e ⟨⟨T, e1, e2⟩, ne⟩ => ⟨⟨T, e1, ?_⟩, ne⟩) (fun i x H1 H2 hi e hd y => ?_) fun ys H' e h g => ?_
  · rw [upd_ne (fun z => ne (by rw [e1, z]))]
    exact e2
  · obtain ⟨e1, σ2, b, c, d, e⟩ := hs i x H1 H2 hi e hd y
    exact ⟨e1, σ2, b, c, d, fun _ => e⟩
  · obtain ⟨hl, hq⟩ := got_all g
    have : ∃ Ts : List Addr, ys = Ts.map V.ref := by
      clear h g hl
      have hr : ∀ y ∈ ys, ∃ T, y = V.ref T := fun y hy => by
        obtain ⟨i, hi⟩ := List.getElem?_of_mem hy
        obtain ⟨⟨T, e, _⟩, _⟩ := hq i y hi
        exact ⟨T, e⟩
      clear hq
      induction ys with
      | nil => exact ⟨[], rfl⟩
      | cons y r ih =>
        obtain ⟨Ts, e1⟩ := ih fun z hz => hr z (List.mem_cons_of_mem _ hz)
        obtain ⟨T, e2⟩ := hr y List.mem_cons_self
        exact ⟨T :: Ts, by rw [e1, e2]; rfl⟩
    obtain ⟨Ts, rfl⟩ := this
    refine hd Ts H' e h (by rw [← hl, List.length_map]) fun i T hT => ?_
    obtain ⟨⟨T', e1, e2⟩, _⟩ := hq i (.ref T) (by rw [List.getElem?_map, hT]; rfl)
    cases e1
    exact e2
end
theorem given_filter {α : Type} (xs : List α) (p : α → Bool) (q : α → V) (f : Nat → Bool) (v : Nat → V) (hf : ∀ i x, xs[i]? = some x → f i = p x) (hv : ∀ i x, xs[i]? = some x → v i = q x) : given xs.length f v = (xs.filter p).map q := by
  have key : ∀ n, n ≤ xs.length → given n f v = ((xs.take n).filter p).map q := fun n => by
    induction n with
    | zero => intro _; rfl
    | succ n ih =>
      intro hn
      have hx : xs[n]? = some xs[n] := List.getElem?_eq_getElem (by omega)
      rw [List.take_add_one, hx]
      have e1 := hf n _ hx
      have e2 := hv n _ hx
      cases h : p xs[n] with
      | true =>
        rw [given_yes (e1.trans h), ih (by omega), e2, List.filter_append, List.map_append]
        show _ = _ ++ List.map q (List.filter p [xs[n]])
        rw [List.filter_cons, if_pos h]
        rfl
      | false =>
        rw [given_no (e1.trans h), ih (by omega), List.filter_append, List.map_append]
        show _ = _ ++ List.map q (List.filter p [xs[n]])
        rw [List.filter_cons, if_neg (by rw [h]; decide)]
        show _ = _ ++ []
        rw [List.append_nil]
  rw [key _ (Nat.le_refl _), List.take_length]
theorem walk_enumT {K : PySem.W.Frag} {a : Addr} {xs : List V} : Walk (IteT K a) xs.length (fun H => SqT K H a xs) (YPair (fun i => some (.int (i : Nat))) (fun i => xs[i]?)) := by
  refine ⟨fun i _ hi q => ⟨xs, xs[i], q, by simp [hi]⟩, fun _ q => ⟨xs, q, Nat.le_refl _⟩, fun i H v H' _ q y => ?_⟩
  obtain ⟨T, x, h1, h2, h3, h4⟩ := y
  exact ⟨T, .int (i : Nat), x, h1, h2, h3, rfl, h4 xs q⟩
end K7
set_option Elab.async false
set_option linter.all false
set_option maxRecDepth 100000
set_option maxHeartbeats 2000000
namespace K7
open PySem PySem.Spec PyProof.Rows L2 Evl
structure ShOk (d : PyData) (n : Nat) : Prop where
  lay : d.canLay0 = true
  dep : d.depth ≤ n
theorem ShOk.shaped {d : PyData} {n : Nat} (h : ShOk d n) (hn : n ≤ 64 := by decide) : SeqAt.shaped d = true := by
  show (d.canLay0 && decide (d.depth ≤ 64)) = true
  rw [Bool.and_eq_true]
  exact ⟨h.lay, decide_eq_true (Nat.le_trans h.dep hn)⟩
theorem ShOk.refl {d : PyData} {n : Nat} (h : ShOk d n) : PyData.eqv d d = true := SeqAt.eqv_refl d h.lay
theorem sh_int (i : Int) (n : Nat) : ShOk (.int i) n := ⟨by simp [PyData.canLay0], by simp [PyData.depth]⟩
theorem sh_str {x : Str} (h : PyData.strOk x = true) (n : Nat) : ShOk (.str x) n := ⟨by simpa [PyData.canLay0] using h, by simp [PyData.depth]⟩
theorem sh_all {n : Nat} : ∀ {ds : List PyData}, (∀ d ∈ ds, ShOk d n) → PyData.canLayAll0 ds = true ∧ PyData.depthAll ds ≤ n
  | [], _ => ⟨by simp [PyData.canLayAll0], by simp [PyData.depthAll]⟩
  | d :: r, h => by
    obtain ⟨a, b⟩ := sh_all (ds := r) fun x hx => h x (List.mem_cons_of_mem _ hx)
    obtain ⟨c, e⟩ := h d List.mem_cons_self
    exact ⟨by simp [PyData.canLayAll0, a, c], by simp only [PyData.depthAll]; omega⟩
theorem sh_list {n : Nat} {ds : List PyData} (h : ∀ d ∈ ds, ShOk d n) : ShOk (.list ds) (n + 1) := by
  obtain ⟨a, b⟩ := sh_all h
  exact ⟨by simpa [PyData.canLay0] using a, by simp only [PyData.depth]; omega⟩
theorem sh_tup {n : Nat} {ds : List PyData} (h : ∀ d ∈ ds, ShOk d n) : ShOk (.tuple ds) (n + 1) := by
  obtain ⟨a, b⟩ := sh_all h
  exact ⟨by simpa [PyData.canLay0] using a, by simp only [PyData.depth]; omega⟩
theorem sh_nil : ShOk (.list []) 1 := sh_list fun _ h => by cases h
def strsD (xs : List Str) : List PyData := xs.map PyData.str
theorem sh_strs {xs : List Str} (h : ∀ x ∈ xs, PyData.strOk x = true) (n : Nat) : ∀ d ∈ strsD xs, ShOk d n := fun d hd => by
  obtain ⟨x, hx, rfl⟩ := List.mem_map.mp hd
  exact sh_str (h x hx) n
theorem dp_strs {K : PySem.W.Frag} {H : Hp} : ∀ xs : List Str, DpAll K H (xs.map V.str) (strsD xs)
  | [] => .nil
  | x :: r => .cons (.str x) (dp_strs r)
theorem dp_map {α : Type} {K : PySem.W.Frag} {H : Hp} {v : α → V} {d : α → PyData} : ∀ {xs : List α}, (∀ x ∈ xs, Dp K H (v x) (d x)) → DpAll K H (xs.map v) (xs.map d)
  | [], _ => .nil
  | x :: r, h => .cons (h x List.mem_cons_self) (dp_map fun y hy => h y (List.mem_cons_of_mem _ hy))
theorem dp_ix {K : PySem.W.Frag} {H : Hp} : ∀ {vs : List V} {ds : List PyData}, vs.length = ds.length → (∀ (i : Nat) v d, vs[i]? = some v → ds[i]? = some d → Dp K H v d) → DpAll K H vs ds
  | [], [], _, _ => .nil
  | v :: vs, d :: ds, hl, h => .cons (h 0 v d rfl rfl) (dp_ix (by simpa using hl) fun i x y h1 h2 => h (i + 1) x y (by simpa using h1) (by simpa using h2))
  | [], _ :: _, hl, _ => by cases hl
  | _ :: _, [], hl, _ => by cases hl
theorem eqv_nil (ds : List PyData) : PyData.eqv (.list ds) (.list []) = decide (ds = []) := by
  cases ds with
  | nil => simp [PyData.eqv, PyData.eqvAll]
  | cons d r => simp [PyData.eqv, PyData.eqvAll]
theorem eqvT_nil (ds : List PyData) : PyData.eqv (.tuple ds) (.tuple []) = decide (ds = []) := by
  cases ds with
  | nil => simp [PyData.eqv, PyData.eqvAll]
  | cons d r => simp [PyData.eqv, PyData.eqvAll]
theorem eq_nil {K : PySem.W.Frag} {H : Hp} {a b : Addr} {xs : List V} {ds : List PyData} {n : Nat} {Q : VK} (hs : SqL K H a xs) (hd : DpAll K H xs ds) (ho : ∀ d ∈ ds, ShOk d n) (hb : H b = some (.lst [])) (q : Q (.bl (decide (xs = []))) H) (hn : n ≤ 63 := by decide) : rEqD K (.ref a) (.ref b) H Q := by
  refine ⟨_, _, .lst hs hd, .lst (sq_of hb) .nil, (sh_list ho).shaped (by omega), sh_nil.shaped, ?_⟩
  rw [eqv_nil]
  have e : decide (ds = []) = decide (xs = []) := by
    cases hd with
    | nil => rfl
    | cons h1 h2 => simp
  rw [e]
  exact q
theorem ne_nil {K : PySem.W.Frag} {H : Hp} {a b : Addr} {xs : List V} {ds : List PyData} {n : Nat} {Q : VK} (hs : SqL K H a xs) (hd : DpAll K H xs ds) (ho : ∀ d ∈ ds, ShOk d n) (hb : H b = some (.lst [])) (q : Q (.bl (!decide (xs = []))) H) (hn : n ≤ 63 := by decide) : rNeD K (.ref a) (.ref b) H Q := by
  refine ⟨_, _, .lst hs hd, .lst (sq_of hb) .nil, (sh_list ho).shaped (by omega), sh_nil.shaped, ?_⟩
  rw [eqv_nil]
  have e : decide (ds = []) = decide (xs = []) := by
    cases hd with
    | nil => rfl
    | cons h1 h2 => simp
  rw [e]
  exact q
theorem ne_same {K : PySem.W.Frag} {H : Hp} {x y : V} {d : PyData} {n : Nat} {Q : VK} (h1 : Dp K H x d) (h2 : Dp K H y d) (ho : ShOk d n) (q : Q (.bl false) H) (hn : n ≤ 64 := by decide) : rNeD K x y H Q := by
  refine ⟨d, d, h1, h2, ho.shaped hn, ho.shaped hn, ?_⟩
  rw [ho.refl]
  exact q
theorem eq_same {K : PySem.W.Frag} {H : Hp} {x y : V} {d : PyData} {n : Nat} {Q : VK} (h1 : Dp K H x d) (h2 : Dp K H y d) (ho : ShOk d n) (q : Q (.bl true) H) (hn : n ≤ 64 := by decide) : rEqD K x y H Q := by
  refine ⟨d, d, h1, h2, ho.shaped hn, ho.shaped hn, ?_⟩
  rw [ho.refl]
  exact q
def Kp (S : List Addr) (H H' : Hp) : Prop := ∀ b o, b ∉ S → H b = some o → H' b = some o
section
variable {S S' : List Addr} {H H1 H2 H' : Hp} {p : Addr} {o : HO}
theorem Kp.refl (S : List Addr) (H : Hp) : Kp S H H := fun _ _ _ h => h
theorem Kp.trans (a : Kp S H H1) (b : Kp S H1 H2) : Kp S H H2 := fun x o n h => b x o n (a x o n h)
theorem Kp.mono (a : Kp S H H1) (h : ∀ x ∈ S, x ∈ S') : Kp S' H H1 := fun x o n e => a x o (fun z => n (h x z)) e
theorem Kp.of (e : Ex H H1) : Kp S H H1 := fun x o _ h => e x o h
theorem Kp.ex (a : Kp S H H1) (b : Ex H1 H2) : Kp S H H2 := a.trans (Kp.of b)
theorem Kp.new (a : Kp S H H1) (h : H1 p = none) : Kp S H (upd H1 p o) := fun x u n e => by
  have e1 := a x u n e
  rw [upd_ne (ne_of_none e1 h)]
  exact e1
theorem Kp.old (a : Kp S H H1) (h : H p = none) : Kp S H (upd H1 p o) := fun x u n e => by
  rw [upd_ne (ne_of_none e h)]
  exact a x u n e
theorem Kp.mut (a : Kp S H H1) (h : p ∈ S) : Kp S H (upd H1 p o) := fun x u n e => by
  rw [upd_ne (fun z => n (by rw [z]; exact h))]
  exact a x u n e
theorem Kp.nil (a : Kp [] H H1) : Ex H H1 := fun x o h => a x o (by simp) h
theorem Kp.less (a : Kp S H H1) (h : ∀ x ∈ S, x ∈ S' ∨ H x = none) : Kp S' H H1 := fun x o n e => a x o (fun z => by
  rcases h x z with w | w
  · exact n w
  · rw [w] at e
    cases e) e
theorem Kp.back (a : Kp S H H1) (h : H1 p = none) (n : p ∉ S) : H p = none := by
  cases e : H p with
  | none => rfl
  | some u =>
    rw [a p u n e] at h
    cases h
theorem kp_rd {a : Addr} {u : HO} (k : Kp S H H1) (n : a ∉ S) (h : Rd H a u) : Rd H1 a u := by
  rcases h with h | ⟨o, h⟩
  · exact .inl (k a _ n h)
  · exact .inr ⟨o, k a _ n h⟩
theorem kp_l {K : PySem.W.Frag} {a : Addr} {xs : List V} (k : Kp S H H1) (n : a ∉ S) (h : SqL K H a xs) : SqL K H1 a xs := by
  rcases h with h | h
  · exact .inl (kp_rd k n h)
  · exact .inr h
theorem kp_t {K : PySem.W.Frag} {a : Addr} {xs : List V} (k : Kp S H H1) (n : a ∉ S) (h : SqT K H a xs) : SqT K H1 a xs := by
  rcases h with h | h
  · exact .inl (kp_rd k n h)
  · exact .inr h
end
theorem upd_out {H : Hp} {p t : Addr} {o : HO} (h : upd H p o t = none) : t ≠ p ∧ H t = none := by
  have n : t ≠ p := fun z => by
    rw [z, upd_same] at h
    cases h
  rw [upd_ne n] at h
  exact ⟨n, h⟩
theorem Kp.out {S : List Addr} {H H1 : Hp} {t : Addr} (a : Kp S H H1) (h : H1 t = none) (hs : ∀ x ∈ S, H1 x ≠ none) : H t = none := a.back h fun z => hs t z h
theorem upd_get {H : Hp} {a b : Addr} {o u : HO} (h : H b = some u) (n : b ≠ a) : upd H a o b = some u := by rw [upd_ne n]; exact h
theorem upd_self {H : Hp} {a : Addr} {o : HO} (h : H a = some o) : upd H a o = H := by
  funext b
  by_cases e : b = a
  · rw [e, upd_same, h]
  · rw [upd_ne e]
theorem seq_ix {r : Int} {n : Nat} (h0 : 0 ≤ r) (h : r < n) : seqIndex? r n = some r.toNat := by
  have e : ¬ r < 0 := by omega
  simp [seqIndex?, e, h0, h]
theorem itB {b : Bool} {A B : Prop} (e : b = true) (h : A) : if b = true then A else B := by rw [if_pos e]; exact h
theorem itN {b : Bool} {A B : Prop} (e : b = false) (h : B) : if b = true then A else B := by rw [if_neg (by rw [e]; decide)]; exact h
end K7
set_option Elab.async false
set_option linter.all false
set_option maxRecDepth 100000
set_option maxHeartbeats 4000000
namespace K70
open PySem PySem.Spec PyProof.Rows L2 Evl
open C8 (Cal Met Mak pe_c pe_mt pe_mt0 pe_mk pe_gc InsC call_isC)
open K7 (Kp ShOk CPowW op_powW upd_get eq_nil ne_nil dp_strs sh_strs strsD lc_val lc_ev tgt_name tgt_pair given_filter EvP seq_ix)
def DiceL (l m c : Int) : HO := .lst [.int l, .int m, .int c]
def DiceAt (H : Hp) (d : Addr) : Prop := ∃ l m c, H d = some (DiceL l m c)
def sp_law_dice (K : PySem.W.Frag) : Sp := fun vs H Q _ => ∃ (a : Addr) (ns : List Int) (i : Nat), vs = [.ref a, .int i] ∧ SqL K H a (ns.map V.int) ∧ i ≤ 10 ∧ ∀ p l m, H p = none → Q (.ref p) (upd H p (DiceL l m 0))
def sp_law_roll : Sp := fun vs H Q _ => ∃ (d : Addr) (n : Int), vs = [.ref d, .int n] ∧ 0 < n ∧ n < 1073741824 ∧ DiceAt H d ∧ ∀ r l m c, 0 ≤ r → r < n → Q (.int r) (upd H d (DiceL l m c))
def sp_law_one_of (K : PySem.W.Frag) : Sp := fun vs H Q _ => ∃ (d a : Addr) (xs : List V), vs = [.ref d, .ref a] ∧ SqL K H a xs ∧ a ≠ d ∧ 0 < xs.length ∧ xs.length < 1000000 ∧ DiceAt H d ∧ ∀ (i : Nat) v l m c, xs[i]? = some v → Q v (upd H d (DiceL l m c))
def sp_law_mixed (K : PySem.W.Frag) : Sp := fun vs H Q _ => ∃ (d a : Addr) (xs : List Str), vs = [.ref d, .ref a] ∧ SqL K H a (xs.map V.str) ∧ (∀ x ∈ xs, PyData.strOk x = true) ∧ xs.length ≤ 1000 ∧ DiceAt H d ∧
  ∀ (ys : List Str) (p : Addr) (H' : Hp), ys.Perm xs → H p = none → H' p = some (.lst (ys.map V.str)) → DiceAt H' d → Kp [d] H H' → Q (.ref p) H'
def someNames : List Str := ["", "a", "ab", "ac", "bB", "c", "d", "e", "f", "g", "h", "key", "l 1", "o", "z", "zz"]
theorem some_ok : ∀ x ∈ someNames, PyData.strOk x = true := by decide +kernel
def sp_law_names : Sp := fun vs H Q _ => ∃ d : Addr, vs = [.ref d] ∧ DiceAt H d ∧ ∀ (ys : List Str) (p : Addr) (H' : Hp), ys.Nodup → ys.length ≤ 11 → (∀ x ∈ ys, x ∈ someNames) → H p = none → H' p = some (.lst (ys.map V.str)) → DiceAt H' d → Kp [d] H H' → Q (.ref p) H'
section
variable {P : Program} {w : World} {K : PySem.W.Frag} {mg : Str → Option Value} {base : Heap}
theorem map_erase {α β : Type} (f : α → β) : ∀ (l : List α) (i : Nat), (l.map f).eraseIdx i = (l.eraseIdx i).map f
  | [], _ => rfl
  | _ :: _, 0 => rfl
  | a :: r, i + 1 => by
    show f a :: (r.map f).eraseIdx i = f a :: (r.eraseIdx i).map f
    rw [map_erase f r i]
theorem erase_perm {α : Type} : ∀ (l : List α) (i : Nat) (h : i < l.length), (l[i] :: l.eraseIdx i).Perm l
  | a :: r, 0, _ => .refl _
  | a :: r, i + 1, h => by
    have h' : i < r.length := by simpa using h
    show (r[i] :: a :: r.eraseIdx i).Perm (a :: r)
    exact (List.Perm.swap a r[i] _).trans (.cons a (erase_perm r i h'))
theorem atD0 (l m c : Int) : atI [V.int l, V.int m, V.int c] 0 = some (.int l) := rfl
theorem atD1 (l m c : Int) : atI [V.int l, V.int m, V.int c] 1 = some (.int m) := rfl
theorem atD2 (l m c : Int) : atI [V.int l, V.int m, V.int c] 2 = some (.int c) := rfl
theorem pos600 : (0 : Int) < (10 ^ Int.toNat 60) ^ Int.toNat 10 := by decide +kernel
theorem ok_law_dice {f : Addr} {fd : FuncData} {dvs : List V} (F : FunD K "_law_dice" "_law_dice" (defArgs s_law_dice) (defBody s_law_dice) (defScope s_law_dice) dvs [] f fd) (T : Txt K mg) :
    FnOk P w K mg base CX0 1 f fd ["script", "at"] (sp_law_dice K) := by
  have nd := sc_law_dice.nd
  refine ok0 F sc_law_dice (fun vs H Q E h => by
    obtain ⟨a, ns, i, rfl, hs, hi, k⟩ := h
    rfl) (fun cdv A outer s H vs Q E hr h => ?_)
  obtain ⟨a, ns, i, rfl, hs, hi, k⟩ := h
  refine ⟨_, (pss_cons (ps_set (i := 2) nd rfl (Or.inl rfl) (pe_op op_add (pe_op op_mul pe_int (pv 1)) pe_int))
     (pss_cons (ps_if (pt_cmpR op_lt (pv 1) (pe_callB (K7.call_lenK (K := K) rfl) (by rfl) T.b_len bt_len (pa_cons (pv 0) pa_nil)) (nomark _)) (pss_one (ps_set (i := 2) nd rfl (Or.inl rfl) (pe_ix (K7.ix_listK (K := K) rfl) (pv 0) (pv 1) (fun _ _ => rfl)))) pss_nil)
     (pss_cons (ps_set (i := 3) nd rfl (Or.inl rfl) (pe_op op_mod (pe_callTy call_int1 (by rfl) T.b_int bt_int (pa_cons (pe_callB call_abs (by rfl) T.b_abs bt_abs (pa_cons (pv 2) pa_nil)) pa_nil)) (pe_op op_powW (pe_op op_pow pe_int pe_int) pe_int)))
     (pss_cons (ps_set (i := 4) nd rfl (Or.inl rfl) (pe_op op_fdivW (pv 3) (pe_op op_pow pe_int pe_int)))
     (pss_cons (ps_set (i := 5) nd rfl (Or.inl rfl) (pe_op op_add (pe_op op_add (pe_op op_add (pe_op op_mul (pe_op op_mod (pv 3) pe_int) pe_int) (pe_op op_mul pe_int (pv 1))) (pe_op op_mul pe_int (pe_callTy call_int1 (by rfl) T.b_int bt_int (pa_cons (pe_cmpR op_lt (pv 2) pe_int (nomark _)) pa_nil)))) pe_int))
     (pss_one (ps_ret (pe_lst (pa_cons (pv 4) (pa_cons (pe_op op_mod (pv 5) pe_int) (pa_cons pe_int pa_nil))))))))))), ?_⟩
  refine ⟨_, rfl, _, _, rfl, rfl, .inl ⟨by decide, by decide⟩, _, _, rfl, rfl, ?_⟩
  refine ⟨_, rfl, _, rfl, a, _, rfl, .inl hs, _, _, rfl, rfl, _, rfl, ite2 (fun hlt => ?_) fun _ => ?_⟩
  · have hlt' : i < ns.length := by
      have := of_decide_eq_true hlt
      rw [List.length_map] at this
      omega
    refine ⟨_, rfl, _, rfl, a, _, _, .int ns[i], rfl, rfl, hs, atI_nat (by rw [List.getElem?_map, List.getElem?_eq_getElem hlt']; rfl), ?_⟩
    generalize ns[i] = c
    refine ⟨_, rfl, _, rfl, .inl ⟨_, rfl, _, _, rfl, rfl, ⟨by decide, by decide, by decide⟩, _, _, rfl, rfl, ⟨by decide, by decide +kernel⟩, _, _, rfl, rfl, pos600, ?_⟩⟩
    generalize (if c < 0 then -c else c) % _ = g
    refine ⟨_, rfl, _, _, rfl, rfl, ⟨by decide, by decide, by decide⟩, _, _, rfl, rfl, ⟨by decide +kernel, by decide +kernel⟩, ?_⟩
    generalize g / _ = l
    refine ⟨_, rfl, _, _, rfl, rfl, (by show (0 : Int) < 2147482811; decide), _, _, rfl, rfl, .inr ⟨by decide, by decide⟩, _, rfl, _, _, rfl, rfl, .inl ⟨by decide, by decide⟩, _, _, rfl, rfl, _, rfl, _, _, rfl, rfl, .inr ⟨_, rfl, _, _, rfl, rfl, .inl ⟨by decide, by decide⟩, _, _, rfl, rfl, _, _, rfl, rfl, ?_⟩⟩
    refine ⟨_, rfl, _, rfl, _, _, rfl, rfl, (by show (0 : Int) < 2147482801; decide), (by show 3 ≤ sizeLine; decide), fun p hp => k p _ _ hp⟩
  · show tSeq _ _ _ [some (V.ref a), some (V.int i), some (V.int (83 * (i : Int) + 59)), none, none, none] H
    generalize (83 * (i : Int) + 59) = c
    refine ⟨_, rfl, _, rfl, .inl ⟨_, rfl, _, _, rfl, rfl, ⟨by decide, by decide, by decide⟩, _, _, rfl, rfl, ⟨by decide, by decide +kernel⟩, _, _, rfl, rfl, pos600, ?_⟩⟩
    generalize (if c < 0 then -c else c) % _ = g
    refine ⟨_, rfl, _, _, rfl, rfl, ⟨by decide, by decide, by decide⟩, _, _, rfl, rfl, ⟨by decide +kernel, by decide +kernel⟩, ?_⟩
    generalize g / _ = l
    refine ⟨_, rfl, _, _, rfl, rfl, (by show (0 : Int) < 2147482811; decide), _, _, rfl, rfl, .inr ⟨by decide, by decide⟩, _, rfl, _, _, rfl, rfl, .inl ⟨by decide, by decide⟩, _, _, rfl, rfl, _, rfl, _, _, rfl, rfl, .inr ⟨_, rfl, _, _, rfl, rfl, .inl ⟨by decide, by decide⟩, _, _, rfl, rfl, _, _, rfl, rfl, ?_⟩⟩
    refine ⟨_, rfl, _, rfl, _, _, rfl, rfl, (by show (0 : Int) < 2147482801; decide), (by show 3 ≤ sizeLine; decide), fun p hp => k p _ _ hp⟩
theorem ok_law_roll {f : Addr} {fd : FuncData} {dvs : List V} (F : FunD K "_law_roll" "_law_roll" (defArgs s_law_roll) (defBody s_law_roll) (defScope s_law_roll) dvs [] f fd) (T : Txt K mg) :
    FnOk P w K mg base CX0 1 f fd ["dice", "total"] sp_law_roll := by
  have nd := sc_law_roll.nd
  refine ok0 F sc_law_roll (fun vs H Q E h => by
    obtain ⟨d, n, rfl, h0, h1, ⟨l0, m0, c0, hd⟩, k⟩ := h
    rfl) (fun cdv A outer s H vs Q E hr h => ?_)
  obtain ⟨d, n, rfl, h0, h1, ⟨l0, m0, c0, hd⟩, k⟩ := h
  refine ⟨_, (pss_cons (ps_set (i := 2) nd rfl (Or.inl rfl) (pe_callTy call_int1 (by rfl) T.b_int bt_int (pa_cons (pv 1) pa_nil)))
     (pss_cons (ps_if (pt_cmpR op_gt (pe_ix (K7.ix_listK (K := K) rfl) (pv 0) pe_int (fun _ _ => rfl)) pe_int (nomark _)) (pss_cons (ps_set (i := 3) nd rfl (Or.inl rfl) (pe_op op_mod (pe_ix (K7.ix_listK (K := K) rfl) (pv 0) pe_int (fun _ _ => rfl)) (pv 2)))
     (pss_cons (ps_asg (pe_op op_fdiv (pe_ix (K7.ix_listK (K := K) rfl) (pv 0) pe_int (fun _ _ => rfl)) (pv 2)) (pg_sub (pv 0) pe_int set_list))
     (pss_one (ps_ret (pe_callTy call_int1 (by rfl) T.b_int bt_int (pa_cons (pv 3) pa_nil)))))) pss_nil)
     (pss_cons (ps_asg (pe_op op_add (pe_ix (K7.ix_listK (K := K) rfl) (pv 0) pe_int (fun _ _ => rfl)) pe_int) (pg_sub (pv 0) pe_int set_list))
     (pss_cons (ps_set (i := 4) nd rfl (Or.inl rfl) (pe_op op_mod (pe_op op_add (pe_ix (K7.ix_listK (K := K) rfl) (pv 0) pe_int (fun _ _ => rfl)) (pe_op op_mul pe_int (pe_ix (K7.ix_listK (K := K) rfl) (pv 0) pe_int (fun _ _ => rfl)))) pe_int))
     (pss_cons (ps_set (i := 5) nd rfl (Or.inl rfl) (pe_op op_add (pe_op op_mul (pe_op op_mod (pe_op op_mul (pv 4) (pv 4)) pe_int) (pv 4)) (pe_op op_mul pe_int (pe_ix (K7.ix_listK (K := K) rfl) (pv 0) pe_int (fun _ _ => rfl)))))
     (pss_cons (ps_set (i := 5) nd rfl (Or.inl rfl) (pe_op op_mod (pv 5) pe_int))
     (pss_one (ps_ret (pe_callTy call_int1 (by rfl) T.b_int bt_int (pa_cons (pe_op op_mod (pe_op op_fdiv (pv 5) pe_int) (pv 2)) pa_nil)))))))))), ?_⟩
  have e1 : ∀ {l m c l' m' c' : Int}, upd (upd H d (DiceL l m c)) d (DiceL l' m' c') = upd H d (DiceL l' m' c') := upd_upd
  refine ⟨_, rfl, .inl ⟨_, rfl, ?_⟩⟩
  refine ⟨_, rfl, d, _, _, _, rfl, rfl, sq_of hd, atD0 _ _ _, _, _, rfl, rfl, _, rfl, ite2 (fun _ => ?_) fun _ => ?_⟩
  · refine ⟨_, rfl, d, _, _, _, rfl, rfl, sq_of hd, atD0 _ _ _, _, rfl, _, _, rfl, rfl, h0, ?_⟩
    refine ⟨_, rfl, d, _, _, _, rfl, rfl, sq_of hd, atD0 _ _ _, _, rfl, _, _, rfl, rfl, ⟨h0, h1⟩, ?_⟩
    refine ⟨_, rfl, d, _, 0, 0, rfl, rfl, hd, rfl, ?_⟩
    exact ⟨_, rfl, .inl ⟨_, rfl, k _ _ m0 c0 (Int.emod_nonneg _ (by omega)) (Int.emod_lt_of_pos _ h0)⟩⟩
  · refine ⟨_, rfl, d, _, _, _, rfl, rfl, sq_of hd, atD2 _ _ _, _, _, rfl, rfl, ?_⟩
    refine ⟨_, rfl, d, _, 2, 2, rfl, rfl, hd, rfl, ?_⟩
    have hd1 : (upd H d (DiceL l0 m0 (c0 + 1))) d = some (.lst [.int l0, .int m0, .int (c0 + 1)]) := upd_same
    refine ⟨_, rfl, d, _, _, _, rfl, rfl, sq_of hd1, atD1 _ _ _, _, rfl, d, _, _, _, rfl, rfl, sq_of hd1, atD2 _ _ _, _, _, rfl, rfl, .inl ⟨by decide, by decide⟩, _, _, rfl, rfl, _, _, rfl, rfl, (by show (0 : Int) < 2305843009213693951; decide), ?_⟩
    have b1 := Int.emod_nonneg (m0 + 1000333 * (c0 + 1)) (b := 2305843009213693951) (by decide)
    have b2 := Int.emod_lt_of_pos (m0 + 1000333 * (c0 + 1)) (b := 2305843009213693951) (by decide)
    show tSeq _ _ _ [some (V.ref d), some (V.int n), some (V.int n), none, some (V.int ((m0 + 1000333 * (c0 + 1)) % 2305843009213693951)), none] _
    generalize (m0 + 1000333 * (c0 + 1)) % 2305843009213693951 = one at b1 b2
    refine ⟨_, rfl, _, rfl, _, _, rfl, rfl, .inl ⟨by omega, by omega⟩, _, _, rfl, rfl, (by show (0 : Int) < 2305843009213693921; decide), _, rfl, _, _, rfl, rfl, .inr ⟨by omega, by omega⟩, _, rfl, d, _, _, _, rfl, rfl, sq_of hd1, atD2 _ _ _, _, _, rfl, rfl, .inl ⟨by decide, by decide⟩, _, _, rfl, rfl, ?_⟩
    generalize (_ * one + _ : Int) = two
    refine ⟨_, rfl, _, _, rfl, rfl, (by show (0 : Int) < 2305843009213693907; decide), ?_⟩
    refine ⟨_, rfl, _, _, rfl, rfl, ⟨by decide, by decide⟩, _, rfl, _, _, rfl, rfl, h0, .inl ⟨_, rfl, ?_⟩⟩
    exact k _ _ _ _ (Int.emod_nonneg _ (by omega)) (Int.emod_lt_of_pos _ h0)
theorem ok_law_one_of {f : Addr} {fd : FuncData} {dvs : List V} (F : FunD K "_law_one_of" "_law_one_of" (defArgs s_law_one_of) (defBody s_law_one_of) (defScope s_law_one_of) dvs [] f fd) (T : Txt K mg)
    (c_law_roll : Cal P w K mg base 1 "_law_roll" sp_law_roll []) :
    FnOk P w K mg base CX0 2 f fd ["dice", "items"] (sp_law_one_of K) := by
  have nd := sc_law_one_of.nd
  refine ok0 F sc_law_one_of (fun vs H Q E h => by
    obtain ⟨d, a, xs, rfl, hs, hne, hl0, hl1, hd, k⟩ := h
    rfl) (fun cdv A outer s H vs Q E hr h => ?_)
  obtain ⟨d, a, xs, rfl, hs, hne, hl0, hl1, hd, k⟩ := h
  refine ⟨_, (pss_one (ps_ret (pe_ix (K7.ix_listK (K := K) rfl) (pv 1) (pe_c c_law_roll hr (by decide) (by rfl) (pa_cons (pv 0) (pa_cons (pe_callB (K7.call_lenK (K := K) rfl) (by rfl) T.b_len bt_len (pa_cons (pv 1) pa_nil)) pa_nil))) (fun _ _ => rfl)))), ?_⟩
  refine ⟨_, rfl, _, rfl, _, rfl, a, xs, rfl, .inl hs, d, _, rfl, by omega, by omega, hd, fun r l m c h0 hr => ?_⟩
  have hr' : r.toNat < xs.length := by omega
  have e : r = ((r.toNat : Nat) : Int) := by omega
  refine ⟨a, xs, _, xs[r.toNat], rfl, rfl, K7.kp_l (S := [d]) ((Kp.refl _ _).mut (by simp)) (by simpa using hne) hs, at_of e (List.getElem?_eq_getElem hr'), ?_⟩
  exact k r.toNat _ l m c (List.getElem?_eq_getElem hr')
theorem ok_law_mixed {f : Addr} {fd : FuncData} {dvs : List V} (F : FunD K "_law_mixed" "_law_mixed" (defArgs s_law_mixed) (defBody s_law_mixed) (defScope s_law_mixed) dvs [] f fd) (T : Txt K mg)
    (c_law_roll : Cal P w K mg base 1 "_law_roll" sp_law_roll []) :
    FnOk P w K mg base CX0 2 f fd ["dice", "items"] (sp_law_mixed K) := by
  have nd := sc_law_mixed.nd
  refine ok0 F sc_law_mixed (fun vs H Q E h => by
    obtain ⟨d, a, xs, rfl, hs, hok, hl, hd, k⟩ := h
    rfl) (fun cdv A outer s H vs Q E hr h => ?_)
  obtain ⟨d, a, xs, rfl, hs, hok, hl, hd, k⟩ := h
  refine ⟨_, (pss_cons (ps_par (i := 2) (j := 3) (by rfl) nd rfl rfl (by decide) rfl rfl (pa_cons (pe_callTy (K7.call_listK (K := K) rfl) (by rfl) T.b_list bt_list (pa_cons (pv 1) pa_nil)) (pa_cons (pe_lst pa_nil) pa_nil)) (by rfl))
     (pss_cons (ps_while PassesOwn.never (pt_cmpR (K7.op_neK (K := K) rfl hr.units) (pv 2) (pe_lst pa_nil) (nomark _)) (pss_one (ps_expr (K7.pe_bmK (K := K) rfl PySem.F.plainAttrs_list PySem.F.slot_list_append PySem.F.type_list_append mt_append (pv 3) (pa_cons (K7.pe_bmK (K := K) rfl PySem.F.plainAttrs_list PySem.F.slot_list_pop PySem.F.type_list_pop mt_popAt (pv 2) (pa_cons (pe_c c_law_roll hr (by decide) (by rfl) (pa_cons (pv 0) (pa_cons (pe_callB (K7.call_lenK (K := K) rfl) (by rfl) T.b_len bt_len (pa_cons (pv 2) pa_nil)) pa_nil))) pa_nil)) pa_nil)))))
     (pss_one (ps_ret (pv 3))))), ?_⟩
  refine ⟨_, rfl, a, _, rfl, .inl hs, fun l nl => ⟨Nat.zero_le _, fun q nq => ⟨_, _, rfl, ?_⟩⟩⟩
  have nlq : l ≠ q := ne_of_none (upd_same (H := H)) nq
  have nq0 : H q = none := by
    rw [upd_ne nlq.symm] at nq
    exact nq
  obtain ⟨l0, m0, c0, hd0⟩ := id hd
  have nld : l ≠ d := (ne_of_none hd0 nl).symm
  have nqd : q ≠ d := (ne_of_none hd0 nq0).symm
  refine ⟨fun c σ H' => ∃ zs ws : List Str, c = zs.length ∧ σ = [some (.ref d), some (.ref a), some (.ref l), some (.ref q)] ∧ H' l = some (.lst (zs.map V.str)) ∧ H' q = some (.lst (ws.map V.str)) ∧ (ws ++ zs).Perm xs ∧ DiceAt H' d ∧ Kp [d] H H',
    ⟨_, xs, [], rfl, rfl, by rw [upd_ne nlq]; exact upd_same, upd_same, List.Perm.refl _, ⟨l0, m0, c0, by rw [upd_ne nqd.symm, upd_ne nld.symm]; exact hd0⟩, ((Kp.refl _ _).old nl).old nq0⟩, ?_⟩
  rintro c σ H1 ⟨zs, ws, rfl, rfl, hz, hw, hp, hd1, kp⟩
  have hlen : ws.length + zs.length = xs.length := by rw [← List.length_append]; exact hp.length_eq
  refine ⟨_, rfl, Nat.zero_le _, fun b nb => ne_nil (sq_of (upd_get hz (ne_of_none hz nb))) (dp_strs zs) (sh_strs (fun x hx => hok x (hp.mem_iff.mp (List.mem_append_right _ hx))) 0) upd_same ⟨_, rfl, ?_⟩⟩
  cases zs with
  | nil =>
    refine iteF ⟨_, rfl, ?_⟩
    obtain ⟨l1, m1, c1, hd1⟩ := hd1
    exact k ws q _ (by simpa using hp) nq0 (upd_get hw (ne_of_none hw nb)) ⟨l1, m1, c1, upd_get hd1 (ne_of_none hd1 nb)⟩ (kp.new nb)
  | cons z zr =>
    refine iteT ?_
    obtain ⟨l1, m1, c1, hd1⟩ := hd1
    have hz2 := upd_get (o := .lst []) hz (ne_of_none hz nb)
    have hw2 := upd_get (o := .lst []) hw (ne_of_none hw nb)
    have hd2 := upd_get (o := .lst []) hd1 (ne_of_none hd1 nb)
    have hlen' : ws.length + (zr.length + 1) = xs.length := hlen
    refine ⟨_, fun σ' H' p => ⟨zr.length, by simp, p⟩, ?_⟩
    refine ⟨_, rfl, .inl ⟨rfl, _, sq_of hw2⟩, _, rfl, .inl ⟨rfl, _, sq_of hz2⟩, _, rfl, _, rfl, l, _, rfl, .inl (sq_of hz2), d, _, rfl, (by simp), (by simp; omega), ⟨_, _, _, hd2⟩, fun r l2 m2 c2 h0 hr => ?_⟩
    have hr2 : r < (((z :: zr).map V.str).length : Int) := hr
    have hr3 : r < ((z :: zr).length : Int) := by rw [List.length_map] at hr2; exact hr2
    have hr' : r.toNat < (z :: zr).length := by omega
    have hb63 : (zr.length : Int) ≤ 1000 := by omega
    have hr4 : r ≤ 1000 := by
      rw [List.length_cons] at hr3
      omega
    have hz3 := upd_get (o := DiceL l2 m2 c2) hz2 nld
    have hw3 := upd_get (o := DiceL l2 m2 c2) hw2 nqd
    refine ⟨l, _, r, r.toNat, .str (z :: zr)[r.toNat], rfl, rfl, hz3, by omega, by omega, seq_ix h0 hr2, ?_, ?_⟩
    · rw [List.getElem?_map, List.getElem?_eq_getElem hr']
      rfl
    refine ⟨q, _, _, rfl, rfl, upd_get hw3 nlq.symm, ?_, ?_⟩
    · rw [List.length_map]
      exact sz_lt (by omega)
    refine ⟨(z :: zr).eraseIdx r.toNat, ws ++ [(z :: zr)[r.toNat]], ?_, rfl, ?_, ?_, ?_, ⟨l2, m2, c2, ?_⟩, ?_⟩
    · rw [List.length_eraseIdx_of_lt hr']
      rfl
    · rw [upd_ne nlq, upd_same]
      refine congrArg (fun t => some (HO.lst t)) ?_
      rw [map_erase]
    · rw [upd_same, List.map_append]
      rfl
    · refine List.Perm.trans ?_ hp
      rw [List.append_assoc]
      refine List.Perm.append_left _ ?_
      exact erase_perm (z :: zr) r.toNat hr'
    · rw [upd_ne nqd.symm, upd_ne nld.symm, upd_same]
    · exact (((kp.new nb).mut (by simp)).old nl).old nq0
theorem ok_law_names {f : Addr} {fd : FuncData} {dvs : List V} (F : FunD K "_law_names" "_law_names" (defArgs s_law_names) (defBody s_law_names) (defScope s_law_names) dvs [] f fd) (T : Txt K mg)
    (c_law_mixed : Cal P w K mg base 2 "_law_mixed" (sp_law_mixed K) [])
    (c_law_roll : Cal P w K mg base 1 "_law_roll" sp_law_roll []) :
    FnOk P w K mg base CX0 3 f fd ["dice"] sp_law_names := by
  have nd := sc_law_names.nd
  refine ok0 F sc_law_names (fun vs H Q E h => by
    obtain ⟨d, rfl, hd, k⟩ := h
    rfl) (fun cdv A outer s H vs Q E hr h => ?_)
  obtain ⟨d, rfl, hd, k⟩ := h
  refine ⟨_, (pss_cons (ps_set (i := 1) nd rfl (Or.inl rfl) (pe_lst (pa_cons pe_str (pa_cons pe_str (pa_cons pe_str (pa_cons pe_str (pa_cons pe_str (pa_cons pe_str (pa_cons pe_str (pa_cons pe_str (pa_cons pe_str (pa_cons pe_str (pa_cons pe_str (pa_cons pe_str (pa_cons pe_str (pa_cons pe_str (pa_cons pe_str (pa_cons pe_str pa_nil))))))))))))))))))
     (pss_one (ps_ret (pe_slice (K7.sl_listK (K := K) rfl) (pe_c c_law_mixed hr (by decide) (by rfl) (pa_cons (pv 0) (pa_cons (pv 1) pa_nil))) po_none (po_some (pe_c c_law_roll hr (by decide) (by rfl) (pa_cons (pv 0) (pa_cons pe_int pa_nil)))))))), ?_⟩
  refine ⟨(by show 16 ≤ sizeLine; decide), fun p np => ?_⟩
  obtain ⟨l0, m0, c0, hd0⟩ := id hd
  have npd : p ≠ d := (ne_of_none hd0 np).symm
  have hb : (upd H p (.lst (someNames.map V.str))) p = some (.lst (someNames.map V.str)) := upd_same
  refine ⟨_, rfl, _, rfl, d, p, someNames, rfl, sq_of hb, some_ok, by decide, ⟨l0, m0, c0, by rw [upd_ne npd.symm]; exact hd0⟩, fun ys q H1 hp nq hq hd1 kp => ?_⟩
  have nq0 : H q = none := by
    rw [upd_ne (ne_of_none upd_same nq).symm] at nq
    exact nq
  obtain ⟨l1, m1, c1, hd1⟩ := hd1
  have nqd : q ≠ d := (ne_of_none hd0 nq0).symm
  refine ⟨_, rfl, d, 12, rfl, by decide, by decide, ⟨_, _, _, hd1⟩, fun r l m c h0 hr => ⟨r, rfl, q, _, rfl, sq_of (upd_get hq nqd), fun t nt => ?_⟩⟩
  have ec : cutV (ys.map V.str) none (some r) = (ys.take r.toNat).map V.str := by
    have e : r = ((r.toNat : Nat) : Int) := by omega
    unfold cutV
    rw [HT.sIx_none, e, HT.sIx_nat, List.drop_zero, Nat.sub_zero, Int.toNat_natCast, List.map_take]
    rw [List.take_eq_take_iff]
    omega
  rw [ec]
  have nt0 : H t = none := (K7.upd_out (kp.out (K7.upd_out nt).2 (by simp [hd1]))).2
  have hnd : someNames.Nodup := by decide
  refine k (ys.take r.toNat) t _ ?_ ?_ ?_ nt0 upd_same ⟨l, m, c, ?_⟩ ?_
  · exact (hp.nodup_iff.mpr hnd).sublist (List.take_sublist _ _)
  · rw [List.length_take]
    omega
  · exact fun x hx => hp.mem_iff.mp (List.mem_of_mem_take hx)
  · rw [upd_ne (ne_of_none upd_same nt)]
    exact upd_same
  · refine ((Kp.trans (K7.Kp.old (Kp.refl _ _) np) kp).mut (by simp)).old nt0
end
end K70
set_option Elab.async false
set_option linter.all false
set_option maxRecDepth 100000
set_option maxHeartbeats 4000000
namespace K70
open PySem PySem.Spec PyProof.Rows L2 Evl
open C8 (Cal Met Mak pe_c pe_mt pe_mt0 pe_mk pe_gc InsC call_isC)
open K7 (Kp ShOk upd_get eq_nil ne_nil dp_strs sh_strs strsD lc_val lc_ev tgt_name tgt_pair given_filter EvP seq_ix)
structure BkAt (H : Hp) (bs : List Addr) (ls : List (List Str)) : Prop where
  len : bs.length = ls.length
  at_ : ∀ (i : Nat) b l, bs[i]? = some b → ls[i]? = some l → H b = some (.lst (l.map V.str))
theorem BkAt.nil {H : Hp} : BkAt H [] [] := ⟨rfl, fun _ _ _ h => by simp at h⟩
theorem BkAt.some {H : Hp} {bs : List Addr} {ls : List (List Str)} (h : BkAt H bs ls) {b : Addr} (hb : b ∈ bs) : ∃ l ∈ ls, H b = some (.lst (l.map V.str)) := by
  obtain ⟨i, hi⟩ := List.getElem?_of_mem hb
  have hl : i < ls.length := by
    rw [← h.len]
    exact (List.getElem?_eq_some_iff.mp hi).1
  exact ⟨ls[i], List.getElem_mem hl, h.at_ i b _ hi (List.getElem?_eq_getElem hl)⟩
theorem BkAt.kp {S : List Addr} {H H' : Hp} {bs : List Addr} {ls : List (List Str)} (h : BkAt H bs ls) (k : Kp S H H') (n : ∀ b ∈ bs, b ∉ S) : BkAt H' bs ls :=
  ⟨h.len, fun i b l hb hl => k b _ (n b (List.mem_of_getElem? hb)) (h.at_ i b l hb hl)⟩
theorem BkAt.ex {H H' : Hp} {bs : List Addr} {ls : List (List Str)} (h : BkAt H bs ls) (k : Ex H H') : BkAt H' bs ls := ⟨h.len, fun i b l hb hl => k b _ (h.at_ i b l hb hl)⟩
theorem BkAt.put {H : Hp} {bs : List Addr} {ls : List (List Str)} (h : BkAt H bs ls) (nd : bs.Nodup) {j : Nat} {b : Addr} {l : List Str} (hb : bs[j]? = Option.some b) : BkAt (upd H b (.lst (l.map V.str))) bs (ls.set j l) := by
  refine ⟨by rw [List.length_set]; exact h.len, fun i c m hc hm => ?_⟩
  by_cases e : i = j
  · subst e
    have ec : c = b := Option.some.inj (hc.symm.trans hb)
    have hj : i < ls.length := by
      rw [← h.len]
      exact (List.getElem?_eq_some_iff.mp hb).1
    rw [List.getElem?_set_self hj] at hm
    rw [ec, ← Option.some.inj hm, upd_same]
  · rw [List.getElem?_set_ne (fun z => e z.symm)] at hm
    rw [upd_ne (fun z => e (nd_ix nd hc (by rw [z]; exact hb)))]
    exact h.at_ i c m hc hm
theorem nodup_set {α : Type} {q : α} : ∀ {l : List α} {i : Nat}, l.Nodup → q ∉ l → (l.set i q).Nodup
  | [], _, h, _ => h
  | a :: r, 0, h, n => List.nodup_cons.mpr ⟨fun z => n (List.mem_cons_of_mem _ z), (List.nodup_cons.mp h).2⟩
  | a :: r, i + 1, h, n => by
    obtain ⟨h1, h2⟩ := List.nodup_cons.mp h
    refine List.nodup_cons.mpr ⟨fun z => ?_, nodup_set h2 fun z => n (List.mem_cons_of_mem _ z)⟩
    rcases List.mem_or_eq_of_mem_set z with z | z
    · exact h1 z
    · exact n (by rw [z]; exact List.mem_cons_self)
theorem BkAt.swap {H H' : Hp} {bs : List Addr} {ls : List (List Str)} (h : BkAt H bs ls) {j : Nat} {q : Addr} {l : List Str} (k : ∀ (i : Nat) b, i ≠ j → bs[i]? = Option.some b → ∀ o, H b = Option.some o → H' b = Option.some o) (hq : H' q = Option.some (.lst (l.map V.str))) : BkAt H' (bs.set j q) (ls.set j l) := by
  refine ⟨by rw [List.length_set, List.length_set]; exact h.len, fun i c m hc hm => ?_⟩
  by_cases e : i = j
  · subst e
    have hj : i < bs.length := by
      have := (List.getElem?_eq_some_iff.mp hc).1
      rw [List.length_set] at this
      exact this
    rw [List.getElem?_set_self hj] at hc
    rw [List.getElem?_set_self (by rw [← h.len]; exact hj)] at hm
    rw [← Option.some.inj hc, ← Option.some.inj hm]
    exact hq
  · rw [List.getElem?_set_ne (fun z => e z.symm)] at hm hc
    exact k i c e hc _ (h.at_ i c m hc hm)
def OkL (ls : List (List Str)) : Prop := ∀ l ∈ ls, ∀ x ∈ l, PyData.strOk x = true
theorem dp_bk {K : PySem.W.Frag} {H : Hp} {bs : List Addr} {ls : List (List Str)} (h : BkAt H bs ls) : DpAll K H (bs.map V.ref) (ls.map fun l => .list (strsD l)) := by
  refine K7.dp_ix (by rw [List.length_map, List.length_map]; exact h.len) fun i v d hv hd => ?_
  rw [List.getElem?_map] at hv hd
  obtain ⟨b, hb, rfl⟩ := Option.map_eq_some_iff.mp hv
  obtain ⟨l, hl, rfl⟩ := Option.map_eq_some_iff.mp hd
  exact .lst (sq_of (h.at_ i b l hb hl)) (dp_strs l)
theorem sh_bk {ls : List (List Str)} (h : OkL ls) : ∀ d ∈ ls.map (fun l => PyData.list (strsD l)), ShOk d 1 := fun d hd => by
  obtain ⟨l, hl, rfl⟩ := List.mem_map.mp hd
  exact K7.sh_list (sh_strs (h l hl) 0)
def sp_empty_buckets : Sp := fun vs H Q _ => ∃ n : Nat, vs = [.int n] ∧ n ≤ 65536 ∧ ∀ (p : Addr) (bs : List Addr) (H' : Hp), H p = none → H' p = some (.lst (bs.map V.ref)) → BkAt H' bs (List.replicate n []) → (p :: bs).Nodup → (∀ b ∈ bs, H b = none) → Ex H H' → Q (.ref p) H'
def withoutL (ls : List (List Str)) (num : Int) (nm : Str) : List (List Str) :=
  if ls = [] then [] else ls.set (num % ls.length).toNat ((ls.getD (num % ls.length).toNat []).filter fun one => !decide (one = nm))
def sp_without_name : Sp := fun vs H Q _ => ∃ (a : Addr) (bs : List Addr) (ls : List (List Str)) (num : Int) (nm : Str), vs = [.ref a, .int num, .str nm] ∧ H a = some (.lst (bs.map V.ref)) ∧ BkAt H bs ls ∧ OkL ls ∧ ls.length ≤ 65536 ∧ (∀ l ∈ ls, l.length ≤ 65536) ∧ bs.Nodup ∧
  ∀ (p : Addr) (cs : List Addr) (H' : Hp), H p = none → H' p = some (.lst (cs.map V.ref)) → BkAt H' cs (withoutL ls num nm) → (∀ c ∈ cs, c ∈ bs ∨ H c = none) → p ∉ cs → cs.Nodup → Ex H H' → Q (.ref p) H'
section
variable {P : Program} {w : World} {K : PySem.W.Frag} {mg : Str → Option Value} {base : Heap}
theorem ok_empty_buckets {f : Addr} {fd : FuncData} {dvs : List V} (F : FunD K "empty_buckets" "empty_buckets" (defArgs s_empty_buckets) (defBody s_empty_buckets) (defScope s_empty_buckets) dvs [] f fd) (T : Txt K mg) :
    FnOk P w K mg base CX0 1 f fd ["many"] sp_empty_buckets := by
  have nd := sc_empty_buckets.nd
  refine ok0 F sc_empty_buckets (fun vs H Q E h => by
    obtain ⟨n, rfl, hn, k⟩ := h
    rfl) (fun cdv A outer s H vs Q E hr h => ?_)
  obtain ⟨n, rfl, hn, k⟩ := h
  refine ⟨_, (pss_one (ps_ret (pe_lc (own := [("at", 1)]) rfl nd (pi_range1 (by rfl) T.b_range (pa_cons (pv 0) pa_nil)) (blkOk_by (N := n_empty_buckets) (sc := defScope s_empty_buckets) (own := [("at", 1)]) (by decide +kernel)) (fun _ _ _ _ _ => (pg_name (i := 1) nd rfl (Or.inl rfl))) (fun _ _ _ _ _ => pts_nil) (fun _ _ _ _ _ => (pe_lst pa_nil))))), ?_⟩
  refine ⟨_, rfl, _, rfl, by omega, by omega, fun D hD => lc_range (lo := 0) (n := (n : Int).toNat) (fun i H' => ∃ bs : List Addr, H' D = some (.lst (bs.map V.ref)) ∧ BkAt H' bs (List.replicate i []) ∧ (D :: bs).Nodup ∧ (∀ b ∈ bs, H b = none) ∧ Ex H H')
    ⟨[], upd_same, BkAt.nil, by simp, fun _ h => (by cases h), Ex.new hD⟩ ?_ ?_⟩
  · rintro i H' hi ⟨bs, h1, hb, hnd, hf, e⟩
    have hi' : i < n := by simpa using hi
    refine ⟨rfl, Nat.zero_le _, fun q nq => ?_⟩
    have nDq : D ≠ q := ne_of_none h1 nq
    have nqb : q ∉ bs := fun z => by
      obtain ⟨l, _, hl⟩ := hb.some z
      rw [nq] at hl
      cases hl
    have nDb : D ∉ bs := (List.nodup_cons.mp hnd).1
    have lb : bs.length = i := by rw [hb.len, List.length_replicate]
    refine ⟨_, upd_get h1 nDq, ?_, bs ++ [q], ?_, ?_, ?_, ?_, ?_⟩
    · rw [List.length_map, lb]
      exact sz_lt (by omega)
    · rw [upd_same, List.map_append]
      rfl
    · refine ⟨by rw [List.length_append, List.length_replicate, lb]; rfl, fun j b l h2 h3 => ?_⟩
      have el : l = [] := by
        have := List.mem_of_getElem? h3
        exact (List.mem_replicate.mp this).2
      subst el
      by_cases hj : j < bs.length
      · rw [List.getElem?_append_left hj] at h2
        have hm := List.mem_of_getElem? h2
        rw [upd_ne (fun z => nDb (by rw [← z]; exact hm)), upd_ne (fun z => nqb (by rw [← z]; exact hm))]
        exact hb.at_ j b [] h2 (by rw [List.getElem?_replicate, if_pos (by omega)])
      · rw [List.getElem?_append_right (by omega)] at h2
        have hb' : b = q := by
          have := List.mem_of_getElem? h2
          simpa using this
        rw [hb', upd_ne nDq.symm, upd_same]
        rfl
    · rw [List.nodup_cons]
      refine ⟨fun z => ?_, ?_⟩
      · rcases List.mem_append.mp z with z | z
        · exact nDb z
        · exact nDq (List.mem_singleton.mp z)
      · rw [List.nodup_append]
        refine ⟨(List.nodup_cons.mp hnd).2, by simp, fun x hx y hy z => ?_⟩
        have := List.mem_singleton.mp hy
        exact nqb (by rw [← this, ← z]; exact hx)
    · intro b hbm
      rcases List.mem_append.mp hbm with z | z
      · exact hf b z
      · rw [List.mem_singleton.mp z]
        exact fresh_back e nq
    · exact Ex.mut (Ex.trans e (Ex.new nq)) hD
  · rintro H' ⟨bs, h1, hb, hnd, hf, e⟩
    exact k D bs H' hD h1 hb hnd hf e
theorem ok_without_name {f : Addr} {fd : FuncData} {dvs : List V} (F : FunD K "without_name" "without_name" (defArgs s_without_name) (defBody s_without_name) (defScope s_without_name) dvs [] f fd) (T : Txt K mg) :
    FnOk P w K mg base CX0 1 f fd ["buckets", "number", "name"] sp_without_name := by
  have nd := sc_without_name.nd
  refine ok0 F sc_without_name (fun vs H Q E h => by
    obtain ⟨a, bs, ls, num, nm, rfl, ha, hb, hok, hlen, hlens, hnd, k⟩ := h
    rfl) (fun cdv A outer s H vs Q E hr h => ?_)
  obtain ⟨a, bs, ls, num, nm, rfl, ha, hb, hok, hlen, hlens, hnd, k⟩ := h
  refine ⟨_, (pss_cons (ps_if (pt_cmpR (K7.op_eqK (K := K) rfl hr.units) (pv 0) (pe_lst pa_nil) (nomark _)) (pss_one (ps_ret (pe_lst pa_nil))) pss_nil)
     (pss_cons (ps_set (i := 3) nd rfl (Or.inr rfl) (pe_op op_mod (pv 1) (pe_callB (K7.call_lenK (K := K) rfl) (by rfl) T.b_len bt_len (pa_cons (pv 0) pa_nil))))
     (pss_one (ps_ret (pe_lc (own := [("index", 4), ("bucket", 5)]) rfl nd (K7.pi_enumK (K := K) rfl (by rfl) T.b_enumerate (pa_cons (pv 0) pa_nil)) (blkOk_by (N := n_without_name) (sc := defScope s_without_name) (own := [("index", 4), ("bucket", 5)]) (by decide +kernel)) (fun _ _ _ _ _ => (K7.pg_tupK (K := K) (n := 2) rfl (by rfl) (pgs_cons (pg_name (i := 4) nd rfl (Or.inl rfl)) (pgs_cons (pg_name (i := 5) nd rfl (Or.inl rfl)) pgs_nil)))) (fun _ _ _ _ _ => pts_nil) (fun _ _ _ _ _ => (pe_ifExp (pt_cmpR op_eq (pv 4) (pv 3) (nomark _)) (pe_lc (own := [("one", 6)]) rfl nd (K7.pi_listK (K := K) rfl (pv 5)) (blkOk_by (own := [("one", 6)]) (by rfl)) (fun _ _ _ _ _ => (pg_name (i := 6) nd rfl (Or.inl rfl))) (fun _ _ _ _ _ => (pts_one (pt_cmpR op_ne (pv 6) (pv 2) (nomark _)))) (fun _ _ _ _ _ => (pv 6))) (pv 5)))))))), ?_⟩
  refine ⟨_, rfl, Nat.zero_le _, fun p np => eq_nil (sq_of (upd_get ha (ne_of_none ha np))) (dp_bk (hb.ex (Ex.new np))) (sh_bk hok) upd_same ⟨_, rfl, ?_⟩⟩
  have e0 : Ex H (upd H p (.lst [])) := Ex.new np
  have ha0 : (upd H p (.lst [])) a = some (.lst (bs.map V.ref)) := e0 a _ ha
  have hb0 : BkAt (upd H p (.lst [])) bs ls := hb.ex e0
  generalize upd H p (.lst []) = H0 at e0 ha0 hb0
  by_cases hbs : bs = []
  · have hls : ls = [] := List.eq_nil_of_length_eq_zero (by rw [← hb.len, hbs]; rfl)
    subst hbs hls
    refine itB rfl ⟨Nat.zero_le _, fun q nq => ?_⟩
    exact k q [] _ (fresh_back e0 nq) upd_same BkAt.nil (fun c hc => by cases hc) (by simp) List.nodup_nil (Ex.trans e0 (Ex.new nq))
  · refine itN (decide_eq_false fun z => hbs (List.map_eq_nil_iff.mp z)) ?_
    have hpos : 0 < bs.length := List.length_pos_iff.mpr hbs
    have hmod : ((bs.map V.ref).length : Int) = (ls.length : Int) := by rw [List.length_map, hb.len]
    refine ⟨_, rfl, _, rfl, a, _, rfl, .inl (sq_of ha0), _, _, rfl, rfl, (by show (0 : Int) < ((bs.map V.ref).length : Int); rw [List.length_map]; omega), ?_⟩
    dsimp only [gName]
    rw [hmod]
    have hlp : (0 : Int) < ls.length := by rw [← hb.len]; omega
    have m0 := Int.emod_nonneg num (b := (ls.length : Int)) (by omega)
    have m1 := Int.emod_lt_of_pos num hlp
    obtain ⟨k0, hk0⟩ : ∃ k0 : Nat, num % (ls.length : Int) = (k0 : Int) := ⟨(num % (ls.length : Int)).toNat, by omega⟩
    rw [hk0]
    rw [hk0] at m1
    have hk1 : k0 < ls.length := by omega
    have hkb : k0 < bs.length := by rw [hb.len]; exact hk1
    have hwl : withoutL ls num nm = ls.set k0 (ls[k0].filter fun one => !decide (one = nm)) := by
      unfold withoutL
      rw [if_neg (fun z => by rw [z] at hk1; cases hk1), hk0]
      simp [hk1]
    refine ⟨_, rfl, a, _, rfl, sq_of ha0, fun D hD => lc_it walk_enum (fun i H' => Ex H0 H' ∧ ((i ≤ k0 ∧ H' D = some (.lst ((bs.take i).map V.ref))) ∨
      (k0 < i ∧ ∃ q, H0 q = none ∧ q ≠ D ∧ H' q = some (.lst ((ls[k0].filter fun one => !decide (one = nm)).map V.str)) ∧ H' D = some (.lst (((bs.set k0 q).take i).map V.ref)))))
      ⟨Ex.new hD, .inl ⟨Nat.zero_le _, upd_same⟩⟩ (fun i H' _ p => sq_of (p.1 a _ ha0)) ?_ ?_⟩
    · rintro i x H1 H2 hi ⟨e1, hP⟩ ⟨T, x1, y1, rfl, nT, rfl, ex, ey⟩
      have hi' : i < bs.length := by rw [List.length_map] at hi; exact hi
      have ex1 : x1 = V.int (i : Nat) := (Option.some.inj ex).symm
      have ey1 : y1 = V.ref bs[i] := by
        have ey : (bs.map V.ref)[i]? = some y1 := ey
        rw [List.getElem?_map, List.getElem?_eq_getElem hi'] at ey
        exact (Option.some.inj ey).symm
      subst ex1 ey1
      have nTD : D ≠ T := by
        rcases hP with ⟨_, h⟩ | ⟨_, q, _, _, _, h⟩
        · exact ne_of_none h nT
        · exact ne_of_none h nT
      have e2 : Ex H0 (upd H1 T (.tup [.int (i : Nat), .ref bs[i]])) := Ex.trans e1 (Ex.new nT)
      refine ⟨T, [.int (i : Nat), .ref bs[i]], rfl, st_of upd_same, rfl, _, _, rfl, _, _, rfl, rfl, rfl, ?_⟩
      refine ⟨_, rfl, _, rfl, rfl, _, rfl, ?_⟩
      by_cases hik : i = k0
      · have hP' : H1 D = some (.lst ((bs.take i).map V.ref)) := by
          rcases hP with ⟨_, h⟩ | ⟨h, _⟩
          · exact h
          · omega
        have hl : i < ls.length := by omega
        have hbi : H0 bs[i] = some (.lst (ls[i].map V.str)) := hb0.at_ i _ _ (List.getElem?_eq_getElem hi') (List.getElem?_eq_getElem hl)
        refine itB (decide_eq_true (by rw [hik])) ⟨_, rfl, bs[i], rfl, ⟨_, sq_of (e2 _ _ hbi)⟩, fun D2 hD2 => ?_⟩
        have hlen2 : ls[i].length ≤ 65536 := hlens _ (List.getElem_mem hl)
        refine lc_val (w := walk_list (K := K) (a := bs[i]) (xs := ls[i].map V.str)) (fun j => !decide (ls[i].getD j "" = nm)) (fun j => V.str (ls[i].getD j "")) hD2 (by rw [List.length_map]; omega) (fun H3 e3 => sq_of ((Ex.trans e2 e3) _ _ hbi)) ?_ ?_
        · rintro j y H3 H4 hj e3 _ ⟨rfl, hy⟩
          have hj' : j < ls[i].length := by rw [List.length_map] at hj; exact hj
          have ey : y = V.str ls[i][j] := by
            rw [List.getElem?_map, List.getElem?_eq_getElem hj'] at hy
            exact (Option.some.inj hy).symm
          subst ey
          have eg : ls[i].getD j "" = ls[i][j] := by simp [hj']
          refine ⟨Ex.refl _, _, tgt_name, rfl, ?_, fun _ => ?_⟩
          · refine et_is (et_test (ev_op (ev_var rfl) (ev_var rfl) (rv_ne rfl))) ?_
            rw [eg]
            by_cases hz : ls[i][j] = nm
            · simp [hz]
            · simp [hz]
          · rw [eg]
            exact ev_var rfl
        · intro H3 e3 h3
          have eg : given (ls[i].map V.str).length (fun j => !decide (ls[i].getD j "" = nm)) (fun j => V.str (ls[i].getD j "")) = (ls[i].filter fun one => !decide (one = nm)).map V.str := by
            rw [List.length_map]
            refine given_filter ls[i] (fun one => !decide (one = nm)) V.str _ _ (fun j y hy => ?_) (fun j y hy => ?_)
            · simp [List.getD_eq_getElem?_getD, hy]
            · simp [List.getD_eq_getElem?_getD, hy]
          rw [eg] at h3
          have hD3 : H3 D = some (.lst ((bs.take i).map V.ref)) := e3 D _ (upd_get hP' nTD)
          have nDD : D2 ≠ D := (ne_of_none (upd_get (o := .tup [.int (i : Nat), .ref bs[i]]) hP' nTD) hD2).symm
          refine ⟨_, hD3, ?_, Ex.mut (Ex.trans e2 e3) hD, .inr ⟨by omega, D2, fresh_back e2 hD2, nDD, ?_, ?_⟩⟩
          · rw [List.length_map, List.length_take]
            exact sz_lt (by omega)
          · rw [upd_ne nDD, h3]
            subst hik
            rfl
          · rw [upd_same]
            refine congrArg (fun t => some (HO.lst t)) ?_
            rw [List.take_add_one, List.map_append, hik, List.take_set_of_le (Nat.le_refl _), List.getElem?_set_self hkb]
            rfl
      · refine itN (decide_eq_false fun z => hik (by have := V.int.inj z; omega)) ⟨_, rfl, ?_⟩
        rcases hP with ⟨hle, h⟩ | ⟨hlt, q, nq, nqD, hq, h⟩
        · refine ⟨_, upd_get h nTD, ?_, Ex.mut e2 hD, .inl ⟨by omega, ?_⟩⟩
          · rw [List.length_map, List.length_take]
            exact sz_lt (by omega)
          · rw [upd_same, List.take_add_one, List.map_append, List.getElem?_eq_getElem hi']
            rfl
        · refine ⟨_, upd_get h nTD, ?_, Ex.mut e2 hD, .inr ⟨by omega, q, nq, nqD, ?_, ?_⟩⟩
          · rw [List.length_map, List.length_take, List.length_set]
            exact sz_lt (by omega)
          · rw [upd_ne nqD]
            exact upd_get hq (ne_of_none hq nT)
          · rw [upd_same, List.take_add_one, List.map_append, List.getElem?_set_ne (fun z => hik z.symm), List.getElem?_eq_getElem hi']
            rfl
    · rintro H' ⟨e1, hP⟩
      rw [List.length_map] at hP
      rcases hP with ⟨hle, _⟩ | ⟨_, q, nq, nqD, hq, h⟩
      · omega
      · rw [List.take_of_length_le (by rw [List.length_set]; exact Nat.le_refl _)] at h
        have nq0 := fresh_back e0 nq
        have nqb : q ∉ bs := fun z => by
          obtain ⟨l, _, hl⟩ := hb.some z
          rw [nq0] at hl
          cases hl
        have nDb : D ∉ bs := fun z => by
          obtain ⟨l, _, hl⟩ := hb0.some z
          rw [hD] at hl
          cases hl
        refine k D (bs.set k0 q) H' (fresh_back e0 hD) h ?_ (fun c hc => ?_) (fun z => ?_) ?_ (Ex.trans e0 e1)
        · rw [hwl]
          exact hb0.swap (fun i b _ _ o ho => e1 b o ho) hq
        · rcases List.mem_or_eq_of_mem_set hc with z | z
          · exact .inl z
          · exact .inr (by rw [z]; exact nq0)
        · rcases List.mem_or_eq_of_mem_set z with z | z
          · exact nDb z
          · exact nqD z.symm
        · exact nodup_set hnd nqb
end
end K70
set_option Elab.async false
set_option linter.all false
set_option maxRecDepth 100000
set_option maxHeartbeats 4000000
namespace K70
open PySem PySem.Spec PyProof.Rows L2 Evl
structure Tb where
  vals : List (Str × V)
  hk : List Str
  names : List Str
  old : List (List Str)
  new : List (List Str)
  moved : Nat
def leN (g : Str → Int) (x y : Str) : Prop := K7.leIS (0, spotI (g x), x) (0, spotI (g y), y)
def NameOk (x : Str) : Prop := TextOk x ∧ PyData.strOk x = true
def InB (g : Str → Int) (ls : List (List Str)) : Prop := ∀ (i : Nat) l x, ls[i]? = some l → x ∈ l → g x % (ls.length : Int) = (i : Int)
structure Inv (g : Str → Int) (T : Tb) : Prop where
  keys : T.vals.map (·.1) = T.hk
  nd : T.hk.Nodup
  txt : ∀ x ∈ T.hk, NameOk x
  rng : ∀ x ∈ T.hk, 0 ≤ g x ∧ g x < 65536
  few : T.hk.length ≤ 100
  old : ∃ n, 2 ≤ n ∧ n ≤ 16 ∧ T.old.length = 2 ^ n
  new : (T.new = [] ∧ T.moved = 0) ∨ (T.moved < T.old.length ∧ ∃ n, 2 ≤ n ∧ n ≤ 16 ∧ T.new.length = 2 ^ n)
  mv : ∀ i, i < T.moved → T.old[i]? = some []
  ino : InB g T.old
  inn : InB g T.new
  flat : (T.old.flatten ++ T.new.flatten).Perm T.hk
  perm : T.names.Perm T.hk
  srt : T.names.Pairwise (leN g)
theorem flat_set {α : Type} : ∀ {ls : List (List α)} {i : Nat} {l : List α}, i < ls.length → (ls.set i l).flatten.Perm (l ++ (ls.eraseIdx i).flatten)
  | a :: r, 0, l, _ => by simp
  | a :: r, i + 1, l, h => by
    have ih := flat_set (ls := r) (i := i) (l := l) (by simpa using h)
    show (a ++ (r.set i l).flatten).Perm (l ++ (a ++ (r.eraseIdx i).flatten))
    refine (List.Perm.append_left a ih).trans ?_
    rw [← List.append_assoc, ← List.append_assoc]
    exact List.Perm.append_right _ List.perm_append_comm
theorem flat_at {α : Type} {ls : List (List α)} {i : Nat} (h : i < ls.length) : ls.flatten.Perm (ls[i] ++ (ls.eraseIdx i).flatten) := by
  have := flat_set (ls := ls) (i := i) (l := ls[i]) h
  rwa [List.set_getElem_self] at this
theorem mem_flat {α : Type} {ls : List (List α)} {i : Nat} {l : List α} {x : α} (h : ls[i]? = some l) (hx : x ∈ l) : x ∈ ls.flatten := List.mem_flatten.mpr ⟨l, List.mem_of_getElem? h, hx⟩
theorem InB.set {g : Str → Int} {ls : List (List Str)} (h : InB g ls) {i : Nat} {l : List Str} (hl : ∀ x ∈ l, g x % (ls.length : Int) = (i : Int)) : InB g (ls.set i l) := by
  intro j m x hm hx
  rw [List.length_set]
  by_cases e : j = i
  · subst e
    have hj : j < ls.length := by
      have := (List.getElem?_eq_some_iff.mp hm).1
      rwa [List.length_set] at this
    rw [List.getElem?_set_self hj] at hm
    rw [← Option.some.inj hm] at hx
    exact hl x hx
  · rw [List.getElem?_set_ne (fun z => e z.symm)] at hm
    exact h j m x hm hx
def addTo (ls : List (List Str)) (num : Int) (x : Str) : List (List Str) := ls.set (num % (ls.length : Int)).toNat (ls.getD (num % (ls.length : Int)).toNat [] ++ [x])
theorem addTo_len (ls : List (List Str)) (num : Int) (x : Str) : (addTo ls num x).length = ls.length := by unfold addTo; rw [List.length_set]
theorem bix {ls : List (List Str)} (num : Int) (h : 0 < ls.length) : ∃ k : Nat, k < ls.length ∧ num % (ls.length : Int) = (k : Int) := by
  have m0 := Int.emod_nonneg num (b := (ls.length : Int)) (by omega)
  have m1 := Int.emod_lt_of_pos num (b := (ls.length : Int)) (by omega)
  exact ⟨(num % (ls.length : Int)).toNat, by omega, by omega⟩
theorem addTo_at {ls : List (List Str)} {num : Int} {x : Str} {k : Nat} (hk : k < ls.length) (e : num % (ls.length : Int) = (k : Int)) : addTo ls num x = ls.set k (ls[k] ++ [x]) := by
  unfold addTo
  rw [e]
  simp [hk]
theorem addTo_flat {ls : List (List Str)} {num : Int} {x : Str} (h : 0 < ls.length) : (addTo ls num x).flatten.Perm (x :: ls.flatten) := by
  obtain ⟨k, hk, e⟩ := bix num h
  rw [addTo_at hk e]
  refine (flat_set hk).trans ?_
  rw [List.append_assoc]
  refine List.Perm.trans ?_ (List.Perm.cons x (flat_at hk).symm)
  exact List.perm_middle
theorem addTo_in {g : Str → Int} {ls : List (List Str)} {x : Str} (h : InB g ls) (hp : 0 < ls.length) : InB g (addTo ls (g x) x) := by
  obtain ⟨k, hk, e⟩ := bix (g x) hp
  rw [addTo_at hk e]
  refine h.set fun y hy => ?_
  rcases List.mem_append.mp hy with z | z
  · exact h k ls[k] y (List.getElem?_eq_getElem hk) z
  · rw [List.mem_singleton.mp z]
    exact e
def addAll (g : Str → Int) (ls : List (List Str)) (xs : List Str) : List (List Str) := xs.foldl (fun m x => addTo m (g x) x) ls
theorem addAll_ok {g : Str → Int} : ∀ {xs : List Str} {ls : List (List Str)}, InB g ls → 0 < ls.length → (addAll g ls xs).length = ls.length ∧ InB g (addAll g ls xs) ∧ (addAll g ls xs).flatten.Perm (xs ++ ls.flatten)
  | [], ls, h, _ => ⟨rfl, h, .refl _⟩
  | x :: r, ls, h, hp => by
    obtain ⟨a, b, c⟩ := addAll_ok (xs := r) (addTo_in (x := x) h hp) (by rw [addTo_len]; exact hp)
    refine ⟨by rw [← addTo_len ls (g x) x]; exact a, b, ?_⟩
    refine c.trans ?_
    refine (List.Perm.append_left r (addTo_flat hp)).trans ?_
    exact List.perm_middle
def moveOn (g : Str → Int) (T : Tb) : Tb :=
  if T.new = [] then T else
  if T.moved + 1 = T.old.length then { T with old := addAll g T.new (T.old.getD T.moved []), new := [], moved := 0 }
  else { T with old := T.old.set T.moved [], new := addAll g T.new (T.old.getD T.moved []), moved := T.moved + 1 }
theorem moveOn_vals (g : Str → Int) (T : Tb) : (moveOn g T).vals = T.vals := by
  unfold moveOn
  split
  · rfl
  · split <;> rfl
theorem inB_nil (g : Str → Int) : InB g [] := fun i l x h => by simp at h
theorem inv_moveOn {g : Str → Int} {T : Tb} (I : Inv g T) : Inv g (moveOn g T) := by
  unfold moveOn
  by_cases hn : T.new = []
  · rw [if_pos hn]
    exact I
  · rw [if_neg hn]
    obtain ⟨hm, n, h2, h16, hl⟩ := I.new.resolve_left fun z => hn z.1
    have hp : 0 < T.new.length := by rw [hl]; exact Nat.pow_pos (by decide)
    have e1 : T.old.getD T.moved [] = T.old[T.moved] := by simp [hm]
    rw [e1]
    obtain ⟨a1, a2, a3⟩ := addAll_ok (xs := T.old[T.moved]) I.inn hp
    have fl : ((T.old.set T.moved []).flatten ++ (addAll g T.new T.old[T.moved]).flatten).Perm T.hk := by
      refine List.Perm.trans ?_ I.flat
      refine (List.Perm.append (flat_set hm) a3).trans ?_
      rw [List.nil_append, ← List.append_assoc]
      exact List.Perm.append_right _ (List.perm_append_comm.trans (flat_at hm).symm)
    split
    · rename_i he
      refine ⟨I.keys, I.nd, I.txt, I.rng, I.few, ⟨n, h2, h16, a1.trans hl⟩, .inl ⟨rfl, rfl⟩, fun i hi => absurd hi (Nat.not_lt_zero _), a2, inB_nil g, ?_, I.perm, I.srt⟩
      have hempty : (T.old.set T.moved []).flatten = [] := by
        rw [List.flatten_eq_nil_iff]
        intro l hl'
        obtain ⟨i, hi⟩ := List.getElem?_of_mem hl'
        have hi2 : i < T.old.length := by
          have := (List.getElem?_eq_some_iff.mp hi).1
          rwa [List.length_set] at this
        by_cases e : i = T.moved
        · subst e
          rw [List.getElem?_set_self hm] at hi
          exact (Option.some.inj hi).symm
        · rw [List.getElem?_set_ne (fun z => e z.symm), I.mv i (by omega)] at hi
          exact (Option.some.inj hi).symm
      rw [hempty] at fl
      show ((addAll g T.new T.old[T.moved]).flatten ++ [].flatten).Perm T.hk
      rw [List.flatten_nil, List.append_nil]
      exact fl
    · rename_i he
      obtain ⟨no, ho⟩ := I.old
      refine ⟨I.keys, I.nd, I.txt, I.rng, I.few, ⟨no, by simpa using ho⟩, .inr ⟨by show _ < (T.old.set _ _).length; rw [List.length_set]; show T.moved + 1 < _; omega, n, h2, h16, a1.trans hl⟩, fun i hi => ?_, I.ino.set (fun x hx => by cases hx), a2, fl, I.perm, I.srt⟩
      have hi' : i < T.moved + 1 := hi
      show (T.old.set T.moved [])[i]? = some []
      by_cases e : i = T.moved
      · subst e
        exact List.getElem?_set_self hm
      · rw [List.getElem?_set_ne (fun z => e z.symm)]
        exact I.mv i (by omega)
theorem inv_putNew {g : Str → Int} {T : Tb} {x : Str} {v : V} {ns : List Str} (I : Inv g T) (hx : x ∉ T.hk) (tx : NameOk x) (rx : 0 ≤ g x ∧ g x < 65536) (hf : T.hk.length < 100) (hp : ns.Perm (T.hk ++ [x])) (hs : ns.Pairwise (leN g)) :
    Inv g ⟨T.vals ++ [(x, v)], T.hk ++ [x], ns, if T.new = [] then addTo T.old (g x) x else T.old, if T.new = [] then T.new else addTo T.new (g x) x, T.moved⟩ := by
  obtain ⟨no, o2, o16, ol⟩ := I.old
  have op : 0 < T.old.length := by rw [ol]; exact Nat.pow_pos (by decide)
  have keys : (T.vals ++ [(x, v)]).map (·.1) = T.hk ++ [x] := by rw [List.map_append, I.keys]; rfl
  have nd : (T.hk ++ [x]).Nodup := by
    rw [List.nodup_append]
    exact ⟨I.nd, by simp, fun a ha b hb e => hx (by rw [← List.mem_singleton.mp hb, ← e]; exact ha)⟩
  have txt : ∀ y ∈ T.hk ++ [x], NameOk y := fun y hy => by
    rcases List.mem_append.mp hy with z | z
    · exact I.txt y z
    · rw [List.mem_singleton.mp z]; exact tx
  have rng : ∀ y ∈ T.hk ++ [x], 0 ≤ g y ∧ g y < 65536 := fun y hy => by
    rcases List.mem_append.mp hy with z | z
    · exact I.rng y z
    · rw [List.mem_singleton.mp z]; exact rx
  have few : (T.hk ++ [x]).length ≤ 100 := by rw [List.length_append]; show T.hk.length + 1 ≤ 100; omega
  by_cases hn : T.new = []
  · simp only [if_pos hn]
    have hm : T.moved = 0 := by
      rcases I.new with z | ⟨_, n, h2, _, hl⟩
      · exact z.2
      · rw [hn] at hl
        have : 0 < 2 ^ n := Nat.pow_pos (by decide)
        simp at hl
        omega
    refine ⟨keys, nd, txt, rng, few, ⟨no, o2, o16, by rw [addTo_len]; exact ol⟩, .inl ⟨hn, hm⟩, fun i hi => absurd (show i < T.moved from hi) (by omega), addTo_in I.ino op, I.inn, ?_, hp, hs⟩
    show ((addTo T.old (g x) x).flatten ++ T.new.flatten).Perm (T.hk ++ [x])
    refine (List.Perm.append_right _ (addTo_flat op)).trans ?_
    exact (List.Perm.cons x I.flat).trans (List.perm_append_comm (l₁ := [x]))
  · simp only [if_neg hn]
    obtain ⟨hm, n, h2, h16, hl⟩ := I.new.resolve_left fun z => hn z.1
    have np : 0 < T.new.length := by rw [hl]; exact Nat.pow_pos (by decide)
    refine ⟨keys, nd, txt, rng, few, ⟨no, o2, o16, ol⟩, .inr ⟨hm, n, h2, h16, by rw [addTo_len]; exact hl⟩, I.mv, I.ino, addTo_in I.inn np, ?_, hp, hs⟩
    show (T.old.flatten ++ (addTo T.new (g x) x).flatten).Perm (T.hk ++ [x])
    refine (List.Perm.append_left _ (addTo_flat np)).trans ?_
    exact List.perm_middle.trans ((List.Perm.cons x I.flat).trans (List.perm_append_comm (l₁ := [x])))
theorem inv_vals {g : Str → Int} {T : Tb} {vs : List (Str × V)} (I : Inv g T) (h : vs.map (·.1) = T.hk) : Inv g { T with vals := vs } := ⟨h, I.nd, I.txt, I.rng, I.few, I.old, I.new, I.mv, I.ino, I.inn, I.flat, I.perm, I.srt⟩
theorem inv_begin {g : Str → Int} {T : Tb} {n : Nat} (I : Inv g T) (hn : T.new = []) (h2 : 2 ≤ n) (h16 : n ≤ 16) : Inv g { T with new := List.replicate (2 ^ n) [], moved := 0 } := by
  obtain ⟨no, o2, o16, ol⟩ := I.old
  have op : 0 < T.old.length := by rw [ol]; exact Nat.pow_pos (by decide)
  refine ⟨I.keys, I.nd, I.txt, I.rng, I.few, ⟨no, o2, o16, ol⟩, .inr ⟨op, n, h2, h16, by simp⟩, fun i hi => absurd hi (Nat.not_lt_zero _), I.ino, fun i l x hl hx => ?_, ?_, I.perm, I.srt⟩
  · have e : l = [] := (List.mem_replicate.mp (List.mem_of_getElem? hl)).2
    rw [e] at hx
    cases hx
  · have f := I.flat
    rw [hn] at f
    show (T.old.flatten ++ (List.replicate (2 ^ n) []).flatten).Perm T.hk
    have e : (List.replicate (2 ^ n) ([] : List Str)).flatten = [] := by
      rw [List.flatten_eq_nil_iff]
      intro l hl
      exact (List.mem_replicate.mp hl).2
    rw [e]
    exact f
def ne1 (x : Str) : Str → Bool := fun one => !decide (one = x)
theorem without_len (ls : List (List Str)) (num : Int) (x : Str) : (withoutL ls num x).length = ls.length := by
  unfold withoutL
  split
  · rename_i h
    rw [h]
  · rw [List.length_set]
theorem without_get {g : Str → Int} {ls : List (List Str)} {x : Str} (h : InB g ls) (i : Nat) : (withoutL ls (g x) x)[i]? = (ls[i]?).map (·.filter (ne1 x)) := by
  unfold withoutL
  by_cases hn : ls = []
  · rw [if_pos hn, hn]
    rfl
  · rw [if_neg hn]
    obtain ⟨k, hk, e⟩ := bix (g x) (List.length_pos_iff.mpr hn)
    rw [e, Int.toNat_natCast]
    by_cases hi : i = k
    · subst hi
      rw [List.getElem?_set_self hk, List.getElem?_eq_getElem hk]
      simp [hk]
      rfl
    · rw [List.getElem?_set_ne (fun z => hi z.symm)]
      cases hq : ls[i]? with
      | none => rfl
      | some l =>
        refine congrArg some ?_
        symm
        refine List.filter_eq_self.mpr fun y hy => ?_
        have h1 := h i l y hq hy
        have ny : y ≠ x := fun z => by
          rw [z, e] at h1
          omega
        simp [ne1, ny]
theorem without_map {g : Str → Int} {ls : List (List Str)} {x : Str} (h : InB g ls) : withoutL ls (g x) x = ls.map (·.filter (ne1 x)) := by
  refine List.ext_getElem? fun i => ?_
  rw [without_get h, List.getElem?_map]
theorem filter_flat {α : Type} (p : α → Bool) : ∀ ls : List (List α), (ls.map (·.filter p)).flatten = ls.flatten.filter p
  | [] => rfl
  | l :: r => by
    show l.filter p ++ (r.map (·.filter p)).flatten = (l ++ r.flatten).filter p
    rw [List.filter_append, filter_flat p r]
theorem inB_filter {g : Str → Int} {ls : List (List Str)} {p : Str → Bool} (h : InB g ls) : InB g (ls.map (·.filter p)) := by
  intro i l x hl hx
  rw [List.getElem?_map] at hl
  obtain ⟨m, hm, rfl⟩ := Option.map_eq_some_iff.mp hl
  rw [List.length_map]
  exact h i m x hm (List.mem_filter.mp hx).1
theorem inv_take {g : Str → Int} {T : Tb} {x : Str} (I : Inv g T) : Inv g ⟨T.vals.filter (fun q => ne1 x q.1), T.hk.filter (ne1 x), T.names.filter (ne1 x), withoutL T.old (g x) x, withoutL T.new (g x) x, T.moved⟩ := by
  rw [without_map I.ino, without_map I.inn]
  obtain ⟨no, o2, o16, ol⟩ := I.old
  refine ⟨?_, I.nd.sublist List.filter_sublist, fun y hy => I.txt y (List.mem_filter.mp hy).1, fun y hy => I.rng y (List.mem_filter.mp hy).1, Nat.le_trans (List.length_filter_le _ _) I.few,
    ⟨no, o2, o16, by rw [List.length_map]; exact ol⟩, ?_, fun i hi => ?_, inB_filter I.ino, inB_filter I.inn, ?_, I.perm.filter _, I.srt.filter _⟩
  · rw [← I.keys, List.filter_map]
    rfl
  · rcases I.new with ⟨z1, z2⟩ | ⟨hm, n, h2, h16, hl⟩
    · exact .inl ⟨by show T.new.map _ = []; rw [z1]; rfl, z2⟩
    · exact .inr ⟨by show T.moved < (T.old.map _).length; rw [List.length_map]; exact hm, n, h2, h16, by rw [List.length_map]; exact hl⟩
  · show (T.old.map _)[i]? = some []
    rw [List.getElem?_map, I.mv i hi]
    rfl
  · show ((T.old.map _).flatten ++ (T.new.map _).flatten).Perm _
    rw [filter_flat, filter_flat, ← List.filter_append]
    exact I.flat.filter _
end K70
set_option Elab.async false
set_option linter.all false
set_option maxRecDepth 100000
set_option maxHeartbeats 4000000
namespace K70
open PySem PySem.Spec PyProof.Rows L2 Evl
open C8 (Cal Met Mak pe_c pe_mt pe_mt0 pe_mk pe_gc InsC call_isC)
open K7 (Kp ShOk upd_get eq_nil ne_nil dp_strs sh_strs strsD lc_val lc_ev tgt_name tgt_pair given_filter EvP seq_ix HeldF FnH)
structure Ad where
  p : Addr
  dx : Addr
  sp : Addr
  dv : Addr
  dh : Addr
  ds : Addr
  ln : Addr
  lo : Addr
  lw : Addr
  bo : List Addr
  bn : List Addr
def Ad.own (A : Ad) : List Addr := A.p :: A.dv :: A.dh :: A.ds :: A.ln :: A.lo :: A.lw :: (A.bo ++ A.bn)
abbrev TC (K : PySem.W.Frag) : Addr := He.ga K "Table"
def fsA (A : Ad) (m : Nat) : List (Str × V) := [("own_spread", .ref A.sp), ("own_values", .ref A.dv), ("own_hashes", .ref A.dh), ("own_spots", .ref A.ds), ("own_names", .ref A.ln), ("own_old", .ref A.lo), ("own_new", .ref A.lw), ("own_moved", .int m)]
def valsD (vs : List (Str × V)) : List (Key × V) := vs.map fun q => (Sum.inr q.1, q.2)
def numsD (g : Str → Int) (ks : List Str) : List (Key × V) := ks.map fun x => (Sum.inr x, V.int (g x))
structure TabH (K : PySem.W.Frag) (g : Str → Int) (H : Hp) (A : Ad) (T : Tb) : Prop where
  ins : H A.p = some (.ins (TC K) A.dx (fsA A T.moved))
  val : H A.dv = some (.dK (valsD T.vals))
  hash : H A.dh = some (.dK (numsD g T.hk))
  spot : H A.ds = some (.dK (numsD (fun x => spotI (g x)) T.hk))
  nam : H A.ln = some (.lst (T.names.map V.str))
  old : H A.lo = some (.lst (A.bo.map V.ref))
  new : H A.lw = some (.lst (A.bn.map V.ref))
  bko : BkAt H A.bo T.old
  bkn : BkAt H A.bn T.new
  nd : A.own.Nodup
def Std (l : List (Addr × HO)) (H : Hp) : Prop := ∀ p ∈ l, H p.1 = some p.2 ∧ ∃ φ, p.2 = .ext φ
def spS (g : Str → Int) (l : List (Addr × HO)) : Sp := fun vs H Q _ => ∃ x : Str, vs = [.str x] ∧ NameOk x ∧ Std l H ∧ Q (.int (g x)) H
structure Spr (P : Program) (w : World) (K : PySem.W.Frag) (mg : Str → Option Value) (base : Heap) (f : Addr) (g : Str → Int) (l : List (Addr × HO)) : Prop where
  held : HeldF P w K mg base 2 f (spS g l)
  fn : ∀ H, Std l H → FnH K H f
  rng : ∀ x, NameOk x → 0 ≤ g x ∧ g x < 65536
def Own (S : List Addr) (H : Hp) (S' : List Addr) : Prop := ∀ a ∈ S', a ∈ S ∨ H a = none
structure Fr (A A' : Ad) (H H' : Hp) : Prop where
  p : A'.p = A.p
  sp : A'.sp = A.sp
  kp : Kp A.own H H'
  own : Own A.own H A'.own
theorem Fr.refl (A : Ad) (H : Hp) : Fr A A H H := ⟨rfl, rfl, Kp.refl _ _, fun _ h => .inl h⟩
theorem Fr.trans {A A1 A2 : Ad} {H H1 H2 : Hp} (a : Fr A A1 H H1) (b : Fr A1 A2 H1 H2) : Fr A A2 H H2 := by
  refine ⟨b.p.trans a.p, b.sp.trans a.sp, fun x o n h => b.kp x o (fun z => ?_) (a.kp x o n h), fun x hx => ?_⟩
  · rcases a.own x z with w | w
    · exact n w
    · rw [w] at h
      cases h
  · rcases b.own x hx with w | w
    · exact a.own x w
    · by_cases hm : x ∈ A.own
      · exact .inl hm
      · exact .inr (a.kp.back w hm)
theorem Fr.ex {A A1 : Ad} {H H1 H2 : Hp} (a : Fr A A1 H H1) (e : Ex H1 H2) : Fr A A1 H H2 := ⟨a.p, a.sp, a.kp.ex e, a.own⟩
section
variable {K : PySem.W.Frag} {g : Str → Int} {H H' : Hp} {A : Ad} {T : Tb}
theorem own_p : A.p ∈ A.own := by simp [Ad.own]
theorem own_dv : A.dv ∈ A.own := by simp [Ad.own]
theorem own_dh : A.dh ∈ A.own := by simp [Ad.own]
theorem own_ds : A.ds ∈ A.own := by simp [Ad.own]
theorem own_ln : A.ln ∈ A.own := by simp [Ad.own]
theorem own_lo : A.lo ∈ A.own := by simp [Ad.own]
theorem own_lw : A.lw ∈ A.own := by simp [Ad.own]
theorem own_bo {b : Addr} (h : b ∈ A.bo) : b ∈ A.own := by simp [Ad.own, h]
theorem own_bn {b : Addr} (h : b ∈ A.bn) : b ∈ A.own := by simp [Ad.own, h]
theorem TabH.ex (h : TabH K g H A T) (e : Ex H H') : TabH K g H' A T :=
  ⟨e _ _ h.ins, e _ _ h.val, e _ _ h.hash, e _ _ h.spot, e _ _ h.nam, e _ _ h.old, e _ _ h.new, h.bko.ex e, h.bkn.ex e, h.nd⟩
theorem TabH.kp {S : List Addr} (h : TabH K g H A T) (e : Kp S H H') (n : ∀ a ∈ A.own, a ∉ S) : TabH K g H' A T :=
  ⟨e _ _ (n _ own_p) h.ins, e _ _ (n _ own_dv) h.val, e _ _ (n _ own_dh) h.hash, e _ _ (n _ own_ds) h.spot, e _ _ (n _ own_ln) h.nam, e _ _ (n _ own_lo) h.old, e _ _ (n _ own_lw) h.new, h.bko.kp e fun b hb => n b (own_bo hb), h.bkn.kp e fun b hb => n b (own_bn hb), h.nd⟩
theorem TabH.at_ (h : TabH K g H A T) {a : Addr} (ha : a ∈ A.own) : (∃ xs, H a = some (.lst xs)) ∨ (∃ kvs, H a = some (.dK kvs)) ∨ ∃ C dx fs, H a = some (.ins C dx fs) := by
  simp only [Ad.own, List.mem_cons, List.mem_append] at ha
  rcases ha with rfl | rfl | rfl | rfl | rfl | rfl | rfl | ha | ha
  · exact .inr (.inr ⟨_, _, _, h.ins⟩)
  · exact .inr (.inl ⟨_, h.val⟩)
  · exact .inr (.inl ⟨_, h.hash⟩)
  · exact .inr (.inl ⟨_, h.spot⟩)
  · exact .inl ⟨_, h.nam⟩
  · exact .inl ⟨_, h.old⟩
  · exact .inl ⟨_, h.new⟩
  · obtain ⟨l, _, e⟩ := h.bko.some ha
    exact .inl ⟨_, e⟩
  · obtain ⟨l, _, e⟩ := h.bkn.some ha
    exact .inl ⟨_, e⟩
theorem TabH.there (h : TabH K g H A T) {a : Addr} (ha : a ∈ A.own) : H a ≠ none := fun z => by
  rcases h.at_ ha with ⟨_, e⟩ | ⟨_, e⟩ | ⟨_, _, _, e⟩ <;> rw [z] at e <;> cases e
theorem TabH.out (h : TabH K g H A T) {a : Addr} (ha : H a = none) : a ∉ A.own := fun z => h.there z ha
theorem Std.kp {l : List (Addr × HO)} (s : Std l H) (h : TabH K g H A T) (k : Kp A.own H H') : Std l H' := fun p hp => by
  obtain ⟨e1, φ, e2⟩ := s p hp
  refine ⟨k _ _ (fun z => ?_) e1, φ, e2⟩
  rw [e2] at e1
  rcases h.at_ z with ⟨_, e⟩ | ⟨_, e⟩ | ⟨_, _, _, e⟩ <;> rw [e1] at e <;> cases e
theorem Std.ex {l : List (Addr × HO)} (s : Std l H) (e : Ex H H') : Std l H' := fun p hp => ⟨e _ _ (s p hp).1, (s p hp).2⟩
theorem okL_old {T : Tb} (I : Inv g T) : OkL T.old := fun l hl x hx => (I.txt x (I.flat.mem_iff.mp (List.mem_append_left _ (List.mem_flatten.mpr ⟨l, hl, hx⟩)))).2
theorem okL_new {T : Tb} (I : Inv g T) : OkL T.new := fun l hl x hx => (I.txt x (I.flat.mem_iff.mp (List.mem_append_right _ (List.mem_flatten.mpr ⟨l, hl, hx⟩)))).2
end
theorem nodup_mix {H : Hp} (keep fresh : List Addr) {l : List Addr} (hl : l.Perm (keep ++ fresh)) (hk : keep.Nodup) (hf : fresh.Nodup) (k : ∀ a ∈ keep, H a ≠ none) (f : ∀ a ∈ fresh, H a = none) : l.Nodup := by
  rw [hl.nodup_iff, List.nodup_append]
  exact ⟨hk, hf, fun a ha b hb e => k a ha (by rw [e]; exact f b hb)⟩
theorem valV_nums {g : Str → Int} : ∀ {ks : List Str} {x : Str}, x ∈ ks → valV (numsD g ks) (Sum.inr x) = some (.int (g x))
  | k :: r, x, h => by
    by_cases e : k = x
    · subst e
      exact valV_pos rfl
    · rw [show numsD g (k :: r) = (Sum.inr k, V.int (g k)) :: numsD g r from rfl, valV_neg (fun z => e (Sum.inr.inj z))]
      exact valV_nums ((List.mem_cons.mp h).resolve_left fun z => e z.symm)
theorem dget_nums {g : Str → Int} {H : Hp} {a : Addr} {ks : List Str} {x : Str} (h : H a = some (.dK (numsD g ks))) (hx : x ∈ ks) : DGet H a (.str x) (some (.int (g x))) := by
  rw [← valV_nums hx]
  exact DGet.k (k := Sum.inr x) h
theorem nd_setbo {A : Ad} {q : Addr} {i : Nat} (h : A.own.Nodup) (n : q ∉ A.own) : ({ A with bo := A.bo.set i q } : Ad).own.Nodup := by
  by_cases hi : i < A.bo.length
  · have e : ({ A with bo := A.bo.set i q } : Ad).own = A.own.set (i + 7) q := by
      show A.p :: A.dv :: A.dh :: A.ds :: A.ln :: A.lo :: A.lw :: (A.bo.set i q ++ A.bn) = A.p :: A.dv :: A.dh :: A.ds :: A.ln :: A.lo :: A.lw :: ((A.bo ++ A.bn).set i q)
      rw [List.set_append, if_pos hi]
    rw [e]
    exact nodup_set h n
  · have e : A.bo.set i q = A.bo := List.set_eq_of_length_le (by omega)
    rw [e]
    exact h
def sp_Table_begin_move (K : PySem.W.Frag) : Sp := fun vs H Q _ => ∃ (g : Str → Int) (A : Ad) (T : Tb) (n : Nat), vs = [.ref A.p, .int n] ∧ TabH K g H A T ∧ n ≤ 65536 ∧ ∀ A' H', Fr A A' H H' → TabH K g H' A' { T with new := List.replicate n [], moved := 0 } → Q .non H'
def sp_Table_move_on (K : PySem.W.Frag) : Sp := fun vs H Q _ => ∃ (g : Str → Int) (A : Ad) (T : Tb), vs = [.ref A.p] ∧ TabH K g H A T ∧ Inv g T ∧ ∀ A' H', Fr A A' H H' → TabH K g H' A' (moveOn g T) → Q .non H'
theorem fs_new (A : Ad) (m : Nat) (l : Addr) (b : List Addr) : putF "own_new" (.ref l) (fsA A m) = fsA { A with lw := l, bn := b } m := rfl
theorem fs_mv (A : Ad) (m : Nat) (n : Nat) : putF "own_moved" (.int n) (fsA A m) = fsA A n := rfl
section
variable {P : Program} {w : World} {K : PySem.W.Frag} {mg : Str → Option Value} {base : Heap}
theorem ok_Table_begin_move {f : Addr} {fd : FuncData} {dvs : List V} (F : FunD K "begin_move" "Table.begin_move" (defArgs s_Table_begin_move) (defBody s_Table_begin_move) (defScope s_Table_begin_move) dvs [] f fd) (T : Txt K mg)
    (c_empty_buckets : Cal P w K mg base 1 "empty_buckets" sp_empty_buckets []) :
    FnOk P w K mg base CX0 2 f fd ["self", "many"] (sp_Table_begin_move K) := by
  have nd := sc_Table_begin_move.nd
  refine ok0 F sc_Table_begin_move (fun vs H Q E h => by
    obtain ⟨g, A, T0, n, rfl, hT, hn, k⟩ := h
    rfl) (fun cdv A outer s H vs Q E hr h => ?_)
  obtain ⟨g, A, T0, n, rfl, hT, hn, k⟩ := h
  refine ⟨_, (pss_cons (K7.ps_fldK (K := K) rfl (pv 0) (pe_c c_empty_buckets hr (by decide) (by rfl) (pa_cons (pv 1) pa_nil)) rfl)
     (pss_one (K7.ps_fldK (K := K) rfl (pv 0) pe_int rfl))), ?_⟩
  have N := hT.nd
  simp only [Ad.own, List.nodup_cons, List.mem_cons, List.mem_append, not_or] at N
  obtain ⟨⟨p_v, p_h, p_s, p_n, p_o, p_w, p_bo, p_bn⟩, ⟨v_h, v_s, v_n, v_o, v_w, v_bo, v_bn⟩, ⟨h_s, h_n, h_o, h_w, h_bo, h_bn⟩, ⟨s_n, s_o, s_w, s_bo, s_bn⟩, ⟨n_o, n_w, n_bo, n_bn⟩, ⟨o_w, o_bo, o_bn⟩, ⟨w_bo, w_bn⟩, bnd⟩ := N
  refine ⟨_, rfl, n, rfl, hn, fun lw bn H1 nl hl hb hnd hf e1 => ?_⟩
  have hT1 := hT.ex e1
  refine ⟨_, rfl, _, _, _, _, rfl, hT1.ins, T.cl_Table, T.na_Table_own_new, (by show 8 < 1000; decide), ?_⟩
  refine ⟨_, rfl, _, _, _, _, rfl, upd_same, T.cl_Table, T.na_Table_own_moved, (by show 8 < 1000; decide), ?_⟩
  rw [upd_upd]
  refine k { A with lw := lw, bn := bn } _ ?_ ?_
  · refine ⟨rfl, rfl, (Kp.of e1).mut own_p, fun a ha => ?_⟩
    simp only [Ad.own, List.mem_cons, List.mem_append] at ha ⊢
    rcases ha with h | h | h | h | h | h | h | h | h
    · exact .inl (.inl h)
    · exact .inl (.inr (.inl h))
    · exact .inl (.inr (.inr (.inl h)))
    · exact .inl (.inr (.inr (.inr (.inl h))))
    · exact .inl (.inr (.inr (.inr (.inr (.inl h)))))
    · exact .inl (.inr (.inr (.inr (.inr (.inr (.inl h))))))
    · exact .inr (by rw [h]; exact nl)
    · exact .inl (.inr (.inr (.inr (.inr (.inr (.inr (.inr (.inl h))))))))
    · exact .inr (hf a h)
  · have nlp : lw ≠ A.p := fun z => hT.there own_p (by rw [← z]; exact nl)
    have nbp : A.p ∉ bn := fun z => hT.there own_p (hf _ z)
    have k1 : Kp [A.p] H1 (upd H1 A.p (.ins (TC K) A.dx (fsA { A with lw := lw, bn := bn } 0))) := (Kp.refl _ _).mut (by simp)
    refine ⟨upd_same, k1 _ _ (by simp [Ne.symm p_v]) hT1.val, k1 _ _ (by simp [Ne.symm p_h]) hT1.hash, k1 _ _ (by simp [Ne.symm p_s]) hT1.spot, k1 _ _ (by simp [Ne.symm p_n]) hT1.nam, k1 _ _ (by simp [Ne.symm p_o]) hT1.old, k1 _ _ (by simp [nlp]) hl, ?_, ?_, ?_⟩
    · exact hT1.bko.kp k1 fun b h z => p_bo (by rw [← List.mem_singleton.mp z]; exact h)
    · exact hb.kp k1 fun b h z => nbp (by rw [← List.mem_singleton.mp z]; exact h)
    · refine nodup_mix (H := H) (A.p :: A.dv :: A.dh :: A.ds :: A.ln :: A.lo :: A.bo) (lw :: bn) ?_ ?_ hnd (fun a ha => hT.there ?_) (fun a ha => ?_)
      · show (A.p :: A.dv :: A.dh :: A.ds :: A.ln :: A.lo :: lw :: (A.bo ++ bn)).Perm (A.p :: A.dv :: A.dh :: A.ds :: A.ln :: A.lo :: (A.bo ++ (lw :: bn)))
        repeat refine List.Perm.cons _ ?_
        exact List.perm_middle.symm
      · refine hT.nd.sublist ?_
        unfold Ad.own
        iterate 6 refine List.Sublist.cons₂ _ ?_
        exact .cons _ (List.sublist_append_left _ _)
      · simp only [Ad.own, List.mem_cons, List.mem_append] at ha ⊢
        rcases ha with h | h | h | h | h | h | h <;> simp [h]
      · rcases List.mem_cons.mp ha with h | h
        · rw [h]; exact nl
        · exact hf a h
theorem ok_Table_move_on {f : Addr} {fd : FuncData} {dvs : List V} (F : FunD K "move_on" "Table.move_on" (defArgs s_Table_move_on) (defBody s_Table_move_on) (defScope s_Table_move_on) dvs [] f fd) (T : Txt K mg) :
    FnOk P w K mg base CX0 1 f fd ["self"] (sp_Table_move_on K) := by
  have nd := sc_Table_move_on.nd
  refine ok0 F sc_Table_move_on (fun vs H Q E h => by
    obtain ⟨g, A, T0, rfl, hT, I, k⟩ := h
    rfl) (fun cdv A outer s H vs Q E hr h => ?_)
  obtain ⟨g, A, T0, rfl, hT, I, k⟩ := h
  refine ⟨_, (pss_cons (ps_if (pt_cmpR (K7.op_eqK (K := K) rfl hr.units) (K7.pe_fldK (K := K) rfl (pv 0) rfl) (pe_lst pa_nil) (nomark _)) (pss_one ps_retN) pss_nil)
     (pss_cons (ps_set (i := 1) nd rfl (Or.inl rfl) (pe_callB (K7.call_lenK (K := K) rfl) (by rfl) T.b_len bt_len (pa_cons (K7.pe_fldK (K := K) rfl (pv 0) rfl) pa_nil)))
     (pss_cons (ps_for PassesOwn.never rfl (K7.pi_listK (K := K) rfl (pe_ix (K7.ix_listK (K := K) rfl) (K7.pe_fldK (K := K) rfl (pv 0) rfl) (K7.pe_fldK (K := K) rfl (pv 0) rfl) (fun _ _ => rfl))) (pg_name (i := 2) nd rfl (Or.inl rfl)) (pss_one (ps_expr (K7.pe_bmK (K := K) rfl PySem.F.plainAttrs_list PySem.F.slot_list_append PySem.F.type_list_append mt_append (pe_ix (K7.ix_listK (K := K) rfl) (K7.pe_fldK (K := K) rfl (pv 0) rfl) (pe_op op_mod (pe_dget (hu_of hr) (K7.pe_fldK (K := K) rfl (pv 0) rfl) (pv 2) (fun _ _ => rfl)) (pv 1)) (fun _ _ => rfl)) (pa_cons (pv 2) pa_nil)))))
     (pss_cons (ps_asg (pe_lst pa_nil) (pg_sub (K7.pe_fldK (K := K) rfl (pv 0) rfl) (K7.pe_fldK (K := K) rfl (pv 0) rfl) set_list))
     (pss_cons (K7.ps_fldK (K := K) rfl (pv 0) (pe_op op_add (K7.pe_fldK (K := K) rfl (pv 0) rfl) pe_int) rfl)
     (pss_one (ps_if (pt_cmpR op_eq (K7.pe_fldK (K := K) rfl (pv 0) rfl) (pe_callB (K7.call_lenK (K := K) rfl) (by rfl) T.b_len bt_len (pa_cons (K7.pe_fldK (K := K) rfl (pv 0) rfl) pa_nil)) (nomark _)) (pss_cons (K7.ps_fldK (K := K) rfl (pv 0) (K7.pe_fldK (K := K) rfl (pv 0) rfl) rfl)
     (pss_cons (K7.ps_fldK (K := K) rfl (pv 0) (pe_lst pa_nil) rfl)
     (pss_one (K7.ps_fldK (K := K) rfl (pv 0) pe_int rfl)))) pss_nil))))))), ?_⟩
  have N := hT.nd
  simp only [Ad.own, List.nodup_cons, List.mem_cons, List.mem_append, not_or] at N
  obtain ⟨⟨p_v, p_h, p_s, p_n, p_o, p_w, p_bo, p_bn⟩, ⟨v_h, v_s, v_n, v_o, v_w, v_bo, v_bn⟩, ⟨h_s, h_n, h_o, h_w, h_bo, h_bn⟩, ⟨s_n, s_o, s_w, s_bo, s_bn⟩, ⟨n_o, n_w, n_bo, n_bn⟩, ⟨o_w, o_bo, o_bn⟩, ⟨w_bo, w_bn⟩, bnd⟩ := N
  refine ⟨_, rfl, _, _, _, _, _, rfl, hT.ins, T.cl_Table, T.na_Table_own_new, rfl, Nat.zero_le _, fun q nq => eq_nil (sq_of (upd_get hT.new (ne_of_none hT.new nq))) (dp_bk (hT.bkn.ex (Ex.new nq))) (sh_bk (okL_new I)) upd_same ⟨_, rfl, ?_⟩⟩
  have e0 : Ex H (upd H q (.lst [])) := Ex.new nq
  generalize upd H q (.lst []) = H0 at e0
  have hT0 := hT.ex e0
  have lbn : A.bn.length = T0.new.length := hT.bkn.len
  have lbo : A.bo.length = T0.old.length := hT.bko.len
  by_cases hn : T0.new = []
  · have ebn : A.bn = [] := List.eq_nil_of_length_eq_zero (by rw [lbn, hn]; rfl)
    refine itB (decide_eq_true (by rw [ebn]; rfl)) (k A _ ((Fr.refl A H).ex e0) ?_)
    unfold moveOn
    rw [if_pos hn]
    exact hT0
  refine itN (decide_eq_false fun z => hn (List.eq_nil_of_length_eq_zero (by rw [← lbn, List.map_eq_nil_iff.mp z]; rfl))) ?_
  obtain ⟨hm, n, h2, h16, hl⟩ := I.new.resolve_left fun z => hn z.1
  obtain ⟨no, ho2, ho16, hol⟩ := I.old
  have npos : 0 < T0.new.length := by rw [hl]; exact Nat.pow_pos (by decide)
  have hmb : T0.moved < A.bo.length := by rw [lbo]; exact hm
  obtain ⟨b, hb⟩ : ∃ b, A.bo[T0.moved]? = some b := ⟨_, List.getElem?_eq_getElem hmb⟩
  have hbm : b ∈ A.bo := List.mem_of_getElem? hb
  have hbl := hT0.bko.at_ _ _ _ hb (List.getElem?_eq_getElem hm)
  obtain ⟨bo_nd, bn_nd, bob⟩ := List.nodup_append.mp bnd
  have nbb : b ∉ A.bn := fun z => bob b hbm b z rfl
  have hlk : ∀ y ∈ T0.old[T0.moved], y ∈ T0.hk := fun y hy => I.flat.mem_iff.mp (List.mem_append_left _ (mem_flat (List.getElem?_eq_getElem hm) hy))
  have hfew : T0.old.flatten.length + T0.new.flatten.length ≤ 100 := by
    rw [← List.length_append, I.flat.length_eq]
    exact I.few
  have hsum : T0.old[T0.moved].length + T0.new.flatten.length ≤ 100 := by
    have := (flat_at hm).length_eq
    rw [List.length_append] at this
    omega
  refine ⟨_, rfl, _, _, _, _, _, rfl, hT0.ins, T.cl_Table, T.na_Table_own_new, rfl, A.lw, _, rfl, .inl (sq_of hT0.new), ?_⟩
  refine ⟨_, rfl, _, _, _, _, _, rfl, hT0.ins, T.cl_Table, T.na_Table_own_old, rfl, _, rfl, _, _, _, _, _, rfl, hT0.ins, T.cl_Table, T.na_Table_own_moved, rfl, A.lo, _, _, .ref b, rfl, rfl, sq_of hT0.old, atI_nat (by rw [List.getElem?_map, hb]; rfl), b, rfl, ⟨_, sq_of hbl⟩, ?_⟩
  refine for_list (K := K) (a := b) (xs := T0.old[T0.moved].map V.str) (fun i σ H' => (∃ v2 : Option V, σ = [some (.ref A.p), some (.int ((A.bn.map V.ref).length : Nat)), v2]) ∧ Kp A.bn H0 H' ∧ BkAt H' A.bn (addAll g T0.new (T0.old[T0.moved].take i)))
    ⟨⟨none, rfl⟩, Kp.refl _ _, hT0.bkn⟩ (fun i σ H' _ p => K7.kp_l p.2.1 nbb (sq_of hbl)) ?_ ?_
  · rintro i x σ H1 hi ⟨⟨v2, rfl⟩, kp, hbk⟩
    obtain ⟨y, hy, rfl⟩ : ∃ y, T0.old[T0.moved][i]? = some y ∧ x = V.str y := by
      rw [List.getElem?_map] at hi
      obtain ⟨y, hy, rfl⟩ := Option.map_eq_some_iff.mp hi
      exact ⟨y, hy, rfl⟩
    have hins := kp _ _ p_bn hT0.ins
    have hhash := kp _ _ h_bn hT0.hash
    have hnew := kp _ _ w_bn hT0.new
    obtain ⟨a1, a2, a3⟩ := addAll_ok (xs := T0.old[T0.moved].take i) I.inn npos
    have hlen1 : 0 < (addAll g T0.new (T0.old[T0.moved].take i)).length := by rw [a1]; exact npos
    obtain ⟨j, hj, ej⟩ := bix (g y) hlen1
    have hjb : j < A.bn.length := by rw [lbn, ← a1]; exact hj
    obtain ⟨c, hc⟩ : ∃ c, A.bn[j]? = some c := ⟨_, List.getElem?_eq_getElem hjb⟩
    have hcl := hbk.at_ _ _ _ hc (List.getElem?_eq_getElem hj)
    have hyk : y ∈ T0.hk := hlk y (List.mem_of_getElem? hy)
    have emod : g y % (((A.bn.map V.ref).length : Nat) : Int) = (j : Int) := by rw [List.length_map, lbn, ← a1]; exact ej
    refine ⟨_, rfl, _, _, _, _, _, rfl, hins, T.cl_Table, T.na_Table_own_new, rfl, _, rfl, _, _, _, _, _, rfl, hins, T.cl_Table, T.na_Table_own_hashes, rfl, _, rfl, A.dh, _, rfl, dget_nums hhash hyk, _, rfl, _, _, rfl, rfl, ?_, A.lw, _, _, .ref c, rfl, rfl, sq_of hnew, at_of emod (by rw [List.getElem?_map, hc]; rfl), .inl ⟨rfl, _, sq_of hcl⟩, _, rfl, c, _, _, rfl, rfl, hcl, ?_, ⟨some (.str y), rfl⟩, kp.mut (List.mem_of_getElem? hc), ?_⟩
    · show (0 : Int) < ((A.bn.map V.ref).length : Nat)
      rw [List.length_map, lbn]
      omega
    · rw [List.length_map]
      refine sz_lt ?_
      have h1 := (flat_at hj).length_eq
      rw [List.length_append, a3.length_eq, List.length_append, List.length_take] at h1
      omega
    · have e1 : addAll g T0.new (T0.old[T0.moved].take (i + 1)) = addTo (addAll g T0.new (T0.old[T0.moved].take i)) (g y) y := by
        rw [List.take_add_one, hy]
        unfold addAll
        rw [List.foldl_append]
        rfl
      rw [e1, addTo_at hj ej]
      have := hbk.put bn_nd (l := (addAll g T0.new (T0.old[T0.moved].take i))[j] ++ [y]) hc
      rw [List.map_append] at this
      exact this
  · rintro σ H1 ⟨⟨v2, rfl⟩, kp, hbk⟩
    rw [List.length_map, List.take_length] at hbk
    have hT1i := kp _ _ p_bn hT0.ins
    have hT1o := kp _ _ o_bn hT0.old
    refine ⟨Nat.zero_le _, fun q2 nq2 => ?_⟩
    have nq0 : H q2 = none := fresh_back e0 (kp.out nq2 fun x hx z => by
      obtain ⟨l, _, e⟩ := hbk.some hx
      rw [z] at e
      cases e)
    have nown := hT.out nq0
    have kp2 : Kp A.bn H0 (upd H1 q2 (.lst [])) := kp.new nq2
    have hq2 : (upd H1 q2 (.lst [])) q2 = some (.lst []) := upd_same
    have hbk2 := hbk.ex (Ex.new (o := .lst []) nq2)
    generalize upd H1 q2 (.lst []) = H2 at kp2 hq2 hbk2
    refine ⟨_, rfl, _, _, _, _, _, rfl, (kp2 _ _ p_bn hT0.ins), T.cl_Table, T.na_Table_own_old, rfl, _, rfl, _, _, _, _, _, rfl, (kp2 _ _ p_bn hT0.ins), T.cl_Table, T.na_Table_own_moved, rfl, A.lo, _, _, T0.moved, rfl, rfl, kp2 _ _ o_bn hT0.old, ixN_nat (by rw [List.length_map]; exact hmb), ?_⟩
    have elo : (A.bo.map V.ref).set T0.moved (.ref q2) = (A.bo.set T0.moved q2).map V.ref := by rw [List.map_set]
    rw [elo]
    have hp3 : (upd H2 A.lo (.lst ((A.bo.set T0.moved q2).map V.ref))) A.p = some (.ins (TC K) A.dx (fsA A T0.moved)) := upd_get (kp2 _ _ p_bn hT0.ins) p_o
    refine ⟨_, rfl, _, _, _, _, _, rfl, hp3, T.cl_Table, T.na_Table_own_moved, rfl, _, _, rfl, rfl, _, rfl, _, _, _, _, rfl, hp3, T.cl_Table, T.na_Table_own_moved, (by show 8 < 1000; decide), ?_⟩
    have nq2p : q2 ≠ A.p := fun z => nown (by rw [z]; exact own_p)
    have nq2o : q2 ≠ A.lo := fun z => nown (by rw [z]; exact own_lo)
    generalize hH : upd (upd H2 A.lo _) A.p _ = H3
    have hp5 : H3 A.p = some (.ins (TC K) A.dx (fsA A (T0.moved + 1))) := by rw [← hH]; exact upd_same
    have ho5 : H3 A.lo = some (.lst ((A.bo.set T0.moved q2).map V.ref)) := by rw [← hH, upd_ne (Ne.symm p_o)]; exact upd_same
    have k25 : Kp [A.lo, A.p] H2 H3 := by rw [← hH]; exact ((Kp.refl _ _).mut (by simp)).mut (by simp)
    have k5 : Kp (A.lo :: A.p :: A.bn) H0 H3 := (kp2.mono fun x hx => by simp [hx]).trans (k25.mono fun x hx => by
      rcases List.mem_cons.mp hx with z | z
      · simp [z]
      · simp at z
        simp [z])
    have hq5 : H3 q2 = some (.lst []) := k25 _ _ (by simp [nq2p, nq2o]) hq2
    have hbk5 := hbk2.kp k25 fun c hc z => by
      rcases List.mem_cons.mp z with z | z
      · exact o_bn (by rw [← z]; exact hc)
      · simp at z
        exact p_bn (by rw [← z]; exact hc)
    clear hH hp3
    have kH : Kp A.own H H3 := (Kp.of e0).trans (k5.mono fun x hx => by
      simp only [List.mem_cons] at hx
      rcases hx with z | z | z
      · rw [z]; exact own_lo
      · rw [z]; exact own_p
      · exact own_bn z)
    refine ⟨_, rfl, _, _, _, _, _, rfl, hp5, T.cl_Table, T.na_Table_own_moved, rfl, _, rfl, _, _, _, _, _, rfl, hp5, T.cl_Table, T.na_Table_own_old, rfl, A.lo, _, rfl, .inl (sq_of ho5), rfl, _, rfl, ?_⟩
    have e1 : T0.old.getD T0.moved [] = T0.old[T0.moved] := by simp [hm]
    obtain ⟨a1, a2, a3⟩ := addAll_ok (xs := T0.old[T0.moved]) I.inn npos
    by_cases he : T0.moved + 1 = T0.old.length
    · refine itB (decide_eq_true (by rw [List.length_map, List.length_set, lbo, ← he])) ?_
      refine ⟨_, rfl, _, _, _, _, _, rfl, hp5, T.cl_Table, T.na_Table_own_new, rfl, _, rfl, _, _, _, _, rfl, hp5, T.cl_Table, T.na_Table_own_old, (by show 8 < 1000; decide), Nat.zero_le _, fun q3 nq3 => ?_⟩
      have nq3p : A.p ≠ q3 := ne_of_none upd_same nq3
      have nq33 : H3 q3 = none := (K7.upd_out nq3).2
      have nq30 : H q3 = none := kH.out nq33 fun x hx z => by
        by_cases hin : x ∈ A.lo :: A.p :: A.bn
        · simp only [List.mem_cons] at hin
          rcases hin with w | w | w
          · rw [w, ho5] at z
            cases z
          · rw [w, hp5] at z
            cases z
          · obtain ⟨l, _, e⟩ := hbk5.some w
            rw [z] at e
            cases e
        · cases hh : H0 x with
          | none => exact hT0.there hx hh
          | some o =>
            rw [k5 x o hin hh] at z
            cases z
      have nown3 := hT.out nq30
      refine ⟨_, rfl, _, _, _, _, rfl, (upd_get upd_same nq3p), T.cl_Table, T.na_Table_own_new, (by show 8 < 1000; decide), _, rfl, _, _, _, _, rfl, upd_same, T.cl_Table, T.na_Table_own_moved, (by show 8 < 1000; decide), ?_⟩
      refine k { A with lo := A.lw, lw := q3, bo := A.bn, bn := [] } _ ⟨rfl, rfl, ((((kH.mut own_p).old nq30).mut own_p).mut own_p), fun x hx => ?_⟩ ?_
      · simp only [Ad.own, List.mem_cons, List.mem_append, List.not_mem_nil, or_false] at hx
        rcases hx with z | z | z | z | z | z | z | z
        · exact .inl (by rw [z]; exact own_p)
        · exact .inl (by rw [z]; exact own_dv)
        · exact .inl (by rw [z]; exact own_dh)
        · exact .inl (by rw [z]; exact own_ds)
        · exact .inl (by rw [z]; exact own_ln)
        · exact .inl (by rw [z]; exact own_lw)
        · exact .inr (by rw [z]; exact nq30)
        · exact .inl (own_bn z)
      · unfold moveOn
        rw [if_neg hn, if_pos he, e1]
        have nin : ∀ {c}, ¬ c = A.lo → ¬ c = A.p → c ∉ A.bn → c ∉ A.lo :: A.p :: A.bn := fun a b c => by simp [a, b, c]
        have nin1 : ∀ {c}, ¬ c = A.p → c ∉ [A.p] := fun a => by simp [a]
        have kF : ∀ {F1 F2 F3}, Kp [A.p] H3 (upd (upd (upd (upd H3 A.p F1) q3 (.lst [])) A.p F2) A.p F3) := (((((Kp.refl _ _).mut (by simp)).old nq33).mut (by simp)).mut (by simp))
        refine ⟨upd_same, kF _ _ (nin1 (Ne.symm p_v)) (k5 _ _ (nin v_o (Ne.symm p_v) v_bn) hT0.val), kF _ _ (nin1 (Ne.symm p_h)) (k5 _ _ (nin h_o (Ne.symm p_h) h_bn) hT0.hash), kF _ _ (nin1 (Ne.symm p_s)) (k5 _ _ (nin s_o (Ne.symm p_s) s_bn) hT0.spot),
          kF _ _ (nin1 (Ne.symm p_n)) (k5 _ _ (nin n_o (Ne.symm p_n) n_bn) hT0.nam), kF _ _ (nin1 (Ne.symm p_w)) (k5 _ _ (nin (Ne.symm o_w) (Ne.symm p_w) w_bn) hT0.new), ?_, hbk5.kp kF fun c hc => nin1 fun z => p_bn (by rw [← z]; exact hc), BkAt.nil, ?_⟩
        · show upd _ _ _ q3 = some (.lst [])
          rw [upd_ne (Ne.symm nq3p), upd_ne (Ne.symm nq3p), upd_same]
        · refine nodup_mix (H := H) (A.p :: A.dv :: A.dh :: A.ds :: A.ln :: A.lw :: A.bn) [q3] ?_ ?_ (by simp) (fun x hx => hT.there ?_) (fun x hx => by rw [List.mem_singleton.mp hx]; exact nq30)
          · show (A.p :: A.dv :: A.dh :: A.ds :: A.ln :: A.lw :: q3 :: (A.bn ++ [])).Perm (A.p :: A.dv :: A.dh :: A.ds :: A.ln :: A.lw :: (A.bn ++ [q3]))
            repeat refine List.Perm.cons _ ?_
            rw [List.append_nil]
            exact List.perm_append_comm (l₁ := [q3])
          · refine hT.nd.sublist ?_
            unfold Ad.own
            iterate 5 refine List.Sublist.cons₂ _ ?_
            refine .cons _ (.cons₂ _ (List.sublist_append_right _ _))
          · simp only [List.mem_cons] at hx
            rcases hx with z | z | z | z | z | z | z
            · rw [z]; exact own_p
            · rw [z]; exact own_dv
            · rw [z]; exact own_dh
            · rw [z]; exact own_ds
            · rw [z]; exact own_ln
            · rw [z]; exact own_lw
            · exact own_bn z
    · refine itN (decide_eq_false fun z => he (by
        have z := V.int.inj z
        rw [List.length_map, List.length_set, lbo] at z
        omega)) ?_
      refine k { A with bo := A.bo.set T0.moved q2 } H3 ⟨rfl, rfl, kH, fun x hx => ?_⟩ ?_
      · simp only [Ad.own, List.mem_cons, List.mem_append] at hx
        rcases hx with z | z | z | z | z | z | z | z | z
        · exact .inl (by rw [z]; exact own_p)
        · exact .inl (by rw [z]; exact own_dv)
        · exact .inl (by rw [z]; exact own_dh)
        · exact .inl (by rw [z]; exact own_ds)
        · exact .inl (by rw [z]; exact own_ln)
        · exact .inl (by rw [z]; exact own_lo)
        · exact .inl (by rw [z]; exact own_lw)
        · rcases List.mem_or_eq_of_mem_set z with z | z
          · exact .inl (own_bo z)
          · exact .inr (by rw [z]; exact nq0)
        · exact .inl (own_bn z)
      · unfold moveOn
        rw [if_neg hn, if_neg he, e1]
        have nin : ∀ {c}, ¬ c = A.lo → ¬ c = A.p → c ∉ A.bn → c ∉ A.lo :: A.p :: A.bn := fun a b c => by simp [a, b, c]
        refine ⟨hp5, k5 _ _ (nin v_o (Ne.symm p_v) v_bn) hT0.val, k5 _ _ (nin h_o (Ne.symm p_h) h_bn) hT0.hash, k5 _ _ (nin s_o (Ne.symm p_s) s_bn) hT0.spot, k5 _ _ (nin n_o (Ne.symm p_n) n_bn) hT0.nam, ho5, k5 _ _ (nin (Ne.symm o_w) (Ne.symm p_w) w_bn) hT0.new, ?_, hbk5, ?_⟩
        · refine hT0.bko.swap (l := []) (fun i c hi hc o ho => k5 c o (nin (fun z => o_bo (by rw [← z]; exact List.mem_of_getElem? hc)) (fun z => p_bo (by rw [← z]; exact List.mem_of_getElem? hc)) fun z => bob c (List.mem_of_getElem? hc) c z rfl) ho) hq5
        · exact nd_setbo hT.nd nown
end
end K70
set_option Elab.async false
set_option linter.all false
set_option maxRecDepth 100000
set_option maxHeartbeats 4000000
namespace K70
open PySem PySem.Spec PyProof.Rows L2 Evl
open C8 (Cal Met Mak pe_c pe_mt pe_mt0 pe_mk pe_gc InsC call_isC)
open K7 (Kp ShOk upd_get eq_nil ne_nil dp_strs sh_strs strsD lc_val lc_ev lc_pair IsPair tgt_name tgt_pair given_filter EvP seq_ix HeldF FnH refIS keyIS leIS)
theorem putK_nums {g : Str → Int} {ks : List Str} {x : Str} (h : x ∉ ks) : putK (numsD g ks) (Sum.inr x) (.int (g x)) = numsD g (ks ++ [x]) := by
  unfold putK
  rw [if_neg ?_]
  · unfold numsD
    rw [List.map_append]
    rfl
  · intro z
    obtain ⟨q, hq, e⟩ := List.any_eq_true.mp z
    obtain ⟨y, hy, rfl⟩ := List.mem_map.mp hq
    exact h (by rw [← Sum.inr.inj (of_decide_eq_true e)]; exact hy)
theorem dput_nums {g : Str → Int} {H : Hp} {a : Addr} {ks : List Str} {x : Str} (h : H a = some (.dK (numsD g ks))) (hx : x ∉ ks) (hl : ks.length < 100000) : DPut H a (.str x) (.int (g x)) (upd H a (.dK (numsD g (ks ++ [x])))) := by
  rw [← putK_nums hx]
  exact DPut.k (k := Sum.inr x) h (by unfold numsD; rw [List.length_map]; exact sz_lt hl)
def newT (T : Tb) (g : Str → Int) (x : Str) (v : V) (ns : List Str) : Tb := ⟨T.vals ++ [(x, v)], T.hk ++ [x], ns, if T.new = [] then addTo T.old (g x) x else T.old, if T.new = [] then T.new else addTo T.new (g x) x, T.moved⟩
def sp_Table_put_new (P : Program) (w : World) (K : PySem.W.Frag) (mg : Str → Option Value) (base : Heap) : Sp := fun vs H Q _ => ∃ (g : Str → Int) (l : List (Addr × HO)) (A : Ad) (T : Tb) (x : Str) (v : V), vs = [.ref A.p, .str x] ∧ TabH K g H A { T with vals := T.vals ++ [(x, v)] } ∧ Inv g T ∧ x ∉ T.hk ∧ NameOk x ∧ T.hk.length < 100 ∧
  Spr P w K mg base A.sp g l ∧ Std l H ∧ ∀ ns A' H', ns.Perm (T.hk ++ [x]) → ns.Pairwise (leN g) → Fr A A' H H' → TabH K g H' A' (newT T g x v ns) → Q .non H'
section
variable {K : PySem.W.Frag} {g : Str → Int} {H : Hp} {A : Ad} {T : Tb}
theorem TabH.setOld (hT : TabH K g H A T) {j : Nat} {c : Addr} {l : List Str} (hc : A.bo[j]? = some c) : TabH K g (upd H c (.lst (l.map V.str))) A { T with old := T.old.set j l } := by
  have N := hT.nd
  simp only [Ad.own, List.nodup_cons, List.mem_cons, List.mem_append, not_or] at N
  obtain ⟨⟨p_v, p_h, p_s, p_n, p_o, p_w, p_bo, p_bn⟩, ⟨v_h, v_s, v_n, v_o, v_w, v_bo, v_bn⟩, ⟨h_s, h_n, h_o, h_w, h_bo, h_bn⟩, ⟨s_n, s_o, s_w, s_bo, s_bn⟩, ⟨n_o, n_w, n_bo, n_bn⟩, ⟨o_w, o_bo, o_bn⟩, ⟨w_bo, w_bn⟩, bnd⟩ := N
  obtain ⟨bo_nd, bn_nd, bob⟩ := List.nodup_append.mp bnd
  have hm := List.mem_of_getElem? hc
  have k : Kp [c] H (upd H c (.lst (l.map V.str))) := (Kp.refl _ _).mut (by simp)
  have n : ∀ {a}, a ∉ A.bo → a ∉ [c] := fun h z => h (by rw [List.mem_singleton.mp z]; exact hm)
  exact ⟨k _ _ (n p_bo) hT.ins, k _ _ (n v_bo) hT.val, k _ _ (n h_bo) hT.hash, k _ _ (n s_bo) hT.spot, k _ _ (n n_bo) hT.nam, k _ _ (n o_bo) hT.old, k _ _ (n w_bo) hT.new, hT.bko.put bo_nd hc, hT.bkn.kp k fun b hb => n fun z => bob b z b hb rfl, hT.nd⟩
theorem TabH.setNew (hT : TabH K g H A T) {j : Nat} {c : Addr} {l : List Str} (hc : A.bn[j]? = some c) : TabH K g (upd H c (.lst (l.map V.str))) A { T with new := T.new.set j l } := by
  have N := hT.nd
  simp only [Ad.own, List.nodup_cons, List.mem_cons, List.mem_append, not_or] at N
  obtain ⟨⟨p_v, p_h, p_s, p_n, p_o, p_w, p_bo, p_bn⟩, ⟨v_h, v_s, v_n, v_o, v_w, v_bo, v_bn⟩, ⟨h_s, h_n, h_o, h_w, h_bo, h_bn⟩, ⟨s_n, s_o, s_w, s_bo, s_bn⟩, ⟨n_o, n_w, n_bo, n_bn⟩, ⟨o_w, o_bo, o_bn⟩, ⟨w_bo, w_bn⟩, bnd⟩ := N
  obtain ⟨bo_nd, bn_nd, bob⟩ := List.nodup_append.mp bnd
  have hm := List.mem_of_getElem? hc
  have k : Kp [c] H (upd H c (.lst (l.map V.str))) := (Kp.refl _ _).mut (by simp)
  have n : ∀ {a}, a ∉ A.bn → a ∉ [c] := fun h z => h (by rw [List.mem_singleton.mp z]; exact hm)
  exact ⟨k _ _ (n p_bn) hT.ins, k _ _ (n v_bn) hT.val, k _ _ (n h_bn) hT.hash, k _ _ (n s_bn) hT.spot, k _ _ (n n_bn) hT.nam, k _ _ (n o_bn) hT.old, k _ _ (n w_bn) hT.new, hT.bko.kp k fun b hb => n fun z => bob b hb b z rfl, hT.bkn.put bn_nd hc, hT.nd⟩
theorem TabH.setNames (hT : TabH K g H A T) {q : Addr} {ns : List Str} (hq : H q = some (.lst (ns.map V.str))) (n : q ∉ A.own) : TabH K g (upd H A.p (.ins (TC K) A.dx (fsA { A with ln := q } T.moved))) { A with ln := q } { T with names := ns } := by
  have N := hT.nd
  simp only [Ad.own, List.nodup_cons, List.mem_cons, List.mem_append, not_or] at N
  obtain ⟨⟨p_v, p_h, p_s, p_n, p_o, p_w, p_bo, p_bn⟩, ⟨v_h, v_s, v_n, v_o, v_w, v_bo, v_bn⟩, ⟨h_s, h_n, h_o, h_w, h_bo, h_bn⟩, ⟨s_n, s_o, s_w, s_bo, s_bn⟩, ⟨n_o, n_w, n_bo, n_bn⟩, ⟨o_w, o_bo, o_bn⟩, ⟨w_bo, w_bn⟩, bnd⟩ := N
  have k : Kp [A.p] H (upd H A.p (.ins (TC K) A.dx (fsA { A with ln := q } T.moved))) := (Kp.refl _ _).mut (by simp)
  have m : ∀ {a}, ¬ a = A.p → a ∉ [A.p] := fun h => by simp [h]
  refine ⟨upd_same, k _ _ (m (Ne.symm p_v)) hT.val, k _ _ (m (Ne.symm p_h)) hT.hash, k _ _ (m (Ne.symm p_s)) hT.spot, k _ _ (m fun z => n (by have z : q = A.p := z; rw [z]; exact own_p)) hq, k _ _ (m (Ne.symm p_o)) hT.old, k _ _ (m (Ne.symm p_w)) hT.new, hT.bko.kp k fun b hb => m fun z => p_bo (by rw [← z]; exact hb), hT.bkn.kp k fun b hb => m fun z => p_bn (by rw [← z]; exact hb), ?_⟩
  have e : ({ A with ln := q } : Ad).own = A.own.set 4 q := rfl
  rw [e]
  exact nodup_set hT.nd n
end
theorem pairs_of {g : Str → Int} {H : Hp} : ∀ {Ts : List Addr} {ks : List Str}, Ts.length = ks.length → (∀ (i : Nat) T, Ts[i]? = some T → H T = some (.tup [.int (g (ks.getD i "")), .str (ks.getD i "")])) →
    ∃ ps : List K7.IS, ps.map refIS = Ts.map V.ref ∧ ps.map (fun p => p.2.2) = ks ∧ ∀ p ∈ ps, p.2.1 = g p.2.2 ∧ H p.1 = some (.tup [.int p.2.1, .str p.2.2])
  | [], [], _, _ => ⟨[], rfl, rfl, fun _ h => by cases h⟩
  | T :: Ts, x :: ks, hl, h => by
    obtain ⟨ps, e1, e2, e3⟩ := pairs_of (Ts := Ts) (ks := ks) (by simpa using hl) fun i T' hT' => h (i + 1) T' (by simpa using hT')
    refine ⟨(T, g x, x) :: ps, ?_, ?_, fun p hp => ?_⟩
    · rw [List.map_cons, List.map_cons, e1]
      rfl
    · rw [List.map_cons, e2]
    · rcases List.mem_cons.mp hp with z | z
      · rw [z]
        exact ⟨rfl, h 0 T rfl⟩
      · exact e3 p z
  | [], _ :: _, hl, _ => by cases hl
  | _ :: _, [], hl, _ => by cases hl
theorem rows_srt {g : Str → Int} : ∀ {qs : List K7.IS}, (∀ p ∈ qs, p.2.1 = spotI (g p.2.2)) → qs.Pairwise leIS → (qs.map fun p => p.2.2).Pairwise (leN g) := fun {qs} h hp => by
  rw [List.pairwise_map]
  refine List.Pairwise.imp_of_mem (fun {a b} ha hb hab => ?_) hp
  have ea : keyIS (0, spotI (g a.2.2), a.2.2) = keyIS a := by
    unfold keyIS
    rw [h a ha]
  have eb : keyIS (0, spotI (g b.2.2), b.2.2) = keyIS b := by
    unfold keyIS
    rw [h b hb]
  show lexLt itemOrd (keyIS (0, spotI (g b.2.2), b.2.2)) (keyIS (0, spotI (g a.2.2), a.2.2)) = false
  rw [ea, eb]
  exact hab
section
variable {P : Program} {w : World} {K : PySem.W.Frag} {mg : Str → Option Value} {base : Heap}
theorem ok_Table_put_new {f : Addr} {fd : FuncData} {dvs : List V} (F : FunD K "put_new" "Table.put_new" (defArgs s_Table_put_new) (defBody s_Table_put_new) (defScope s_Table_put_new) dvs [] f fd) (T : Txt K mg)
    (c_turned_bits : Cal P w K mg base 1 "turned_bits" sp_turned_bits []) :
    FnOk P w K mg base CX0 3 f fd ["self", "name"] (sp_Table_put_new P w K mg base) := by
  have nd := sc_Table_put_new.nd
  refine ok0 F sc_Table_put_new (fun vs H Q E h => by
    obtain ⟨g, l, A, T0, x, v, rfl, hT, I, hx, hok, hlt, hS, hl, k⟩ := h
    rfl) (fun cdv A outer s H vs Q E hr h => ?_)
  obtain ⟨g, l, A, T0, x, v, rfl, hT, I, hx, hok, hlt, hS, hl, k⟩ := h
  refine ⟨_, (pss_cons (ps_set (i := 2) nd rfl (Or.inl rfl) (K7.pe_fldH (k := 2) (hr.mono (by decide)) (pv 0) (pa_cons (pv 1) pa_nil)))
     (pss_cons (ps_dput (hu_of hr) (K7.pe_fldK (K := K) rfl (pv 0) rfl) (pv 1) (pv 2) rfl)
     (pss_cons (ps_dput (hu_of hr) (K7.pe_fldK (K := K) rfl (pv 0) rfl) (pv 1) (pe_c c_turned_bits hr (by decide) (by rfl) (pa_cons (pv 2) (pa_cons (pe_gc (by rfl) T.g_HASH_BITS) pa_nil))) rfl)
     (Evl.pss_cut (ps_if (pt_cmpR (K7.op_eqK (K := K) rfl hr.units) (K7.pe_fldK (K := K) rfl (pv 0) rfl) (pe_lst pa_nil) (nomark _)) (pss_one (ps_expr (K7.pe_bmK (K := K) rfl PySem.F.plainAttrs_list PySem.F.slot_list_append PySem.F.type_list_append mt_append (pe_ix (K7.ix_listK (K := K) rfl) (K7.pe_fldK (K := K) rfl (pv 0) rfl) (pe_op op_mod (pv 2) (pe_callB (K7.call_lenK (K := K) rfl) (by rfl) T.b_len bt_len (pa_cons (K7.pe_fldK (K := K) rfl (pv 0) rfl) pa_nil))) (fun _ _ => rfl)) (pa_cons (pv 1) pa_nil)))) (pss_one (ps_expr (K7.pe_bmK (K := K) rfl PySem.F.plainAttrs_list PySem.F.slot_list_append PySem.F.type_list_append mt_append (pe_ix (K7.ix_listK (K := K) rfl) (K7.pe_fldK (K := K) rfl (pv 0) rfl) (pe_op op_mod (pv 2) (pe_callB (K7.call_lenK (K := K) rfl) (by rfl) T.b_len bt_len (pa_cons (K7.pe_fldK (K := K) rfl (pv 0) rfl) pa_nil))) (fun _ _ => rfl)) (pa_cons (pv 1) pa_nil)))))
     (pss_cons (ps_set (i := 3) nd rfl (Or.inl rfl) (pe_callB (K7.cr_sortedISK (K := K) rfl) (by rfl) T.b_sorted bt_sorted (pa_cons (pe_lock (pe_lc (own := [("one", 5), ("spot", 4)]) rfl nd (pi_items (K7.pe_fldK (K := K) rfl (pv 0) rfl)) (blkOk_by (N := n_Table_put_new) (sc := defScope s_Table_put_new) (own := [("one", 5), ("spot", 4)]) (by decide +kernel)) (fun _ _ _ _ _ => (K7.pg_tupK (K := K) (n := 2) rfl (by rfl) (pgs_cons (pg_name (i := 5) nd rfl (Or.inl rfl)) (pgs_cons (pg_name (i := 4) nd rfl (Or.inl rfl)) pgs_nil)))) (fun _ _ _ _ _ => pts_nil) (fun _ _ _ _ _ => (pe_tup (pa_cons (pv 4) (pa_cons (pv 5) pa_nil)))))) pa_nil)))
     (pss_one (K7.ps_fldK (K := K) rfl (pv 0) (pe_lc (own := [("spot", 4), ("one", 5)]) rfl nd (K7.pi_listK (K := K) rfl (pv 3)) (blkOk_by (N := n_Table_put_new) (sc := defScope s_Table_put_new) (own := [("spot", 4), ("one", 5)]) (by decide +kernel)) (fun _ _ _ _ _ => (K7.pg_tupK (K := K) (n := 2) rfl (by rfl) (pgs_cons (pg_name (i := 4) nd rfl (Or.inl rfl)) (pgs_cons (pg_name (i := 5) nd rfl (Or.inl rfl)) pgs_nil)))) (fun _ _ _ _ _ => pts_nil) (fun _ _ _ _ _ => (pv 5))) rfl))))))), ?_⟩
  have N := hT.nd
  simp only [Ad.own, List.nodup_cons, List.mem_cons, List.mem_append, not_or] at N
  obtain ⟨⟨p_v, p_h, p_s, p_n, p_o, p_w, p_bo, p_bn⟩, ⟨v_h, v_s, v_n, v_o, v_w, v_bo, v_bn⟩, ⟨h_s, h_n, h_o, h_w, h_bo, h_bn⟩, ⟨s_n, s_o, s_w, s_bo, s_bn⟩, ⟨n_o, n_w, n_bo, n_bn⟩, ⟨o_w, o_bo, o_bn⟩, ⟨w_bo, w_bn⟩, bnd⟩ := N
  obtain ⟨bo_nd, bn_nd, bob⟩ := List.nodup_append.mp bnd
  refine ⟨_, rfl, A.p, _, _, _, A.sp, spS g l, rfl, hT.ins, T.cl_Table, T.na_Table_own_spread, rfl, hS.held, hS.fn H hl, _, rfl, hS.fn H hl, x, rfl, hok, hl, ?_⟩
  refine ⟨_, rfl, _, rfl, _, _, _, _, _, rfl, hT.ins, T.cl_Table, T.na_Table_own_hashes, rfl, _, rfl, A.dh, _, rfl, dput_nums hT.hash hx (by have := I.few; show T0.hk.length < _; omega), ?_⟩
  have k1 : Kp [A.dh] H (upd H A.dh (.dK (numsD g (T0.hk ++ [x])))) := (Kp.refl _ _).mut (by simp)
  have hh1 : (upd H A.dh (.dK (numsD g (T0.hk ++ [x])))) A.dh = some (.dK (numsD g (T0.hk ++ [x]))) := upd_same
  generalize upd H A.dh (.dK (numsD g (T0.hk ++ [x]))) = H1 at k1 hh1
  refine ⟨_, rfl, g x, 16, rfl, by decide, _, rfl, _, _, _, _, _, rfl, (k1 _ _ (by simp [p_h]) hT.ins), T.cl_Table, T.na_Table_own_spots, rfl, _, rfl, A.ds, _, rfl, dput_nums (g := fun y => spotI (g y)) (k1 _ _ (by simp [Ne.symm h_s]) hT.spot) hx (by have := I.few; show T0.hk.length < _; omega), ?_⟩
  have k2 : Kp [A.dh, A.ds] H (upd H1 A.ds (.dK (numsD (fun y => spotI (g y)) (T0.hk ++ [x])))) := (k1.mono (by simp)).mut (by simp)
  have hs2 : (upd H1 A.ds (.dK (numsD (fun y => spotI (g y)) (T0.hk ++ [x])))) A.ds = some (.dK (numsD (fun y => spotI (g y)) (T0.hk ++ [x]))) := upd_same
  have hh2 := upd_get (o := .dK (numsD (fun y => spotI (g y)) (T0.hk ++ [x]))) hh1 h_s
  generalize upd H1 A.ds (.dK (numsD (fun y => spotI (g y)) (T0.hk ++ [x]))) = H2 at k2 hs2 hh2
  have n2 : ∀ {c}, ¬ c = A.dh → ¬ c = A.ds → c ∉ [A.dh, A.ds] := fun a b => by simp [a, b]
  have hT2 : TabH K g H2 A ⟨T0.vals ++ [(x, v)], T0.hk ++ [x], T0.names, T0.old, T0.new, T0.moved⟩ :=
    ⟨k2 _ _ (n2 p_h p_s) hT.ins, k2 _ _ (n2 v_h v_s) hT.val, hh2, hs2, k2 _ _ (n2 (Ne.symm h_n) (Ne.symm s_n)) hT.nam, k2 _ _ (n2 (Ne.symm h_o) (Ne.symm s_o)) hT.old, k2 _ _ (n2 (Ne.symm h_w) (Ne.symm s_w)) hT.new,
      hT.bko.kp k2 fun b hb => n2 (fun z => h_bo (by rw [← z]; exact hb)) fun z => s_bo (by rw [← z]; exact hb), hT.bkn.kp k2 fun b hb => n2 (fun z => h_bn (by rw [← z]; exact hb)) fun z => s_bn (by rw [← z]; exact hb), hT.nd⟩
  have f2 : Fr A A H H2 := ⟨rfl, rfl, k2.mono (fun y hy => by
    rcases List.mem_cons.mp hy with z | z
    · rw [z]; exact own_dh
    · rw [List.mem_singleton.mp z]; exact own_ds), fun _ h => .inl h⟩
  refine ⟨fun σ' H' => σ' = [some (.ref A.p), some (.str x), some (.int (g x)), none, none, none] ∧ Fr A A H H' ∧ TabH K g H' A (newT T0 g x v T0.names), ?_, ?_⟩
  · refine ⟨_, rfl, _, _, _, _, _, rfl, hT2.ins, T.cl_Table, T.na_Table_own_new, rfl, Nat.zero_le _, fun q nq => eq_nil (sq_of (upd_get hT2.new (ne_of_none hT2.new nq))) (dp_bk (hT2.bkn.ex (Ex.new nq))) (sh_bk (show OkL T0.new from okL_new I)) upd_same ⟨_, rfl, ?_⟩⟩
    have e3 : Ex H2 (upd H2 q (.lst [])) := Ex.new nq
    generalize upd H2 q (.lst []) = H3 at e3
    have hT3 := hT2.ex e3
    have f3 := f2.ex e3
    have lbn : A.bn.length = T0.new.length := hT.bkn.len
    have lbo : A.bo.length = T0.old.length := hT.bko.len
    have hfew : T0.old.flatten.length + T0.new.flatten.length ≤ 100 := by
      rw [← List.length_append, I.flat.length_eq]
      exact I.few
    by_cases hn : T0.new = []
    · have ebn : A.bn = [] := List.eq_nil_of_length_eq_zero (by rw [lbn, hn]; rfl)
      obtain ⟨no, o2, o16, ol⟩ := I.old
      have op : 0 < T0.old.length := by rw [ol]; exact Nat.pow_pos (by decide)
      obtain ⟨j, hj, ej⟩ := bix (g x) op
      obtain ⟨c, hc⟩ : ∃ c, A.bo[j]? = some c := ⟨_, List.getElem?_eq_getElem (by rw [lbo]; exact hj)⟩
      have hcl := hT3.bko.at_ _ _ _ hc (List.getElem?_eq_getElem hj)
      have emod : g x % (((A.bo.map V.ref).length : Nat) : Int) = (j : Int) := by rw [List.length_map, lbo]; exact ej
      refine itB (decide_eq_true (by rw [ebn]; rfl)) ⟨_, rfl, _, _, _, _, _, rfl, hT3.ins, T.cl_Table, T.na_Table_own_old, rfl, _, rfl, _, rfl, _, _, _, _, _, rfl, hT3.ins, T.cl_Table, T.na_Table_own_old, rfl, A.lo, _, rfl, .inl (sq_of hT3.old), _, _, rfl, rfl, ?_, A.lo, _, _, .ref c, rfl, rfl, sq_of hT3.old, at_of emod (by rw [List.getElem?_map, hc]; rfl), .inl ⟨rfl, _, sq_of hcl⟩, _, rfl, c, _, _, rfl, rfl, hcl, ?_, rfl, ?_, ?_⟩
      · show (0 : Int) < ((A.bo.map V.ref).length : Nat)
        rw [List.length_map, lbo]
        omega
      · rw [List.length_map]
        have h1 := (flat_at hj).length_eq
        rw [List.length_append] at h1
        exact sz_lt (by omega)
      · exact ⟨rfl, rfl, f3.kp.mut (own_bo (List.mem_of_getElem? hc)), fun _ h => .inl h⟩
      · have := hT3.setOld (l := T0.old[j] ++ [x]) hc
        rw [List.map_append] at this
        unfold newT
        rw [if_pos hn, if_pos hn, addTo_at hj ej]
        exact this
    · obtain ⟨hm, n, h2, h16, nl⟩ := I.new.resolve_left fun z => hn z.1
      have np : 0 < T0.new.length := by rw [nl]; exact Nat.pow_pos (by decide)
      obtain ⟨j, hj, ej⟩ := bix (g x) np
      obtain ⟨c, hc⟩ : ∃ c, A.bn[j]? = some c := ⟨_, List.getElem?_eq_getElem (by rw [lbn]; exact hj)⟩
      have hcl := hT3.bkn.at_ _ _ _ hc (List.getElem?_eq_getElem hj)
      have emod : g x % (((A.bn.map V.ref).length : Nat) : Int) = (j : Int) := by rw [List.length_map, lbn]; exact ej
      refine itN (decide_eq_false fun z => hn (List.eq_nil_of_length_eq_zero (by rw [← lbn, List.map_eq_nil_iff.mp z]; rfl))) ⟨_, rfl, _, _, _, _, _, rfl, hT3.ins, T.cl_Table, T.na_Table_own_new, rfl, _, rfl, _, rfl, _, _, _, _, _, rfl, hT3.ins, T.cl_Table, T.na_Table_own_new, rfl, A.lw, _, rfl, .inl (sq_of hT3.new), _, _, rfl, rfl, ?_, A.lw, _, _, .ref c, rfl, rfl, sq_of hT3.new, at_of emod (by rw [List.getElem?_map, hc]; rfl), .inl ⟨rfl, _, sq_of hcl⟩, _, rfl, c, _, _, rfl, rfl, hcl, ?_, rfl, ?_, ?_⟩
      · show (0 : Int) < ((A.bn.map V.ref).length : Nat)
        rw [List.length_map, lbn]
        omega
      · rw [List.length_map]
        have h1 := (flat_at hj).length_eq
        rw [List.length_append] at h1
        exact sz_lt (by omega)
      · exact ⟨rfl, rfl, f3.kp.mut (own_bn (List.mem_of_getElem? hc)), fun _ h => .inl h⟩
      · have := hT3.setNew (l := T0.new[j] ++ [x]) hc
        rw [List.map_append] at this
        unfold newT
        rw [if_neg hn, if_neg hn, addTo_at hj ej]
        exact this
  · rintro σ' H4 ⟨rfl, f4, hT4⟩
    have hmut : H4 A.ds = some (.dK (numsD (fun y => spotI (g y)) (T0.hk ++ [x]))) := hT4.spot
    have hlen : (numsD (fun y => spotI (g y)) (T0.hk ++ [x])).length = (T0.hk ++ [x]).length := by unfold numsD; rw [List.length_map]
    have hfew : (T0.hk ++ [x]).length ≤ 100 := by rw [List.length_append]; show T0.hk.length + 1 ≤ 100; omega
    refine ⟨A.ds, _, hmut, trivial, fun od => ?_⟩
    have pH : ∀ {b o}, b ≠ A.ds → H4 b = some o → (upd H4 A.ds (.frz od (.dK (numsD (fun y => spotI (g y)) (T0.hk ++ [x]))))) b = some o := fun h e => upd_get e h
    have hF : (upd H4 A.ds (.frz od (.dK (numsD (fun y => spotI (g y)) (T0.hk ++ [x]))))) A.ds = some (.frz od (.dK (numsD (fun y => spotI (g y)) (T0.hk ++ [x])))) := upd_same
    have bk : ∀ {b}, (upd H4 A.ds (.frz od (.dK (numsD (fun y => spotI (g y)) (T0.hk ++ [x]))))) b = none → H4 b = none ∧ b ≠ A.ds := fun {b} h => by
      obtain ⟨a, c⟩ := K7.upd_out h
      exact ⟨c, a⟩
    have hins : (upd H4 A.ds (.frz od (.dK (numsD (fun y => spotI (g y)) (T0.hk ++ [x]))))) A.p = some (.ins (TC K) A.dx (fsA A T0.moved)) := pH p_s hT4.ins
    have hun : upd (upd H4 A.ds (.frz od (.dK (numsD (fun y => spotI (g y)) (T0.hk ++ [x]))))) A.ds (.dK (numsD (fun y => spotI (g y)) (T0.hk ++ [x]))) = H4 := by
      rw [upd_upd]
      exact K7.upd_self hmut
    generalize hHF : upd H4 A.ds (.frz od (.dK (numsD (fun y => spotI (g y)) (T0.hk ++ [x])))) = HF at pH hF bk hins hun
    refine ⟨_, rfl, _, _, _, _, _, rfl, hins, T.cl_Table, T.na_Table_own_spots, rfl, A.ds, od, _, rfl, hF, fun D hD => lc_pair walk_items (fun i => V.int (spotI (g ((T0.hk ++ [x]).getD i "")))) (fun i => V.str ((T0.hk ++ [x]).getD i "")) hD (by rw [hlen]; omega) (fun H5 e5 => e5 _ _ hF) ?_ ?_⟩
    · rintro i y H5 H6 hi e5 ⟨ys, hys⟩ ⟨Tp, y1, y2, rfl, nT, rfl, ex, ey⟩
      rw [hlen] at hi
      have hq : (numsD (fun y => spotI (g y)) (T0.hk ++ [x]))[i]? = some (Sum.inr (T0.hk ++ [x])[i], V.int (spotI (g (T0.hk ++ [x])[i]))) := by
        unfold numsD
        rw [List.getElem?_map, List.getElem?_eq_getElem hi]
        rfl
      have e1 : y1 = V.str (T0.hk ++ [x])[i] := by
        have ex : (((numsD (fun y => spotI (g y)) (T0.hk ++ [x]))[i]?).map fun kv => kV kv.1) = some y1 := ex
        rw [hq] at ex
        exact (Option.some.inj ex).symm
      have e2 : y2 = V.int (spotI (g (T0.hk ++ [x])[i])) := by
        have ey : (((numsD (fun y => spotI (g y)) (T0.hk ++ [x]))[i]?).map Prod.snd) = some y2 := ey
        rw [hq] at ey
        exact (Option.some.inj ey).symm
      have eg : (T0.hk ++ [x]).getD i "" = (T0.hk ++ [x])[i] := by
        rw [List.getD_eq_getElem?_getD, List.getElem?_eq_getElem hi]
        rfl
      refine ⟨Ex.new nT, _, tgt_pair (st_of upd_same), rfl, fun H7 e7 Q q => q H7 (Ex.refl _), fun H7 e7 Q q => ⟨_, rfl, _, rfl, (by show 2 ≤ sizeLine; decide), fun t nt => q (.ref t) _ (Ex.new nt) ⟨⟨t, rfl, ?_⟩, ?_⟩⟩⟩
      · show _ = some (HO.tup [V.int (spotI (g ((T0.hk ++ [x]).getD i ""))), V.str ((T0.hk ++ [x]).getD i "")])
        rw [upd_same, eg, e1, e2]
      · intro z
        have ed : t = D := V.ref.inj z
        have hd : H7 D ≠ none := by
          have h1 := e7 D _ ((Ex.new nT) D _ hys)
          rw [h1]
          intro z
          cases z
        exact hd (by rw [← ed]; exact nt)
    · intro Ts H5 e5 h5 hTl hTs
      obtain ⟨ps, q1, q2, q3⟩ := pairs_of (g := fun y => spotI (g y)) (hTl.trans hlen) hTs
      have nD4 := (bk hD).1
      have nDs := (bk hD).2
      refine ⟨e5 _ _ hF, ?_⟩
      have e45 : Ex H4 (upd H5 A.ds (.dK (numsD (fun y => spotI (g y)) (T0.hk ++ [x])))) := fun b o h => by
        by_cases hb : b = A.ds
        · rw [hb, upd_same, ← hmut, ← hb, h]
        · rw [upd_ne hb]
          exact e5 b o (pH hb h)
      have h6 : (upd H5 A.ds (.dK (numsD (fun y => spotI (g y)) (T0.hk ++ [x])))) D = some (.lst (ps.map refIS)) := by
        rw [upd_ne nDs, h5, q1]
      have h7 : ∀ p ∈ ps, (upd H5 A.ds (.dK (numsD (fun y => spotI (g y)) (T0.hk ++ [x])))) p.1 = some (.tup [.int p.2.1, .str p.2.2]) := fun p hp => by
        have h8 := (q3 p hp).2
        refine upd_get h8 fun z => ?_
        rw [z, e5 _ _ hF] at h8
        cases h8
      generalize upd H5 A.ds (.dK (numsD (fun y => spotI (g y)) (T0.hk ++ [x]))) = H6 at e45 h6 h7
      refine ⟨D, ps, rfl, sq_of h6, fun p hp => st_of (h7 p hp), fun qs r hqp hqs nr => ?_⟩
      have hT6 := hT4.ex e45
      have hqm : ∀ p ∈ qs, p ∈ ps := fun p hp => hqp.mem_iff.mp hp
      have h8 : ∀ p ∈ qs, (upd H6 r (.lst (qs.map refIS))) p.1 = some (.tup [.int p.2.1, .str p.2.2]) := fun p hp => upd_get (h7 p (hqm p hp)) (ne_of_none (h7 p (hqm p hp)) nr)
      have h9 : (upd H6 r (.lst (qs.map refIS))) r = some (.lst (qs.map refIS)) := upd_same
      have e6 : Ex H6 (upd H6 r (.lst (qs.map refIS))) := Ex.new nr
      generalize upd H6 r (.lst (qs.map refIS)) = H7 at h8 h9 e6
      have hT7 := hT6.ex e6
      have hql : qs.length ≤ 100 := by rw [hqp.length_eq, ← List.length_map (f := fun p : K7.IS => p.2.2), q2]; exact hfew
      refine ⟨_, rfl, r, rfl, ⟨_, sq_of h9⟩, fun D2 nD2 => lc_val (w := walk_list (K := K) (a := r) (xs := qs.map refIS)) (fun _ => true) (fun i => V.str ((qs.map fun p => p.2.2).getD i "")) nD2 (by rw [List.length_map]; omega) (fun H8 e8 => sq_of (e8 _ _ h9)) ?_ ?_⟩
      · rintro i y H8 H9 hi e8 _ ⟨rfl, hy⟩
        have hi' : i < qs.length := by rw [List.length_map] at hi; exact hi
        have ey : y = .ref qs[i].1 := by
          rw [List.getElem?_map, List.getElem?_eq_getElem hi'] at hy
          exact (Option.some.inj hy).symm
        subst ey
        refine ⟨Ex.refl _, _, tgt_pair (st_of (e8 _ _ (h8 qs[i] (List.getElem_mem hi')))), rfl, fun H7 e7 Q q => q H7 (Ex.refl _), fun _ => ev_is (ev_var rfl) ?_⟩
        simp [hi']
      · intro H8 e8 hD8
        have eg : given (qs.map refIS).length (fun _ => true) (fun i => V.str ((qs.map fun p => p.2.2).getD i "")) = (qs.map fun p => p.2.2).map V.str := by
          have e0 : (qs.map refIS).length = (qs.map fun p => p.2.2).length := by rw [List.length_map, List.length_map]
          rw [e0]
          have := given_filter (qs.map fun p => p.2.2) (fun _ => true) V.str (fun _ => true) (fun i => V.str ((qs.map fun p => p.2.2).getD i "")) (fun _ _ _ => rfl) (fun i y hy => by rw [List.getD_eq_getElem?_getD, hy]; rfl)
          rw [this, List.filter_eq_self.mpr fun _ _ => rfl]
        rw [eg] at hD8
        have hT8 := hT7.ex e8
        have nD20 : H4 D2 = none := fresh_back e45 (fresh_back e6 nD2)
        have nD2o : D2 ∉ A.own := hT4.out nD20
        refine ⟨_, rfl, _, _, _, _, rfl, hT8.ins, T.cl_Table, T.na_Table_own_names, (by show 8 < 1000; decide), ?_⟩
        have f8 := ((f4.ex e45).ex e6).ex e8
        refine k (qs.map fun p : K7.IS => p.2.2) { A with ln := D2 } _ (by rw [← q2]; exact hqp.map _) (rows_srt (fun p hp => (q3 p (hqm p hp)).1) hqs) ⟨rfl, rfl, f8.kp.mut own_p, fun a ha => ?_⟩ (hT8.setNames hD8 nD2o)
        have ha' : a ∈ A.own.set 4 D2 := ha
        rcases List.mem_or_eq_of_mem_set ha' with z | z
        · exact .inl z
        · refine .inr ?_
          rw [z]
          exact f4.kp.back nD20 nD2o
end
end K70
set_option Elab.async false
set_option linter.all false
set_option maxRecDepth 100000
set_option maxHeartbeats 4000000
namespace K70
open PySem PySem.Spec PyProof.Rows L2 Evl
open C8 (Cal Met Mak pe_c pe_mt pe_mt0 pe_mk pe_gc InsC call_isC)
open K7 (Kp ShOk upd_get eq_nil ne_nil dp_strs sh_strs strsD lc_val lc_ev lc_pair IsPair tgt_name tgt_pair given_filter EvP seq_ix HeldF FnH refIS keyIS leIS)
def putS (vs : List (Str × V)) (x : Str) (v : V) : List (Str × V) := if x ∈ vs.map (·.1) then vs.map (fun q => if q.1 = x then (q.1, v) else q) else vs ++ [(x, v)]
theorem valsD_any (vs : List (Str × V)) (x : Str) : ((valsD vs).any fun kv => decide (kv.1 = (Sum.inr x : Key))) = decide (x ∈ vs.map (·.1)) := by
  unfold valsD
  rw [List.any_map, Bool.eq_iff_iff, List.any_eq_true, decide_eq_true_eq, List.mem_map]
  constructor
  · rintro ⟨q, hq, e⟩
    exact ⟨q, hq, Sum.inr.inj (of_decide_eq_true e)⟩
  · rintro ⟨q, hq, e⟩
    exact ⟨q, hq, decide_eq_true (congrArg Sum.inr e)⟩
theorem valsD_put (vs : List (Str × V)) (x : Str) (v : V) : putK (valsD vs) (Sum.inr x) v = valsD (putS vs x v) := by
  unfold putK putS
  rw [valsD_any]
  by_cases h : x ∈ vs.map (·.1)
  · rw [if_pos (decide_eq_true h), if_pos h]
    unfold valsD
    rw [List.map_map, List.map_map]
    refine List.map_congr_left fun q _ => ?_
    show (if (Sum.inr q.1 : Key) = Sum.inr x then ((Sum.inr q.1 : Key), v) else (Sum.inr q.1, q.2)) = _
    by_cases e : q.1 = x
    · simp [e]
    · have e' : ¬ (Sum.inr q.1 : Key) = Sum.inr x := fun z => e (Sum.inr.inj z)
      simp [e, e']
  · rw [if_neg (by simpa using h), if_neg h]
    unfold valsD
    rw [List.map_append]
    rfl
theorem valsD_some (vs : List (Str × V)) (x : Str) : (valV (valsD vs) (Sum.inr x)).isSome = decide (x ∈ vs.map (·.1)) := by
  rw [← valsD_any]
  unfold valV
  rw [Option.isSome_map, Bool.eq_iff_iff, List.find?_isSome, List.any_eq_true]
theorem putS_keys (vs : List (Str × V)) (x : Str) (v : V) (h : x ∈ vs.map (·.1)) : (putS vs x v).map (·.1) = vs.map (·.1) := by
  unfold putS
  rw [if_pos h, List.map_map]
  refine List.map_congr_left fun q _ => ?_
  show (if q.1 = x then (q.1, v) else q).1 = q.1
  split <;> rfl
def sp_Table_put (P : Program) (w : World) (K : PySem.W.Frag) (mg : Str → Option Value) (base : Heap) : Sp := fun vs H Q _ => ∃ (g : Str → Int) (l : List (Addr × HO)) (A : Ad) (T : Tb) (x : Str) (v : V), vs = [.ref A.p, .str x, v] ∧ TabH K g H A T ∧ Inv g T ∧ NameOk x ∧ T.hk.length < 100 ∧
  Spr P w K mg base A.sp g l ∧ Std l H ∧ ∀ (b : Bool) A' T' H', Fr A A' H H' → TabH K g H' A' T' → Inv g T' → T'.vals = putS T.vals x v → Q (.bl b) H'
def sp_Table_get (K : PySem.W.Frag) : Sp := fun vs H Q _ => ∃ (g : Str → Int) (A : Ad) (T : Tb) (x : Str) (z : V), vs = [.ref A.p, .str x, z] ∧ TabH K g H A T ∧ Inv g T ∧ NameOk x ∧ ∀ r A' T' H', Fr A A' H H' → TabH K g H' A' T' → Inv g T' → T'.vals = T.vals → Q r H'
section
variable {K : PySem.W.Frag} {g : Str → Int} {H : Hp} {A : Ad} {T : Tb}
theorem TabH.setVals (hT : TabH K g H A T) {vs : List (Str × V)} : TabH K g (upd H A.dv (.dK (valsD vs))) A { T with vals := vs } := by
  have N := hT.nd
  simp only [Ad.own, List.nodup_cons, List.mem_cons, List.mem_append, not_or] at N
  obtain ⟨⟨p_v, p_h, p_s, p_n, p_o, p_w, p_bo, p_bn⟩, ⟨v_h, v_s, v_n, v_o, v_w, v_bo, v_bn⟩, ⟨h_s, h_n, h_o, h_w, h_bo, h_bn⟩, ⟨s_n, s_o, s_w, s_bo, s_bn⟩, ⟨n_o, n_w, n_bo, n_bn⟩, ⟨o_w, o_bo, o_bn⟩, ⟨w_bo, w_bn⟩, bnd⟩ := N
  have k : Kp [A.dv] H (upd H A.dv (.dK (valsD vs))) := (Kp.refl _ _).mut (by simp)
  have n : ∀ {a}, ¬ a = A.dv → a ∉ [A.dv] := fun h => by simp [h]
  exact ⟨k _ _ (n p_v) hT.ins, upd_same, k _ _ (n (Ne.symm v_h)) hT.hash, k _ _ (n (Ne.symm v_s)) hT.spot, k _ _ (n (Ne.symm v_n)) hT.nam, k _ _ (n (Ne.symm v_o)) hT.old, k _ _ (n (Ne.symm v_w)) hT.new, hT.bko.kp k fun b hb => n fun z => v_bo (by rw [← z]; exact hb), hT.bkn.kp k fun b hb => n fun z => v_bn (by rw [← z]; exact hb), hT.nd⟩
theorem dput_vals {H : Hp} {a : Addr} {vs : List (Str × V)} {x : Str} {v : V} (h : H a = some (.dK (valsD vs))) (hl : vs.length < 100000) : DPut H a (.str x) v (upd H a (.dK (valsD (putS vs x v)))) := by
  rw [← valsD_put]
  exact DPut.k (k := Sum.inr x) h (by unfold valsD; rw [List.length_map]; exact sz_lt hl)
end
section
variable {P : Program} {w : World} {K : PySem.W.Frag} {mg : Str → Option Value} {base : Heap}
theorem ok_Table_get {f : Addr} {fd : FuncData} {dvs : List V} (F : FunD K "get" "Table.get" (defArgs s_Table_get) (defBody s_Table_get) (defScope s_Table_get) dvs [] f fd) (T : Txt K mg)
    (c_require_text : Cal P w K mg base 2 "require_text" sp_require_text [])
    (c_Table_move_on : Met P w K mg base 1 (He.ga K "Table") "move_on" (sp_Table_move_on K) []) :
    FnOk P w K mg base CX0 3 f fd ["self", "name", "other"] (sp_Table_get K) := by
  have nd := sc_Table_get.nd
  refine ok0 F sc_Table_get (fun vs H Q E h => by
    obtain ⟨g, A, T0, x, z, rfl, hT, I, hok, k⟩ := h
    rfl) (fun cdv A outer s H vs Q E hr h => ?_)
  obtain ⟨g, A, T0, x, z, rfl, hT, I, hok, k⟩ := h
  refine ⟨_, (pss_cons (ps_expr (pe_c c_require_text hr (by decide) (by rfl) (pa_cons (pv 1) pa_nil)))
     (pss_cons (ps_expr (pe_mt0 c_Table_move_on hr (by decide) (pv 0)))
     (pss_one (ps_ret (pe_dget2 (hu_of hr) (K7.pe_fldK (K := K) rfl (pv 0) rfl) (pv 1) (pv 2) ⟨by rfl, by rfl, by rfl, by rfl⟩))))), ?_⟩
  refine ⟨_, rfl, x, rfl, hok.1, fun H1 e1 => ?_⟩
  have hT1 := hT.ex e1
  refine ⟨_, rfl, A.p, _, _, rfl, hT1.ins, rfl, g, A, T0, rfl, hT1, I, fun A1 H2 f2 hT2 => ?_⟩
  have f2' : Fr A A1 H H2 := ((Fr.refl A H).ex e1).trans f2
  have hp : H2 A.p = some (.ins (TC K) A1.dx (fsA A1 (moveOn g T0).moved)) := by rw [← f2.p]; exact hT2.ins
  refine ⟨_, rfl, _, _, _, _, _, rfl, hp, T.cl_Table, T.na_Table_own_values, rfl, A1.dv, rfl, .inl ⟨_, .inl hT2.val⟩, _, rfl, _, rfl, _, DGet.k (k := Sum.inr x) hT2.val, ?_⟩
  exact k _ A1 _ H2 f2' hT2 (inv_moveOn I) (moveOn_vals g T0)
theorem ok_Table_put {f : Addr} {fd : FuncData} {dvs : List V} (F : FunD K "put" "Table.put" (defArgs s_Table_put) (defBody s_Table_put) (defScope s_Table_put) dvs [] f fd) (T : Txt K mg)
    (c_require_text : Cal P w K mg base 2 "require_text" sp_require_text [])
    (c_Table_move_on : Met P w K mg base 1 (He.ga K "Table") "move_on" (sp_Table_move_on K) [])
    (c_Table_put_new : Met P w K mg base 3 (He.ga K "Table") "put_new" (sp_Table_put_new P w K mg base) [])
    (c_Table_begin_move : Met P w K mg base 2 (He.ga K "Table") "begin_move" (sp_Table_begin_move K) [])
    (c_buckets_above : Cal P w K mg base 1 "buckets_above" sp_buckets_above []) :
    FnOk P w K mg base CX0 4 f fd ["self", "name", "value"] (sp_Table_put P w K mg base) := by
  have nd := sc_Table_put.nd
  refine ok0 F sc_Table_put (fun vs H Q E h => by
    obtain ⟨g, l, A, T0, x, v, rfl, hT, I, hok, hlt, hS, hl, k⟩ := h
    rfl) (fun cdv A outer s H vs Q E hr h => ?_)
  obtain ⟨g, l, A, T0, x, v, rfl, hT, I, hok, hlt, hS, hl, k⟩ := h
  refine ⟨_, (pss_cons (ps_expr (pe_c c_require_text hr (by decide) (by rfl) (pa_cons (pv 1) pa_nil)))
     (pss_cons (ps_expr (pe_mt0 c_Table_move_on hr (by decide) (pv 0)))
     (pss_cons (ps_set (i := 3) nd rfl (Or.inl rfl) (pe_cmp (pc_dnotin (hu_of hr) (pv 1) (K7.pe_fldK (K := K) rfl (pv 0) rfl)) rfl))
     (pss_cons (ps_dput (hu_of hr) (K7.pe_fldK (K := K) rfl (pv 0) rfl) (pv 1) (pv 2) rfl)
     (pss_cons (ps_if (pt_val (pv 3)) (pss_cons (ps_expr (pe_mt c_Table_put_new hr (by decide) (pv 0) (pa_cons (pv 1) pa_nil)))
     (pss_cons (ps_set (i := 4) nd rfl (Or.inl rfl) (pe_callB call_lenD (by rfl) T.b_len bt_len (pa_cons (K7.pe_fldK (K := K) rfl (pv 0) rfl) pa_nil)))
     (pss_one (ps_if (PW.pt (pw_and (pt_cmpR (K7.op_eqK (K := K) rfl hr.units) (K7.pe_fldK (K := K) rfl (pv 0) rfl) (pe_lst pa_nil) (nomark _)) (pw_and (pt_cmpR op_lt (pe_callB (K7.call_lenK (K := K) rfl) (by rfl) T.b_len bt_len (pa_cons (K7.pe_fldK (K := K) rfl (pv 0) rfl) pa_nil)) (pv 4) (nomark _)) (pw_and1 (pt_cmpR op_lt (pe_callB (K7.call_lenK (K := K) rfl) (by rfl) T.b_len bt_len (pa_cons (K7.pe_fldK (K := K) rfl (pv 0) rfl) pa_nil)) (pe_gc (by rfl) T.g_MOST_BUCKETS) (nomark _)))))) (pss_one (ps_expr (pe_mt c_Table_begin_move hr (by decide) (pv 0) (pa_cons (pe_c c_buckets_above hr (by decide) (by rfl) (pa_cons (pv 4) pa_nil)) pa_nil)))) pss_nil)))) pss_nil)
     (pss_one (ps_ret (pv 3)))))))), ?_⟩
  refine ⟨_, rfl, x, rfl, hok.1, fun H1 e1 => ?_⟩
  have hT1 := hT.ex e1
  refine ⟨_, rfl, A.p, _, _, rfl, hT1.ins, rfl, g, A, T0, rfl, hT1, I, fun A1 H2 f2 hT2 => ?_⟩
  have f2' : Fr A A1 H H2 := ((Fr.refl A H).ex e1).trans f2
  have hl2 := hl.kp hT f2'.kp
  have I1 := inv_moveOn I
  have ev := moveOn_vals g T0
  have ehk : (moveOn g T0).hk = T0.hk := by rw [← I1.keys, ev, I.keys]
  generalize moveOn g T0 = T1 at hT2 I1 ev ehk
  have ep := f2.p
  have hp : H2 A.p = some (.ins (TC K) A1.dx (fsA A1 T1.moved)) := by rw [← ep]; exact hT2.ins
  have hvl : T1.vals.length ≤ 100 := by rw [← List.length_map (f := Prod.fst), I1.keys]; exact I1.few
  refine ⟨_, rfl, _, rfl, _, _, _, _, _, rfl, hp, T.cl_Table, T.na_Table_own_values, rfl, A1.dv, _, rfl, DGet.k (k := Sum.inr x) hT2.val, ?_⟩
  rw [valsD_some]
  refine ⟨_, rfl, _, rfl, _, _, _, _, _, rfl, hp, T.cl_Table, T.na_Table_own_values, rfl, _, rfl, A1.dv, _, rfl, dput_vals hT2.val (by omega), ?_⟩
  have hT3 := hT2.setVals (vs := putS T1.vals x v)
  have f3 : Fr A A1 H (upd H2 A1.dv (.dK (valsD (putS T1.vals x v)))) := f2'.trans ⟨rfl, rfl, (Kp.refl _ _).mut own_dv, fun _ h => .inl h⟩
  have hp3 := hT3.ins
  rw [ep] at hp3
  have hl3 := hl.kp hT f3.kp
  generalize upd H2 A1.dv (.dK (valsD (putS T1.vals x v))) = H3 at hT3 f3 hp3 hl3
  by_cases hx : x ∈ T1.vals.map (·.1)
  · rw [decide_eq_true hx]
    refine ⟨_, rfl, _, rfl, iteF ⟨_, rfl, ?_⟩⟩
    exact k _ A1 _ H3 f3 hT3 (inv_vals I1 (by rw [putS_keys _ _ _ hx]; exact I1.keys)) (by rw [← ev])
  · rw [decide_eq_false hx]
    have hxk : x ∉ T1.hk := by rw [← I1.keys]; exact hx
    have eput : putS T1.vals x v = T1.vals ++ [(x, v)] := by unfold putS; rw [if_neg hx]
    rw [eput] at hT3
    refine ⟨_, rfl, _, rfl, iteT ?_⟩
    refine ⟨_, rfl, A.p, _, _, rfl, hp3, rfl, _, rfl, g, l, A1, T1, x, v, (by rw [ep]; rfl), hT3, I1, hxk, hok, by rw [ehk]; exact hlt, by rw [f3.sp]; exact hS, hl3, fun ns A2 H4 hns hsr f4 hT4 => ?_⟩
    have f4' := f3.trans f4
    have I2 := inv_putNew (v := v) I1 hxk hok (hS.rng x hok) (by rw [ehk]; exact hlt) hns hsr
    have ep2 := f4'.p
    have hp4 : H4 A.p = some (.ins (TC K) A2.dx (fsA A2 (newT T1 g x v ns).moved)) := by rw [← ep2]; exact hT4.ins
    have ev2 : (newT T1 g x v ns).vals = putS T0.vals x v := by rw [← ev, eput]; rfl
    change Inv g (newT T1 g x v ns) at I2
    generalize newT T1 g x v ns = T2 at hT4 I2 hp4 ev2
    refine ⟨_, rfl, _, _, _, _, _, rfl, hp4, T.cl_Table, T.na_Table_own_values, rfl, A2.dv, _, rfl, hT4.val, ?_⟩
    refine ⟨_, rfl, _, _, _, _, _, rfl, hp4, T.cl_Table, T.na_Table_own_new, rfl, Nat.zero_le _, fun q nq => eq_nil (sq_of (upd_get hT4.new (ne_of_none hT4.new nq))) (dp_bk (hT4.bkn.ex (Ex.new nq))) (sh_bk (okL_new I2)) upd_same ⟨_, rfl, ?_⟩⟩
    have e5 : Ex H4 (upd H4 q (.lst [])) := Ex.new nq
    generalize upd H4 q (.lst []) = H5 at e5
    have f5 := f4'.ex e5
    have hT5 := hT4.ex e5
    have hp5 := e5 _ _ hp4
    have fin : Q (.bl true) H5 := k _ A2 T2 H5 f5 hT5 I2 ev2
    have lbn : A2.bn.length = T2.new.length := hT4.bkn.len
    by_cases hn : T2.new = []
    · have ebn : A2.bn = [] := List.eq_nil_of_length_eq_zero (by rw [lbn, hn]; rfl)
      refine itB (decide_eq_true (by rw [ebn]; rfl)) ⟨_, rfl, _, _, _, _, _, rfl, hp5, T.cl_Table, T.na_Table_own_old, rfl, A2.lo, _, rfl, .inl (sq_of hT5.old), _, rfl, _, _, rfl, rfl, _, rfl, ?_⟩
      generalize hM : (65536 : Int) = M
      refine ite2 (fun _ => ⟨_, rfl, _, _, _, _, _, rfl, hp5, T.cl_Table, T.na_Table_own_old, rfl, A2.lo, _, rfl, .inl (sq_of hT5.old), _, _, rfl, rfl, _, rfl, ite2 (fun _ => ?_) fun _ => ⟨_, rfl, fin⟩⟩) fun _ => iteF ⟨_, rfl, fin⟩
      refine ⟨_, rfl, A.p, _, _, rfl, hp5, rfl, _, rfl, _, rfl, fun n h2 h16 => ?_⟩
      have e2 : (2 : Int) ^ n = ((2 ^ n : Nat) : Int) := by rw [Int.natCast_pow]; rfl
      refine ⟨g, A2, T2, 2 ^ n, by rw [← ep2, ← e2]; rfl, hT5, ?_, fun A3 H6 f6 hT6 => ⟨_, rfl, ?_⟩⟩
      · exact Nat.le_trans (Nat.pow_le_pow_right (by decide) h16) (by decide)
      · exact k _ A3 _ H6 (f5.trans f6) hT6 (inv_begin I2 hn h2 h16) ev2
    · exact itN (decide_eq_false fun z => hn (List.eq_nil_of_length_eq_zero (by rw [← lbn, List.map_eq_nil_iff.mp z]; rfl))) ⟨_, rfl, fin⟩
end
end K70
set_option Elab.async false
set_option linter.all false
set_option maxRecDepth 100000
set_option maxHeartbeats 4000000
namespace K70
open PySem PySem.Spec PyProof.Rows L2 Evl
open C8 (Cal Met Mak pe_c pe_mt pe_mt0 pe_mk pe_gc InsC call_isC)
open K7 (Kp ShOk upd_get eq_nil ne_nil dp_strs sh_strs strsD lc_val lc_ev lc_pair IsPair tgt_name tgt_pair given_filter EvP seq_ix HeldF FnH refIS keyIS leIS)
theorem dropK_nums (g : Str → Int) (ks : List Str) (x : Str) : dropK (numsD g ks) (Sum.inr x) = numsD g (ks.filter (ne1 x)) := by
  unfold dropK numsD
  rw [List.filter_map]
  refine congrArg _ (List.filter_congr fun y _ => ?_)
  show decide ((Sum.inr y : Key) ≠ Sum.inr x) = !decide (y = x)
  by_cases e : y = x
  · simp [e]
  · have e' : ¬ (Sum.inr y : Key) = Sum.inr x := fun z => e (Sum.inr.inj z)
    simp [e, e']
theorem dropK_vals (vs : List (Str × V)) (x : Str) : dropK (valsD vs) (Sum.inr x) = valsD (vs.filter fun q => ne1 x q.1) := by
  unfold dropK valsD
  rw [List.filter_map]
  refine congrArg _ (List.filter_congr fun y _ => ?_)
  show decide ((Sum.inr y.1 : Key) ≠ Sum.inr x) = !decide (y.1 = x)
  by_cases e : y.1 = x
  · simp [e]
  · have e' : ¬ (Sum.inr y.1 : Key) = Sum.inr x := fun z => e (Sum.inr.inj z)
    simp [e, e']
theorem flat_len {α : Type} : ∀ {ls : List (List α)} {l : List α}, l ∈ ls → l.length ≤ ls.flatten.length
  | a :: r, l, h => by
    rw [List.flatten_cons, List.length_append]
    rcases List.mem_cons.mp h with z | z
    · rw [z]; omega
    · have := flat_len z
      omega
theorem Inv.flen {g : Str → Int} {T : Tb} (I : Inv g T) : T.old.flatten.length + T.new.flatten.length ≤ 100 := by
  rw [← List.length_append, I.flat.length_eq]
  exact I.few
theorem Inv.len_old {g : Str → Int} {T : Tb} (I : Inv g T) : T.old.length ≤ 65536 := by
  obtain ⟨n, _, h, e⟩ := I.old
  rw [e]
  exact Nat.le_trans (Nat.pow_le_pow_right (by decide) h) (by decide)
theorem Inv.len_new {g : Str → Int} {T : Tb} (I : Inv g T) : T.new.length ≤ 65536 := by
  rcases I.new with ⟨z, _⟩ | ⟨_, n, _, h, e⟩
  · rw [z]; exact Nat.zero_le _
  · rw [e]
    exact Nat.le_trans (Nat.pow_le_pow_right (by decide) h) (by decide)
theorem Inv.lens_old {g : Str → Int} {T : Tb} (I : Inv g T) : ∀ l ∈ T.old, l.length ≤ 65536 := fun l h => by
  have := flat_len h
  have := I.flen
  omega
theorem Inv.lens_new {g : Str → Int} {T : Tb} (I : Inv g T) : ∀ l ∈ T.new, l.length ≤ 65536 := fun l h => by
  have := flat_len h
  have := I.flen
  omega
def dropS (vs : List (Str × V)) (x : Str) : List (Str × V) := vs.filter fun q => ne1 x q.1
def sp_Table_take (K : PySem.W.Frag) : Sp := fun vs H Q _ => ∃ (g : Str → Int) (A : Ad) (T : Tb) (x : Str) (z : V), vs = [.ref A.p, .str x, z] ∧ TabH K g H A T ∧ Inv g T ∧ NameOk x ∧ ∀ r A' T' H', Fr A A' H H' → TabH K g H' A' T' → Inv g T' → T'.vals = dropS T.vals x → Q r H'
section
variable {K : PySem.W.Frag} {g : Str → Int} {H : Hp} {A : Ad} {T : Tb}
theorem TabH.setNums (hT : TabH K g H A T) {ks : List Str} : TabH K g (upd (upd H A.dh (.dK (numsD g ks))) A.ds (.dK (numsD (fun y => spotI (g y)) ks))) A { T with hk := ks } := by
  have N := hT.nd
  simp only [Ad.own, List.nodup_cons, List.mem_cons, List.mem_append, not_or] at N
  obtain ⟨⟨p_v, p_h, p_s, p_n, p_o, p_w, p_bo, p_bn⟩, ⟨v_h, v_s, v_n, v_o, v_w, v_bo, v_bn⟩, ⟨h_s, h_n, h_o, h_w, h_bo, h_bn⟩, ⟨s_n, s_o, s_w, s_bo, s_bn⟩, ⟨n_o, n_w, n_bo, n_bn⟩, ⟨o_w, o_bo, o_bn⟩, ⟨w_bo, w_bn⟩, bnd⟩ := N
  have k2 : Kp [A.dh, A.ds] H (upd (upd H A.dh (.dK (numsD g ks))) A.ds (.dK (numsD (fun y => spotI (g y)) ks))) := ((Kp.refl _ _).mut (by simp)).mut (by simp)
  have n2 : ∀ {c}, ¬ c = A.dh → ¬ c = A.ds → c ∉ [A.dh, A.ds] := fun a b => by simp [a, b]
  exact ⟨k2 _ _ (n2 p_h p_s) hT.ins, k2 _ _ (n2 v_h v_s) hT.val, by rw [upd_ne h_s]; exact upd_same, upd_same, k2 _ _ (n2 (Ne.symm h_n) (Ne.symm s_n)) hT.nam, k2 _ _ (n2 (Ne.symm h_o) (Ne.symm s_o)) hT.old, k2 _ _ (n2 (Ne.symm h_w) (Ne.symm s_w)) hT.new,
      hT.bko.kp k2 fun b hb => n2 (fun z => h_bo (by rw [← z]; exact hb)) fun z => s_bo (by rw [← z]; exact hb), hT.bkn.kp k2 fun b hb => n2 (fun z => h_bn (by rw [← z]; exact hb)) fun z => s_bn (by rw [← z]; exact hb), hT.nd⟩
theorem nd_old {A : Ad} {q : Addr} {cs : List Addr} (h : A.own.Nodup) (hq : q ∉ A.own) (hc : ∀ c ∈ cs, c ∈ A.bo ∨ c ∉ A.own) (hn : q ∉ cs) (hd : cs.Nodup) : ({ A with lo := q, bo := cs } : Ad).own.Nodup := by
  have h' := h
  simp only [Ad.own, List.nodup_cons, List.mem_cons, List.mem_append, not_or] at h'
  obtain ⟨⟨p_v, p_h, p_s, p_n, p_o, p_w, p_bo, p_bn⟩, ⟨v_h, v_s, v_n, v_o, v_w, v_bo, v_bn⟩, ⟨h_s, h_n, h_o, h_w, h_bo, h_bn⟩, ⟨s_n, s_o, s_w, s_bo, s_bn⟩, ⟨n_o, n_w, n_bo, n_bn⟩, ⟨o_w, o_bo, o_bn⟩, ⟨w_bo, w_bn⟩, bnd⟩ := h'
  obtain ⟨bo_nd, bn_nd, bob⟩ := List.nodup_append.mp bnd
  have nq : ∀ {a}, a ∈ A.own → ¬ a = q := fun ha z => hq (by rw [← z]; exact ha)
  have nc : ∀ {a}, a ∈ A.own → a ∉ A.bo → a ∉ cs := fun ha hb z => (hc _ z).elim hb fun w => w ha
  show (A.p :: A.dv :: A.dh :: A.ds :: A.ln :: q :: A.lw :: (cs ++ A.bn)).Nodup
  simp only [List.nodup_cons, List.mem_cons, List.mem_append, not_or]
  refine ⟨⟨p_v, p_h, p_s, p_n, nq own_p, p_w, nc own_p p_bo, p_bn⟩, ⟨v_h, v_s, v_n, nq own_dv, v_w, nc own_dv v_bo, v_bn⟩, ⟨h_s, h_n, nq own_dh, h_w, nc own_dh h_bo, h_bn⟩, ⟨s_n, nq own_ds, s_w, nc own_ds s_bo, s_bn⟩, ⟨nq own_ln, n_w, nc own_ln n_bo, n_bn⟩, ⟨fun z => hq (by rw [z]; exact own_lw), hn, fun z => hq (own_bn z)⟩, ⟨nc own_lw w_bo, w_bn⟩, ?_⟩
  rw [List.nodup_append]
  exact ⟨hd, bn_nd, fun a ha b hb e => (hc a ha).elim (fun z => bob a z b hb e) fun z => z (by rw [e]; exact own_bn hb)⟩
theorem nd_new {A : Ad} {q : Addr} {cs : List Addr} (h : A.own.Nodup) (hq : q ∉ A.own) (hc : ∀ c ∈ cs, c ∈ A.bn ∨ c ∉ A.own) (hn : q ∉ cs) (hd : cs.Nodup) : ({ A with lw := q, bn := cs } : Ad).own.Nodup := by
  have h' := h
  simp only [Ad.own, List.nodup_cons, List.mem_cons, List.mem_append, not_or] at h'
  obtain ⟨⟨p_v, p_h, p_s, p_n, p_o, p_w, p_bo, p_bn⟩, ⟨v_h, v_s, v_n, v_o, v_w, v_bo, v_bn⟩, ⟨h_s, h_n, h_o, h_w, h_bo, h_bn⟩, ⟨s_n, s_o, s_w, s_bo, s_bn⟩, ⟨n_o, n_w, n_bo, n_bn⟩, ⟨o_w, o_bo, o_bn⟩, ⟨w_bo, w_bn⟩, bnd⟩ := h'
  obtain ⟨bo_nd, bn_nd, bob⟩ := List.nodup_append.mp bnd
  have nq : ∀ {a}, a ∈ A.own → ¬ a = q := fun ha z => hq (by rw [← z]; exact ha)
  have nc : ∀ {a}, a ∈ A.own → a ∉ A.bn → a ∉ cs := fun ha hb z => (hc _ z).elim hb fun w => w ha
  show (A.p :: A.dv :: A.dh :: A.ds :: A.ln :: A.lo :: q :: (A.bo ++ cs)).Nodup
  simp only [List.nodup_cons, List.mem_cons, List.mem_append, not_or]
  refine ⟨⟨p_v, p_h, p_s, p_n, p_o, nq own_p, p_bo, nc own_p p_bn⟩, ⟨v_h, v_s, v_n, v_o, nq own_dv, v_bo, nc own_dv v_bn⟩, ⟨h_s, h_n, h_o, nq own_dh, h_bo, nc own_dh h_bn⟩, ⟨s_n, s_o, nq own_ds, s_bo, nc own_ds s_bn⟩, ⟨n_o, nq own_ln, n_bo, nc own_ln n_bn⟩, ⟨nq own_lo, o_bo, nc own_lo o_bn⟩, ⟨fun z => hq (own_bo z), hn⟩, ?_⟩
  rw [List.nodup_append]
  exact ⟨bo_nd, hd, fun a ha b hb e => (hc b hb).elim (fun z => bob a ha b z e) fun z => z (by rw [← e]; exact own_bo ha)⟩
theorem TabH.setOldL (hT : TabH K g H A T) {q : Addr} {cs : List Addr} {ls : List (List Str)} (hq : H q = some (.lst (cs.map V.ref))) (hb : BkAt H cs ls) (nq : q ∉ A.own) (hc : ∀ c ∈ cs, c ∈ A.bo ∨ c ∉ A.own) (hn : q ∉ cs) (hd : cs.Nodup) :
    TabH K g (upd H A.p (.ins (TC K) A.dx (fsA { A with lo := q, bo := cs } T.moved))) { A with lo := q, bo := cs } { T with old := ls } := by
  have N := hT.nd
  simp only [Ad.own, List.nodup_cons, List.mem_cons, List.mem_append, not_or] at N
  obtain ⟨⟨p_v, p_h, p_s, p_n, p_o, p_w, p_bo, p_bn⟩, ⟨v_h, v_s, v_n, v_o, v_w, v_bo, v_bn⟩, ⟨h_s, h_n, h_o, h_w, h_bo, h_bn⟩, ⟨s_n, s_o, s_w, s_bo, s_bn⟩, ⟨n_o, n_w, n_bo, n_bn⟩, ⟨o_w, o_bo, o_bn⟩, ⟨w_bo, w_bn⟩, bnd⟩ := N
  have k : Kp [A.p] H (upd H A.p (.ins (TC K) A.dx (fsA { A with lo := q, bo := cs } T.moved))) := (Kp.refl _ _).mut (by simp)
  have m : ∀ {a}, ¬ a = A.p → a ∉ [A.p] := fun h => by simp [h]
  have mc : ∀ c ∈ cs, ¬ c = A.p := fun c h z => (hc c h).elim (fun w => p_bo (by rw [← z]; exact w)) fun w => w (by rw [z]; exact own_p)
  exact ⟨upd_same, k _ _ (m (Ne.symm p_v)) hT.val, k _ _ (m (Ne.symm p_h)) hT.hash, k _ _ (m (Ne.symm p_s)) hT.spot, k _ _ (m (Ne.symm p_n)) hT.nam, k _ _ (m fun z => nq (by have z : q = A.p := z; rw [z]; exact own_p)) hq, k _ _ (m (Ne.symm p_w)) hT.new, hb.kp k fun b h => m (mc b h), hT.bkn.kp k fun b hb => m fun z => p_bn (by rw [← z]; exact hb), nd_old hT.nd nq hc hn hd⟩
theorem TabH.setNewL (hT : TabH K g H A T) {q : Addr} {cs : List Addr} {ls : List (List Str)} (hq : H q = some (.lst (cs.map V.ref))) (hb : BkAt H cs ls) (nq : q ∉ A.own) (hc : ∀ c ∈ cs, c ∈ A.bn ∨ c ∉ A.own) (hn : q ∉ cs) (hd : cs.Nodup) :
    TabH K g (upd H A.p (.ins (TC K) A.dx (fsA { A with lw := q, bn := cs } T.moved))) { A with lw := q, bn := cs } { T with new := ls } := by
  have N := hT.nd
  simp only [Ad.own, List.nodup_cons, List.mem_cons, List.mem_append, not_or] at N
  obtain ⟨⟨p_v, p_h, p_s, p_n, p_o, p_w, p_bo, p_bn⟩, ⟨v_h, v_s, v_n, v_o, v_w, v_bo, v_bn⟩, ⟨h_s, h_n, h_o, h_w, h_bo, h_bn⟩, ⟨s_n, s_o, s_w, s_bo, s_bn⟩, ⟨n_o, n_w, n_bo, n_bn⟩, ⟨o_w, o_bo, o_bn⟩, ⟨w_bo, w_bn⟩, bnd⟩ := N
  have k : Kp [A.p] H (upd H A.p (.ins (TC K) A.dx (fsA { A with lw := q, bn := cs } T.moved))) := (Kp.refl _ _).mut (by simp)
  have m : ∀ {a}, ¬ a = A.p → a ∉ [A.p] := fun h => by simp [h]
  have mc : ∀ c ∈ cs, ¬ c = A.p := fun c h z => (hc c h).elim (fun w => p_bn (by rw [← z]; exact w)) fun w => w (by rw [z]; exact own_p)
  exact ⟨upd_same, k _ _ (m (Ne.symm p_v)) hT.val, k _ _ (m (Ne.symm p_h)) hT.hash, k _ _ (m (Ne.symm p_s)) hT.spot, k _ _ (m (Ne.symm p_n)) hT.nam, k _ _ (m (Ne.symm p_o)) hT.old, k _ _ (m fun z => nq (by have z : q = A.p := z; rw [z]; exact own_p)) hq, hT.bko.kp k fun b hb => m fun z => p_bo (by rw [← z]; exact hb), hb.kp k fun b h => m (mc b h), nd_new hT.nd nq hc hn hd⟩
theorem fr_names {q : Addr} {o : HO} (hT : TabH K g H A T) {H0 : Hp} (e : Ex H0 H) (nq : H0 q = none) : Fr A { A with ln := q } H0 (upd H A.p o) :=
  ⟨rfl, rfl, (Kp.of e).mut own_p, fun a ha => by
    have ha' : a ∈ A.own.set 4 q := ha
    rcases List.mem_or_eq_of_mem_set ha' with z | z
    · exact .inl z
    · exact .inr (by rw [z]; exact nq)⟩
theorem fr_old {q : Addr} {cs : List Addr} {o : HO} {H0 : Hp} (e : Ex H0 H) (nq : H0 q = none) (hc : ∀ c ∈ cs, c ∈ A.bo ∨ H0 c = none) : Fr A { A with lo := q, bo := cs } H0 (upd H A.p o) :=
  ⟨rfl, rfl, (Kp.of e).mut own_p, fun a ha => by
    have ha : a ∈ A.p :: A.dv :: A.dh :: A.ds :: A.ln :: q :: A.lw :: (cs ++ A.bn) := ha
    simp only [List.mem_cons, List.mem_append] at ha
    rcases ha with z | z | z | z | z | z | z | z | z
    · exact .inl (by rw [z]; exact own_p)
    · exact .inl (by rw [z]; exact own_dv)
    · exact .inl (by rw [z]; exact own_dh)
    · exact .inl (by rw [z]; exact own_ds)
    · exact .inl (by rw [z]; exact own_ln)
    · exact .inr (by rw [z]; exact nq)
    · exact .inl (by rw [z]; exact own_lw)
    · exact (hc a z).imp own_bo id
    · exact .inl (own_bn z)⟩
theorem fr_new {q : Addr} {cs : List Addr} {o : HO} {H0 : Hp} (e : Ex H0 H) (nq : H0 q = none) (hc : ∀ c ∈ cs, c ∈ A.bn ∨ H0 c = none) : Fr A { A with lw := q, bn := cs } H0 (upd H A.p o) :=
  ⟨rfl, rfl, (Kp.of e).mut own_p, fun a ha => by
    have ha : a ∈ A.p :: A.dv :: A.dh :: A.ds :: A.ln :: A.lo :: q :: (A.bo ++ cs) := ha
    simp only [List.mem_cons, List.mem_append] at ha
    rcases ha with z | z | z | z | z | z | z | z | z
    · exact .inl (by rw [z]; exact own_p)
    · exact .inl (by rw [z]; exact own_dv)
    · exact .inl (by rw [z]; exact own_dh)
    · exact .inl (by rw [z]; exact own_ds)
    · exact .inl (by rw [z]; exact own_ln)
    · exact .inl (by rw [z]; exact own_lo)
    · exact .inr (by rw [z]; exact nq)
    · exact .inl (own_bo z)
    · exact (hc a z).imp own_bn id⟩
end
section
variable {P : Program} {w : World} {K : PySem.W.Frag} {mg : Str → Option Value} {base : Heap}
theorem ok_Table_take {f : Addr} {fd : FuncData} {dvs : List V} (F : FunD K "take" "Table.take" (defArgs s_Table_take) (defBody s_Table_take) (defScope s_Table_take) dvs [] f fd) (T : Txt K mg)
    (c_require_text : Cal P w K mg base 2 "require_text" sp_require_text [])
    (c_Table_move_on : Met P w K mg base 1 (He.ga K "Table") "move_on" (sp_Table_move_on K) [])
    (c_without_name : Cal P w K mg base 1 "without_name" sp_without_name [])
    (c_Table_begin_move : Met P w K mg base 2 (He.ga K "Table") "begin_move" (sp_Table_begin_move K) [])
    (c_buckets_for : Cal P w K mg base 1 "buckets_for" sp_buckets_for []) :
    FnOk P w K mg base CX0 3 f fd ["self", "name", "other"] (sp_Table_take K) := by
  have nd := sc_Table_take.nd
  refine ok0 F sc_Table_take (fun vs H Q E h => by
    obtain ⟨g, A, T0, x, z, rfl, hT, I, hok, k⟩ := h
    rfl) (fun cdv A outer s H vs Q E hr h => ?_)
  obtain ⟨g, A, T0, x, z, rfl, hT, I, hok, k⟩ := h
  refine ⟨_, (pss_cons (ps_expr (pe_c c_require_text hr (by decide) (by rfl) (pa_cons (pv 1) pa_nil)))
     (pss_cons (ps_expr (pe_mt0 c_Table_move_on hr (by decide) (pv 0)))
     (pss_cons (ps_if (pt_cmp (pc_dnotin (hu_of hr) (pv 1) (K7.pe_fldK (K := K) rfl (pv 0) rfl))) (pss_one (ps_ret (pv 2))) pss_nil)
     (pss_cons (ps_set (i := 3) nd rfl (Or.inl rfl) (pe_dpop1 (K7.pe_fldK (K := K) rfl (pv 0) rfl) (pv 1) ⟨by rfl, by rfl, by rfl, by rfl⟩))
     (pss_cons (ps_expr (pe_dpop1 (K7.pe_fldK (K := K) rfl (pv 0) rfl) (pv 1) ⟨by rfl, by rfl, by rfl, by rfl⟩))
     (pss_cons (K7.ps_fldK (K := K) rfl (pv 0) (pe_lc (own := [("one", 6)]) rfl nd (K7.pi_listK (K := K) rfl (K7.pe_fldK (K := K) rfl (pv 0) rfl)) (blkOk_by (N := n_Table_take) (sc := defScope s_Table_take) (own := [("one", 6)]) (by decide +kernel)) (fun _ _ _ _ _ => (pg_name (i := 6) nd rfl (Or.inl rfl))) (fun _ _ _ _ _ => (pts_one (pt_cmpR op_ne (pv 6) (pv 1) (nomark _)))) (fun _ _ _ _ _ => (pv 6))) rfl)
     (pss_cons (K7.ps_fldK (K := K) rfl (pv 0) (pe_c c_without_name hr (by decide) (by rfl) (pa_cons (K7.pe_fldK (K := K) rfl (pv 0) rfl) (pa_cons (pv 3) (pa_cons (pv 1) pa_nil)))) rfl)
     (pss_cons (K7.ps_fldK (K := K) rfl (pv 0) (pe_c c_without_name hr (by decide) (by rfl) (pa_cons (K7.pe_fldK (K := K) rfl (pv 0) rfl) (pa_cons (pv 3) (pa_cons (pv 1) pa_nil)))) rfl)
     (pss_cons (ps_set (i := 4) nd rfl (Or.inl rfl) (pe_dpop1 (K7.pe_fldK (K := K) rfl (pv 0) rfl) (pv 1) ⟨by rfl, by rfl, by rfl, by rfl⟩))
     (pss_cons (ps_set (i := 5) nd rfl (Or.inl rfl) (pe_callB call_lenD (by rfl) T.b_len bt_len (pa_cons (K7.pe_fldK (K := K) rfl (pv 0) rfl) pa_nil)))
     (pss_cons (ps_if (PW.pt (pw_and (pt_cmpR (K7.op_eqK (K := K) rfl hr.units) (K7.pe_fldK (K := K) rfl (pv 0) rfl) (pe_lst pa_nil) (nomark _)) (pw_and (pt_cmpR op_gt (pe_callB (K7.call_lenK (K := K) rfl) (by rfl) T.b_len bt_len (pa_cons (K7.pe_fldK (K := K) rfl (pv 0) rfl) pa_nil)) (pe_gc (by rfl) T.g_LEAST_BUCKETS) (nomark _)) (pw_and1 (pt_cmpR op_le (pe_op op_mul pe_int (pv 5)) (pe_callB (K7.call_lenK (K := K) rfl) (by rfl) T.b_len bt_len (pa_cons (K7.pe_fldK (K := K) rfl (pv 0) rfl) pa_nil)) (nomark _)))))) (pss_one (ps_expr (pe_mt c_Table_begin_move hr (by decide) (pv 0) (pa_cons (pe_c c_buckets_for hr (by decide) (by rfl) (pa_cons (pv 5) pa_nil)) pa_nil)))) pss_nil)
     (pss_one (ps_ret (pv 4)))))))))))))), ?_⟩
  refine ⟨_, rfl, x, rfl, hok.1, fun H1 e1 => ?_⟩
  have hT1 := hT.ex e1
  refine ⟨_, rfl, A.p, _, _, rfl, hT1.ins, rfl, g, A, T0, rfl, hT1, I, fun A1 H2 f2 hT2 => ?_⟩
  have f2' : Fr A A1 H H2 := ((Fr.refl A H).ex e1).trans f2
  have I1 := inv_moveOn I
  have ev := moveOn_vals g T0
  generalize moveOn g T0 = T1 at hT2 I1 ev
  have ep : A1.p = A.p := f2'.p
  have hp : H2 A.p = some (.ins (TC K) A1.dx (fsA A1 T1.moved)) := by rw [← ep]; exact hT2.ins
  refine ⟨_, rfl, _, rfl, _, _, _, _, _, rfl, hp, T.cl_Table, T.na_Table_own_values, rfl, A1.dv, _, rfl, DGet.k (k := Sum.inr x) hT2.val, ?_⟩
  rw [valsD_some]
  by_cases hx : x ∈ T1.vals.map (·.1)
  rotate_left
  · rw [decide_eq_false hx]
    refine ⟨_, rfl, iteT ⟨_, rfl, k _ A1 T1 H2 f2' hT2 I1 ?_⟩⟩
    rw [ev]
    symm
    refine List.filter_eq_self.mpr fun q hq => ?_
    have : q.1 ≠ x := fun z => hx (List.mem_map.mpr ⟨q, by rw [ev]; exact hq, z⟩)
    simp [ne1, this]
  rw [decide_eq_true hx]
  have hxk : x ∈ T1.hk := by rw [← I1.keys]; exact hx
  refine ⟨_, rfl, iteF ?_⟩
  have N := hT2.nd
  simp only [Ad.own, List.nodup_cons, List.mem_cons, List.mem_append, not_or] at N
  obtain ⟨⟨p_v, p_h, p_s, p_n, p_o, p_w, p_bo, p_bn⟩, ⟨v_h, v_s, v_n, v_o, v_w, v_bo, v_bn⟩, ⟨h_s, h_n, h_o, h_w, h_bo, h_bn⟩, ⟨s_n, s_o, s_w, s_bo, s_bn⟩, ⟨n_o, n_w, n_bo, n_bn⟩, ⟨o_w, o_bo, o_bn⟩, ⟨w_bo, w_bn⟩, bnd⟩ := N
  refine ⟨_, rfl, _, _, _, _, _, rfl, hp, T.cl_Table, T.na_Table_own_hashes, rfl, A1.dh, rfl, .inl ⟨_, .inl hT2.hash⟩, _, rfl, _, Sum.inr x, _, hT2.hash, rfl, valV_nums hxk, ?_⟩
  rw [dropK_nums]
  have hp3 := upd_get (o := .dK (numsD g (T1.hk.filter (ne1 x)))) hp (by rw [← ep]; exact p_h)
  have hs3 := upd_get (o := .dK (numsD g (T1.hk.filter (ne1 x)))) hT2.spot (Ne.symm h_s)
  refine ⟨_, rfl, _, _, _, _, _, rfl, hp3, T.cl_Table, T.na_Table_own_spots, rfl, A1.ds, rfl, .inl ⟨_, .inl hs3⟩, _, rfl, _, Sum.inr x, _, hs3, rfl, valV_nums (g := fun y => spotI (g y)) hxk, ?_⟩
  rw [dropK_nums]
  have hT4 := hT2.setNums (ks := T1.hk.filter (ne1 x))
  have f4 : Fr A A1 H (upd (upd H2 A1.dh (.dK (numsD g (T1.hk.filter (ne1 x))))) A1.ds (.dK (numsD (fun y => spotI (g y)) (T1.hk.filter (ne1 x))))) := f2'.trans ⟨rfl, rfl, ((Kp.refl _ _).mut own_dh).mut own_ds, fun _ h => .inl h⟩
  clear hp3 hs3 hp
  generalize upd (upd H2 A1.dh (.dK (numsD g (T1.hk.filter (ne1 x))))) A1.ds (.dK (numsD (fun y => spotI (g y)) (T1.hk.filter (ne1 x)))) = H4 at hT4 f4
  have hp4 : H4 A.p = some (.ins (TC K) A1.dx (fsA A1 T1.moved)) := by rw [← ep]; exact hT4.ins
  refine ⟨_, rfl, _, _, _, _, _, rfl, hp4, T.cl_Table, T.na_Table_own_names, rfl, A1.ln, rfl, ⟨_, sq_of hT4.nam⟩, fun D nD => lc_val (w := walk_list (K := K) (a := A1.ln) (xs := T1.names.map V.str)) (fun i => ne1 x (T1.names.getD i "")) (fun i => V.str (T1.names.getD i "")) nD ?_ (fun H5 e5 => sq_of (e5 _ _ hT4.nam)) ?_ ?_⟩
  · rw [List.length_map, I1.perm.length_eq]
    have := I1.few
    omega
  · rintro i y H5 H6 hi e5 _ ⟨rfl, hy⟩
    have hi' : i < T1.names.length := by rw [List.length_map] at hi; exact hi
    have ey : y = .str T1.names[i] := by
      rw [List.getElem?_map, List.getElem?_eq_getElem hi'] at hy
      exact (Option.some.inj hy).symm
    subst ey
    have eg : T1.names.getD i "" = T1.names[i] := by simp [hi']
    refine ⟨Ex.refl _, _, tgt_name, rfl, ?_, fun _ => ?_⟩
    · refine et_is (et_test (ev_op (ev_var rfl) (ev_var rfl) (rv_ne rfl))) ?_
      rw [eg]
      show (!decide (V.str T1.names[i] = V.str x)) = !decide (T1.names[i] = x)
      by_cases hz : T1.names[i] = x
      · simp [hz]
      · simp [hz]
    · rw [eg]
      exact ev_var rfl
  intro H5 e5 h5
  have eg : given (T1.names.map V.str).length (fun i => ne1 x (T1.names.getD i "")) (fun i => V.str (T1.names.getD i "")) = (T1.names.filter (ne1 x)).map V.str := by
    rw [List.length_map]
    exact given_filter T1.names (ne1 x) V.str _ _ (fun j y hy => by rw [List.getD_eq_getElem?_getD, hy]; rfl) (fun j y hy => by rw [List.getD_eq_getElem?_getD, hy]; rfl)
  rw [eg] at h5
  have hT5 := hT4.ex e5
  have hp5 := e5 _ _ hp4
  refine ⟨_, rfl, _, _, _, _, rfl, hp5, T.cl_Table, T.na_Table_own_names, (by show 8 < 1000; decide), ?_⟩
  have hT6 : TabH K g (upd H5 A.p (.ins (TC K) A1.dx (putF "own_names" (.ref D) (fsA A1 T1.moved)))) { A1 with ln := D } ⟨T1.vals, T1.hk.filter (ne1 x), T1.names.filter (ne1 x), T1.old, T1.new, T1.moved⟩ := by
    rw [← ep]
    exact hT5.setNames h5 (hT4.out nD)
  have f6 : Fr A { A1 with ln := D } H (upd H5 A.p (.ins (TC K) A1.dx (putF "own_names" (.ref D) (fsA A1 T1.moved)))) := by
    rw [← ep]
    exact f4.trans (fr_names (o := .ins (TC K) A1.dx (fsA { A1 with ln := D } T1.moved)) hT5 e5 nD)
  have hp6 : (upd H5 A.p (.ins (TC K) A1.dx (putF "own_names" (.ref D) (fsA A1 T1.moved)))) A.p = some (.ins (TC K) A1.dx (fsA { A1 with ln := D } T1.moved)) := upd_same
  generalize upd H5 A.p (.ins (TC K) A1.dx (putF "own_names" (.ref D) (fsA A1 T1.moved))) = H6 at hT6 f6 hp6
  have hdx : A1.dx = ({ A1 with ln := D } : Ad).dx := rfl
  have ep6 : ({ A1 with ln := D } : Ad).p = A.p := ep
  rw [hdx] at hp6
  generalize ({ A1 with ln := D } : Ad) = A2 at hT6 f6 hp6 ep6
  clear hT5 hT4 f4 hT2 f2'
  obtain ⟨bo_nd2, bn_nd2, _⟩ := List.nodup_append.mp (List.nodup_append.mp (show ([A2.p, A2.dv, A2.dh, A2.ds, A2.ln, A2.lo, A2.lw] ++ (A2.bo ++ A2.bn)).Nodup from hT6.nd)).2.1
  refine ⟨_, rfl, _, _, _, _, _, rfl, hp6, T.cl_Table, T.na_Table_own_old, rfl, _, rfl, _, rfl, A2.lo, A2.bo, T1.old, g x, x, rfl, hT6.old, hT6.bko, okL_old I1, I1.len_old, I1.lens_old, bo_nd2, fun q cs H7 nq hq hb hc hn hd e7 => ⟨_, rfl, _, _, _, _, rfl, (e7 _ _ hp6), T.cl_Table, T.na_Table_own_old, (by show 8 < 1000; decide), ?_⟩⟩
  have hT8 : TabH K g (upd H7 A.p (.ins (TC K) A2.dx (putF "own_old" (.ref q) (fsA A2 T1.moved)))) { A2 with lo := q, bo := cs } ⟨T1.vals, T1.hk.filter (ne1 x), T1.names.filter (ne1 x), withoutL T1.old (g x) x, T1.new, T1.moved⟩ := by
    rw [← ep6]
    exact (hT6.ex e7).setOldL hq hb (hT6.out nq) (fun c h => (hc c h).imp id fun z => hT6.out z) hn hd
  have f8 : Fr A { A2 with lo := q, bo := cs } H (upd H7 A.p (.ins (TC K) A2.dx (putF "own_old" (.ref q) (fsA A2 T1.moved)))) := by
    rw [← ep6]
    exact f6.trans (fr_old (o := .ins (TC K) A2.dx (putF "own_old" (.ref q) (fsA A2 T1.moved))) e7 nq hc)
  have hp8 : (upd H7 A.p (.ins (TC K) A2.dx (putF "own_old" (.ref q) (fsA A2 T1.moved)))) A.p = some (.ins (TC K) A2.dx (fsA { A2 with lo := q, bo := cs } T1.moved)) := upd_same
  generalize upd H7 A.p (.ins (TC K) A2.dx (putF "own_old" (.ref q) (fsA A2 T1.moved))) = H8 at hT8 f8 hp8
  have hdx : A2.dx = ({ A2 with lo := q, bo := cs } : Ad).dx := rfl
  have ep8 : ({ A2 with lo := q, bo := cs } : Ad).p = A.p := ep6
  rw [hdx] at hp8
  generalize ({ A2 with lo := q, bo := cs } : Ad) = A3 at hT8 f8 hp8 ep8
  clear hT6 f6 hp6 ep6 bo_nd2 bn_nd2 hq hb hc hn hd
  obtain ⟨bo_nd3, bn_nd3, _⟩ := List.nodup_append.mp (List.nodup_append.mp (show ([A3.p, A3.dv, A3.dh, A3.ds, A3.ln, A3.lo, A3.lw] ++ (A3.bo ++ A3.bn)).Nodup from hT8.nd)).2.1
  refine ⟨_, rfl, _, _, _, _, _, rfl, hp8, T.cl_Table, T.na_Table_own_new, rfl, _, rfl, _, rfl, A3.lw, A3.bn, T1.new, g x, x, rfl, hT8.new, hT8.bkn, okL_new I1, I1.len_new, I1.lens_new, bn_nd3, fun q3 cs3 H9 nq3 hq3 hb3 hc3 hn3 hd3 e9 => ⟨_, rfl, _, _, _, _, rfl, (e9 _ _ hp8), T.cl_Table, T.na_Table_own_new, (by show 8 < 1000; decide), ?_⟩⟩
  have hTa : TabH K g (upd H9 A.p (.ins (TC K) A3.dx (putF "own_new" (.ref q3) (fsA A3 T1.moved)))) { A3 with lw := q3, bn := cs3 } ⟨T1.vals, T1.hk.filter (ne1 x), T1.names.filter (ne1 x), withoutL T1.old (g x) x, withoutL T1.new (g x) x, T1.moved⟩ := by
    rw [← ep8]
    exact (hT8.ex e9).setNewL hq3 hb3 (hT8.out nq3) (fun c h => (hc3 c h).imp id fun z => hT8.out z) hn3 hd3
  have fa : Fr A { A3 with lw := q3, bn := cs3 } H (upd H9 A.p (.ins (TC K) A3.dx (putF "own_new" (.ref q3) (fsA A3 T1.moved)))) := by
    rw [← ep8]
    exact f8.trans (fr_new (o := .ins (TC K) A3.dx (putF "own_new" (.ref q3) (fsA A3 T1.moved))) e9 nq3 hc3)
  have hpa : (upd H9 A.p (.ins (TC K) A3.dx (putF "own_new" (.ref q3) (fsA A3 T1.moved)))) A.p = some (.ins (TC K) A3.dx (fsA { A3 with lw := q3, bn := cs3 } T1.moved)) := upd_same
  generalize upd H9 A.p (.ins (TC K) A3.dx (putF "own_new" (.ref q3) (fsA A3 T1.moved))) = Ha at hTa fa hpa
  have hdx : A3.dx = ({ A3 with lw := q3, bn := cs3 } : Ad).dx := rfl
  have epa : ({ A3 with lw := q3, bn := cs3 } : Ad).p = A.p := ep8
  rw [hdx] at hpa
  generalize ({ A3 with lw := q3, bn := cs3 } : Ad) = A4 at hTa fa hpa epa
  clear hT8 f8 hp8 ep8 bo_nd3 bn_nd3 hq3 hb3 hc3 hn3 hd3
  obtain ⟨v, hv⟩ : ∃ v, valV (valsD T1.vals) (Sum.inr x) = some v := Option.isSome_iff_exists.mp (by rw [valsD_some]; exact decide_eq_true hx)
  refine ⟨_, rfl, _, _, _, _, _, rfl, hpa, T.cl_Table, T.na_Table_own_values, rfl, A4.dv, rfl, .inl ⟨_, .inl hTa.val⟩, _, rfl, _, Sum.inr x, v, hTa.val, rfl, hv, ?_⟩
  rw [dropK_vals]
  have hTb := hTa.setVals (vs := dropS T1.vals x)
  have fb : Fr A A4 H (upd Ha A4.dv (.dK (valsD (dropS T1.vals x)))) := fa.trans ⟨rfl, rfl, (Kp.refl _ _).mut own_dv, fun _ h => .inl h⟩
  change TabH K g (upd Ha A4.dv (.dK (valsD (T1.vals.filter fun q => ne1 x q.1)))) A4 _ at hTb
  change Fr A A4 H (upd Ha A4.dv (.dK (valsD (T1.vals.filter fun q => ne1 x q.1)))) at fb
  generalize upd Ha A4.dv (.dK (valsD (T1.vals.filter fun q => ne1 x q.1))) = Hb at hTb fb
  have hpb : Hb A.p = some (.ins (TC K) A4.dx (fsA A4 T1.moved)) := by rw [← epa]; exact hTb.ins
  have I2 := inv_take (x := x) I1
  have ev2 : (⟨T1.vals.filter (fun q => ne1 x q.1), T1.hk.filter (ne1 x), T1.names.filter (ne1 x), withoutL T1.old (g x) x, withoutL T1.new (g x) x, T1.moved⟩ : Tb).vals = dropS T0.vals x := by rw [← ev]; rfl
  change TabH K g Hb A4 ⟨T1.vals.filter (fun q => ne1 x q.1), T1.hk.filter (ne1 x), T1.names.filter (ne1 x), withoutL T1.old (g x) x, withoutL T1.new (g x) x, T1.moved⟩ at hTb
  have hmv : T1.moved = (⟨T1.vals.filter (fun q => ne1 x q.1), T1.hk.filter (ne1 x), T1.names.filter (ne1 x), withoutL T1.old (g x) x, withoutL T1.new (g x) x, T1.moved⟩ : Tb).moved := rfl
  rw [hmv] at hpb
  generalize (⟨T1.vals.filter (fun q => ne1 x q.1), T1.hk.filter (ne1 x), T1.names.filter (ne1 x), withoutL T1.old (g x) x, withoutL T1.new (g x) x, T1.moved⟩ : Tb) = T2 at hTb hpb I2 ev2
  have hvl : T2.vals.length ≤ 100 := by rw [← List.length_map (f := Prod.fst), I2.keys]; exact I2.few
  have hvl2 : (valsD T2.vals).length ≤ 100 := by unfold valsD; rw [List.length_map]; exact hvl
  refine ⟨_, rfl, _, _, _, _, _, rfl, hpb, T.cl_Table, T.na_Table_own_values, rfl, A4.dv, _, rfl, hTb.val, ?_⟩
  refine ⟨_, rfl, _, _, _, _, _, rfl, hpb, T.cl_Table, T.na_Table_own_new, rfl, Nat.zero_le _, fun q nq => eq_nil (sq_of (upd_get hTb.new (ne_of_none hTb.new nq))) (dp_bk (hTb.bkn.ex (Ex.new nq))) (sh_bk (okL_new I2)) upd_same ⟨_, rfl, ?_⟩⟩
  have e5 : Ex Hb (upd Hb q (.lst [])) := Ex.new nq
  generalize upd Hb q (.lst []) = Hc at e5
  have fc := fb.ex e5
  have hTc := hTb.ex e5
  have hpc := e5 _ _ hpb
  have fin : Q v Hc := k _ A4 T2 Hc fc hTc I2 ev2
  have lbn : A4.bn.length = T2.new.length := hTb.bkn.len
  by_cases hn : T2.new = []
  · have ebn : A4.bn = [] := List.eq_nil_of_length_eq_zero (by rw [lbn, hn]; rfl)
    refine itB (decide_eq_true (by rw [ebn]; rfl)) ⟨_, rfl, _, _, _, _, _, rfl, hpc, T.cl_Table, T.na_Table_own_old, rfl, A4.lo, _, rfl, .inl (sq_of hTc.old), _, _, rfl, rfl, _, rfl, ?_⟩
    generalize hM : (4 : Int) = M
    refine ite2 (fun _ => ⟨_, rfl, _, _, rfl, rfl, .inl ⟨by decide, by decide⟩, _, rfl, _, _, _, _, _, rfl, hpc, T.cl_Table, T.na_Table_own_old, rfl, A4.lo, _, rfl, .inl (sq_of hTc.old), _, _, rfl, rfl, _, rfl, ite2 (fun _ => ?_) fun _ => ⟨_, rfl, fin⟩⟩) fun _ => iteF ⟨_, rfl, fin⟩
    refine ⟨_, rfl, A.p, _, _, rfl, hpc, rfl, _, rfl, _, rfl, by omega, fun n h2 h16 => ?_⟩
    have e2 : (2 : Int) ^ n = ((2 ^ n : Nat) : Int) := by rw [Int.natCast_pow]; rfl
    refine ⟨g, A4, T2, 2 ^ n, by rw [← epa, ← e2]; rfl, hTc, ?_, fun A3 H6 f6 hT6 => ⟨_, rfl, ?_⟩⟩
    · exact Nat.le_trans (Nat.pow_le_pow_right (by decide) h16) (by decide)
    · exact k _ A3 _ H6 (fc.trans f6) hT6 (inv_begin I2 hn h2 h16) ev2
  · exact itN (decide_eq_false fun z => hn (List.eq_nil_of_length_eq_zero (by rw [← lbn, List.map_eq_nil_iff.mp z]; rfl))) ⟨_, rfl, fin⟩
end
end K70
set_option Elab.async false
set_option linter.all false
set_option maxRecDepth 100000
set_option maxHeartbeats 4000000
namespace K70
open PySem PySem.Spec PyProof.Rows L2 Evl
open C8 (Cal Met Mak pe_c pe_mt pe_mt0 pe_mk pe_gc InsC call_isC)
open K7 (Kp ShOk upd_get)
def emptyT : Tb := ⟨[], [], [], List.replicate 4 [], [], 0⟩
theorem inv_empty (g : Str → Int) : Inv g emptyT := by
  refine ⟨rfl, List.nodup_nil, fun x h => (by cases h), fun x h => (by cases h), by decide, ⟨2, by decide, by decide, rfl⟩, .inl ⟨rfl, rfl⟩, fun i h => absurd h (Nat.not_lt_zero _), fun i l x hl hx => ?_, inB_nil g, ?_, .nil, .nil⟩
  · have e : l = [] := (List.mem_replicate.mp (List.mem_of_getElem? hl)).2
    rw [e] at hx
    cases hx
  · exact .nil
def sp_Table_d_init (K : PySem.W.Frag) : Sp := fun vs H Q _ => ∃ (p dx : Addr) (z : V) (f : Addr), vs = [.ref p, z] ∧ H p = some (.ins (TC K) dx []) ∧ ((z = .non ∧ f = He.ga K "hash_in") ∨ z = .ref f) ∧
  ∀ A H', A.p = p → A.sp = f → Kp [p] H H' → (∀ a ∈ A.own, a = p ∨ H a = none) → (∀ g, TabH K g H' A emptyT) → Q .non H'
section
variable {P : Program} {w : World} {K : PySem.W.Frag} {mg : Str → Option Value} {base : Heap}
theorem ok_Table_d_init {f : Addr} {fd : FuncData} {dvs : List V} (F : FunD K "__init__" "Table.__init__" (defArgs s_Table_d_init) (defBody s_Table_d_init) (defScope s_Table_d_init) dvs [] f fd) (T : Txt K mg)
    (c_empty_buckets : Cal P w K mg base 1 "empty_buckets" sp_empty_buckets []) :
    FnOk P w K mg base CX0 2 f fd ["self", "spread"] (sp_Table_d_init K) := by
  have nd := sc_Table_d_init.nd
  refine ok0 F sc_Table_d_init (fun vs H Q E h => by
    obtain ⟨p, dx, z, fs, rfl, hp, hz, k⟩ := h
    rfl) (fun cdv A outer s H vs Q E hr h => ?_)
  obtain ⟨p, dx, z, fs, rfl, hp, hz, k⟩ := h
  refine ⟨_, (Evl.pss_cut (K7.ps_fldK (K := K) rfl (pv 0) (pe_ifExp (pt_cmpR op_isN (pv 1) pe_non (nomark _)) (pe_glob (v := .ref (He.ga K "hash_in")) (by rfl) T.f_hash_in rfl) (pv 1)) rfl)
     (pss_cons (K7.ps_fldK (K := K) rfl (pv 0) pe_dnewK rfl)
     (pss_cons (K7.ps_fldK (K := K) rfl (pv 0) pe_dnewK rfl)
     (pss_cons (K7.ps_fldK (K := K) rfl (pv 0) pe_dnewK rfl)
     (pss_cons (K7.ps_fldK (K := K) rfl (pv 0) (pe_lst pa_nil) rfl)
     (pss_cons (K7.ps_fldK (K := K) rfl (pv 0) (pe_c c_empty_buckets hr (by decide) (by rfl) (pa_cons (pe_gc (by rfl) T.g_LEAST_BUCKETS) pa_nil)) rfl)
     (pss_cons (K7.ps_fldK (K := K) rfl (pv 0) (pe_lst pa_nil) rfl)
     (pss_one (K7.ps_fldK (K := K) rfl (pv 0) pe_int rfl))))))))), ?_⟩
  refine ⟨fun σ' H' => σ' = [some (.ref p), some z] ∧ H' = upd H p (.ins (TC K) dx [("own_spread", .ref fs)]), ?_, ?_⟩
  · rcases hz with ⟨rfl, rfl⟩ | rfl
    · exact ⟨_, rfl, rfl, _, rfl, itB rfl ⟨_, rfl, _, _, _, _, rfl, hp, T.cl_Table, T.na_Table_own_spread, (by show 0 < 1000; decide), rfl, rfl⟩⟩
    · exact ⟨_, rfl, rfl, _, rfl, itN rfl ⟨_, rfl, _, rfl, _, _, _, _, rfl, hp, T.cl_Table, T.na_Table_own_spread, (by show 0 < 1000; decide), rfl, rfl⟩⟩
  rintro σ' H1 ⟨rfl, e1⟩
  have hp1 : H1 p = some (.ins (TC K) dx [("own_spread", .ref fs)]) := by rw [e1]; exact upd_same
  have k1 : Kp [p] H H1 := by rw [e1]; exact (Kp.refl _ _).mut (by simp)
  have tp : ∀ x ∈ [p], ∀ {H' : Hp}, H' p ≠ none → H' x ≠ none := fun x hx H' h => by rw [List.mem_singleton.mp hx]; exact h
  clear e1
  intro dv nv
  have npv : p ≠ dv := ne_of_none hp1 nv
  have fv : H dv = none := k1.out nv fun x hx => tp x hx (by rw [hp1]; simp)
  refine ⟨_, rfl, _, _, _, _, rfl, upd_get hp1 npv, T.cl_Table, T.na_Table_own_values, (by show 1 < 1000; decide), ?_⟩
  generalize e2 : upd (upd H1 dv (.dK [])) p _ = H2
  have hp2 : H2 p = some (.ins (TC K) dx [("own_spread", .ref fs), ("own_values", .ref dv)]) := by rw [← e2]; exact upd_same
  have k12 : Kp [p] H1 H2 := by rw [← e2]; exact ((Kp.refl _ _).old nv).mut (by simp)
  have hv2 : H2 dv = some (.dK []) := by rw [← e2, upd_ne (Ne.symm npv)]; exact upd_same
  have k2 := k1.trans k12
  clear e2
  intro dh nh
  have nph : p ≠ dh := ne_of_none hp2 nh
  have fh : H dh = none := k2.out nh fun x hx => tp x hx (by rw [hp2]; simp)
  refine ⟨_, rfl, _, _, _, _, rfl, upd_get hp2 nph, T.cl_Table, T.na_Table_own_hashes, (by show 2 < 1000; decide), ?_⟩
  generalize e3 : upd (upd H2 dh (.dK [])) p _ = H3
  have hp3 : H3 p = some (.ins (TC K) dx [("own_spread", .ref fs), ("own_values", .ref dv), ("own_hashes", .ref dh)]) := by rw [← e3]; exact upd_same
  have k23 : Kp [p] H2 H3 := by rw [← e3]; exact ((Kp.refl _ _).old nh).mut (by simp)
  have hh3 : H3 dh = some (.dK []) := by rw [← e3, upd_ne (Ne.symm nph)]; exact upd_same
  have k3 := k2.trans k23
  have n1 : ∀ {a : Addr}, p ≠ a → a ∉ [p] := fun h => by simp [Ne.symm h]
  have hv3 := k23 _ _ (n1 npv) hv2
  have nvh : dv ≠ dh := ne_of_none hv2 nh
  clear e3
  intro ds ns
  have nps : p ≠ ds := ne_of_none hp3 ns
  have fs_ : H ds = none := k3.out ns fun x hx => tp x hx (by rw [hp3]; simp)
  refine ⟨_, rfl, _, _, _, _, rfl, upd_get hp3 nps, T.cl_Table, T.na_Table_own_spots, (by show 3 < 1000; decide), ?_⟩
  generalize e4 : upd (upd H3 ds (.dK [])) p _ = H4
  have hp4 : H4 p = some (.ins (TC K) dx [("own_spread", .ref fs), ("own_values", .ref dv), ("own_hashes", .ref dh), ("own_spots", .ref ds)]) := by rw [← e4]; exact upd_same
  have k34 : Kp [p] H3 H4 := by rw [← e4]; exact ((Kp.refl _ _).old ns).mut (by simp)
  have hs4 : H4 ds = some (.dK []) := by rw [← e4, upd_ne (Ne.symm nps)]; exact upd_same
  have k4 := k3.trans k34
  have hv4 := k34 _ _ (n1 npv) hv3
  have hh4 := k34 _ _ (n1 nph) hh3
  have nvs : dv ≠ ds := ne_of_none hv3 ns
  have nhs : dh ≠ ds := ne_of_none hh3 ns
  clear e4
  refine ⟨Nat.zero_le _, fun ln nn => ?_⟩
  have npn : p ≠ ln := ne_of_none hp4 nn
  have fn : H ln = none := k4.out nn fun x hx => tp x hx (by rw [hp4]; simp)
  refine ⟨_, rfl, _, _, _, _, rfl, upd_get hp4 npn, T.cl_Table, T.na_Table_own_names, (by show 4 < 1000; decide), ?_⟩
  generalize e5 : upd (upd H4 ln (.lst [])) p _ = H5
  have hp5 : H5 p = some (.ins (TC K) dx [("own_spread", .ref fs), ("own_values", .ref dv), ("own_hashes", .ref dh), ("own_spots", .ref ds), ("own_names", .ref ln)]) := by rw [← e5]; exact upd_same
  have k45 : Kp [p] H4 H5 := by rw [← e5]; exact ((Kp.refl _ _).old nn).mut (by simp)
  have hn5 : H5 ln = some (.lst []) := by rw [← e5, upd_ne (Ne.symm npn)]; exact upd_same
  have k5 := k4.trans k45
  have hv5 := k45 _ _ (n1 npv) hv4
  have hh5 := k45 _ _ (n1 nph) hh4
  have hs5 := k45 _ _ (n1 nps) hs4
  clear e5
  refine ⟨4, rfl, by decide, fun lo bo H6 no hlo hbo hnd hfr e6 => ?_⟩
  have npo : p ≠ lo := ne_of_none hp5 no
  have fo : H lo = none := k5.out no fun x hx => tp x hx (by rw [hp5]; simp)
  have npb : p ∉ bo := fun z => by
    have := hfr p z
    rw [hp5] at this
    cases this
  refine ⟨_, rfl, _, _, _, _, rfl, e6 _ _ hp5, T.cl_Table, T.na_Table_own_old, (by show 5 < 1000; decide), ?_⟩
  generalize e7 : upd H6 p _ = H7
  have hp7 : H7 p = some (.ins (TC K) dx [("own_spread", .ref fs), ("own_values", .ref dv), ("own_hashes", .ref dh), ("own_spots", .ref ds), ("own_names", .ref ln), ("own_old", .ref lo)]) := by rw [← e7]; exact upd_same
  have k57 : Kp [p] H5 H7 := by rw [← e7]; exact (Kp.of e6).mut (by simp)
  have k67 : Kp [p] H6 H7 := by rw [← e7]; exact (Kp.refl _ _).mut (by simp)
  have ho7 := k67 _ _ (n1 npo) hlo
  have hb7 := hbo.kp k67 fun b hb => n1 fun z => npb (by rw [z]; exact hb)
  have k7 := k5.trans k57
  clear e7
  refine ⟨Nat.zero_le _, fun lw nw => ?_⟩
  have npw : p ≠ lw := ne_of_none hp7 nw
  have fw : H lw = none := k7.out nw fun x hx => tp x hx (by rw [hp7]; simp)
  refine ⟨_, rfl, _, _, _, _, rfl, upd_get hp7 npw, T.cl_Table, T.na_Table_own_new, (by show 6 < 1000; decide), ?_⟩
  refine ⟨_, rfl, _, _, _, _, rfl, upd_same, T.cl_Table, T.na_Table_own_moved, (by show 7 < 1000; decide), ?_⟩
  generalize e8 : upd (upd (upd H7 lw (.lst [])) p _) p _ = H8
  have hp8 : H8 p = some (.ins (TC K) dx (fsA ⟨p, dx, fs, dv, dh, ds, ln, lo, lw, bo, []⟩ 0)) := by rw [← e8]; exact upd_same
  have k78 : Kp [p] H7 H8 := by rw [← e8]; exact (((Kp.refl _ _).old nw).mut (by simp)).mut (by simp)
  have hw8 : H8 lw = some (.lst []) := by rw [← e8, upd_ne (Ne.symm npw), upd_ne (Ne.symm npw)]; exact upd_same
  have k8 := k7.trans k78
  have k58 := k57.trans k78
  have fb : ∀ b ∈ bo, H b = none := fun b hb => k5.out (hfr b hb) fun x hx => tp x hx (by rw [hp5]; simp)
  obtain ⟨nlb, bnd⟩ := List.nodup_cons.mp hnd
  have hv8 := k58 _ _ (n1 npv) hv5
  have hh8 := k58 _ _ (n1 nph) hh5
  have hs8 := k58 _ _ (n1 nps) hs5
  have hn8 := k58 _ _ (n1 npn) hn5
  have ho8 := k78 _ _ (n1 npo) ho7
  have hb8 := hb7.kp k78 fun b hb => n1 fun z => npb (by rw [z]; exact hb)
  refine k ⟨p, dx, fs, dv, dh, ds, ln, lo, lw, bo, []⟩ H8 rfl rfl k8 (fun a ha => ?_) fun g => ⟨hp8, hv8, hh8, hs8, hn8, ho8, hw8, hb8, BkAt.nil, ?_⟩
  · have ha : a ∈ p :: dv :: dh :: ds :: ln :: lo :: lw :: (bo ++ []) := ha
    simp only [List.mem_cons, List.append_nil] at ha
    rcases ha with z | z | z | z | z | z | z | z
    · exact .inl z
    · exact .inr (by rw [z]; exact fv)
    · exact .inr (by rw [z]; exact fh)
    · exact .inr (by rw [z]; exact fs_)
    · exact .inr (by rw [z]; exact fn)
    · exact .inr (by rw [z]; exact fo)
    · exact .inr (by rw [z]; exact fw)
    · exact .inr (fb a z)
  · have kd : ∀ {a b : Addr} {u v : HO}, H8 a = some u → H8 b = some v → u ≠ v → ¬ a = b := fun h1 h2 h3 z => h3 (by rw [z, h2] at h1; exact (Option.some.inj h1).symm)
    show (p :: dv :: dh :: ds :: ln :: lo :: lw :: (bo ++ [])).Nodup
    have bl : ∀ b ∈ bo, H8 b = some (.lst []) := fun b hb => by
      obtain ⟨l, hl, e⟩ := hb8.some hb
      rw [(List.mem_replicate.mp hl).2] at e
      exact e
    have nb5 : ∀ {a : Addr} {o : HO}, H5 a = some o → a ∉ bo := fun h z => by
      rw [hfr _ z] at h
      cases h
    have h6 : ∀ {a : Addr}, a ∈ bo ∨ a = lo → H7 a ≠ none := fun h => by
      rcases h with z | z
      · obtain ⟨l, _, e⟩ := hb7.some z
        rw [e]; simp
      · rw [z, ho7]; simp
    have nnw : ¬ ln = lw := fun z => by
      have := k57 _ _ (n1 npn) hn5
      rw [z, nw] at this
      cases this
    have nno : ¬ ln = lo := fun z => by
      rw [z, no] at hn5
      cases hn5
    simp only [List.nodup_cons, List.mem_cons, List.append_nil, not_or]
    exact ⟨⟨npv, nph, nps, npn, npo, npw, npb⟩, ⟨nvh, nvs, kd hv8 hn8 (by intro z; cases z), kd hv8 ho8 (by intro z; cases z), kd hv8 hw8 (by intro z; cases z), nb5 hv5⟩, ⟨nhs, kd hh8 hn8 (by intro z; cases z), kd hh8 ho8 (by intro z; cases z), kd hh8 hw8 (by intro z; cases z), nb5 hh5⟩,
      ⟨kd hs8 hn8 (by intro z; cases z), kd hs8 ho8 (by intro z; cases z), kd hs8 hw8 (by intro z; cases z), nb5 hs5⟩, ⟨nno, nnw, nb5 hn5⟩, ⟨fun z => h6 (.inr rfl) (by rw [z]; exact nw), nlb⟩, fun z => h6 (.inl z) nw, bnd⟩
end
end K70
set_option Elab.async false
set_option linter.all false
set_option maxRecDepth 100000
set_option maxHeartbeats 4000000
namespace K70
open PySem PySem.Spec PyProof.Rows L2 Evl
open C8 (Cal Met Mak pe_c pe_mt pe_mt0 pe_mk pe_gc InsC call_isC)
open K7 (Kp ShOk upd_get eq_nil ne_nil dp_strs sh_strs strsD lc_val lc_ev lc_obj tgt_name tgt_pair given_filter EvP seq_ix)
def scanF (sp : Str → Int) (ns : List Str) (cur cnt : Int) : Int × List Str :=
  if ns.filter (fun x => decide (cur ≤ sp x)) = [] then (0, []) else
    let rows := ns.filter (fun x => decide (cur ≤ sp x))
    let last := sp (rows.getD ((if ((rows.length : Nat) : Int) < cnt then ((rows.length : Nat) : Int) else cnt) - 1).toNat "")
    (if (((rows.filter (fun x => decide (sp x ≤ last))).length : Nat) : Int) < ((rows.length : Nat) : Int) then last + 1 else 0, rows.filter (fun x => decide (sp x ≤ last)))
def ScanAt (H : Hp) (t : Addr) (r : Int × List Str) : Prop := ∃ u, H t = some (.tup [.int r.1, .ref u]) ∧ H u = some (.tup (r.2.map V.str))
theorem ScanAt.ex {H H' : Hp} {t : Addr} {r : Int × List Str} (h : ScanAt H t r) (e : Ex H H') : ScanAt H' t r := by
  obtain ⟨u, h1, h2⟩ := h
  exact ⟨u, e _ _ h1, e _ _ h2⟩
def sp_scanned_names (K : PySem.W.Frag) : Sp := fun vs H Q _ => ∃ (a d : Addr) (ns ks : List Str) (gs : Str → Int) (cur cnt : Int), vs = [.ref a, .ref d, .int cur, .int cnt] ∧ H a = some (.lst (ns.map V.str)) ∧ H d = some (.dK (numsD gs ks)) ∧ (∀ x ∈ ns, x ∈ ks ∧ PyData.strOk x = true) ∧ ns.length ≤ 100 ∧ 1 ≤ cnt ∧
  ∀ t H', Ex H H' → ScanAt H' t (scanF gs ns cur cnt) → Q (.ref t) H'
def sp_Table_scan (K : PySem.W.Frag) : Sp := fun vs H Q _ => ∃ (g : Str → Int) (A : Ad) (T : Tb) (cur cnt : Int), vs = [.ref A.p, .int cur, .int cnt] ∧ TabH K g H A T ∧ Inv g T ∧ 0 ≤ cur ∧ cur ≤ 65535 ∧ 1 ≤ cnt ∧ cnt ≤ 1000 ∧
  ∀ t H', Ex H H' → ScanAt H' t (scanF (fun x => spotI (g x)) T.names cur cnt) → Q (.ref t) H'
def sp_Table_all_names (K : PySem.W.Frag) : Sp := fun vs H Q _ => ∃ (g : Str → Int) (A : Ad) (T : Tb), vs = [.ref A.p] ∧ TabH K g H A T ∧ ∀ t H', Ex H H' → H' t = some (.tup (T.names.map V.str)) → Q (.ref t) H'
def PairsAt (H : Hp) (t : Addr) (ps : List (Str × V)) : Prop := ∃ Ts : List Addr, H t = some (.tup (Ts.map V.ref)) ∧ Ts.length = ps.length ∧ ∀ (i : Nat) T p, Ts[i]? = some T → ps[i]? = some p → H T = some (.tup [.str p.1, p.2])
def sp_Table_all_items (K : PySem.W.Frag) : Sp := fun vs H Q _ => ∃ (g : Str → Int) (A : Ad) (T : Tb) (f : Str → V), vs = [.ref A.p] ∧ TabH K g H A T ∧ Inv g T ∧ (∀ x ∈ T.hk, valV (valsD T.vals) (Sum.inr x) = some (f x)) ∧
  ∀ t H', Ex H H' → PairsAt H' t (T.names.map fun x => (x, f x)) → Q (.ref t) H'
def sp_Table_counts (K : PySem.W.Frag) : Sp := fun vs H Q _ => ∃ (g : Str → Int) (A : Ad) (T : Tb), vs = [.ref A.p] ∧ TabH K g H A T ∧ ∀ t H', Ex H H' → H' t = some (.tup [.int (T.old.length : Nat), .int (T.new.length : Nat), .int (T.moved : Nat), .int (T.vals.length : Nat)]) → Q (.ref t) H'
def RowsAt (H : Hp) (t : Addr) (ls : List (List Str)) : Prop := ∃ Us : List Addr, H t = some (.tup (Us.map V.ref)) ∧ Us.length = ls.length ∧ ∀ (i : Nat) U l, Us[i]? = some U → ls[i]? = some l → H U = some (.tup (l.map V.str))
theorem RowsAt.ex {H H' : Hp} {t : Addr} {ls : List (List Str)} (h : RowsAt H t ls) (e : Ex H H') : RowsAt H' t ls := by
  obtain ⟨Us, h1, h2, h3⟩ := h
  exact ⟨Us, e _ _ h1, h2, fun i U l a b => e _ _ (h3 i U l a b)⟩
def sp_Table_rows (K : PySem.W.Frag) : Sp := fun vs H Q _ => ∃ (g : Str → Int) (A : Ad) (T : Tb), vs = [.ref A.p] ∧ TabH K g H A T ∧ Inv g T ∧ ∀ t r1 r2 H', Ex H H' → H' t = some (.tup [.ref r1, .ref r2]) → RowsAt H' r1 T.old → RowsAt H' r2 T.new → Q (.ref t) H'
def sp_Table_d_len (K : PySem.W.Frag) : Sp := fun vs H Q _ => ∃ (g : Str → Int) (A : Ad) (T : Tb), vs = [.ref A.p] ∧ TabH K g H A T ∧ Q (.int (T.vals.length : Nat)) H
def sp_Table_d_eq (K : PySem.W.Frag) : Sp := fun vs H Q _ => ∃ (g g' : Str → Int) (A A' : Ad) (T T' : Tb), vs = [.ref A.p, .ref A'.p] ∧ TabH K g H A T ∧ TabH K g' H A' T' ∧ T.vals.length = T'.vals.length ∧ (∀ p ∈ valsD T.vals, valV (valsD T'.vals) p.1 = some p.2 ∧ flatB p.2 = true) ∧ Q (.bl true) H
theorem ev_dnums {td ty : TE} {σ : L2.St} {H : Hp} {a : Addr} {g : Str → Int} {ks : List Str} {x : Str} (hd : Ev td σ H (.ref a)) (hy : Ev ty σ H (.str x)) (h : H a = some (.dK (numsD g ks))) (hx : x ∈ ks) : Ev (tDGet td ty) σ H (.int (g x)) :=
  fun H1 e Q q => hd H1 e _ fun H2 e2 => hy H2 (e.trans e2) _ fun H3 e3 => ⟨a, _, rfl, dget_nums (((e.trans e2).trans e3) _ _ h) hx, q H3 (e2.trans e3)⟩
theorem ev_fld {K : PySem.W.Frag} {ta : TE} {σ : L2.St} {H : Hp} {a C dx : Addr} {f : Str} {fs : List (Str × V)} {v : V} (h : Ev ta σ H (.ref a)) (hi : H a = some (.ins C dx fs)) (c : Cls K C) (n : NoAttr K C f) (l : fs.lookup f = some v) : Ev (tFld K ta f) σ H v :=
  fun H1 e Q q => h H1 e _ fun H2 e2 => ⟨a, C, dx, fs, v, rfl, (e.trans e2) _ _ hi, c, n, l, q H2 e2⟩
theorem given_nums (ns : List Str) (p : Str → Bool) : given (ns.map V.str).length (fun i => p (ns.getD i "")) (fun i => V.str (ns.getD i "")) = (ns.filter p).map V.str := by
  rw [List.length_map]
  exact given_filter ns p V.str _ _ (fun j y hy => by rw [List.getD_eq_getElem?_getD, hy]; rfl) (fun j y hy => by rw [List.getD_eq_getElem?_getD, hy]; rfl)
theorem at_str {ns : List Str} {i : Nat} {y : V} (h : (ns.map V.str)[i]? = some y) : ∃ x, ns[i]? = some x ∧ y = V.str x ∧ ns.getD i "" = x := by
  rw [List.getElem?_map] at h
  obtain ⟨x, hx, rfl⟩ := Option.map_eq_some_iff.mp h
  exact ⟨x, hx, rfl, by rw [List.getD_eq_getElem?_getD, hx]; rfl⟩
section
variable {P : Program} {w : World} {K : PySem.W.Frag} {mg : Str → Option Value} {base : Heap}
theorem ok_Table_d_len {f : Addr} {fd : FuncData} {dvs : List V} (F : FunD K "__len__" "Table.__len__" (defArgs s_Table_d_len) (defBody s_Table_d_len) (defScope s_Table_d_len) dvs [] f fd) (T : Txt K mg) :
    FnOk P w K mg base CX0 1 f fd ["self"] (sp_Table_d_len K) := by
  have nd := sc_Table_d_len.nd
  refine ok0 F sc_Table_d_len (fun vs H Q E h => by
    obtain ⟨g, A, T0, rfl, hT, k⟩ := h
    rfl) (fun cdv A outer s H vs Q E hr h => ?_)
  obtain ⟨g, A, T0, rfl, hT, k⟩ := h
  refine ⟨_, (pss_one (ps_ret (pe_callB call_lenD (by rfl) T.b_len bt_len (pa_cons (K7.pe_fldK (K := K) rfl (pv 0) rfl) pa_nil)))), ?_⟩
  refine ⟨_, rfl, _, _, _, _, _, rfl, hT.ins, T.cl_Table, T.na_Table_own_values, rfl, A.dv, _, rfl, hT.val, ?_⟩
  have e : (valsD T0.vals).length = T0.vals.length := by unfold valsD; rw [List.length_map]
  rw [e]
  exact k
theorem ok_Table_d_eq {f : Addr} {fd : FuncData} {dvs : List V} (F : FunD K "__eq__" "Table.__eq__" (defArgs s_Table_d_eq) (defBody s_Table_d_eq) (defScope s_Table_d_eq) dvs [] f fd) (T : Txt K mg)
    (isT : InsC K (He.ga K "Table")) :
    FnOk P w K mg base CX0 1 f fd ["self", "other"] (sp_Table_d_eq K) := by
  have nd := sc_Table_d_eq.nd
  refine ok0 F sc_Table_d_eq (fun vs H Q E h => by
    obtain ⟨g, g', A, A', T0, T1, rfl, hT, hT', hl, hv, k⟩ := h
    rfl) (fun cdv A outer s H vs Q E hr h => ?_)
  obtain ⟨g, g', A, A', T0, T1, rfl, hT, hT', hl, hv, k⟩ := h
  refine ⟨_, (pss_one (ps_ret (pe_and (pe_callB (call_isC isT) (by rfl) T.b_isinstance bt_isinstance (pa_cons (pv 1) (pa_cons (pe_glob (v := .ref (He.ga K "Table")) (by rfl) T.f_Table rfl) pa_nil))) (pe_one (pe_cmpR (op_eq_dictA hr.units0) (K7.pe_fldK (K := K) rfl (pv 0) rfl) (K7.pe_fldK (K := K) rfl (pv 1) rfl) (nomark _)))))), ?_⟩
  refine ⟨_, rfl, A'.p, _, _, rfl, hT'.ins, true, rfl, iteT ⟨_, rfl, _, _, _, _, _, rfl, hT.ins, T.cl_Table, T.na_Table_own_values, rfl, _, rfl, _, _, _, _, _, rfl, hT'.ins, T.cl_Table, T.na_Table_own_values, rfl, A.dv, A'.dv, _, _, rfl, rfl, hT.val, hT'.val, ?_, hv, k⟩⟩
  unfold valsD
  rw [List.length_map, List.length_map, hl]
theorem ok_Table_all_names {f : Addr} {fd : FuncData} {dvs : List V} (F : FunD K "all_names" "Table.all_names" (defArgs s_Table_all_names) (defBody s_Table_all_names) (defScope s_Table_all_names) dvs [] f fd) (T : Txt K mg) :
    FnOk P w K mg base CX0 1 f fd ["self"] (sp_Table_all_names K) := by
  have nd := sc_Table_all_names.nd
  refine ok0 F sc_Table_all_names (fun vs H Q E h => by
    obtain ⟨g, A, T0, rfl, hT, k⟩ := h
    rfl) (fun cdv A outer s H vs Q E hr h => ?_)
  obtain ⟨g, A, T0, rfl, hT, k⟩ := h
  refine ⟨_, (pss_one (ps_ret (pe_callTy (K7.call_tupK (K := K) rfl) (by rfl) T.b_tuple bt_tuple (pa_cons (K7.pe_fldK (K := K) rfl (pv 0) rfl) pa_nil)))), ?_⟩
  exact ⟨_, rfl, _, _, _, _, _, rfl, hT.ins, T.cl_Table, T.na_Table_own_names, rfl, A.ln, _, rfl, .inl ⟨sq_of hT.nam, fun t nt => k t _ (Ex.new nt) upd_same⟩⟩
theorem ok_Table_counts {f : Addr} {fd : FuncData} {dvs : List V} (F : FunD K "counts" "Table.counts" (defArgs s_Table_counts) (defBody s_Table_counts) (defScope s_Table_counts) dvs [] f fd) (T : Txt K mg) :
    FnOk P w K mg base CX0 1 f fd ["self"] (sp_Table_counts K) := by
  have nd := sc_Table_counts.nd
  refine ok0 F sc_Table_counts (fun vs H Q E h => by
    obtain ⟨g, A, T0, rfl, hT, k⟩ := h
    rfl) (fun cdv A outer s H vs Q E hr h => ?_)
  obtain ⟨g, A, T0, rfl, hT, k⟩ := h
  refine ⟨_, (pss_one (ps_ret (pe_tup (pa_cons (pe_callB (K7.call_lenK (K := K) rfl) (by rfl) T.b_len bt_len (pa_cons (K7.pe_fldK (K := K) rfl (pv 0) rfl) pa_nil)) (pa_cons (pe_callB (K7.call_lenK (K := K) rfl) (by rfl) T.b_len bt_len (pa_cons (K7.pe_fldK (K := K) rfl (pv 0) rfl) pa_nil)) (pa_cons (K7.pe_fldK (K := K) rfl (pv 0) rfl) (pa_cons (pe_callB call_lenD (by rfl) T.b_len bt_len (pa_cons (K7.pe_fldK (K := K) rfl (pv 0) rfl) pa_nil)) pa_nil))))))), ?_⟩
  refine ⟨_, rfl, _, _, _, _, _, rfl, hT.ins, T.cl_Table, T.na_Table_own_old, rfl, A.lo, _, rfl, .inl (sq_of hT.old), _, rfl, _, _, _, _, _, rfl, hT.ins, T.cl_Table, T.na_Table_own_new, rfl, A.lw, _, rfl, .inl (sq_of hT.new), _, rfl, _, _, _, _, _, rfl, hT.ins, T.cl_Table, T.na_Table_own_moved, rfl, _, rfl, _, _, _, _, _, rfl, hT.ins, T.cl_Table, T.na_Table_own_values, rfl, A.dv, _, rfl, hT.val, (by show 4 ≤ sizeLine; decide), fun t nt => k t _ (Ex.new nt) ?_⟩
  have e : (valsD T0.vals).length = T0.vals.length := by unfold valsD; rw [List.length_map]
  rw [upd_same, e, List.length_map, List.length_map, hT.bko.len, hT.bkn.len]
theorem ok_Table_all_items {f : Addr} {fd : FuncData} {dvs : List V} (F : FunD K "all_items" "Table.all_items" (defArgs s_Table_all_items) (defBody s_Table_all_items) (defScope s_Table_all_items) dvs [] f fd) (T : Txt K mg) :
    FnOk P w K mg base CX0 1 f fd ["self"] (sp_Table_all_items K) := by
  have nd := sc_Table_all_items.nd
  refine ok0 F sc_Table_all_items (fun vs H Q E h => by
    obtain ⟨g, A, T0, fv, rfl, hT, I, hf, k⟩ := h
    rfl) (fun cdv A outer s H vs Q E hr h => ?_)
  obtain ⟨g, A, T0, fv, rfl, hT, I, hf, k⟩ := h
  refine ⟨_, (pss_one (ps_ret (pe_callTy (K7.call_tupK (K := K) rfl) (by rfl) T.b_tuple bt_tuple (pa_cons (pe_lc (own := [("name", 1)]) rfl nd (K7.pi_listK (K := K) rfl (K7.pe_fldK (K := K) rfl (pv 0) rfl)) (blkOk_by (N := n_Table_all_items) (sc := defScope s_Table_all_items) (own := [("name", 1)]) (by decide +kernel)) (fun _ _ _ _ _ => (pg_name (i := 1) nd rfl (Or.inl rfl))) (fun _ _ _ _ _ => pts_nil) (fun _ _ _ _ _ => (pe_tup (pa_cons (pv 1) (pa_cons (pe_dget (hu_of hr) (K7.pe_fldK (K := K) rfl (pv 0) rfl) (pv 1) (fun _ _ => rfl)) pa_nil))))) pa_nil)))), ?_⟩
  have hnl : T0.names.length ≤ 100 := by rw [I.perm.length_eq]; exact I.few
  refine ⟨_, rfl, _, _, _, _, _, rfl, hT.ins, T.cl_Table, T.na_Table_own_names, rfl, A.ln, rfl, ⟨_, sq_of hT.nam⟩, fun D nD => lc_obj (w := walk_list (K := K) (a := A.ln) (xs := T0.names.map V.str)) (fun i => .tup [.str (T0.names.getD i ""), fv (T0.names.getD i "")]) nD (by rw [List.length_map]; omega) (fun H5 e5 => sq_of (e5 _ _ hT.nam)) ?_ ?_⟩
  · rintro i y H5 H6 hi e5 ⟨ys, hys⟩ ⟨rfl, hy⟩
    obtain ⟨x, hx, rfl, eg⟩ := at_str hy
    have hxk : x ∈ T0.hk := I.perm.mem_iff.mp (List.mem_of_getElem? hx)
    refine ⟨Ex.refl _, _, tgt_name, rfl, fun H7 e7 Q q => q H7 (Ex.refl _), fun H7 e7 Q q => ⟨_, rfl, _, rfl, _, _, _, _, _, rfl, ((Ex.trans e5 e7) _ _ hT.ins), T.cl_Table, T.na_Table_own_values, rfl, _, rfl, A.dv, fv x, rfl, ?_, (by show 2 ≤ sizeLine; decide), fun t nt => q (.ref t) _ (Ex.new nt) ⟨⟨t, rfl, ?_⟩, ?_⟩⟩⟩
    · rw [← hf x hxk]
      exact DGet.k (k := Sum.inr x) ((Ex.trans e5 e7) _ _ hT.val)
    · show _ = some (HO.tup [.str (T0.names.getD i ""), fv (T0.names.getD i "")])
      rw [upd_same, eg]
    · intro z
      exact ne_of_none (e7 _ _ hys) nt (V.ref.inj z).symm
  · intro Ts H5 e5 h5 hTl hTs
    refine ⟨D, _, rfl, .inl ⟨sq_of h5, fun t nt => k t _ (Ex.trans e5 (Ex.new nt)) ⟨Ts, upd_same, ?_, fun i T' p h1 h2 => ?_⟩⟩⟩
    · rw [hTl, List.length_map, List.length_map]
    · rw [List.getElem?_map] at h2
      obtain ⟨x, hx, rfl⟩ := Option.map_eq_some_iff.mp h2
      have h3 := hTs i T' h1
      have eg : T0.names.getD i "" = x := by rw [List.getD_eq_getElem?_getD, hx]; rfl
      rw [eg] at h3
      exact upd_get h3 (ne_of_none h3 nt)
theorem ok_Table_scan {f : Addr} {fd : FuncData} {dvs : List V} (F : FunD K "scan" "Table.scan" (defArgs s_Table_scan) (defBody s_Table_scan) (defScope s_Table_scan) dvs [] f fd) (T : Txt K mg)
    (c_is_within : Cal P w K mg base 2 "is_within" sp_is_within [])
    (c_scanned_names : Cal P w K mg base 1 "scanned_names" (sp_scanned_names K) []) :
    FnOk P w K mg base CX0 3 f fd ["self", "cursor", "count"] (sp_Table_scan K) := by
  have nd := sc_Table_scan.nd
  refine ok0 F sc_Table_scan (fun vs H Q E h => by
    obtain ⟨g, A, T0, cur, cnt, rfl, hT, I, h0, h1, h2, h3, k⟩ := h
    rfl) (fun cdv A outer s H vs Q E hr h => ?_)
  obtain ⟨g, A, T0, cur, cnt, rfl, hT, I, h0, h1, h2, h3, k⟩ := h
  refine ⟨_, (pss_cons (ps_if (pt_not (pt_val (pe_c c_is_within hr (by decide) (by rfl) (pa_cons (pv 1) (pa_cons pe_int (pa_cons (pe_gc (by rfl) T.g_LAST_SPOT) pa_nil)))))) (pss_one ps_never) pss_nil)
     (pss_cons (ps_if (pt_not (pt_val (pe_c c_is_within hr (by decide) (by rfl) (pa_cons (pv 2) (pa_cons pe_int (pa_cons (pe_gc (by rfl) T.g_MOST_COUNT) pa_nil)))))) (pss_one ps_never) pss_nil)
     (pss_one (ps_ret (pe_c c_scanned_names hr (by decide) (by rfl) (pa_cons (K7.pe_fldK (K := K) rfl (pv 0) rfl) (pa_cons (K7.pe_fldK (K := K) rfl (pv 0) rfl) (pa_cons (pv 1) (pa_cons (pv 2) pa_nil))))))))), ?_⟩
  refine ⟨_, rfl, cur, 0, 65535, rfl, _, rfl, itN (by simp; omega) ?_⟩
  refine ⟨_, rfl, cnt, 1, 1000, rfl, _, rfl, itN (by simp; omega) ?_⟩
  refine ⟨_, rfl, _, _, _, _, _, rfl, hT.ins, T.cl_Table, T.na_Table_own_names, rfl, _, rfl, _, _, _, _, _, rfl, hT.ins, T.cl_Table, T.na_Table_own_spots, rfl, _, rfl, _, rfl, A.ln, A.ds, T0.names, T0.hk, _, cur, cnt, rfl, hT.nam, hT.spot, fun x hx => ?_, ?_, h2, k⟩
  · have hxk := I.perm.mem_iff.mp hx
    exact ⟨hxk, (I.txt x hxk).2⟩
  · rw [I.perm.length_eq]
    exact I.few
theorem ok_Table_rows {f : Addr} {fd : FuncData} {dvs : List V} (F : FunD K "rows" "Table.rows" (defArgs s_Table_rows) (defBody s_Table_rows) (defScope s_Table_rows) dvs [] f fd) (T : Txt K mg) :
    FnOk P w K mg base CX0 1 f fd ["self"] (sp_Table_rows K) := by
  have nd := sc_Table_rows.nd
  refine ok0 F sc_Table_rows (fun vs H Q E h => by
    obtain ⟨g, A, T0, rfl, hT, I, k⟩ := h
    rfl) (fun cdv A outer s H vs Q E hr h => ?_)
  obtain ⟨g, A, T0, rfl, hT, I, k⟩ := h
  refine ⟨_, (pss_one (ps_ret (pe_tup (pa_cons (pe_callTy (K7.call_tupK (K := K) rfl) (by rfl) T.b_tuple bt_tuple (pa_cons (pe_lc (own := [("bucket", 1)]) rfl nd (K7.pi_listK (K := K) rfl (K7.pe_fldK (K := K) rfl (pv 0) rfl)) (blkOk_by (N := n_Table_rows) (sc := defScope s_Table_rows) (own := [("bucket", 1)]) (by decide +kernel)) (fun _ _ _ _ _ => (pg_name (i := 1) nd rfl (Or.inl rfl))) (fun _ _ _ _ _ => pts_nil) (fun _ _ _ _ _ => (pe_callTy (K7.call_tupK (K := K) rfl) (by rfl) T.b_tuple bt_tuple (pa_cons (pv 1) pa_nil)))) pa_nil)) (pa_cons (pe_callTy (K7.call_tupK (K := K) rfl) (by rfl) T.b_tuple bt_tuple (pa_cons (pe_lc (own := [("bucket", 1)]) rfl nd (K7.pi_listK (K := K) rfl (K7.pe_fldK (K := K) rfl (pv 0) rfl)) (blkOk_by (N := n_Table_rows) (sc := defScope s_Table_rows) (own := [("bucket", 1)]) (by decide +kernel)) (fun _ _ _ _ _ => (pg_name (i := 1) nd rfl (Or.inl rfl))) (fun _ _ _ _ _ => pts_nil) (fun _ _ _ _ _ => (pe_callTy (K7.call_tupK (K := K) rfl) (by rfl) T.b_tuple bt_tuple (pa_cons (pv 1) pa_nil)))) pa_nil)) pa_nil))))), ?_⟩
  have lbn : A.bn.length = T0.new.length := hT.bkn.len
  have lbo : A.bo.length = T0.old.length := hT.bko.len
  have l1 := I.len_old
  have l2 := I.len_new
  refine ⟨_, rfl, _, _, _, _, _, rfl, hT.ins, T.cl_Table, T.na_Table_own_old, rfl, A.lo, rfl, ⟨_, sq_of hT.old⟩, fun D nD => lc_obj (w := walk_list (K := K) (a := A.lo) (xs := A.bo.map V.ref)) (fun i => .tup ((T0.old.getD i []).map V.str)) nD (by rw [List.length_map]; omega) (fun H5 e5 => sq_of (e5 _ _ hT.old)) ?_ ?_⟩
  · rintro i y H5 H6 hi e5 ⟨ys, hys⟩ ⟨rfl, hy⟩
    rw [List.getElem?_map] at hy
    obtain ⟨b, hb, rfl⟩ := Option.map_eq_some_iff.mp hy
    have hi2 : i < T0.old.length := by rw [← lbo]; exact (List.getElem?_eq_some_iff.mp hb).1
    have hbl := hT.bko.at_ _ _ _ hb (List.getElem?_eq_getElem hi2)
    have eg : T0.old.getD i [] = T0.old[i] := by simp [hi2]
    refine ⟨Ex.refl _, _, tgt_name, rfl, fun H7 e7 Q q => q H7 (Ex.refl _), fun H7 e7 Q q => ⟨_, rfl, b, _, rfl, .inl ⟨sq_of (e7 _ _ (e5 _ _ hbl)), fun t nt => q (.ref t) _ (Ex.new nt) ⟨⟨t, rfl, ?_⟩, ?_⟩⟩⟩⟩
    · show _ = some (HO.tup ((T0.old.getD i []).map V.str))
      rw [upd_same, eg]
    · intro z
      exact ne_of_none (e7 _ _ hys) nt (V.ref.inj z).symm
  intro Us H1 e1 h1 hUl hUs
  refine ⟨D, _, rfl, .inl ⟨sq_of h1, fun r1 n1 => ?_⟩⟩
  have R1 : RowsAt (upd H1 r1 (.tup (Us.map V.ref))) r1 T0.old := ⟨Us, upd_same, by rw [hUl, List.length_map, lbo], fun i U l hU hl => by
    have h2 := hUs i U hU
    have eg : T0.old.getD i [] = l := by rw [List.getD_eq_getElem?_getD, hl]; rfl
    rw [eg] at h2
    exact upd_get h2 (ne_of_none h2 n1)⟩
  have e2 : Ex H (upd H1 r1 (.tup (Us.map V.ref))) := Ex.trans e1 (Ex.new n1)
  generalize upd H1 r1 (.tup (Us.map V.ref)) = H2 at R1 e2
  have hT2 := hT.ex e2
  refine ⟨_, rfl, _, _, _, _, _, rfl, hT2.ins, T.cl_Table, T.na_Table_own_new, rfl, A.lw, rfl, ⟨_, sq_of hT2.new⟩, fun D2 nD2 => lc_obj (w := walk_list (K := K) (a := A.lw) (xs := A.bn.map V.ref)) (fun i => .tup ((T0.new.getD i []).map V.str)) nD2 (by rw [List.length_map]; omega) (fun H5 e5 => sq_of (e5 _ _ hT2.new)) ?_ ?_⟩
  · rintro i y H5 H6 hi e5 ⟨ys, hys⟩ ⟨rfl, hy⟩
    rw [List.getElem?_map] at hy
    obtain ⟨b, hb, rfl⟩ := Option.map_eq_some_iff.mp hy
    have hi2 : i < T0.new.length := by rw [← lbn]; exact (List.getElem?_eq_some_iff.mp hb).1
    have hbl := hT2.bkn.at_ _ _ _ hb (List.getElem?_eq_getElem hi2)
    have eg : T0.new.getD i [] = T0.new[i] := by simp [hi2]
    refine ⟨Ex.refl _, _, tgt_name, rfl, fun H7 e7 Q q => q H7 (Ex.refl _), fun H7 e7 Q q => ⟨_, rfl, b, _, rfl, .inl ⟨sq_of (e7 _ _ (e5 _ _ hbl)), fun t nt => q (.ref t) _ (Ex.new nt) ⟨⟨t, rfl, ?_⟩, ?_⟩⟩⟩⟩
    · show _ = some (HO.tup ((T0.new.getD i []).map V.str))
      rw [upd_same, eg]
    · intro z
      exact ne_of_none (e7 _ _ hys) nt (V.ref.inj z).symm
  intro Ws H3 e3 h3 hWl hWs
  refine ⟨D2, _, rfl, .inl ⟨sq_of h3, fun r2 n2 => ?_⟩⟩
  have R2 : RowsAt (upd H3 r2 (.tup (Ws.map V.ref))) r2 T0.new := ⟨Ws, upd_same, by rw [hWl, List.length_map, lbn], fun i U l hU hl => by
    have h2 := hWs i U hU
    have eg : T0.new.getD i [] = l := by rw [List.getD_eq_getElem?_getD, hl]; rfl
    rw [eg] at h2
    exact upd_get h2 (ne_of_none h2 n2)⟩
  have e4 : Ex H2 (upd H3 r2 (.tup (Ws.map V.ref))) := Ex.trans e3 (Ex.new n2)
  generalize upd H3 r2 (.tup (Ws.map V.ref)) = H4 at R2 e4
  refine ⟨(by show 2 ≤ sizeLine; decide), fun t nt => ?_⟩
  exact k t r1 r2 _ (Ex.trans (Ex.trans e2 e4) (Ex.new nt)) upd_same ((R1.ex e4).ex (Ex.new nt)) (R2.ex (Ex.new nt))
theorem ok_scanned_names {f : Addr} {fd : FuncData} {dvs : List V} (F : FunD K "scanned_names" "scanned_names" (defArgs s_scanned_names) (defBody s_scanned_names) (defScope s_scanned_names) dvs [] f fd) (T : Txt K mg) :
    FnOk P w K mg base CX0 1 f fd ["names", "spots", "cursor", "count"] (sp_scanned_names K) := by
  have nd := sc_scanned_names.nd
  refine ok0 F sc_scanned_names (fun vs H Q E h => by
    obtain ⟨a, d, ns, ks, gs, cur, cnt, rfl, ha, hd, hks, hnl, hc, k⟩ := h
    rfl) (fun cdv A outer s H vs Q E hr h => ?_)
  obtain ⟨a, d, ns, ks, gs, cur, cnt, rfl, ha, hd, hks, hnl, hc, k⟩ := h
  refine ⟨_, (pss_cons (ps_setLc (i := 4) (own := [("name", 7)]) rfl nd rfl rfl (sw_true rfl rfl rfl (by decide +kernel)) (K7.pi_listK (K := K) rfl (pv 0)) (blkOk_by (N := n_scanned_names) (sc := defScope s_scanned_names) (own := [("name", 7)]) (by decide +kernel)) (fun _ _ _ _ _ => (pg_name (i := 7) nd rfl (Or.inl rfl))) (fun _ _ _ _ _ => (pts_one (pt_cmpR op_ge (pe_dget (hu_of hr) (pv 1) (pv 7) (fun _ _ => rfl)) (pv 2) (nomark _)))) (fun _ _ _ _ _ => (pv 7)))
     (pss_cons (ps_if (pt_cmpR (K7.op_eqK (K := K) rfl hr.units) (pv 4) (pe_lst pa_nil) (nomark _)) (pss_one (ps_ret (pe_tup (pa_cons pe_int (pa_cons (pe_tup pa_nil) pa_nil))))) pss_nil)
     (pss_cons (ps_set (i := 5) nd rfl (Or.inr rfl) (pe_dget (hu_of hr) (pv 1) (pe_ix (K7.ix_listK (K := K) rfl) (pv 4) (pe_op op_sub (pe_callB (call_min2 rfl) (by rfl) T.b_min bt_min (pa_cons (pv 3) (pa_cons (pe_callB (K7.call_lenK (K := K) rfl) (by rfl) T.b_len bt_len (pa_cons (pv 4) pa_nil)) pa_nil))) pe_int) (fun _ _ => rfl)) (fun _ _ => rfl)))
     (pss_cons (ps_set (i := 6) nd rfl (Or.inl rfl) (pe_callTy (K7.call_tupK (K := K) rfl) (by rfl) T.b_tuple bt_tuple (pa_cons (pe_lc (own := [("name", 7)]) rfl nd (K7.pi_listK (K := K) rfl (pv 4)) (blkOk_by (N := n_scanned_names) (sc := defScope s_scanned_names) (own := [("name", 7)]) (by decide +kernel)) (fun _ _ _ _ _ => (pg_name (i := 7) nd rfl (Or.inl rfl))) (fun _ _ _ _ _ => (pts_one (pt_cmpR op_le (pe_dget (hu_of hr) (pv 1) (pv 7) (fun _ _ => rfl)) (pv 5) (nomark _)))) (fun _ _ _ _ _ => (pv 7))) pa_nil)))
     (pss_one (ps_ret (pe_tup (pa_cons (pe_ifExp (pt_cmpR op_lt (pe_callB (K7.call_lenK (K := K) rfl) (by rfl) T.b_len bt_len (pa_cons (pv 6) pa_nil)) (pe_callB (K7.call_lenK (K := K) rfl) (by rfl) T.b_len bt_len (pa_cons (pv 4) pa_nil)) (nomark _)) (pe_op op_add (pv 5) pe_int) pe_int) (pa_cons (pv 6) pa_nil))))))))), ?_⟩
  refine ⟨_, rfl, a, rfl, ⟨_, sq_of ha⟩, fun D nD => lc_val (w := walk_list (K := K) (a := a) (xs := ns.map V.str)) (fun i => (fun x => decide (cur ≤ gs x)) (ns.getD i "")) (fun i => V.str (ns.getD i "")) nD (by rw [List.length_map]; omega) (fun H5 e5 => sq_of (e5 _ _ ha)) ?_ ?_⟩
  · rintro i y H5 H6 hi e5 _ ⟨rfl, hy⟩
    obtain ⟨x, hx, rfl, eg⟩ := at_str hy
    have hxk := (hks x (List.mem_of_getElem? hx)).1
    rw [eg]
    refine ⟨Ex.refl _, _, tgt_name, rfl, et_test (ev_op (ev_dnums (ev_var rfl) (ev_var rfl) (e5 _ _ hd) hxk) (ev_var rfl) rv_I0), fun _ => ev_var rfl⟩
  intro H1 e1 h1
  rw [given_nums ns fun x => decide (cur ≤ gs x)] at h1
  generalize hrows : ns.filter (fun x => decide (cur ≤ gs x)) = rows at h1
  have hrl : rows.length ≤ 100 := by rw [← hrows]; exact Nat.le_trans (List.length_filter_le _ _) hnl
  have hrk : ∀ x ∈ rows, x ∈ ks ∧ PyData.strOk x = true := fun x hx => hks x (by rw [← hrows] at hx; exact (List.mem_filter.mp hx).1)
  refine ⟨_, rfl, Nat.zero_le _, fun q nq => eq_nil (sq_of (upd_get h1 (ne_of_none h1 nq))) (dp_strs rows) (sh_strs (fun x hx => (hrk x hx).2) 0) upd_same ⟨_, rfl, ?_⟩⟩
  have e2 : Ex H (upd H1 q (.lst [])) := Ex.trans e1 (Ex.new nq)
  have h2 := upd_get (o := .lst []) h1 (ne_of_none h1 nq)
  generalize upd H1 q (.lst []) = H2 at e2 h2
  by_cases hr0 : rows = []
  · refine itB (decide_eq_true (by rw [hr0]; rfl)) ⟨Nat.zero_le _, fun u nu => ⟨(by show 2 ≤ sizeLine; decide), fun t nt => k t _ (Ex.trans (Ex.trans e2 (Ex.new nu)) (Ex.new nt)) ?_⟩⟩
    unfold scanF
    rw [if_pos (hrows.trans hr0)]
    exact ⟨u, upd_same, upd_get upd_same (ne_of_none upd_same nt)⟩
  refine itN (decide_eq_false fun z => hr0 (List.map_eq_nil_iff.mp z)) ?_
  have hpos : 0 < rows.length := List.length_pos_iff.mpr hr0
  obtain ⟨j, hj, ej⟩ : ∃ j : Nat, j < rows.length ∧ (if ((rows.length : Nat) : Int) < cnt then ((rows.length : Nat) : Int) else cnt) - 1 = (j : Int) := by
    split
    · exact ⟨rows.length - 1, by omega, by omega⟩
    · exact ⟨(cnt - 1).toNat, by omega, by omega⟩
  refine ⟨_, rfl, _, rfl, _, rfl, _, rfl, D, _, rfl, .inl (sq_of h2), _, _, rfl, ?_⟩
  have emin : (if (((rows.map V.str).length : Nat) : Int) < cnt then (((rows.map V.str).length : Nat) : Int) else cnt) = (if ((rows.length : Nat) : Int) < cnt then ((rows.length : Nat) : Int) else cnt) := by rw [List.length_map]
  refine ⟨_, _, rfl, rfl, D, _, _, .str rows[j], rfl, rfl, sq_of h2, at_of (by rw [emin]; exact ej) (by rw [List.getElem?_map, List.getElem?_eq_getElem hj]; rfl), d, _, rfl, dget_nums (e2 _ _ hd) (hrk _ (List.getElem_mem hj)).1, ?_⟩
  refine ⟨_, rfl, D, rfl, ⟨_, sq_of h2⟩, fun D2 nD2 => lc_val (w := walk_list (K := K) (a := D) (xs := rows.map V.str)) (fun i => (fun x => decide (gs x ≤ gs rows[j])) (rows.getD i "")) (fun i => V.str (rows.getD i "")) nD2 (by rw [List.length_map]; omega) (fun H5 e5 => sq_of (e5 _ _ h2)) ?_ ?_⟩
  · rintro i y H5 H6 hi e5 _ ⟨rfl, hy⟩
    obtain ⟨x, hx, rfl, eg⟩ := at_str hy
    have hxk := (hrk x (List.mem_of_getElem? hx)).1
    rw [eg]
    exact ⟨Ex.refl _, _, tgt_name, rfl, et_test (ev_op (ev_dnums (ev_var rfl) (ev_var rfl) (e5 _ _ (e2 _ _ hd)) hxk) (ev_var rfl) rv_I0), fun _ => ev_var rfl⟩
  intro H3 e3 h3
  rw [given_nums rows fun x => decide (gs x ≤ gs rows[j])] at h3
  generalize hfound : rows.filter (fun x => decide (gs x ≤ gs rows[j])) = found at h3
  refine ⟨D2, _, rfl, .inl ⟨sq_of h3, fun u nu => ?_⟩⟩
  have h4 : (upd H3 u (.tup (found.map V.str))) u = some (.tup (found.map V.str)) := upd_same
  have e4 : Ex H2 (upd H3 u (.tup (found.map V.str))) := Ex.trans e3 (Ex.new nu)
  generalize upd H3 u (.tup (found.map V.str)) = H4 at h4 e4
  have hres : scanF gs ns cur cnt = (if ((found.length : Nat) : Int) < ((rows.length : Nat) : Int) then gs rows[j] + 1 else 0, found) := by
    unfold scanF
    rw [hrows, if_neg hr0]
    have e5 : rows.getD ((if ((rows.length : Nat) : Int) < cnt then ((rows.length : Nat) : Int) else cnt) - 1).toNat "" = rows[j] := by
      rw [ej, Int.toNat_natCast]
      simp [hj]
    simp only [e5, hfound]
  rw [hres] at k
  have el1 : (((found.map V.str).length : Nat) : Int) = ((found.length : Nat) : Int) := by rw [List.length_map]
  have el2 : (((rows.map V.str).length : Nat) : Int) = ((rows.length : Nat) : Int) := by rw [List.length_map]
  refine ⟨_, rfl, u, _, rfl, .inr (st_of h4), _, rfl, D, _, rfl, .inl (sq_of (e4 _ _ h2)), _, _, rfl, rfl, _, rfl, ?_⟩
  rw [el1, el2]
  by_cases hlt : ((found.length : Nat) : Int) < ((rows.length : Nat) : Int)
  · rw [if_pos hlt] at k
    refine itB (decide_eq_true hlt) ⟨_, rfl, _, _, rfl, rfl, _, rfl, (by show 2 ≤ sizeLine; decide), fun t nt => k t _ (Ex.trans (Ex.trans e2 e4) (Ex.new nt)) ⟨u, upd_same, upd_get h4 (ne_of_none h4 nt)⟩⟩
  · rw [if_neg hlt] at k
    refine itN (decide_eq_false hlt) ⟨_, rfl, (by show 2 ≤ sizeLine; decide), fun t nt => k t _ (Ex.trans (Ex.trans e2 e4) (Ex.new nt)) ⟨u, upd_same, upd_get h4 (ne_of_none h4 nt)⟩⟩
end
end K70
set_option Elab.async false
set_option linter.all false
set_option maxRecDepth 100000
set_option maxHeartbeats 2000000
namespace K7N
open PySem PySem.Spec PyProof.Rows
section
variable {prog : Program} {w : World} {A : Around} {E : Value → Shared → Prop} {s : Shared} {K : PySem.W.Frag} {x C f : Addr} {ox : Obj} {od : Option Obj}
theorem special_fn {M : Model} {name : Str} {args : List Value} {Q : Option Value → Shared → Prop} (X : K.In s.heap) (I : PySem.W.InstAt s.heap x ox C od) (hs : PySem.W.findIn K (.ref C) name = some (some (.ref f))) (hf : PySem.W.isFn K (.ref f) = true)
    (hc : wpAny M A (call (.ref f) (.ref x :: args)) (fun v s' => Q (some v) s') E s) : wpAny M A (callSpecial? (.ref x) name args) Q E s := by
  unfold callSpecial? specialOf
  refine wpAny_bind (wpAny_bind (I.type.here ((PySem.W.looks_findIn X hs).here ?_)))
  refine wpAny_holding ?_
  refine wpAny_bind ((PySem.W.bind_fn X _ (beq_iff_eq.mp hf)).here ?_)
  exact wpAny_bind (wpAny_mono hc (fun v s' h => wpAny_pure h) fun _ _ z => z)
theorem len_fn {Q : Value → Shared → Prop} (X : K.In s.heap) (I : PySem.W.InstAt s.heap x ox C od) (hs : PySem.W.findIn K (.ref C) "__len__" = some (some (.ref f))) (hf : PySem.W.isFn K (.ref f) = true)
    (hcall : wpAny (model prog w) A.in1 (call (.ref f) [.ref x]) (fun r s' => ∃ n u, r = .int n u ∧ 0 ≤ n ∧ n < 2 ^ 63 ∧ Q (.int n s'.toks) { s' with toks := s'.toks + 1 }) E s) :
    wpAny (model prog w) A (call (.builtin "len") [.ref x]) Q E s := by
  refine Calls.call_function_entry kind_len plain_len entry_len (args_len1 _) ?_
  unfold Builtin.«len»
  refine wpAny_bind (m := oneArg "len" _) (wpAny_pure ?_)
  refine wpAny_bind (m := callSpecial? (.ref x) (Str.ofString "__len__")) (special_fn X I hs hf (wpAny_mono hcall (fun r s' hr => ?_) fun _ _ y => y))
  obtain ⟨n, u, rfl, h0, h1, hq⟩ := hr
  refine wpAny_bind (wpAny_holding (wpAny_pure ?_))
  refine wpAny_bind (wpAny_letGo ?_)
  show wpAny _ _ (if n < 0 then _ else _) _ _ _
  rw [if_neg (by omega)]
  show wpAny _ _ (if n ≥ 2 ^ 63 then _ else _) _ _ _
  rw [if_neg (by omega)]
  exact wpAny_bind (wpAny_mkInt (wpAny_pure ⟨_, rfl, hq⟩))
end
end K7N
namespace K7
open PySem PySem.Spec PyProof.Rows L2
structure OwnM (P : Program) (w : World) (K : PySem.W.Frag) (mg : Str → Option Value) (base : Heap) (k : Nat) (C : Addr) (m : Str) (sp : Sp) : Prop where
  ex : ∃ (f : Addr) (fd : FuncData) (ps : List Str), FnOk P w K mg base CX0 k f fd ps sp ∧ Binds K fd ps [] ∧ PySem.W.findIn K (.ref C) m = some (some (.ref f)) ∧ PySem.W.isFn K (.ref f) = true
def rLenOwn (C : Addr) (sp : Sp) : List V → Hp → VK → Prop := fun vs H Q => ∃ a dx fs, vs = [V.ref a] ∧ H a = some (.ins C dx fs) ∧ sp [.ref a] H (fun v H' => ∃ n : Int, v = .int n ∧ 0 ≤ n ∧ n < 2 ^ 63 ∧ Q (.int n) H') E0
theorem call_lenOwn {X : Cx} {k j : Nat} {C : Addr} {sp : Sp} (e : OwnM X.prog X.w X.K X.mg X.base k C "__len__" sp) (hr : Room j X.A) (hk : k + 1 ≤ j) : CallR X (.builtin "len") (rLenOwn C sp) := by
  intro pins s σ H vs us Q I rv hq
  obtain ⟨f, fd, ps, F, hb, hs, hf⟩ := e.ex
  obtain ⟨a, dx, fs, rfl, ha, hsp⟩ := hq
  rw [Vals.ref1 rv]
  obtain ⟨mA, J, _⟩ := ins_get I.hok ha
  obtain ⟨od, J, _⟩ := J.look
  have hr1 : Room k X.A.in1 := (hr.mono hk).in1
  refine K7N.len_fn I.kIn J hs hf ?_
  have e0 : Env0 X.prog X.w X.K X.mg X.base X.A.in1 X.stack s H := I.env0.in1
  have hl := F.len _ _ _ _ hsp
  have r2 : Vals [V.ref a] [Value.ref a] := .cons rfl .nil
  refine wpAny_call (codeAny_mono (F.run X.A.in1 X.stack s H ⟨[.ref a], []⟩ [.ref a] [.ref a] _ E0 hr1 e0 (by
    have := hb s [.ref a] I.kIn (by simpa using hl)
    simpa using this) r2 hsp) fun r s' hq => ?_)
  cases r with
  | error e => exact False.elim hq
  | ok fl =>
    cases fl with
    | ret w' =>
      obtain ⟨z, H', I', rz, n, ez, h0, h1, q⟩ := I.after hq
      subst ez
      obtain ⟨t, rfl⟩ := rz
      exact ⟨n, t, rfl, h0, h1, .int n, H', I'.tok _, ⟨_, rfl⟩, q⟩
    | next => exact False.elim hq
    | brk => exact False.elim hq
    | cont => exact False.elim hq
theorem op_neT {X : Cx} {k j : Nat} {C : Addr} {sp : Sp} (e : OwnM X.prog X.w X.K X.mg X.base k C "__eq__" sp) (hm : PySem.W.mroIn X.K C (.type "object") = some true) (hn : PySem.W.findIn X.K (.ref C) "__ne__" = some (some (.builtin "object.__ne__")))
    (hr : Room j X.A) (hk : k + 1 ≤ j) : OpR X (compareOp .NotEq) (rNeOwn C sp) := by
  obtain ⟨f, fd, ps, F, hb, hs, hf⟩ := e.ex
  exact op_neOwn F (hr.mono hk) hb hm hs hf hn
end K7
set_option Elab.async false
set_option linter.all false
set_option maxRecDepth 100000
set_option maxHeartbeats 4000000
namespace K70
open PySem PySem.Spec PyProof.Rows L2 Evl
open C8 (Cal Met Mak pe_c pe_mt pe_mt0 pe_mk pe_gc InsC call_isC)
open K7 (Kp ShOk upd_get HeldF FnH FnL CellO LF PR pr_cons pr_if ps_lam0 pr_lam1 tLam0 tLam1 held_lam0 held_lam1 held_def fn_ofR hideC)
open LamX (Tabs TabS TabB CodeO ExtN)
def KpN (S : List Addr) (H H' : Hp) : Prop := ∀ b o, b ∉ S → (∀ ps, o ≠ .tbl ps) → H b = some o → H' b = some o
theorem KpN.refl (S : List Addr) (H : Hp) : KpN S H H := fun _ _ _ _ h => h
theorem KpN.of {S : List Addr} {H H' : Hp} (k : Kp S H H') : KpN S H H' := fun b o n _ h => k b o n h
theorem KpN.ext {S : List Addr} {H H' : Hp} (k : ExtN H H') : KpN S H H' := fun b o _ n h => k b o h n
theorem KpN.trans {S : List Addr} {H H1 H2 : Hp} (a : KpN S H H1) (b : KpN S H1 H2) : KpN S H H2 := fun x o n m h => b x o n m (a x o n m h)
theorem KpN.mono {S S' : List Addr} {H H1 : Hp} (a : KpN S H H1) (h : ∀ x ∈ S, x ∈ S') : KpN S' H H1 := fun x o n m e => a x o (fun z => n (h x z)) m e
theorem KpN.old {S : List Addr} {H H1 : Hp} {p : Addr} {o : HO} (a : KpN S H H1) (h : H p = none) : KpN S H (upd H1 p o) := fun x u n m e => by
  rw [upd_ne (ne_of_none e h)]
  exact a x u n m e
theorem KpN.new {S : List Addr} {H H1 : Hp} {p : Addr} {o : HO} (a : KpN S H H1) (h : H1 p = none) : KpN S H (upd H1 p o) := fun x u n m e => by
  have e1 := a x u n m e
  rw [upd_ne (ne_of_none e1 h)]
  exact e1
theorem KpN.mut {S : List Addr} {H H1 : Hp} {p : Addr} {o : HO} (a : KpN S H H1) (h : p ∈ S) : KpN S H (upd H1 p o) := fun x u n m e => by
  rw [upd_ne (fun z => n (by rw [z]; exact h))]
  exact a x u n m e
def qLam : Str := ("_law_spread.<locals>." : Str) ++ "<lambda>"
abbrev Tl (Pt : Addr) : List (Addr × Str) := [(Pt, qLam)]
theorem TabS.kp {S : List Addr} {H H' : Hp} {Pt : Addr} {q : Str} (h : TabS H Pt q) (k : Kp S H H') (n : ∀ a ∈ S, (∀ ps, H a ≠ some (.tbl ps)) ∧ ∀ φ, H a ≠ some (.ext φ)) : TabS H' Pt q := by
  obtain ⟨ps, h1, h2, h3⟩ := h
  refine ⟨ps, k _ _ (fun z => (n _ z).1 ps h1) h1, h2, fun pos cv hc => ?_⟩
  obtain ⟨c, e1, e2⟩ := h3 pos cv hc
  exact ⟨c, e1, k _ _ (fun z => (n _ z).2 _ e2) e2⟩
theorem Tabs.kp {S : List Addr} {H H' : Hp} {Pt : Addr} (h : Tabs (Tl Pt) H) (k : Kp S H H') (n : ∀ a ∈ S, (∀ ps, H a ≠ some (.tbl ps)) ∧ ∀ φ, H a ≠ some (.ext φ)) : Tabs (Tl Pt) H' := fun p hp => TabS.kp (h p hp) k n
theorem unhide {H : Hp} {c : Addr} {o : HO} (h : H c = some o) : upd (hideC H c) c o = H := by
  funext b
  by_cases e : b = c
  · rw [e, upd_same, h]
  · rw [upd_ne e, K7.hideC_ne e]
theorem spr0 {P : Program} {w : World} {K : PySem.W.Frag} {mg : Str → Option Value} {base : Heap} {fl c' : Addr} {F0 : LF} {q : Str} {g : Str → Int} {H2 : Hp} (f1 : H2 fl = some (FnL fl F0)) (cd1 : H2 c' = some (CodeO c' q))
    (held : HeldF P w K mg base 2 fl (spS g [(fl, FnL fl F0), (c', CodeO c' q)])) (rng : ∀ x, NameOk x → 0 ≤ g x ∧ g x < 65536) : Spr P w K mg base fl g [(fl, FnL fl F0), (c', CodeO c' q)] ∧ Std [(fl, FnL fl F0), (c', CodeO c' q)] H2 := by
  refine ⟨⟨held, fun H' hs => .inr ⟨_, (hs (fl, _) List.mem_cons_self).1⟩, rng⟩, fun p hp => ?_⟩
  rcases List.mem_cons.mp hp with z | z
  · rw [z]
    exact ⟨f1, _, rfl⟩
  · rw [List.mem_singleton.mp z]
    exact ⟨cd1, _, rfl⟩
theorem spr1 {P : Program} {w : World} {K : PySem.W.Frag} {mg : Str → Option Value} {base : Heap} {fl c' cc : Addr} {F0 : LF} {q : Str} {y : V} {g : Str → Int} {H2 : Hp} (f1 : H2 fl = some (FnL fl F0)) (cd1 : H2 c' = some (CodeO c' q)) (ce1 : H2 cc = some (CellO cc y))
    (held : HeldF P w K mg base 2 fl (spS g [(fl, FnL fl F0), (c', CodeO c' q), (cc, CellO cc y)])) (rng : ∀ x, NameOk x → 0 ≤ g x ∧ g x < 65536) :
    Spr P w K mg base fl g [(fl, FnL fl F0), (c', CodeO c' q), (cc, CellO cc y)] ∧ Std [(fl, FnL fl F0), (c', CodeO c' q), (cc, CellO cc y)] H2 := by
  refine ⟨⟨held, fun H' hs => .inr ⟨_, (hs (fl, _) List.mem_cons_self).1⟩, rng⟩, fun p hp => ?_⟩
  rcases List.mem_cons.mp hp with z | z
  · rw [z]
    exact ⟨f1, _, rfl⟩
  · rcases List.mem_cons.mp z with z | z
    · rw [z]
      exact ⟨cd1, _, rfl⟩
    · rw [List.mem_singleton.mp z]
      exact ⟨ce1, _, rfl⟩
def spG (g : Str → Int) : Sp := fun vs H Q _ => ∃ x : Str, vs = [.str x] ∧ NameOk x ∧ Q (.int (g x)) H
theorem held0 {P : Program} {w : World} {K : PySem.W.Frag} {mg : Str → Option Value} {base : Heap} {fl : Addr} {F0 : LF} {g : Str → Int} {N : List Str} {x : Str} (S : NdefX.NScope N [x] [] F0.scope) (hcl : F0.cl = [])
    (hb : ∀ (pm ctv : Value) (us : List Value), us.length = ([x] : List Str).length → bindArgs (PySem.W.kla_fn "<lambda>" F0.qual F0.params F0.body F0.scope F0.cl pm (.ref F0.c) ctv) ⟨us, []⟩ = pure ([x].zip us))
    (hbody : ∀ (A : Around) (outer : List Env) (s : Shared) (H : Hp) (vs : List V) (Q : VK) (E : XK), Room 1 (A.deeper (NdefX.envF F0.nf fl s.heap.objs.size)) → spG g vs H Q E → ∃ te, PE (NdefX.ncx CX0 P w K mg base N F0.nf fl A outer s H E0) F0.body te ∧ te (NdefX.startF N vs []) H Q) :
    HeldF P w K mg base 2 fl (spS g [(fl, FnL fl F0), (F0.c, CodeO F0.c F0.qual)]) :=
  (held_lam0 (k := 1) (sp := spG g) S hcl hb (fun vs H Q E h => by
      obtain ⟨x, rfl, _⟩ := h
      rfl) hbody).imp fun vs H Q E h => by
    obtain ⟨x, rfl, hx, hs, q⟩ := h
    exact ⟨(hs (fl, _) List.mem_cons_self).1, (hs (F0.c, _) (List.mem_cons_of_mem _ List.mem_cons_self)).1, x, rfl, hx, q⟩
theorem held1 {P : Program} {w : World} {K : PySem.W.Frag} {mg : Str → Option Value} {base : Heap} {fl cc : Addr} {F0 : LF} {g : Str → Int} {N : List Str} {x b : Str} {y : V} (S : NdefX.NScope N [x] [b] F0.scope) (hcl : F0.cl = [(b, cc)])
    (hb : ∀ (pm ctv : Value) (us : List Value), us.length = ([x] : List Str).length → bindArgs (PySem.W.kla_fn "<lambda>" F0.qual F0.params F0.body F0.scope F0.cl pm (.ref F0.c) ctv) ⟨us, []⟩ = pure ([x].zip us))
    (hbody : ∀ (A : Around) (outer : List Env) (s : Shared) (H : Hp) (vs : List V) (Q : VK), Room 1 (A.deeper (NdefX.envF F0.nf fl s.heap.objs.size)) → spG g vs H Q E0 → H cc = some (CellO cc y) →
      ∃ te, PE (NdefX.ncx CX0 P w K mg base N F0.nf fl A outer s (hideC H cc) E0) F0.body te ∧ te (NdefX.startF N vs [some y]) (hideC H cc) (fun v H' => H' cc = none → Q v (upd H' cc (CellO cc y)))) :
    HeldF P w K mg base 2 fl (spS g [(fl, FnL fl F0), (F0.c, CodeO F0.c F0.qual), (cc, CellO cc y)]) :=
  (held_lam1 (k := 1) (sp := spG g) (x := b) (cc := cc) (y := y) S hcl hb (fun vs H Q E h => by
      obtain ⟨x, rfl, _⟩ := h
      rfl) hbody).imp fun vs H Q E h => by
    obtain ⟨x, rfl, hx, hs, q⟩ := h
    exact ⟨(hs (fl, _) List.mem_cons_self).1, (hs (F0.c, _) (List.mem_cons_of_mem _ List.mem_cons_self)).1, (hs (cc, _) (List.mem_cons_of_mem _ (List.mem_cons_of_mem _ List.mem_cons_self))).1, x, rfl, hx, q⟩
def sp_law_spread (P : Program) (w : World) (K : PySem.W.Frag) (mg : Str → Option Value) (base : Heap) (Pt : Addr) : Sp := fun vs H Q _ => ∃ d : Addr, vs = [.ref d] ∧ DiceAt H d ∧ Tabs (Tl Pt) H ∧ (∀ H', KpN [d] H H' → DiceAt H' d → Tabs (Tl Pt) H' → Q .non H') ∧
  ∀ f g l H', Spr P w K mg base f g l → Std l H' → KpN [d] H H' → DiceAt H' d → Tabs (Tl Pt) H' → Q (.ref f) H'
section
variable {P : Program} {w : World} {K : PySem.W.Frag} {mg : Str → Option Value} {base : Heap}
theorem ok_law_spread {f : Addr} {fd : FuncData} {dvs : List V} {c Pt : Addr} (F : FunD K "_law_spread" "_law_spread" (defArgs s_law_spread) (defBody s_law_spread) (defScope s_law_spread) dvs [] f fd) (T : Txt K mg)
    (c_law_roll : Cal P w K mg base 1 "_law_roll" sp_law_roll []) (c_law_hash : Cal P w K mg base 1 "_law_hash" sp_law_hash [])
    (hf : f = He.fAd K ("_law_spread", none)) (hcP : He.cT K ("_law_spread", none) = (c, Pt)) (tb : TabB base mg c Pt) : FnOk P w K mg base CX0 2 f fd ["dice"] (sp_law_spread P w K mg base Pt) := by
  have nd := sc_law_spread.nd
  obtain ⟨oc, od, dV, kV, doc, pm, an, cdv, ct, osl, rfl, lk, hcd, _, _⟩ := F.ex
  obtain ⟨c1, rfl⟩ := He.codeIn_ref hcd
  have ec : c1 = c := by
    rw [hf] at lk
    have h1 := He.codeOf_eq lk rfl
    have h2 : He.codeOf K ("_law_spread", none) = c := congrArg Prod.fst hcP
    exact h1.symm.trans h2
  subst ec
  refine fn_ofR lk hcd sc_law_spread (fun vs H Q E h => by
    obtain ⟨d, rfl, _⟩ := h
    rfl) (fun A outer s H vs Q E hr h => ?_)
  obtain ⟨d, rfl, ⟨l0, m0, c0, hd⟩, hT, kN, kF⟩ := h
  have hq : (cxOf CX0 P w K mg base n_law_spread "_law_spread" (defScope s_law_spread) f (Value.ref c1) A outer s H E).env.qual ++ "<lambda>" = qLam := by
    show (("_law_spread" : Str) ++ ".<locals>.") ++ "<lambda>" = _
    decide +kernel
  refine ⟨_, pr_cons (ps_asg (pe_tup (pa_cons (pe_c c_law_roll hr (by decide) (by rfl) (pa_cons (pv 0) (pa_cons pe_int pa_nil))) (pa_cons (pe_op op_add pe_int (pe_c c_law_roll hr (by decide) (by rfl) (pa_cons (pv 0) (pa_cons pe_int pa_nil)))) pa_nil)))
      (K7.pg_tupK (K := K) (n := 2) rfl (by rfl) (pgs_cons (pg_name (i := 1) nd rfl (Or.inl rfl)) (pgs_cons (pg_name (i := 2) nd rfl (Or.inr rfl)) pgs_nil))))
    (pr_if (pt_cmpR op_lt (pv 1) pe_int (nomark _)) (PR.of (pss_one (ps_ret pe_non)))
    (pr_if (pt_cmpR op_eq (pv 1) pe_int (nomark _)) (PR.of (pss_one (ps_lam0 (T := Tl Pt) tb rfl (by rw [hq]; simp) (fun p hp _ => by rw [hq]; simp at hp; rw [hp]) rfl (by decide) (fun _ => rfl))))
    (pr_if (pt_cmpR op_eq (pv 1) pe_int (nomark _)) (pr_lam1 (i := 2) (T := Tl Pt) (x := "by") tb rfl (by rw [hq]; simp) (fun p hp _ => by rw [hq]; simp at hp; rw [hp]) rfl (by decide) (fun _ => rfl) rfl rfl)
      (pr_lam1 (i := 2) (T := Tl Pt) (x := "by") tb rfl (by rw [hq]; simp) (fun p hp _ => by rw [hq]; simp at hp; rw [hp]) rfl (by decide) (fun _ => rfl) rfl rfl)))), ?_⟩
  refine ⟨_, rfl, d, 5, rfl, by decide, by decide, ⟨_, _, _, hd⟩, fun r1 l1 m1 c1' h0 h1 => ?_⟩
  have hd1 : (upd H d (DiceL l1 m1 c1')) d = some (DiceL l1 m1 c1') := upd_same
  refine ⟨_, rfl, d, 65535, rfl, by decide, by decide, ⟨_, _, _, hd1⟩, fun r2 l2 m2 c2 h2 h3 => ⟨_, _, rfl, rfl, (by show 2 ≤ sizeLine; decide), fun t nt => ?_⟩⟩
  rw [show upd (upd H d (DiceL l1 m1 c1')) d (DiceL l2 m2 c2) = upd H d (DiceL l2 m2 c2) from upd_upd] at nt ⊢
  refine ⟨t, [.int r1, .int (1 + r2)], rfl, st_of upd_same, rfl, _, _, rfl, _, _, rfl, rfl, ?_⟩
  have kp1 : Kp [d] H (upd (upd H d (DiceL l2 m2 c2)) t (.tup [.int r1, .int (1 + r2)])) := ((Kp.refl _ _).mut (by simp)).old ((K7.upd_out nt).2)
  have hdt : d ≠ t := ne_of_none upd_same nt
  have hd2 : (upd (upd H d (DiceL l2 m2 c2)) t (.tup [.int r1, .int (1 + r2)])) d = some (DiceL l2 m2 c2) := upd_get upd_same hdt
  show tSeq _ _ _ [some (V.ref d), some (V.int r1), some (V.int (1 + r2))] _
  generalize upd (upd H d (DiceL l2 m2 c2)) t (.tup [.int r1, .int (1 + r2)]) = H1 at kp1 hd2
  have hT1 : Tabs (Tl Pt) H1 := Tabs.kp hT kp1 fun a ha => by
    rw [List.mem_singleton.mp ha, hd]
    exact ⟨fun ps z => (by cases z), fun φ z => (by cases z)⟩
  have kn1 : KpN [d] H H1 := KpN.of kp1
  obtain ⟨by_, hby, b0, b1⟩ : ∃ b : Int, 1 + r2 = b ∧ 0 < b ∧ b < 65536 := ⟨_, rfl, by omega, by omega⟩
  rw [hby]
  have dk : ∀ {H2 : Hp}, ExtN H1 H2 → DiceAt H2 d := fun e => ⟨_, _, _, e d _ hd2 (fun ps z => (by cases z))⟩
  refine ⟨_, rfl, _, _, rfl, rfl, _, rfl, ite2 (fun _ => kN H1 kn1 ⟨_, _, _, hd2⟩ hT1) fun _ => ?_⟩
  refine ⟨_, rfl, rfl, _, rfl, ite2 (fun _ => ?_) fun _ => ?_⟩
  ·
    refine ⟨hT1, fun fl c' H2 e1 e2 T2 f0 f1 cd1 => ?_⟩
    refine (fun key => kF fl _ _ H2 key.1 key.2 (kn1.trans (KpN.ext e1)) (dk e1) T2) (spr0 (P := P) (w := w) (K := K) (mg := mg) (base := base) (g := fun x => ((x.length : Nat) : Int)) f1 cd1 ?_ fun x hx => ?_)
    rotate_left
    · have := hx.1.1
      exact ⟨by omega, by omega⟩
    refine held0 (N := ["name"]) (x := "name") (NdefX.nscope_by (by dsimp only; decide +kernel)) rfl (fun pm ctv us hl => by
      match us, hl with
      | [_], _ => rfl) (fun A outer s H vs Q E hr h => ?_)
    obtain ⟨x, rfl, hx, q⟩ := h
    exact ⟨_, pe_callB call_len_str (by rfl) T.b_len bt_len (pa_cons (pv 0) pa_nil), _, rfl, x, rfl, Nat.le_trans hx.1.1 (by decide), q⟩
  refine ⟨_, rfl, rfl, _, rfl, ite2 (fun _ => ?_) fun _ => ?_⟩
  ·
    refine ⟨hT1, .int by_, rfl, fun fl c' cc H2 e1 e2 T2 f0 cc0 f1 cd1 ce1 => ?_⟩
    refine (fun key => kF fl _ _ H2 key.1 key.2 (kn1.trans (KpN.ext e1)) (dk e1) T2) (spr1 (P := P) (w := w) (K := K) (mg := mg) (base := base) (g := fun _ => by_) f1 cd1 ce1 ?_ fun x hx => ⟨by omega, b1⟩)
    refine held1 (N := ["text", "by"]) (x := "text") (b := "by") (NdefX.nscope_by (by dsimp only; decide +kernel)) rfl (fun pm ctv us hl => by
      match us, hl with
      | [_], _ => rfl) (fun A outer s H vs Q hr h hc => ?_)
    obtain ⟨x, rfl, hx, q⟩ := h
    exact ⟨_, pv 1, _, rfl, fun _ => by rw [unhide hc]; exact q⟩
  ·
    refine ⟨hT1, .int by_, rfl, fun fl c' cc H2 e1 e2 T2 f0 cc0 f1 cd1 ce1 => ?_⟩
    refine (fun key => kF fl _ _ H2 key.1 key.2 (kn1.trans (KpN.ext e1)) (dk e1) T2) (spr1 (P := P) (w := w) (K := K) (mg := mg) (base := base) (g := fun x => hashT x * by_ % 65536) f1 cd1 ce1 ?_ fun x hx => ⟨Int.emod_nonneg _ (by decide), Int.emod_lt_of_pos _ (by decide)⟩)
    refine held1 (N := ["word", "by"]) (x := "word") (b := "by") (NdefX.nscope_by (by dsimp only; decide +kernel)) rfl (fun pm ctv us hl => by
      match us, hl with
      | [_], _ => rfl) (fun A outer s H vs Q hr h hc => ?_)
    obtain ⟨x, rfl, hx, q⟩ := h
    refine ⟨_, pe_op op_mod (pe_callTy call_int1 (by rfl) T.b_int bt_int (pa_cons (pe_op op_mul (pe_c c_law_hash hr (by decide) (by rfl) (pa_cons (pv 0) pa_nil)) (pv 1)) pa_nil)) pe_int, ?_⟩
    exact ⟨_, rfl, x, rfl, _, rfl, _, _, rfl, rfl, .inr ⟨by omega, by omega⟩, .inl ⟨_, rfl, _, _, rfl, rfl, (by show (0 : Int) < 65536; decide), fun _ => by rw [unhide hc]; exact q⟩⟩
end
end K70
set_option Elab.async false
set_option linter.all false
set_option maxRecDepth 100000
set_option maxHeartbeats 4000000
namespace K70
open PySem PySem.Spec PyProof.Rows L2 Evl
open C8 (Cal Met Mak pe_c pe_mt pe_mt0 pe_mk pe_gc InsC call_isC)
open K7 (Kp upd_get)
structure St (K : PySem.W.Frag) (g : Str → Int) (l : List (Addr × HO)) (f d : Addr) (H0 : Hp) (F : List (Addr × HO)) (H : Hp) (A : Ad) (T : Tb) : Prop where
  new : ∀ a ∈ A.own, H0 a = none
  kp : Kp [d] H0 H
  dice : DiceAt H d
  tab : TabH K g H A T
  inv : Inv g T
  sp : A.sp = f
  std : Std l H
  beside : ∀ p ∈ F, H p.1 = some p.2 ∧ p.1 ∉ A.own ∧ p.1 ≠ d
section
variable {K : PySem.W.Frag} {g : Str → Int} {l : List (Addr × HO)} {f d : Addr} {H0 H H' : Hp} {F : List (Addr × HO)} {A A' : Ad} {T T' : Tb}
theorem St.nd (s : St K g l f d H0 F H A T) (hd0 : H0 d ≠ none) : d ∉ A.own := fun z => hd0 (s.new _ z)
theorem St.step (s : St K g l f d H0 F H A T) (hd0 : H0 d ≠ none) (fr : Fr A A' H H') (t : TabH K g H' A' T') (i : Inv g T') : St K g l f d H0 F H' A' T' := by
  have nd := s.nd hd0
  obtain ⟨l0, m0, c0, hd⟩ := s.dice
  refine ⟨fun a ha => ?_, fun b o n e => ?_, ⟨l0, m0, c0, fr.kp _ _ nd hd⟩, t, i, fr.sp.trans s.sp, s.std.kp s.tab fr.kp, fun p hp => ?_⟩
  · rcases fr.own a ha with z | z
    · exact s.new a z
    · exact s.kp.out z fun x hx w => by
        rw [List.mem_singleton.mp hx, hd] at w
        cases w
  · refine fr.kp b o (fun z => ?_) (s.kp b o n e)
    rw [s.new b z] at e
    cases e
  · obtain ⟨h1, h2, h3⟩ := s.beside p hp
    refine ⟨fr.kp _ _ h2 h1, fun z => ?_, h3⟩
    rcases fr.own _ z with w | w
    · exact h2 w
    · rw [h1] at w
      cases w
theorem St.roll (s : St K g l f d H0 F H A T) (hd0 : H0 d ≠ none) (k : Kp [d] H H') (hd : DiceAt H' d) : St K g l f d H0 F H' A T := by
  have nd := s.nd hd0
  refine ⟨s.new, s.kp.trans k, hd, s.tab.kp k fun a ha z => nd (by rw [← List.mem_singleton.mp z]; exact ha), s.inv, s.sp, fun p hp => ?_, fun p hp => ?_⟩
  · obtain ⟨e1, φ, e2⟩ := s.std p hp
    refine ⟨k _ _ (fun z => ?_) e1, φ, e2⟩
    obtain ⟨l0, m0, c0, h⟩ := s.dice
    rw [List.mem_singleton.mp z, h, e2] at e1
    cases e1
  · obtain ⟨h1, h2, h3⟩ := s.beside p hp
    exact ⟨k _ _ (by simpa using h3) h1, h2, h3⟩
theorem St.ex (s : St K g l f d H0 F H A T) (hd0 : H0 d ≠ none) (e : Ex H H') : St K g l f d H0 F H' A T := by
  obtain ⟨l0, m0, c0, h⟩ := s.dice
  exact s.roll hd0 (Kp.of e) ⟨l0, m0, c0, e _ _ h⟩
theorem St.add (s : St K g l f d H0 F H A T) {p : Addr} {o : HO} (h : H p = some o) (n : p ∉ A.own) (nd : p ≠ d) : St K g l f d H0 ((p, o) :: F) H A T :=
  ⟨s.new, s.kp, s.dice, s.tab, s.inv, s.sp, s.std, fun q hq => by
    rcases List.mem_cons.mp hq with z | z
    · rw [z]
      exact ⟨h, n, nd⟩
    · exact s.beside q z⟩
theorem St.lay (s : St K g l f d H0 F H A T) (hd0 : H0 d ≠ none) {p : Addr} {o : HO} (h : H p = none) : St K g l f d H0 ((p, o) :: F) (upd H p o) A T := by
  obtain ⟨l0, m0, c0, hd⟩ := s.dice
  exact (s.ex hd0 (Ex.new h)).add upd_same (s.tab.out h) (ne_of_none hd h).symm
end
theorem putS_len (vs : List (Str × V)) (x : Str) (v : V) : (putS vs x v).length ≤ vs.length + 1 := by
  unfold putS
  split
  · rw [List.length_map]; omega
  · rw [List.length_append]; exact Nat.le_refl _
theorem putS_mem (vs : List (Str × V)) (x : Str) (v : V) (y : Str) : y ∈ (putS vs x v).map (·.1) ↔ y ∈ vs.map (·.1) ∨ y = x := by
  by_cases h : x ∈ vs.map (·.1)
  · rw [putS_keys _ _ _ h]
    exact ⟨.inl, fun z => z.elim id fun e => by rw [e]; exact h⟩
  · unfold putS
    rw [if_neg h, List.map_append, List.mem_append]
    simp
theorem valV_putK_same (kvs : List (Key × V)) (k : Key) (v : V) : valV (putK kvs k v) k = some v := by
  induction kvs with
  | nil =>
    show valV ([(k, v)] : List (Key × V)) k = some v
    exact valV_pos rfl
  | cons p r ih =>
    by_cases e : p.1 = k
    · have h : putK (p :: r) k v = (p.1, v) :: r.map (fun kv => if kv.1 = k then (kv.1, v) else kv) := by
        unfold putK
        rw [if_pos (by simp [e])]
        rw [List.map_cons, if_pos e]
      rw [h]
      exact valV_pos e
    · have h : putK (p :: r) k v = p :: putK r k v := by
        unfold putK
        by_cases hr : (r.any fun kv => decide (kv.1 = k)) = true
        · rw [if_pos (by rw [List.any_cons, hr]; simp), if_pos hr, List.map_cons, if_neg e]
        · rw [if_neg (by rw [List.any_cons]; simp [e, hr]), if_neg hr]
          rfl
      rw [h, valV_neg e]
      exact ih
theorem valV_putK_ne (kvs : List (Key × V)) (k k' : Key) (v : V) (n : k' ≠ k) : valV (putK kvs k v) k' = valV kvs k' := by
  induction kvs with
  | nil =>
    show valV ([(k, v)] : List (Key × V)) k' = none
    rw [valV_neg (fun z => n z.symm)]
    rfl
  | cons p r ih =>
    by_cases e : p.1 = k
    · have h : putK (p :: r) k v = (p.1, v) :: r.map (fun kv => if kv.1 = k then (kv.1, v) else kv) := by
        unfold putK
        rw [if_pos (by simp [e]), List.map_cons, if_pos e]
      have n1 : ¬ p.1 = k' := fun z => n (z.symm.trans e)
      rw [h, valV_neg (by exact n1), valV_neg n1]
      clear ih h
      induction r with
      | nil => rfl
      | cons q r ih2 =>
        rw [List.map_cons]
        by_cases eq : q.1 = k
        · have n2 : ¬ q.1 = k' := fun z => n (z.symm.trans eq)
          rw [if_pos eq, valV_neg (by exact n2), valV_neg n2]
          exact ih2
        · rw [if_neg eq]
          by_cases e2 : q.1 = k'
          · rw [valV_pos e2, valV_pos e2]
          · rw [valV_neg e2, valV_neg e2]
            exact ih2
    · have h : putK (p :: r) k v = p :: putK r k v := by
        unfold putK
        by_cases hr : (r.any fun kv => decide (kv.1 = k)) = true
        · rw [if_pos (by rw [List.any_cons, hr]; simp), if_pos hr, List.map_cons, if_neg e]
        · rw [if_neg (by rw [List.any_cons]; simp [e, hr]), if_neg hr]
          rfl
      rw [h]
      by_cases e2 : p.1 = k'
      · rw [valV_pos e2, valV_pos e2]
      · rw [valV_neg e2, valV_neg e2]
        exact ih
theorem cut_take (ys : List Str) {r : Int} (h0 : 0 ≤ r) : cutV (ys.map V.str) none (some r) = (ys.take r.toNat).map V.str := by
  have e : r = ((r.toNat : Nat) : Int) := by omega
  unfold cutV
  rw [HT.sIx_none, e, HT.sIx_nat, List.drop_zero, Nat.sub_zero, Int.toNat_natCast, List.map_take]
  rw [List.take_eq_take_iff]
  omega
def otherNames : List Str := ["p", "q", "r", "s", "t", "u", "v", "w", "x", "y"]
theorem other_ok : ∀ x ∈ otherNames, PyData.strOk x = true := by decide +kernel
theorem name_ok : ∀ x ∈ someNames ++ otherNames, NameOk x := by
  have h : ∀ x ∈ someNames ++ otherNames, x.length ≤ 200 ∧ (∀ c ∈ x.cps.toList, (!decide ((⟨#[c]⟩ : Str).cps.toList < (" " : Str).cps.toList)) = true ∧ (!decide (("~" : Str).cps.toList < (⟨#[c]⟩ : Str).cps.toList)) = true) ∧ PyData.strOk x = true := by decide +kernel
  exact fun x hx => ⟨⟨(h x hx).1, (h x hx).2.1⟩, (h x hx).2.2⟩
def lenV (x : Str) : V := .int ((x.length : Nat) : Int)
def sp_law_table_with (P : Program) (w : World) (K : PySem.W.Frag) (mg : Str → Option Value) (base : Heap) : Sp := fun vs H Q _ => ∃ (d a : Addr) (z : V) (names : List Str) (g : Str → Int) (l : List (Addr × HO)) (f : Addr), vs = [.ref d, z, .ref a] ∧ DiceAt H d ∧ H a = some (.lst (names.map V.str)) ∧ a ≠ d ∧
  names.Nodup ∧ names.length ≤ 11 ∧ (∀ x ∈ names, x ∈ someNames) ∧ ((z = .non ∧ f = He.ga K "hash_in") ∨ z = .ref f) ∧ Spr P w K mg base f g l ∧ Std l H ∧
  ∀ A T H', (∀ b ∈ A.own, H b = none) → Kp [d] H H' → DiceAt H' d → TabH K g H' A T → Inv g T → T.hk.Perm names → (∀ x ∈ names, valV (valsD T.vals) (Sum.inr x) = some (lenV x)) → Q (.ref A.p) H'
section
variable {P : Program} {w : World} {K : PySem.W.Frag} {mg : Str → Option Value} {base : Heap}
theorem ok_law_table_with {f : Addr} {fd : FuncData} {dvs : List V} (F : FunD K "_law_table_with" "_law_table_with" (defArgs s_law_table_with) (defBody s_law_table_with) (defScope s_law_table_with) dvs [] f fd) (T : Txt K mg)
    (m_Table : Mak P w K mg base 2 "Table" (He.ga K "Table") (sp_Table_d_init K) [])
    (c_law_mixed : Cal P w K mg base 2 "_law_mixed" (sp_law_mixed K) [])
    (c_law_roll : Cal P w K mg base 1 "_law_roll" sp_law_roll [])
    (c_Table_put : Met P w K mg base 4 (He.ga K "Table") "put" (sp_Table_put P w K mg base) [])
    (c_Table_take_d : Met P w K mg base 3 (He.ga K "Table") "take" (sp_Table_take K) [.non])
    (c_Table_get_d : Met P w K mg base 3 (He.ga K "Table") "get" (sp_Table_get K) [.non])
    (c_law_one_of : Cal P w K mg base 2 "_law_one_of" (sp_law_one_of K) []) :
    FnOk P w K mg base CX0 5 f fd ["dice", "spread", "names"] (sp_law_table_with P w K mg base) := by
  have nd := sc_law_table_with.nd
  refine ok0 F sc_law_table_with (fun vs H Q E h => by
    obtain ⟨d, a, z, names, g, l, f, rfl, hd, ha, nad, hnd, hnl, hns, hz, hS, hl, k⟩ := h
    rfl) (fun cdv A outer s H vs Q E hr h => ?_)
  obtain ⟨d, a, z, names, g, l, f, rfl, hd, ha, nad, hnd, hnl, hns, hz, hS, hl, k⟩ := h
  refine ⟨_, (Evl.pss_cut (ps_par (i := 3) (j := 4) (by rfl) nd rfl rfl (by decide) rfl rfl (pa_cons (pe_mk m_Table hr (by decide) (by rfl) (pa_cons (pv 1) pa_nil)) (pa_cons (pe_lst (pa_cons pe_str (pa_cons pe_str (pa_cons pe_str (pa_cons pe_str (pa_cons pe_str (pa_cons pe_str (pa_cons pe_str (pa_cons pe_str (pa_cons pe_str (pa_cons pe_str pa_nil))))))))))) pa_nil)) (by rfl))
     (Evl.pss_cut (ps_set (i := 5) nd rfl (Or.inl rfl) (pe_slice (K7.sl_listK (K := K) rfl) (pe_c c_law_mixed hr (by decide) (by rfl) (pa_cons (pv 0) (pa_cons (pv 4) pa_nil))) po_none (po_some (pe_c c_law_roll hr (by decide) (by rfl) (pa_cons (pv 0) (pa_cons pe_int pa_nil))))))
     (Evl.pss_cut (ps_for PassesOwn.never rfl (K7.pi_listK (K := K) rfl (pe_c c_law_mixed hr (by decide) (by rfl) (pa_cons (pv 0) (pa_cons (pe_op op_cat (pv 2) (pv 5)) pa_nil)))) (pg_name (i := 6) nd rfl (Or.inl rfl)) (pss_one (ps_expr (pe_mt c_Table_put hr (by decide) (pv 3) (pa_cons (pv 6) (pa_cons pe_str pa_nil))))))
     (Evl.pss_cut (ps_for PassesOwn.never rfl (K7.pi_listK (K := K) rfl (pe_c c_law_mixed hr (by decide) (by rfl) (pa_cons (pv 0) (pa_cons (pe_op op_cat (pv 5) (pe_slice (K7.sl_listK (K := K) rfl) (pv 2) po_none (po_some (pe_c c_law_roll hr (by decide) (by rfl) (pa_cons (pv 0) (pa_cons pe_int pa_nil)))))) pa_nil)))) (pg_name (i := 6) nd rfl (Or.inl rfl)) (pss_one (ps_expr (pe_mt c_Table_take_d hr (by decide) (pv 3) (pa_cons (pv 6) pa_nil)))))
     (Evl.pss_cut (ps_for PassesOwn.never rfl (K7.pi_listK (K := K) rfl (pe_c c_law_mixed hr (by decide) (by rfl) (pa_cons (pv 0) (pa_cons (pv 2) pa_nil)))) (pg_name (i := 6) nd rfl (Or.inl rfl)) (pss_one (ps_expr (pe_mt c_Table_put hr (by decide) (pv 3) (pa_cons (pv 6) (pa_cons (pe_callB call_len_str (by rfl) T.b_len bt_len (pa_cons (pv 6) pa_nil)) pa_nil))))))
     (Evl.pss_cut (ps_for PassesOwn.never rfl (pi_range1 (by rfl) T.b_range (pa_cons (pe_c c_law_roll hr (by decide) (by rfl) (pa_cons (pv 0) (pa_cons pe_int pa_nil))) pa_nil)) (pg_name (i := 7) nd rfl (Or.inl rfl)) (pss_one (ps_expr (pe_mt c_Table_get_d hr (by decide) (pv 3) (pa_cons (pe_c c_law_one_of hr (by decide) (by rfl) (pa_cons (pv 0) (pa_cons (pv 4) pa_nil))) pa_nil)))))
     (pss_one (ps_ret (pv 3))))))))), ?_⟩
  obtain ⟨l0, m0, c0, hd0⟩ := id hd
  have hdn : H d ≠ none := by rw [hd0]; simp
  refine ⟨fun σ H' => ∃ (p lo : Addr) (A : Ad) (T : Tb), σ = [some (.ref d), some z, some (.ref a), some (.ref p), some (.ref lo), none, none, none] ∧ A.p = p ∧ St K g l f d H [(lo, .lst (otherNames.map V.str)), (a, .lst (names.map V.str))] H' A T ∧ T.hk = [], ?_, ?_⟩
  ·
    refine ⟨_, rfl, fun x dx nx ndx nex => ⟨x, dx, z, f, rfl, upd_same, hz, fun A H1 ep esp k1 hown hT => ⟨rfl, (by show 10 ≤ sizeLine; decide), fun lo nlo => ⟨_, _, rfl, x, lo, A, emptyT, rfl, ep, ?_, rfl⟩⟩⟩⟩
    have e1 : Ex H H1 := fun b o h => k1 b o (fun w => ne_of_none h nx (List.mem_singleton.mp w)) (by rw [upd_ne (ne_of_none h nx), upd_ne (ne_of_none h ndx)]; exact h)
    have hown0 : ∀ b ∈ A.own, H b = none := fun b hb => by
      rcases hown b hb with w | w
      · rw [w]; exact nx
      · exact (K7.upd_out (K7.upd_out w).2).2
    have s0 : St K g l f d H [(a, .lst (names.map V.str))] H1 A emptyT := ⟨hown0, Kp.of e1, ⟨_, _, _, e1 _ _ hd0⟩, hT g, inv_empty g, esp, hl.ex e1, fun p hp => by
      rw [List.mem_singleton.mp hp]
      exact ⟨e1 _ _ ha, fun w => (by have := hown0 _ w; rw [ha] at this; cases this), nad⟩⟩
    exact s0.lay hdn nlo
  rintro σ1 H1 ⟨p, lo, A, T1, rfl, rfl, s1, hk1⟩
  refine ⟨fun σ H' => ∃ (le : Addr) (es : List Str) (A' : Ad) (T : Tb), σ = [some (.ref d), some z, some (.ref a), some (.ref A.p), some (.ref lo), some (.ref le), none, none] ∧ A'.p = A.p ∧ St K g l f d H [(le, .lst (es.map V.str)), (lo, .lst (otherNames.map V.str)), (a, .lst (names.map V.str))] H' A' T ∧ T.hk = [] ∧ (∀ x ∈ es, x ∈ otherNames) ∧ es.length ≤ 10, ?_, ?_⟩
  ·
    obtain ⟨hlo, nlo, nlod⟩ := s1.beside _ (.head _)
    refine ⟨_, rfl, _, rfl, d, lo, otherNames, rfl, sq_of hlo, other_ok, by decide, s1.dice, fun ys q H2 hp nq hq hd2 k2 => ?_⟩
    have s2 := (s1.roll hdn k2 hd2).add hq (s1.tab.out nq) (fun w => by
      obtain ⟨_, _, _, h⟩ := s1.dice
      rw [w, h] at nq
      cases nq)
    refine ⟨_, rfl, d, 11, rfl, by decide, by decide, hd2, fun r l3 m3 c3 h0 h1 => ?_⟩
    have s3 := s2.roll hdn (H' := upd H2 d (DiceL l3 m3 c3)) ((Kp.refl _ _).mut (by simp)) ⟨_, _, _, upd_same⟩
    obtain ⟨hq3, _, _⟩ := s3.beside (q, _) List.mem_cons_self
    refine ⟨r, rfl, q, _, rfl, sq_of hq3, fun t nt => ?_⟩
    rw [cut_take ys h0]
    have s4 := s3.lay hdn (o := .lst ((ys.take r.toNat).map V.str)) nt
    refine ⟨t, ys.take r.toNat, A, T1, rfl, rfl, ⟨s4.new, s4.kp, s4.dice, s4.tab, s4.inv, s4.sp, s4.std, fun p hp => s4.beside p ?_⟩, hk1, fun x hx => hp.mem_iff.mp (List.mem_of_mem_take hx), ?_⟩
    · simp only [List.mem_cons, List.not_mem_nil, or_false] at hp ⊢
      rcases hp with w | w | w <;> simp [w]
    · rw [List.length_take]
      omega
  rintro σ2 H2 ⟨le, es, A2, T2, rfl, ep2, s2, hk2, hes, hel⟩
  have hin : ∀ x ∈ names ++ es, x ∈ someNames ++ otherNames := fun x hx => by
    rcases List.mem_append.mp hx with w | w
    · exact List.mem_append_left _ (hns x w)
    · exact List.mem_append_right _ (hes x w)
  refine ⟨fun σ H' => ∃ (v6 : Option V) (A' : Ad) (T : Tb), σ = [some (.ref d), some z, some (.ref a), some (.ref A.p), some (.ref lo), some (.ref le), v6, none] ∧ A'.p = A.p ∧ St K g l f d H [(le, .lst (es.map V.str)), (lo, .lst (otherNames.map V.str)), (a, .lst (names.map V.str))] H' A' T ∧ (∀ x ∈ T.hk, x ∈ names ++ es) ∧ T.hk.length ≤ 21, ?_, ?_⟩
  ·
    obtain ⟨hle, nle, nled⟩ := s2.beside _ (.head _)
    obtain ⟨ha2, _, _⟩ := s2.beside _ (.tail _ (.tail _ (.head _)))
    refine ⟨_, rfl, _, rfl, _, rfl, a, le, _, _, rfl, rfl, ha2, hle, (by rw [List.length_map, List.length_map]; exact Nat.le_trans (show _ ≤ 21 by omega) (by decide)), fun c nc => ?_⟩
    have s3 := s2.lay hdn (o := .lst (names.map V.str ++ es.map V.str)) nc
    have hc3 : (upd H2 c (.lst (names.map V.str ++ es.map V.str))) c = some (.lst ((names ++ es).map V.str)) := by rw [upd_same, List.map_append]
    refine ⟨d, c, names ++ es, rfl, sq_of hc3, fun x hx => (name_ok x (hin x hx)).2, ?_, s3.dice, fun ys m H4 hp nm hm hd4 k4 => ?_⟩
    · rw [List.length_append]; omega
    have s4 := (s3.roll hdn k4 hd4).add hm (s3.tab.out nm) (fun w => by
      obtain ⟨_, _, _, h⟩ := s3.dice
      rw [w, h] at nm
      cases nm)
    have hyl : ys.length ≤ 21 := by rw [hp.length_eq, List.length_append]; omega
    refine ⟨m, rfl, ⟨_, sq_of hm⟩, for_list (K := K) (a := m) (xs := ys.map V.str) (fun i σ H' => ∃ (v6 : Option V) (A' : Ad) (T : Tb), σ = [some (.ref d), some z, some (.ref a), some (.ref A.p), some (.ref lo), some (.ref le), v6, none] ∧ A'.p = A.p ∧
      St K g l f d H ((m, .lst (ys.map V.str)) :: (c, .lst (names.map V.str ++ es.map V.str)) :: [(le, .lst (es.map V.str)), (lo, .lst (otherNames.map V.str)), (a, .lst (names.map V.str))]) H' A' T ∧ (∀ x ∈ T.hk, x ∈ names ++ es) ∧ T.hk.length ≤ i) ⟨none, A2, T2, rfl, ep2, s4, by rw [hk2]; simp, by rw [hk2]; simp⟩ ?_ ?_ ?_⟩
    · rintro i σ H' _ ⟨v6, A', T, rfl, ep, s, _⟩
      exact sq_of (s.beside _ List.mem_cons_self).1
    · rintro i y σ H5 hi ⟨v6, A', T5, rfl, ep, s5, hk5, hl5⟩
      obtain ⟨x, hx, rfl⟩ : ∃ x, ys[i]? = some x ∧ y = V.str x := by
        rw [List.getElem?_map] at hi
        obtain ⟨x, hx, rfl⟩ := Option.map_eq_some_iff.mp hi
        exact ⟨x, hx, rfl⟩
      have hi' : i < ys.length := (List.getElem?_eq_some_iff.mp hx).1
      have hxn : x ∈ names ++ es := hp.mem_iff.mp (List.mem_of_getElem? hx)
      have hins : H5 A.p = some (.ins (TC K) A'.dx (fsA A' T5.moved)) := by rw [← ep]; exact s5.tab.ins
      refine ⟨_, rfl, A.p, _, _, rfl, hins, rfl, _, rfl, g, l, A', T5, x, .str "first", (by rw [ep]; rfl), s5.tab, s5.inv, name_ok x (hin x hxn), by omega, by rw [s5.sp]; exact hS, s5.std, fun b A6 T6 H6 fr t6 i6 ev => ?_⟩
      refine ⟨some (.str x), A6, T6, rfl, fr.p.trans ep, s5.step hdn fr t6 i6, fun y hy => ?_, ?_⟩
      · rw [← i6.keys, ev, putS_mem, s5.inv.keys] at hy
        rcases hy with w | w
        · exact hk5 y w
        · rw [w]; exact hxn
      · rw [← i6.keys, List.length_map, ev]
        have h1 := putS_len T5.vals x (.str "first")
        have h2 : T5.vals.length = T5.hk.length := by rw [← s5.inv.keys, List.length_map]
        omega
    · rintro σ H5 ⟨v6, A', T5, rfl, ep, s5, hk5, hl5⟩
      refine ⟨v6, A', T5, rfl, ep, ⟨s5.new, s5.kp, s5.dice, s5.tab, s5.inv, s5.sp, s5.std, fun p hp => s5.beside p (List.mem_cons_of_mem _ (List.mem_cons_of_mem _ hp))⟩, hk5, ?_⟩
      rw [List.length_map] at hl5
      omega
  rintro σ3 H3 ⟨v6, A3, T3, rfl, ep3, s3, hk3, hl3⟩
  refine ⟨fun σ H' => ∃ (v6 : Option V) (A' : Ad) (T : Tb), σ = [some (.ref d), some z, some (.ref a), some (.ref A.p), some (.ref lo), some (.ref le), v6, none] ∧ A'.p = A.p ∧ St K g l f d H [(le, .lst (es.map V.str)), (lo, .lst (otherNames.map V.str)), (a, .lst (names.map V.str))] H' A' T ∧ (∀ x ∈ T.hk, x ∈ names) ∧ T.hk.length ≤ 21, ?_, ?_⟩
  ·
    refine ⟨_, rfl, _, rfl, _, rfl, _, rfl, d, 4, rfl, by decide, by decide, s3.dice, fun r l4 m4 c4 h0 h1 => ?_⟩
    have s4 := s3.roll hdn (H' := upd H3 d (DiceL l4 m4 c4)) ((Kp.refl _ _).mut (by simp)) ⟨_, _, _, upd_same⟩
    obtain ⟨ha4, _, _⟩ := s4.beside _ (.tail _ (.tail _ (.head _)))
    refine ⟨r, rfl, a, _, rfl, sq_of ha4, fun t nt => ?_⟩
    rw [cut_take names h0]
    have s5 := s4.lay hdn (o := .lst ((names.take r.toNat).map V.str)) nt
    obtain ⟨hle, nle, nled⟩ := s5.beside _ (.tail _ (.head _))
    refine ⟨le, t, _, _, rfl, rfl, hle, upd_same, ?_, fun c nc => ?_⟩
    · rw [List.length_map, List.length_map, List.length_take]
      exact Nat.le_trans (show _ ≤ 21 by omega) (by decide)
    have s6 := s5.lay hdn (o := .lst (es.map V.str ++ (names.take r.toNat).map V.str)) nc
    have hin6 : ∀ x ∈ es ++ names.take r.toNat, x ∈ someNames ++ otherNames := fun x hx => by
      rcases List.mem_append.mp hx with w | w
      · exact hin x (List.mem_append_right _ w)
      · exact hin x (List.mem_append_left _ (List.mem_of_mem_take w))
    refine ⟨d, c, es ++ names.take r.toNat, rfl, sq_of (by rw [upd_same, List.map_append]), fun x hx => (name_ok x (hin6 x hx)).2, ?_, s6.dice, fun ys m H7 hp nm hm hd7 k7 => ?_⟩
    · rw [List.length_append, List.length_take]; omega
    have s7 := (s6.roll hdn k7 hd7).add hm (s6.tab.out nm) (fun w => by
      obtain ⟨_, _, _, h⟩ := s6.dice
      rw [w, h] at nm
      cases nm)
    generalize hF : ((c, HO.lst (es.map V.str ++ (names.take r.toNat).map V.str)) :: (t, HO.lst ((names.take r.toNat).map V.str)) :: [(le, HO.lst (es.map V.str)), (lo, HO.lst (otherNames.map V.str)), (a, HO.lst (names.map V.str))]) = F at s7
    refine ⟨m, rfl, ⟨_, sq_of hm⟩, for_list (K := K) (a := m) (xs := ys.map V.str) (fun i σ H' => ∃ (v6 : Option V) (A' : Ad) (T : Tb), σ = [some (.ref d), some z, some (.ref a), some (.ref A.p), some (.ref lo), some (.ref le), v6, none] ∧ A'.p = A.p ∧
      St K g l f d H ((m, .lst (ys.map V.str)) :: F) H' A' T ∧ (∀ x ∈ T.hk, x ∈ names ++ es ∧ x ∉ ys.take i) ∧ T.hk.length ≤ 21) ⟨v6, A3, T3, rfl, ep3, s7, fun x hx => ⟨hk3 x hx, by simp⟩, hl3⟩ ?_ ?_ ?_⟩
    · rintro i σ H' _ ⟨v6, A', T, rfl, ep, s, _⟩
      exact sq_of (s.beside _ List.mem_cons_self).1
    · rintro i y σ H5 hi ⟨v6, A', T5, rfl, ep, s5, hk5, hl5⟩
      obtain ⟨x, hx, rfl⟩ : ∃ x, ys[i]? = some x ∧ y = V.str x := by
        rw [List.getElem?_map] at hi
        obtain ⟨x, hx, rfl⟩ := Option.map_eq_some_iff.mp hi
        exact ⟨x, hx, rfl⟩
      have hxn := hin6 x (hp.mem_iff.mp (List.mem_of_getElem? hx))
      have hins : H5 A.p = some (.ins (TC K) A'.dx (fsA A' T5.moved)) := by rw [← ep]; exact s5.tab.ins
      refine ⟨_, rfl, A.p, _, _, rfl, hins, rfl, _, rfl, g, A', T5, x, .non, (by rw [ep]; rfl), s5.tab, s5.inv, name_ok x hxn, fun b A6 T6 H6 fr t6 i6 ev => ?_⟩
      have hk6 : T6.hk = T5.hk.filter (ne1 x) := by
        rw [← i6.keys, ev, ← s5.inv.keys]
        unfold dropS
        rw [List.filter_map]
        rfl
      refine ⟨some (.str x), A6, T6, rfl, fr.p.trans ep, s5.step hdn fr t6 i6, fun y hy => ?_, ?_⟩
      · rw [hk6] at hy
        obtain ⟨h1, h2⟩ := List.mem_filter.mp hy
        obtain ⟨h3, h4⟩ := hk5 y h1
        refine ⟨h3, fun w => ?_⟩
        rw [List.take_add_one, hx] at w
        rcases List.mem_append.mp w with w | w
        · exact h4 w
        · have e : y = x := List.mem_singleton.mp w
          rw [e] at h2
          simp [ne1] at h2
      · rw [hk6]
        exact Nat.le_trans (List.length_filter_le _ _) hl5
    · rintro σ H5 ⟨v6, A', T5, rfl, ep, s5, hk5, hl5⟩
      refine ⟨v6, A', T5, rfl, ep, ⟨s5.new, s5.kp, s5.dice, s5.tab, s5.inv, s5.sp, s5.std, fun p hp => s5.beside p (List.mem_cons_of_mem _ ?_)⟩, fun x hx => ?_, hl5⟩
      · rw [← hF]
        exact List.mem_cons_of_mem _ (List.mem_cons_of_mem _ hp)
      · obtain ⟨h1, h2⟩ := hk5 x hx
        rw [List.length_map, List.take_length] at h2
        rcases List.mem_append.mp h1 with w | w
        · exact w
        · exact absurd (hp.mem_iff.mpr (List.mem_append_left _ w)) h2
  rintro σ4 H4 ⟨v6, A4, T4, rfl, ep4, s4, hk4, hl4⟩
  refine ⟨fun σ H' => ∃ (v6 : Option V) (A' : Ad) (T : Tb), σ = [some (.ref d), some z, some (.ref a), some (.ref A.p), some (.ref lo), some (.ref le), v6, none] ∧ A'.p = A.p ∧ St K g l f d H [(le, .lst (es.map V.str)), (lo, .lst (otherNames.map V.str)), (a, .lst (names.map V.str))] H' A' T ∧ (∀ x ∈ T.hk, x ∈ names) ∧ ∀ x ∈ names, x ∈ T.hk ∧ valV (valsD T.vals) (Sum.inr x) = some (lenV x), ?_, ?_⟩
  ·
    obtain ⟨ha4, na4, _⟩ := s4.beside _ (.tail _ (.tail _ (.head _)))
    refine ⟨_, rfl, _, rfl, d, a, names, rfl, sq_of ha4, fun x hx => (name_ok x (hin x (List.mem_append_left _ hx))).2, by omega, s4.dice, fun ys m H7 hp nm hm hd7 k7 => ?_⟩
    have s7 := (s4.roll hdn k7 hd7).add hm (s4.tab.out nm) (fun w => by
      obtain ⟨_, _, _, h⟩ := s4.dice
      rw [w, h] at nm
      cases nm)
    have hyl : ys.length ≤ 11 := by rw [hp.length_eq]; exact hnl
    refine ⟨m, rfl, ⟨_, sq_of hm⟩, for_list (K := K) (a := m) (xs := ys.map V.str) (fun i σ H' => ∃ (v6 : Option V) (A' : Ad) (T : Tb), σ = [some (.ref d), some z, some (.ref a), some (.ref A.p), some (.ref lo), some (.ref le), v6, none] ∧ A'.p = A.p ∧
      St K g l f d H ((m, .lst (ys.map V.str)) :: [(le, .lst (es.map V.str)), (lo, .lst (otherNames.map V.str)), (a, .lst (names.map V.str))]) H' A' T ∧ (∀ x ∈ T.hk, x ∈ names) ∧ T.hk.length ≤ 21 + i ∧ ∀ x ∈ ys.take i, x ∈ T.hk ∧ valV (valsD T.vals) (Sum.inr x) = some (lenV x)) ⟨v6, A4, T4, rfl, ep4, s7, hk4, by omega, fun x hx => by simp at hx⟩ ?_ ?_ ?_⟩
    · rintro i σ H' _ ⟨v6, A', T, rfl, ep, s, _⟩
      exact sq_of (s.beside _ List.mem_cons_self).1
    · rintro i y σ H5 hi ⟨v6, A', T5, rfl, ep, s5, hk5, hl5, hv5⟩
      obtain ⟨x, hx, rfl⟩ : ∃ x, ys[i]? = some x ∧ y = V.str x := by
        rw [List.getElem?_map] at hi
        obtain ⟨x, hx, rfl⟩ := Option.map_eq_some_iff.mp hi
        exact ⟨x, hx, rfl⟩
      have hi' : i < ys.length := (List.getElem?_eq_some_iff.mp hx).1
      have hxn : x ∈ names := hp.mem_iff.mp (List.mem_of_getElem? hx)
      have hxo := name_ok x (hin x (List.mem_append_left _ hxn))
      have hins : H5 A.p = some (.ins (TC K) A'.dx (fsA A' T5.moved)) := by rw [← ep]; exact s5.tab.ins
      refine ⟨_, rfl, A.p, _, _, rfl, hins, rfl, _, rfl, _, rfl, x, rfl, Nat.le_trans hxo.1.1 (by decide), g, l, A', T5, x, lenV x, (by rw [ep]; rfl), s5.tab, s5.inv, hxo, by omega, by rw [s5.sp]; exact hS, s5.std, fun b A6 T6 H6 fr t6 i6 ev => ?_⟩
      refine ⟨some (.str x), A6, T6, rfl, fr.p.trans ep, s5.step hdn fr t6 i6, fun y hy => ?_, ?_, fun y hy => ?_⟩
      · rw [← i6.keys, ev, putS_mem, s5.inv.keys] at hy
        rcases hy with w | w
        · exact hk5 y w
        · rw [w]; exact hxn
      · rw [← i6.keys, List.length_map, ev]
        have h1 := putS_len T5.vals x (lenV x)
        have h2 : T5.vals.length = T5.hk.length := by rw [← s5.inv.keys, List.length_map]
        omega
      · rw [List.take_add_one, hx] at hy
        rw [ev, ← valsD_put, ← i6.keys, ev, putS_mem, s5.inv.keys]
        by_cases e : y = x
        · subst e
          exact ⟨.inr rfl, valV_putK_same _ _ _⟩
        · rcases List.mem_append.mp hy with w | w
          · obtain ⟨h1, h2⟩ := hv5 y w
            exact ⟨.inl h1, by rw [valV_putK_ne _ _ _ _ (fun q => e (Sum.inr.inj q))]; exact h2⟩
          · exact absurd (List.mem_singleton.mp w) e
    · rintro σ H5 ⟨v6, A', T5, rfl, ep, s5, hk5, hl5, hv5⟩
      rw [List.length_map, List.take_length] at hv5
      exact ⟨v6, A', T5, rfl, ep, ⟨s5.new, s5.kp, s5.dice, s5.tab, s5.inv, s5.sp, s5.std, fun p hp => s5.beside p (List.mem_cons_of_mem _ hp)⟩, hk5, fun x hx => hv5 x (hp.mem_iff.mpr hx)⟩
  rintro σ5 H5 ⟨v6, A5, T5, rfl, ep5, s5, hk5, hv5⟩
  refine ⟨fun σ H' => ∃ (v7 : Option V) (A' : Ad) (T : Tb), σ = [some (.ref d), some z, some (.ref a), some (.ref A.p), some (.ref lo), some (.ref le), v6, v7] ∧ A'.p = A.p ∧ St K g l f d H [(le, .lst (es.map V.str)), (lo, .lst (otherNames.map V.str)), (a, .lst (names.map V.str))] H' A' T ∧ T.vals = T5.vals, ?_, ?_⟩
  ·
    refine ⟨_, rfl, d, 9, rfl, by decide, by decide, s5.dice, fun r l6 m6 c6 h0 h1 => ⟨r, rfl, by omega, by omega, for_range (lo := 0) (n := r.toNat) (fun i σ H' => ∃ (v7 : Option V) (A' : Ad) (T : Tb), σ = [some (.ref d), some z, some (.ref a), some (.ref A.p), some (.ref lo), some (.ref le), v6, v7] ∧ A'.p = A.p ∧ St K g l f d H [(le, .lst (es.map V.str)), (lo, .lst (otherNames.map V.str)), (a, .lst (names.map V.str))] H' A' T ∧ T.vals = T5.vals)
      ⟨none, A5, T5, rfl, ep5, s5.roll hdn ((Kp.refl _ _).mut (by simp)) ⟨_, _, _, upd_same⟩, rfl⟩ ?_ ?_⟩⟩
    · rintro i σ H6 hi ⟨v7, A6, T6, rfl, ep6, s6, ev6⟩
      obtain ⟨hlo, nlo, nlod⟩ := s6.beside _ (.tail _ (.head _))
      have hins : H6 A.p = some (.ins (TC K) A6.dx (fsA A6 T6.moved)) := by rw [← ep6]; exact s6.tab.ins
      refine ⟨_, rfl, A.p, _, _, rfl, hins, rfl, _, rfl, _, rfl, d, lo, otherNames.map V.str, rfl, sq_of hlo, nlod, by decide, by decide, s6.dice, fun j v l7 m7 c7 hv => ?_⟩
      obtain ⟨x, hx, rfl⟩ : ∃ x, x ∈ otherNames ∧ v = V.str x := by
        rw [List.getElem?_map] at hv
        obtain ⟨x, hx, rfl⟩ := Option.map_eq_some_iff.mp hv
        exact ⟨x, List.mem_of_getElem? hx, rfl⟩
      have s7 := s6.roll hdn (H' := upd H6 d (DiceL l7 m7 c7)) ((Kp.refl _ _).mut (by simp)) ⟨_, _, _, upd_same⟩
      exact ⟨g, A6, T6, x, .non, (by rw [ep6]; rfl), s7.tab, s7.inv, name_ok x (List.mem_append_right _ hx), fun b A8 T8 H8 fr t8 i8 ev => ⟨_, A8, T8, rfl, fr.p.trans ep6, s7.step hdn fr t8 i8, ev.trans ev6⟩⟩
    · rintro σ H6 ⟨v7, A6, T6, rfl, ep6, s6, ev6⟩
      exact ⟨v7, A6, T6, rfl, ep6, s6, ev6⟩
  rintro σ6 H6 ⟨v7, A6, T6, rfl, ep6, s6, ev6⟩
  refine ⟨_, rfl, ?_⟩
  rw [← ep6]
  have hk6 : T6.hk = T5.hk := by rw [← s6.inv.keys, ev6, s5.inv.keys]
  refine k A6 T6 H6 s6.new s6.kp s6.dice s6.tab s6.inv ?_ fun x hx => ?_
  · rw [hk6, List.perm_ext_iff_of_nodup s5.inv.nd hnd]
    exact fun x => ⟨fun h => hk5 x h, fun h => (hv5 x h).1⟩
  · rw [ev6]
    exact (hv5 x hx).2
end
end K70
set_option Elab.async false
set_option linter.all false
set_option maxRecDepth 100000
set_option maxHeartbeats 4000000
namespace K70
open PySem PySem.Spec PyProof.Rows L2 Evl
theorem str_eq {x y : Str} (h : x.cps.toList = y.cps.toList) : x = y := by
  cases x
  cases y
  exact congrArg Str.mk (Array.toList_inj.mp h)
def RS (a b : Str) : Prop := decide (b.cps.toList < a.cps.toList) = false
theorem rs_trans {a b c : Str} (h1 : RS a b) (h2 : RS b c) : RS a c := by
  cases e : decide (c.cps.toList < a.cps.toList) with
  | false => exact e
  | true =>
    rcases PyProof.Rows.strKind.negTrans c.cps.toList b.cps.toList a.cps.toList e with z | z
    · exact absurd (z.symm.trans h2) (by decide)
    · exact absurd (z.symm.trans h1) (by decide)
theorem rising_all : ∀ {l : List Str} {p : Str}, risingS p l = true → (p :: l).Pairwise RS
  | [], p, _ => by simp
  | x :: r, p, h => by
    have h' : (!ltCps x.cps.toList p.cps.toList && risingS x r) = true := h
    rw [Bool.and_eq_true] at h'
    obtain ⟨h1, h2⟩ := h'
    have hp : RS p x := by
      unfold RS
      rw [← ltCps_eq]
      simpa using h1
    have ih := rising_all h2
    refine List.pairwise_cons.mpr ⟨fun y hy => ?_, ih⟩
    rcases List.mem_cons.mp hy with z | z
    · rw [z]; exact hp
    · exact rs_trans hp (List.rel_of_pairwise_cons ih z)
theorem sorted_all {l : List Str} (h : sortedS l = true) : l.Pairwise RS := by
  cases l with
  | nil => exact .nil
  | cons x r => exact rising_all h
theorem sorted_eq {l m : List Str} (hp : l.Perm m) (h1 : sortedS l = true) (h2 : sortedS m = true) : l = m :=
  List.Perm.eq_of_pairwise (fun a b _ _ h1 h2 => str_eq (PyProof.Rows.strKind.total _ _ h2 h1)) (sorted_all h1) (sorted_all h2) hp
theorem leN_anti {g : Str → Int} {x y : Str} (h1 : leN g x y) (h2 : leN g y x) : x = y := by
  have e : K7.keyIS (0, spotI (g y), y) = K7.keyIS (0, spotI (g x), x) := lex_total _ _ h1 h2
  have e2 : (Sum.inr y.cps.toList : Int ⊕ List Nat) = Sum.inr x.cps.toList := by
    have e' : [Sum.inl (spotI (g y)), (Sum.inr y.cps.toList : Int ⊕ List Nat)] = [Sum.inl (spotI (g x)), Sum.inr x.cps.toList] := e
    injection e' with _ e'
    injection e' with e' _
  exact str_eq (Sum.inr.inj e2).symm
theorem names_eq {g : Str → Int} {l m : List Str} (hp : l.Perm m) (h1 : l.Pairwise (leN g)) (h2 : m.Pairwise (leN g)) : l = m :=
  List.Perm.eq_of_pairwise (fun a b _ _ h1 h2 => leN_anti h1 h2) h1 h2 hp
theorem leN_spot {g : Str → Int} {x y : Str} (h : leN g x y) : spotI (g x) ≤ spotI (g y) := by
  have h' : lexLt itemOrd [Sum.inl (spotI (g y)), (Sum.inr y.cps.toList : Int ⊕ List Nat)] [Sum.inl (spotI (g x)), Sum.inr x.cps.toList] = false := h
  have h2 := (lex_false.mp h').1
  have h3 : decide (spotI (g y) < spotI (g x)) = false := h2
  have := of_decide_eq_false h3
  omega
theorem turn_snd (v : Int) : ∀ n, (turn v n).2 = v / 2 ^ n
  | 0 => by simp [turn]
  | n + 1 => by
    show (turn v n).2 / 2 = _
    rw [turn_snd v n, Int.pow_succ, Int.ediv_ediv_of_nonneg (Int.le_of_lt (Int.pow_pos (by decide)))]
theorem turn_add (v : Int) (n : Nat) : ∀ m, (turn v (n + m)).1 = (turn v n).1 * 2 ^ m + (turn (v / 2 ^ n) m).1
  | 0 => by simp [turn]
  | m + 1 => by
    show (turn v (n + m)).1 * 2 + (turn v (n + m)).2 % 2 = _ + ((turn (v / 2 ^ n) m).1 * 2 + (turn (v / 2 ^ n) m).2 % 2)
    rw [turn_add v n m, turn_snd, turn_snd, Int.pow_add, Int.ediv_ediv_of_nonneg (Int.le_of_lt (Int.pow_pos (by decide))), Int.pow_succ]
    have e : (turn v n).1 * (2 ^ m * 2) = (turn v n).1 * 2 ^ m * 2 := by rw [Int.mul_assoc]
    rw [e]
    omega
theorem turn_lt (v : Int) : ∀ n, 0 ≤ (turn v n).1 ∧ (turn v n).1 < 2 ^ n
  | 0 => by simp [turn]
  | n + 1 => by
    obtain ⟨h1, h2⟩ := turn_lt v n
    have h3 := Int.emod_nonneg (turn v n).2 (b := 2) (by decide)
    have h4 := Int.emod_lt_of_pos (turn v n).2 (b := 2) (by decide)
    have e : (turn v (n + 1)).1 = (turn v n).1 * 2 + (turn v n).2 % 2 := rfl
    rw [e, Int.pow_succ]
    omega
theorem turn_mod : ∀ (n : Nat) (v : Int), (turn (v % 2 ^ n) n).1 = (turn v n).1
  | 0, v => rfl
  | n + 1, v => by
    show (turn (v % 2 ^ (n + 1)) n).1 * 2 + (turn (v % 2 ^ (n + 1)) n).2 % 2 = (turn v n).1 * 2 + (turn v n).2 % 2
    have e1 : (turn (v % 2 ^ (n + 1)) n).1 = (turn v n).1 := by
      rw [← turn_mod n (v % 2 ^ (n + 1)), ← turn_mod n v, Int.pow_succ]
      rw [Int.emod_emod_of_dvd v (Int.dvd_mul_right _ _)]
    have hp : (0 : Int) < 2 ^ n := Int.pow_pos (by decide)
    have e2 : v % 2 ^ (n + 1) / 2 ^ n % 2 = v / 2 ^ n % 2 := by
      have h1 := Int.emod_add_mul_ediv v (2 ^ (n + 1))
      have h2 : v % 2 ^ (n + 1) = v + 2 ^ n * (-(2 * (v / 2 ^ (n + 1)))) := by
        have h3 : (2 : Int) ^ n * (-(2 * (v / 2 ^ (n + 1)))) = -(2 ^ (n + 1) * (v / 2 ^ (n + 1))) := by
          rw [Int.pow_succ, Int.mul_neg, Int.mul_assoc]
        rw [h3]
        omega
      rw [h2, Int.add_mul_ediv_left _ _ (by omega)]
      omega
    rw [e1, turn_snd, turn_snd, e2]
theorem spot_in {v : Int} {n : Nat} (hn : n ≤ 16) : (turn (v % 2 ^ n) n).1 * 2 ^ (16 - n) ≤ spotI v ∧ spotI v ≤ (turn (v % 2 ^ n) n).1 * 2 ^ (16 - n) + 2 ^ (16 - n) - 1 := by
  have h := turn_add v n (16 - n)
  have e : n + (16 - n) = 16 := by omega
  rw [e] at h
  obtain ⟨h1, h2⟩ := turn_lt (v / 2 ^ n) (16 - n)
  rw [turn_mod]
  unfold spotI
  rw [h]
  omega
theorem spot_range (v : Int) : 0 ≤ spotI v ∧ spotI v ≤ 65535 := by
  obtain ⟨h1, h2⟩ := turn_lt v 16
  have e : (2 : Int) ^ 16 = 65536 := by decide
  rw [e] at h2
  unfold spotI
  omega
theorem split_at {sp : Str → Int} (c : Int) : ∀ {ns : List Str}, ns.Pairwise (fun a b => sp a ≤ sp b) → ns.filter (fun x => decide (sp x < c)) ++ ns.filter (fun x => decide (c ≤ sp x)) = ns
  | [], _ => rfl
  | x :: r, h => by
    obtain ⟨h1, h2⟩ := List.pairwise_cons.mp h
    have ih := split_at c h2
    by_cases hx : sp x < c
    · have n : ¬ c ≤ sp x := by omega
      rw [List.filter_cons, if_pos (decide_eq_true hx), List.filter_cons, if_neg (by simpa using n), List.cons_append, ih]
    · have n : c ≤ sp x := by omega
      have e : r.filter (fun y => decide (sp y < c)) = [] := List.filter_eq_nil_iff.mpr fun y hy => by
        have := h1 y hy
        simp
        omega
      rw [e] at ih
      rw [List.filter_cons, if_neg (by simpa using hx), List.filter_cons, if_pos (decide_eq_true n), e, List.nil_append]
      exact congrArg (x :: ·) ih
theorem scan_step {sp : Str → Int} {ns : List Str} {c cnt : Int} (hs : ns.Pairwise (fun a b => sp a ≤ sp b)) (hr : ∀ x ∈ ns, 0 ≤ sp x ∧ sp x ≤ 65535) (h0 : 0 ≤ c) (hc : 1 ≤ cnt) :
    ((scanF sp ns c cnt).1 = 0 ∧ ns.filter (fun x => decide (sp x < c)) ++ (scanF sp ns c cnt).2 = ns) ∨
    (0 < (scanF sp ns c cnt).1 ∧ (scanF sp ns c cnt).1 ≤ 65535 ∧ ns.filter (fun x => decide (sp x < c)) ++ (scanF sp ns c cnt).2 = ns.filter (fun x => decide (sp x < (scanF sp ns c cnt).1)) ∧ (scanF sp ns c cnt).2 ≠ []) := by
  unfold scanF
  have hsp := split_at c hs
  by_cases hr0 : ns.filter (fun x => decide (c ≤ sp x)) = []
  · rw [if_pos hr0]
    rw [hr0] at hsp
    exact .inl ⟨rfl, hsp⟩
  · rw [if_neg hr0]
    generalize hrows : ns.filter (fun x => decide (c ≤ sp x)) = rows at hr0 hsp
    have hpos : 0 < rows.length := List.length_pos_iff.mpr hr0
    obtain ⟨j, hj, ej⟩ : ∃ j : Nat, j < rows.length ∧ (if ((rows.length : Nat) : Int) < cnt then ((rows.length : Nat) : Int) else cnt) - 1 = (j : Int) := by
      split
      · exact ⟨rows.length - 1, by omega, by omega⟩
      · exact ⟨(cnt - 1).toNat, by omega, by omega⟩
    have e5 : rows.getD ((if ((rows.length : Nat) : Int) < cnt then ((rows.length : Nat) : Int) else cnt) - 1).toNat "" = rows[j] := by
      rw [ej, Int.toNat_natCast]
      simp [hj]
    simp only [e5]
    have hmem : rows[j] ∈ rows := List.getElem_mem hj
    have hcl : c ≤ sp rows[j] := by
      have : rows[j] ∈ ns.filter (fun x => decide (c ≤ sp x)) := by rw [hrows]; exact hmem
      simpa using (List.mem_filter.mp this).2
    generalize hlast : sp rows[j] = last at hcl
    have hfn : rows.filter (fun x => decide (sp x ≤ last)) ≠ [] := fun z => by
      have : rows[j] ∈ rows.filter (fun x => decide (sp x ≤ last)) := List.mem_filter.mpr ⟨hmem, by rw [hlast]; simp⟩
      rw [z] at this
      cases this
    by_cases hlt : ((((rows.filter (fun x => decide (sp x ≤ last))).length : Nat) : Int) < ((rows.length : Nat) : Int))
    · rw [if_pos hlt]
      refine .inr ⟨by show 0 < last + 1; omega, ?_, ?_, hfn⟩
      · obtain ⟨x, hx, hxl⟩ : ∃ x ∈ rows, ¬ sp x ≤ last := by
          refine Classical.byContradiction fun z => ?_
          have : rows.filter (fun x => decide (sp x ≤ last)) = rows := List.filter_eq_self.mpr fun x hx => by
            refine Classical.byContradiction fun w => z ⟨x, hx, by simpa using w⟩
          rw [this] at hlt
          omega
        have hxn : x ∈ ns := by
          rw [← hrows] at hx
          exact (List.mem_filter.mp hx).1
        have := (hr x hxn).2
        show last + 1 ≤ 65535
        omega
      · show ns.filter _ ++ rows.filter _ = ns.filter (fun x => decide (sp x < last + 1))
        have h1 := split_at c (hs.filter (fun x => decide (sp x < last + 1)))
        rw [List.filter_filter, List.filter_filter] at h1
        rw [← h1, ← hrows, List.filter_filter]
        refine congr (congrArg _ ?_) ?_
        · refine List.filter_congr fun x _ => ?_
          by_cases hx : sp x < c
          · have : sp x < last + 1 := by omega
            simp [hx, this]
          · simp [hx]
        · refine List.filter_congr fun x _ => ?_
          by_cases hx : sp x ≤ last
          · have : sp x < last + 1 := by omega
            simp [hx, this]
          · have : ¬ sp x < last + 1 := by omega
            simp [hx, this]
    · rw [if_neg hlt]
      refine .inl ⟨rfl, ?_⟩
      have : rows.filter (fun x => decide (sp x ≤ last)) = rows := by
        refine List.Sublist.eq_of_length_le List.filter_sublist ?_
        omega
      show ns.filter _ ++ rows.filter _ = ns
      rw [this]
      exact hsp
end K70
set_option Elab.async false
set_option linter.all false
set_option maxRecDepth 100000
set_option maxHeartbeats 4000000
namespace K70
open PySem PySem.Spec PyProof.Rows L2 Evl
open C8 (Cal Met Mak pe_c pe_mt pe_mt0 pe_mk pe_gc InsC call_isC)
open K7 (Kp ShOk upd_get eq_nil ne_nil dp_strs sh_strs strsD lc_val lc_ev lc_obj tgt_name tgt_pair given_filter EvP refIS IS)
def rowD (p : IS) : PyData := .tuple [.int p.2.1, .str p.2.2]
theorem dp_rows {K : PySem.W.Frag} {H : Hp} {ps : List IS} (h : ∀ p ∈ ps, H p.1 = some (.tup [.int p.2.1, .str p.2.2])) : DpAll K H (ps.map refIS) (ps.map rowD) :=
  K7.dp_map fun p hp => .tup (st_of (h p hp)) (.cons (.int _) (.cons (.str _) .nil))
theorem sh_rows {ps : List IS} (h : ∀ p ∈ ps, PyData.strOk p.2.2 = true) : ∀ d ∈ ps.map rowD, ShOk d 1 := fun d hd => by
  obtain ⟨p, hp, rfl⟩ := List.mem_map.mp hd
  exact K7.sh_tup (n := 0) fun d hd => by
    rcases List.mem_cons.mp hd with z | z
    · rw [z]; exact K7.sh_int _ _
    · rw [List.mem_singleton.mp z]; exact K7.sh_str (h p hp) _
def sp_law_scanned (K : PySem.W.Frag) : Sp := fun vs H Q _ => ∃ (a : Addr) (ps : List IS) (gs : Str → Int) (cur cnt : Int), vs = [.ref a, .int cur, .int cnt] ∧ H a = some (.lst (ps.map refIS)) ∧ (∀ p ∈ ps, H p.1 = some (.tup [.int p.2.1, .str p.2.2]) ∧ p.2.1 = gs p.2.2 ∧ PyData.strOk p.2.2 = true) ∧ ps.length ≤ 100 ∧ 1 ≤ cnt ∧
  ∀ t H', Ex H H' → ScanAt H' t (scanF gs (ps.map fun p => p.2.2) cur cnt) → Q (.ref t) H'
theorem given_rows (ps : List IS) (p : IS → Bool) (q : IS → V) (df : IS) : given (ps.map refIS).length (fun i => p (ps.getD i df)) (fun i => q (ps.getD i df)) = (ps.filter p).map q := by
  rw [List.length_map]
  exact given_filter ps p q _ _ (fun j y hy => by rw [List.getD_eq_getElem?_getD, hy]; rfl) (fun j y hy => by rw [List.getD_eq_getElem?_getD, hy]; rfl)
theorem at_row {ps : List IS} {i : Nat} {y : V} (df : IS) (h : (ps.map refIS)[i]? = some y) : ∃ p, ps[i]? = some p ∧ y = .ref p.1 ∧ ps.getD i df = p := by
  rw [List.getElem?_map] at h
  obtain ⟨x, hx, rfl⟩ := Option.map_eq_some_iff.mp h
  exact ⟨x, hx, rfl, by rw [List.getD_eq_getElem?_getD, hx]; rfl⟩
theorem map_filter_rows {ps : List IS} {gs : Str → Int} (h : ∀ p ∈ ps, p.2.1 = gs p.2.2) (f : Int → Bool) : (ps.filter fun p => f p.2.1).map (fun p => p.2.2) = (ps.map fun p => p.2.2).filter fun x => f (gs x) := by
  rw [List.filter_map]
  refine congrArg _ (List.filter_congr fun p hp => ?_)
  show f p.2.1 = f (gs p.2.2)
  rw [h p hp]
section
variable {P : Program} {w : World} {K : PySem.W.Frag} {mg : Str → Option Value} {base : Heap}
theorem ok_law_scanned {f : Addr} {fd : FuncData} {dvs : List V} (F : FunD K "_law_scanned" "_law_scanned" (defArgs s_law_scanned) (defBody s_law_scanned) (defScope s_law_scanned) dvs [] f fd) (T : Txt K mg) :
    FnOk P w K mg base CX0 1 f fd ["rows", "cursor", "count"] (sp_law_scanned K) := by
  have nd := sc_law_scanned.nd
  refine ok0 F sc_law_scanned (fun vs H Q E h => by
    obtain ⟨a, ps, gs, cur, cnt, rfl, ha, hps, hnl, hc, k⟩ := h
    rfl) (fun cdv A outer s H vs Q E hr h => ?_)
  obtain ⟨a, ps, gs, cur, cnt, rfl, ha, hps, hnl, hc, k⟩ := h
  refine ⟨_, (pss_cons (ps_setLc (i := 3) (own := [("row", 6)]) rfl nd rfl rfl (sw_true rfl rfl rfl (by decide +kernel)) (K7.pi_listK (K := K) rfl (pv 0)) (blkOk_by (N := n_law_scanned) (sc := defScope s_law_scanned) (own := [("row", 6)]) (by decide +kernel)) (fun _ _ _ _ _ => (pg_name (i := 6) nd rfl (Or.inl rfl))) (fun _ _ _ _ _ => (pts_one (pt_cmpR op_ge (pe_ix (K7.ix_tupK (K := K) rfl) (pv 6) pe_int (fun _ _ => rfl)) (pv 1) (nomark _)))) (fun _ _ _ _ _ => (pv 6)))
     (pss_cons (ps_if (pt_cmpR (K7.op_eqK (K := K) rfl hr.units) (pv 3) (pe_lst pa_nil) (nomark _)) (pss_one (ps_ret (pe_tup (pa_cons pe_int (pa_cons (pe_tup pa_nil) pa_nil))))) pss_nil)
     (pss_cons (ps_set (i := 4) nd rfl (Or.inr rfl) (pe_ix (K7.ix_tupK (K := K) rfl) (pe_ix (K7.ix_listK (K := K) rfl) (pv 3) (pe_op op_sub (pe_callB (call_min2 rfl) (by rfl) T.b_min bt_min (pa_cons (pv 2) (pa_cons (pe_callB (K7.call_lenK (K := K) rfl) (by rfl) T.b_len bt_len (pa_cons (pv 3) pa_nil)) pa_nil))) pe_int) (fun _ _ => rfl)) pe_int (fun _ _ => rfl)))
     (pss_cons (ps_setLc (i := 5) (own := [("spot", 7), ("name", 8)]) rfl nd rfl rfl (sw_true rfl rfl rfl (by decide +kernel)) (K7.pi_listK (K := K) rfl (pv 3)) (blkOk_by (N := n_law_scanned) (sc := defScope s_law_scanned) (own := [("spot", 7), ("name", 8)]) (by decide +kernel)) (fun _ _ _ _ _ => (K7.pg_tupK (K := K) (n := 2) rfl (by rfl) (pgs_cons (pg_name (i := 7) nd rfl (Or.inl rfl)) (pgs_cons (pg_name (i := 8) nd rfl (Or.inl rfl)) pgs_nil)))) (fun _ _ _ _ _ => (pts_one (pt_cmpR op_le (pv 7) (pv 4) (nomark _)))) (fun _ _ _ _ _ => (pv 8)))
     (pss_one (ps_ret (pe_tup (pa_cons (pe_ifExp (pt_cmpR op_lt (pe_callB (K7.call_lenK (K := K) rfl) (by rfl) T.b_len bt_len (pa_cons (pv 5) pa_nil)) (pe_callB (K7.call_lenK (K := K) rfl) (by rfl) T.b_len bt_len (pa_cons (pv 3) pa_nil)) (nomark _)) (pe_op op_add (pv 4) pe_int) pe_int) (pa_cons (pe_callTy (K7.call_tupK (K := K) rfl) (by rfl) T.b_tuple bt_tuple (pa_cons (pv 5) pa_nil)) pa_nil))))))))), ?_⟩
  have df : IS := (0, 0, "")
  have hgs : ∀ p ∈ ps, p.2.1 = gs p.2.2 := fun p hp => (hps p hp).2.1
  refine ⟨_, rfl, a, rfl, ⟨_, sq_of ha⟩, fun D nD => lc_val (w := walk_list (K := K) (a := a) (xs := ps.map refIS)) (fun i => (fun p : IS => decide (cur ≤ p.2.1)) (ps.getD i df)) (fun i => refIS (ps.getD i df)) nD (by rw [List.length_map]; omega) (fun H5 e5 => sq_of (e5 _ _ ha)) ?_ ?_⟩
  · rintro i y H5 H6 hi e5 _ ⟨rfl, hy⟩
    obtain ⟨p, hp, rfl, eg⟩ := at_row df hy
    have hpt := e5 _ _ (hps p (List.mem_of_getElem? hp)).1
    rw [eg]
    refine ⟨Ex.refl _, _, tgt_name, rfl, et_test (ev_op (ev_op (ev_var rfl) ev_c (rv_ixT (i := 0) (st_of hpt) rfl)) (ev_var rfl) rv_I0), fun _ => ev_var rfl⟩
  intro H1 e1 h1
  rw [given_rows ps (fun p => decide (cur ≤ p.2.1)) refIS df] at h1
  have hrn := map_filter_rows hgs (fun z => decide (cur ≤ z))
  generalize hrows : ps.filter (fun p => decide (cur ≤ p.2.1)) = rows at h1 hrn
  have hrl : rows.length ≤ 100 := by rw [← hrows]; exact Nat.le_trans (List.length_filter_le _ _) hnl
  have hrk : ∀ p ∈ rows, H1 p.1 = some (.tup [.int p.2.1, .str p.2.2]) ∧ p.2.1 = gs p.2.2 ∧ PyData.strOk p.2.2 = true := fun p hp => by
    have := hps p (by rw [← hrows] at hp; exact (List.mem_filter.mp hp).1)
    exact ⟨e1 _ _ this.1, this.2⟩
  refine ⟨_, rfl, Nat.zero_le _, fun q nq => eq_nil (sq_of (upd_get h1 (ne_of_none h1 nq))) (dp_rows fun p hp => upd_get (hrk p hp).1 (ne_of_none (hrk p hp).1 nq)) (sh_rows fun p hp => (hrk p hp).2.2) upd_same ⟨_, rfl, ?_⟩⟩
  have e2 : Ex H1 (upd H1 q (.lst [])) := Ex.new nq
  have h2 := e2 _ _ h1
  generalize upd H1 q (.lst []) = H2 at e2 h2
  have e02 := Ex.trans e1 e2
  by_cases hr0 : rows = []
  · refine itB (decide_eq_true (by rw [hr0]; rfl)) ⟨Nat.zero_le _, fun u nu => ⟨(by show 2 ≤ sizeLine; decide), fun t nt => k t _ (Ex.trans (Ex.trans e02 (Ex.new nu)) (Ex.new nt)) ?_⟩⟩
    unfold scanF
    rw [← hrn, hr0]
    exact ⟨u, upd_same, upd_get upd_same (ne_of_none upd_same nt)⟩
  refine itN (decide_eq_false fun z => hr0 (List.map_eq_nil_iff.mp z)) ?_
  have hpos : 0 < rows.length := List.length_pos_iff.mpr hr0
  obtain ⟨j, hj, ej⟩ : ∃ j : Nat, j < rows.length ∧ (if ((rows.length : Nat) : Int) < cnt then ((rows.length : Nat) : Int) else cnt) - 1 = (j : Int) := by
    split
    · exact ⟨rows.length - 1, by omega, by omega⟩
    · exact ⟨(cnt - 1).toNat, by omega, by omega⟩
  have emin : (if (((rows.map refIS).length : Nat) : Int) < cnt then (((rows.map refIS).length : Nat) : Int) else cnt) = (if ((rows.length : Nat) : Int) < cnt then ((rows.length : Nat) : Int) else cnt) := by rw [List.length_map]
  have hjt := e2 _ _ (hrk rows[j] (List.getElem_mem hj)).1
  refine ⟨_, rfl, _, rfl, _, rfl, D, _, rfl, .inl (sq_of h2), _, _, rfl, ?_⟩
  refine ⟨_, _, rfl, rfl, D, _, _, .ref rows[j].1, rfl, rfl, sq_of h2, at_of (by rw [emin]; exact ej) (by rw [List.getElem?_map, List.getElem?_eq_getElem hj]; rfl), rows[j].1, _, 0, .int rows[j].2.1, rfl, rfl, st_of hjt, rfl, ?_⟩
  refine ⟨_, rfl, D, rfl, ⟨_, sq_of h2⟩, fun D2 nD2 => lc_val (w := walk_list (K := K) (a := D) (xs := rows.map refIS)) (fun i => (fun p : IS => decide (p.2.1 ≤ rows[j].2.1)) (rows.getD i df)) (fun i => (fun p : IS => V.str p.2.2) (rows.getD i df)) nD2 (by rw [List.length_map]; omega) (fun H5 e5 => sq_of (e5 _ _ h2)) ?_ ?_⟩
  · rintro i y H5 H6 hi e5 _ ⟨rfl, hy⟩
    obtain ⟨p, hp, rfl, eg⟩ := at_row df hy
    have hpt := (Ex.trans e2 e5) _ _ (hrk p (List.mem_of_getElem? hp)).1
    rw [eg]
    exact ⟨Ex.refl _, _, tgt_pair (st_of hpt), rfl, et_test (ev_op (ev_var rfl) (ev_var rfl) rv_I0), fun _ => ev_var rfl⟩
  intro H3 e3 h3
  rw [given_rows rows (fun p => decide (p.2.1 ≤ rows[j].2.1)) (fun p => V.str p.2.2) df] at h3
  have hfn := map_filter_rows (ps := rows) (gs := gs) (fun p hp => (hrk p hp).2.1) (fun z => decide (z ≤ rows[j].2.1))
  have hfl : ((rows.filter fun p => decide (p.2.1 ≤ rows[j].2.1)).map fun p => V.str p.2.2) = ((rows.filter fun p => decide (p.2.1 ≤ rows[j].2.1)).map fun p => p.2.2).map V.str := by rw [List.map_map]; rfl
  rw [hfl, hfn, hrn] at h3
  have hgj : rows[j].2.1 = gs rows[j].2.2 := (hrk rows[j] (List.getElem_mem hj)).2.1
  have hrl2 : ((ps.map fun p => p.2.2).filter fun x => decide (cur ≤ gs x)).length = rows.length := by rw [← hrn, List.length_map]
  have hres : scanF gs (ps.map fun p => p.2.2) cur cnt = (if ((((((ps.map fun p => p.2.2).filter fun x => decide (cur ≤ gs x)).filter fun x => decide (gs x ≤ rows[j].2.1)).length : Nat)) : Int) < ((rows.length : Nat) : Int) then rows[j].2.1 + 1 else 0, ((ps.map fun p => p.2.2).filter fun x => decide (cur ≤ gs x)).filter fun x => decide (gs x ≤ rows[j].2.1)) := by
    unfold scanF
    have hne : (ps.map fun p => p.2.2).filter (fun x => decide (cur ≤ gs x)) ≠ [] := fun z => by
      rw [z] at hrl2
      simp at hrl2
      omega
    rw [if_neg hne]
    have e5 : ((ps.map fun p => p.2.2).filter fun x => decide (cur ≤ gs x)).getD ((if ((rows.length : Nat) : Int) < cnt then ((rows.length : Nat) : Int) else cnt) - 1).toNat "" = rows[j].2.2 := by
      rw [ej, Int.toNat_natCast, ← hrn]
      simp [hj]
    simp only [hrl2, e5, ← hgj]
  rw [hres] at k
  generalize ((ps.map fun p => p.2.2).filter fun x => decide (cur ≤ gs x)).filter (fun x => decide (gs x ≤ rows[j].2.1)) = found at h3 k
  have el1 : (((found.map V.str).length : Nat) : Int) = ((found.length : Nat) : Int) := by rw [List.length_map]
  have el2 : (((rows.map refIS).length : Nat) : Int) = ((rows.length : Nat) : Int) := by rw [List.length_map]
  refine ⟨_, rfl, D2, _, rfl, .inl (sq_of h3), _, rfl, D, _, rfl, .inl (sq_of (e3 _ _ h2)), _, _, rfl, rfl, _, rfl, ?_⟩
  rw [el1, el2]
  have e03 := Ex.trans e02 e3
  by_cases hlt : ((found.length : Nat) : Int) < ((rows.length : Nat) : Int)
  · rw [if_pos hlt] at k
    refine itB (decide_eq_true hlt) ⟨_, rfl, _, _, rfl, rfl, _, rfl, D2, _, rfl, .inl ⟨sq_of h3, fun u nu => ⟨(by show 2 ≤ sizeLine; decide), fun t nt => k t _ (Ex.trans (Ex.trans e03 (Ex.new nu)) (Ex.new nt)) ⟨u, upd_same, upd_get upd_same (ne_of_none upd_same nt)⟩⟩⟩⟩
  · rw [if_neg hlt] at k
    refine itN (decide_eq_false hlt) ⟨_, rfl, D2, _, rfl, .inl ⟨sq_of h3, fun u nu => ⟨(by show 2 ≤ sizeLine; decide), fun t nt => k t _ (Ex.trans (Ex.trans e03 (Ex.new nu)) (Ex.new nt)) ⟨u, upd_same, upd_get upd_same (ne_of_none upd_same nt)⟩⟩⟩⟩
end
end K70
set_option Elab.async false
set_option linter.all false
set_option maxRecDepth 100000
set_option maxHeartbeats 4000000
namespace K70
open PySem PySem.Spec PyProof.Rows L2 Evl
open C8 (Cal Met Mak pe_c pe_mt pe_mt0 pe_mk pe_gc InsC call_isC)
open K7 (Kp ShOk upd_get eq_nil ne_nil dp_strs sh_strs strsD lc_val lc_ev lc_obj tgt_name tgt_pair given_filter EvP refIS IS)
def BkOk (g : Str → Int) (ks : List Str) (ls : List (List Str)) : Prop := (ls = [] ∨ ∃ n, n ≤ 16 ∧ ls.length = 2 ^ n) ∧ InB g ls ∧ (∀ l ∈ ls, ∀ x ∈ l, x ∈ ks) ∧ ∀ l ∈ ls, l.length ≤ 100
def sp_law_buckets_right (K : PySem.W.Frag) : Sp := fun vs H Q _ => ∃ (g : Str → Int) (A : Ad) (T : Tb) (ds : Addr) (ks : List Str), vs = [.ref A.p, .ref ds] ∧ TabH K g H A T ∧ Inv g T ∧ H ds = some (.dK (numsD (fun x => spotI (g x)) ks)) ∧ T.hk.Perm ks ∧ ks.length ≤ 11 ∧ RetV (.bl true) H Q
theorem inv_bk_old {g : Str → Int} {T : Tb} (I : Inv g T) {ks : List Str} (h : T.hk.Perm ks) : BkOk g ks T.old := by
  obtain ⟨n, _, h16, e⟩ := I.old
  refine ⟨.inr ⟨n, h16, e⟩, I.ino, fun l hl x hx => h.mem_iff.mp (I.flat.mem_iff.mp (List.mem_append_left _ (List.mem_flatten.mpr ⟨l, hl, hx⟩))), fun l hl => ?_⟩
  have := flat_len hl
  have := I.flen
  omega
theorem inv_bk_new {g : Str → Int} {T : Tb} (I : Inv g T) {ks : List Str} (h : T.hk.Perm ks) : BkOk g ks T.new := by
  refine ⟨?_, I.inn, fun l hl x hx => h.mem_iff.mp (I.flat.mem_iff.mp (List.mem_append_right _ (List.mem_flatten.mpr ⟨l, hl, hx⟩))), fun l hl => ?_⟩
  · rcases I.new with ⟨z, _⟩ | ⟨_, n, _, h16, e⟩
    · exact .inl z
    · exact .inr ⟨n, h16, e⟩
  · have := flat_len hl
    have := I.flen
    omega
theorem take_flat {α : Type} (ls : List (List α)) (j : Nat) : (ls.take j).flatten.length ≤ ls.flatten.length := by
  have h : ls.flatten = (ls.take j).flatten ++ (ls.drop j).flatten := by rw [← List.flatten_append, List.take_append_drop]
  rw [h, List.length_append]
  omega
theorem cut_refs (Us : List Addr) (m : Nat) : cutV (Us.map V.ref) none (some (m : Int)) = (Us.take m).map V.ref := by
  unfold cutV
  rw [HT.sIx_none, HT.sIx_nat, List.drop_zero, Nat.sub_zero, List.map_take]
  rw [List.take_eq_take_iff]
  omega
section
variable {P : Program} {w : World} {K : PySem.W.Frag} {mg : Str → Option Value} {base : Heap}
theorem ok_law_buckets_right {f : Addr} {fd : FuncData} {dvs : List V} (F : FunD K "_law_buckets_right" "_law_buckets_right" (defArgs s_law_buckets_right) (defBody s_law_buckets_right) (defScope s_law_buckets_right) dvs [] f fd) (T : Txt K mg)
    (c_Table_counts : Met P w K mg base 1 (He.ga K "Table") "counts" (sp_Table_counts K) [])
    (c_Table_rows : Met P w K mg base 1 (He.ga K "Table") "rows" (sp_Table_rows K) [])
    (c_bucket_spots : Cal P w K mg base 4 "bucket_spots" sp_bucket_spots []) :
    FnOk P w K mg base CX0 5 f fd ["table", "spots"] (sp_law_buckets_right K) := by
  have nd := sc_law_buckets_right.nd
  refine ok0 F sc_law_buckets_right (fun vs H Q E h => by
    obtain ⟨g, A, T0, ds, ks, rfl, hT, I, hds, hpk, hkl, k⟩ := h
    rfl) (fun cdv A outer s H vs Q E hr h => ?_)
  obtain ⟨g, A, T0, ds, ks, rfl, hT, I, hds, hpk, hkl, k⟩ := h
  refine ⟨_, (pss_cons (ps_asg (pe_mt0 c_Table_counts hr (by decide) (pv 0)) (K7.pg_tupK (K := K) (n := 4) rfl (by rfl) (pgs_cons (pg_name (i := 2) nd rfl (Or.inl rfl)) (pgs_cons (pg_name (i := 3) nd rfl (Or.inl rfl)) (pgs_cons (pg_name (i := 4) nd rfl (Or.inl rfl)) (pgs_cons (pg_name (i := 5) nd rfl (Or.inl rfl)) pgs_nil))))))
     (pss_cons (ps_asg (pe_mt0 c_Table_rows hr (by decide) (pv 0)) (K7.pg_tupK (K := K) (n := 2) rfl (by rfl) (pgs_cons (pg_name (i := 6) nd rfl (Or.inl rfl)) (pgs_cons (pg_name (i := 7) nd rfl (Or.inl rfl)) pgs_nil))))
     (pss_cons (ps_if (PW.pt (pw_or (pt_cmpR (K7.op_neK (K := K) rfl hr.units) (pe_lst (pa_cons (pe_callB (K7.call_lenK (K := K) rfl) (by rfl) T.b_len bt_len (pa_cons (pv 6) pa_nil)) (pa_cons (pe_callB (K7.call_lenK (K := K) rfl) (by rfl) T.b_len bt_len (pa_cons (pv 7) pa_nil)) (pa_cons (pv 5) pa_nil)))) (pe_lst (pa_cons (pv 2) (pa_cons (pv 3) (pa_cons (pe_callB call_lenD (by rfl) T.b_len bt_len (pa_cons (pv 1) pa_nil)) pa_nil)))) (nomark _)) (pw_or1 (pt_cmpR (K7.op_neK (K := K) rfl hr.units) (pe_lc (own := [("row", 16)]) rfl nd (K7.pi_tupK (K := K) rfl (pe_slice (K7.sl_tupK (K := K) rfl) (pv 6) po_none (po_some (pv 4)))) (blkOk_by (N := n_law_buckets_right) (sc := defScope s_law_buckets_right) (own := [("row", 16)]) (by decide +kernel)) (fun _ _ _ _ _ => (pg_name (i := 16) nd rfl (Or.inl rfl))) (fun _ _ _ _ _ => (pts_one (pt_cmpR (K7.op_neK (K := K) rfl hr.units) (pv 16) (pe_tup pa_nil) (nomark _)))) (fun _ _ _ _ _ => (pv 16))) (pe_lst pa_nil) (nomark _))))) (pss_one (ps_ret pe_bl)) pss_nil)
     (pss_cons (ps_set (i := 8) nd rfl (Or.inl rfl) (pe_lst pa_nil))
     (Evl.pss_cut (ps_for PassesOwn.never rfl (K7.pi_tupK (K := K) rfl (pe_tup (pa_cons (pv 6) (pa_cons (pv 7) pa_nil)))) (pg_name (i := 9) nd rfl (Or.inl rfl)) (pss_cons (ps_asg (pe_tup (pa_cons pe_int (pa_cons pe_int pa_nil))) (K7.pg_tupK (K := K) (n := 2) rfl (by rfl) (pgs_cons (pg_name (i := 10) nd rfl (Or.inl rfl)) (pgs_cons (pg_name (i := 11) nd rfl (Or.inl rfl)) pgs_nil))))
     (pss_cons (ps_while PassesOwn.never (pt_cmpR op_lt (pv 11) (pe_callB (K7.call_lenK (K := K) rfl) (by rfl) T.b_len bt_len (pa_cons (pv 9) pa_nil)) (nomark _)) (pss_one (ps_par (i := 10) (j := 11) (by rfl) nd rfl rfl (by decide) rfl rfl (pa_cons (pe_op op_add (pv 10) pe_int) (pa_cons (pe_op op_mul (pv 11) pe_int) pa_nil)) (by rfl))))
     (pss_cons (ps_if (pt_cmpR (K7.op_notinK (K := K) rfl) (pe_callB (K7.call_lenK (K := K) rfl) (by rfl) T.b_len bt_len (pa_cons (pv 9) pa_nil)) (pe_tup (pa_cons pe_int (pa_cons (pv 11) pa_nil))) (by rfl)) (pss_one (ps_ret pe_bl)) pss_nil)
     (pss_one (ps_for PassesOwn.never rfl (K7.pi_enumTK (K := K) rfl (by rfl) T.b_enumerate (pa_cons (pv 9) pa_nil)) (K7.pg_tupK (K := K) (n := 2) rfl (by rfl) (pgs_cons (pg_name (i := 12) nd rfl (Or.inl rfl)) (pgs_cons (pg_name (i := 13) nd rfl (Or.inl rfl)) pgs_nil))) (pss_cons (ps_asg (pe_c c_bucket_spots hr (by decide) (by rfl) (pa_cons (pv 12) (pa_cons (pv 10) pa_nil))) (K7.pg_tupK (K := K) (n := 2) rfl (by rfl) (pgs_cons (pg_name (i := 14) nd rfl (Or.inr rfl)) (pgs_cons (pg_name (i := 15) nd rfl (Or.inr rfl)) pgs_nil))))
     (pss_cons (ps_if (pt_cmpR (K7.op_neK (K := K) rfl hr.units) (pe_lc (own := [("name", 17)]) rfl nd (K7.pi_tupK (K := K) rfl (pv 13)) (blkOk_by (N := n_law_buckets_right) (sc := defScope s_law_buckets_right) (own := [("name", 17)]) (by decide +kernel)) (fun _ _ _ _ _ => (pg_name (i := 17) nd rfl (Or.inl rfl))) (fun _ _ _ _ _ => (pts_one (pt_not (pt_chain op_le op_le (pv 14) (pe_dget (hu_of hr) (pv 1) (pv 17) (fun _ _ => rfl)) (pv 15))))) (fun _ _ _ _ _ => (pv 17))) (pe_lst pa_nil) (nomark _)) (pss_one (ps_ret pe_bl)) pss_nil)
     (pss_one (ps_expr (K7.pe_bmK (K := K) rfl PySem.F.plainAttrs_list PySem.F.slot_list_extend PySem.F.type_list_extend mt_extend (pv 8) (pa_cons (pe_callTy (K7.call_listK (K := K) rfl) (by rfl) T.b_list bt_list (pa_cons (pv 13) pa_nil)) pa_nil))))))))))))
     (pss_one (ps_ret (pe_cmpR (K7.op_eqK (K := K) rfl hr.units) (pe_callB (K7.cr_sortedSK (K := K) rfl) (by rfl) T.b_sorted bt_sorted (pa_cons (pv 8) pa_nil)) (pe_callB (call_sortedD rfl) (by rfl) T.b_sorted bt_sorted (pa_cons (pv 1) pa_nil)) (nomark _))))))))), ?_⟩
  have hmo : T0.moved < T0.old.length := by
    rcases I.new with ⟨_, z⟩ | ⟨z, _⟩
    · obtain ⟨n, _, _, e⟩ := I.old
      rw [z, e]
      exact Nat.pow_pos (by decide)
    · exact z
  refine ⟨_, rfl, A.p, _, _, rfl, hT.ins, rfl, g, A, T0, rfl, hT, fun t1 H1 e1 h1 => ⟨t1, _, rfl, st_of h1, rfl, _, _, rfl, _, _, rfl, _, _, rfl, _, _, rfl, rfl, ?_⟩⟩
  refine ⟨_, rfl, A.p, _, _, rfl, e1 _ _ hT.ins, rfl, g, A, T0, rfl, hT.ex e1, I, fun t2 r1 r2 H2 e2 h2 R1 R2 => ⟨t2, _, rfl, st_of h2, rfl, _, _, rfl, _, _, rfl, rfl, ?_⟩⟩
  have e02 := Ex.trans e1 e2
  have hds2 := e02 _ _ hds
  obtain ⟨Us, hU1, hU2, hU3⟩ := id R1
  obtain ⟨Ws, hW1, hW2, hW3⟩ := id R2
  have hvl : T0.vals.length = ks.length := by rw [← List.length_map (f := Prod.fst), I.keys, hpk.length_eq]
  have hsl : (numsD (fun x => spotI (g x)) ks).length = ks.length := by unfold numsD; rw [List.length_map]
  refine ⟨_, rfl, r1, _, rfl, .inr (st_of hU1), _, rfl, r2, _, rfl, .inr (st_of hW1), _, rfl, (by show 3 ≤ sizeLine; decide), fun l1 nl1 => ?_⟩
  have hds3 := upd_get (o := .lst [.int ((Us.map V.ref).length : Nat), .int ((Ws.map V.ref).length : Nat), .int (T0.vals.length : Nat)]) hds2 (ne_of_none hds2 nl1)
  refine ⟨_, rfl, _, rfl, _, rfl, ds, _, rfl, hds3, (by show 3 ≤ sizeLine; decide), fun l2 nl2 => ?_⟩
  have hl1 := upd_get (o := .lst [.int (T0.old.length : Nat), .int (T0.new.length : Nat), .int ((numsD (fun x => spotI (g x)) ks).length : Nat)]) (upd_same (H := H2) (a := l1) (o := .lst [.int ((Us.map V.ref).length : Nat), .int ((Ws.map V.ref).length : Nat), .int (T0.vals.length : Nat)])) (ne_of_none upd_same nl2)
  have e24 : Ex H2 (upd (upd H2 l1 (.lst [.int ((Us.map V.ref).length : Nat), .int ((Ws.map V.ref).length : Nat), .int (T0.vals.length : Nat)])) l2 (.lst [.int (T0.old.length : Nat), .int (T0.new.length : Nat), .int ((numsD (fun x => spotI (g x)) ks).length : Nat)])) := Ex.trans (Ex.new nl1) (Ex.new nl2)
  refine K7.ne_same (d := .list [.int (T0.old.length : Nat), .int (T0.new.length : Nat), .int (ks.length : Nat)]) (n := 1) (.lst (sq_of hl1) ?_) (.lst (sq_of upd_same) ?_) ?_ ⟨_, rfl, iteF ?_⟩
  · rw [List.length_map, List.length_map, hU2, hW2, hvl]
    exact .cons (.int _) (.cons (.int _) (.cons (.int _) .nil))
  · rw [hsl]
    exact .cons (.int _) (.cons (.int _) (.cons (.int _) .nil))
  · refine K7.sh_list (n := 0) fun d hd => ?_
    simp only [List.mem_cons, List.not_mem_nil, or_false] at hd
    rcases hd with z | z | z <;> rw [z] <;> exact K7.sh_int _ _
  generalize upd (upd H2 l1 _) l2 _ = H3 at e24
  refine ⟨_, rfl, _, rfl, _, rfl, r1, _, rfl, st_of (e24 _ _ hU1), ?_, fun c nc => ?_⟩
  · rintro ⟨_, z⟩
    rw [HT.sIx_nat, List.length_map, hU2] at z
    omega
  rw [cut_refs]
  have e34 : Ex H3 (upd H3 c (.tup ((Us.take T0.moved).map V.ref))) := Ex.new nc
  have hc4 : (upd H3 c (.tup ((Us.take T0.moved).map V.ref))) c = some (.tup ((Us.take T0.moved).map V.ref)) := upd_same
  generalize upd H3 c (.tup ((Us.take T0.moved).map V.ref)) = H4 at e34 hc4
  have e04 := Ex.trans (Ex.trans e02 e24) e34
  refine ⟨c, rfl, ⟨_, st_of hc4⟩, fun D nD => lc_val (w := walk_tup (K := K) (a := c) (xs := (Us.take T0.moved).map V.ref)) (fun _ => false) (fun _ => .non) nD ?_ (fun H5 e5 => st_of (e5 _ _ hc4)) ?_ ?_⟩
  · rw [List.length_map, List.length_take, hU2]
    have := I.len_old
    omega
  · rintro i y H5 H6 hi e5 _ ⟨rfl, hy⟩
    rw [List.length_map, List.length_take] at hi
    rw [List.getElem?_map, List.getElem?_take_of_lt (by omega)] at hy
    obtain ⟨U, hU, rfl⟩ := Option.map_eq_some_iff.mp hy
    have hUn := hU3 i U [] hU (I.mv i (by omega))
    have hUn5 := (Ex.trans (Ex.trans e24 e34) e5) _ _ hUn
    refine ⟨Ex.refl _, _, tgt_name, rfl, fun H7 e7 Q q => ⟨_, rfl, (Nat.zero_le _), fun t nt => ?_⟩, fun z => (by cases z)⟩
    exact K7.ne_same (d := .tuple []) (n := 1) (.tup (st_of (upd_get (e7 _ _ hUn5) (ne_of_none (e7 _ _ hUn5) nt))) .nil) (.tup (st_of upd_same) .nil) (K7.sh_tup fun d hd => by cases hd) ⟨_, rfl, q _ (Ex.new nt)⟩
  intro H5 e45 h5
  have eg : given ((Us.take T0.moved).map V.ref).length (fun _ => false) (fun _ => V.non) = [] := by
    unfold given
    rw [List.filter_eq_nil_iff.mpr (fun x _ => by simp)]
    rfl
  rw [eg] at h5
  refine ⟨Nat.zero_le _, fun q nq => ne_nil (ds := []) (n := 0) (sq_of (upd_get h5 (ne_of_none h5 nq))) .nil (fun d hd => by cases hd) upd_same ⟨_, rfl, iteF ?_⟩⟩
  have e05 : Ex H (upd H5 q (.lst [])) := Ex.trans (Ex.trans e04 e45) (Ex.new nq)
  have e25 : Ex H2 (upd H5 q (.lst [])) := Ex.trans (Ex.trans (Ex.trans e24 e34) e45) (Ex.new nq)
  generalize upd H5 q (.lst []) = Hb at e05 e25
  refine ⟨Nat.zero_le _, fun F nF => ?_⟩
  have R1b := R1.ex e25
  have R2b := R2.ex e25
  have hdsb := e05 _ _ hds
  refine ⟨fun σ H' => (∃ v9 v10 v11 v12 v13 v14 v15 : Option V, σ = [some (.ref A.p), some (.ref ds), some (.int (T0.old.length : Nat)), some (.int (T0.new.length : Nat)), some (.int (T0.moved : Nat)), some (.int (T0.vals.length : Nat)), some (.ref r1), some (.ref r2), some (.ref F), v9, v10, v11, v12, v13, v14, v15, none, none]) ∧ Ex Hb H' ∧ H' F = some (.lst ((T0.old.flatten ++ T0.new.flatten).map V.str)), ?_, ?_⟩
  · refine ⟨_, rfl, _, rfl, (by show 2 ≤ sizeLine; decide), fun tt ntt => ⟨tt, rfl, ⟨_, st_of upd_same⟩, for_tup (K := K) (a := tt) (xs := [.ref r1, .ref r2]) (fun i σ H' => (∃ v9 v10 v11 v12 v13 v14 v15 : Option V, σ = [some (.ref A.p), some (.ref ds), some (.int (T0.old.length : Nat)), some (.int (T0.new.length : Nat)), some (.int (T0.moved : Nat)), some (.int (T0.vals.length : Nat)), some (.ref r1), some (.ref r2), some (.ref F), v9, v10, v11, v12, v13, v14, v15, none, none]) ∧ Ex Hb H' ∧ H' tt = some (.tup [.ref r1, .ref r2]) ∧ H' F = some (.lst (([T0.old, T0.new].take i).flatten.flatten.map V.str)))
      ⟨⟨none, none, none, none, none, none, none, rfl⟩, Ex.trans (Ex.new nF) (Ex.new ntt), upd_same, upd_get upd_same (ne_of_none upd_same ntt)⟩ (fun i σ H' _ p => st_of p.2.2.1) ?_ ?_⟩⟩
    rotate_left
    · rintro σ H' ⟨hσ, e, _, h⟩
      refine ⟨hσ, e, ?_⟩
      rw [h]
      show some (HO.lst ((T0.old ++ (T0.new ++ [])).flatten.map V.str)) = _
      rw [List.append_nil, List.flatten_append]
    rintro i y σ H1 hi ⟨⟨v9, v10, v11, v12, v13, v14, v15, rfl⟩, e1, htt, hF⟩
    obtain ⟨r, ls, rfl, hls, R, B⟩ : ∃ r ls, y = V.ref r ∧ [T0.old, T0.new][i]? = some ls ∧ RowsAt Hb r ls ∧ BkOk g ks ls := by
      match i, hi with
      | 0, hi =>
        exact ⟨r1, T0.old, (Option.some.inj hi).symm, rfl, R1b, inv_bk_old I hpk⟩
      | 1, hi =>
        exact ⟨r2, T0.new, (Option.some.inj hi).symm, rfl, R2b, inv_bk_new I hpk⟩
      | i + 2, hi => simp at hi
    have hnext : ([T0.old, T0.new].take (i + 1)).flatten.flatten = ([T0.old, T0.new].take i).flatten.flatten ++ ls.flatten := by
      rw [List.take_add_one, hls, List.flatten_append, List.flatten_append]
      show _ ++ (ls ++ []).flatten = _
      rw [List.append_nil]
    have hfdl : ([T0.old, T0.new].take i).flatten.flatten.length + ls.flatten.length ≤ 1000 := by
      rw [← List.length_append, ← hnext]
      have h2 := take_flat [T0.old, T0.new].flatten ([T0.old, T0.new].take (i + 1)).flatten.length
      have h4 : [T0.old, T0.new].flatten.take ([T0.old, T0.new].take (i + 1)).flatten.length = ([T0.old, T0.new].take (i + 1)).flatten := by
        have h5 : [T0.old, T0.new].flatten = ([T0.old, T0.new].take (i + 1)).flatten ++ ([T0.old, T0.new].drop (i + 1)).flatten := by rw [← List.flatten_append, List.take_append_drop]
        rw [h5, List.take_left]
      rw [h4] at h2
      have h3 : [T0.old, T0.new].flatten.flatten.length = T0.old.flatten.length + T0.new.flatten.length := by
        show (T0.old ++ (T0.new ++ [])).flatten.length = _
        rw [List.append_nil, List.flatten_append, List.length_append]
      have := I.flen
      omega
    rw [hnext]
    generalize ([T0.old, T0.new].take i).flatten.flatten = fd0 at hF hfdl
    obtain ⟨Xs, hX1, hX2, hX3⟩ := R
    obtain ⟨B1, B2, B3, B4⟩ := B
    obtain ⟨N, hN16, hN⟩ : ∃ N, N ≤ 16 ∧ ((ls = [] ∧ N = 0) ∨ ls.length = 2 ^ N) := by
      rcases B1 with z | ⟨n, h1, h2⟩
      · exact ⟨0, by decide, .inl ⟨z, rfl⟩⟩
      · exact ⟨n, h1, .inr h2⟩
    refine ⟨(by show 2 ≤ sizeLine; decide), fun t nt => ⟨t, _, rfl, st_of upd_same, rfl, _, _, rfl, _, _, rfl, rfl, ?_⟩⟩
    have e2 : Ex H1 (upd H1 t (.tup [.int 0, .int 1])) := Ex.new nt
    generalize upd H1 t (.tup [.int 0, .int 1]) = H2 at e2
    have hr2 : H2 r = some (.tup (Xs.map V.ref)) := e2 _ _ (e1 _ _ hX1)
    have hlX : (((Xs.map V.ref).length : Nat) : Int) = ((ls.length : Nat) : Int) := by rw [List.length_map, hX2]
    refine ⟨fun c σ' H' => ∃ b : Nat, c = N - b ∧ b ≤ N ∧ σ' = [some (.ref A.p), some (.ref ds), some (.int (T0.old.length : Nat)), some (.int (T0.new.length : Nat)), some (.int (T0.moved : Nat)), some (.int (T0.vals.length : Nat)), some (.ref r1), some (.ref r2), some (.ref F), some (.ref r), some (.int (b : Nat)), some (.int (2 ^ b)), v12, v13, v14, v15, none, none] ∧ H' = H2, ⟨N, 0, rfl, Nat.zero_le _, rfl, rfl⟩, ?_⟩
    rintro c σ' H' ⟨b, rfl, hbN, rfl, rfl⟩
    refine ⟨_, rfl, _, rfl, r, _, rfl, .inr (st_of hr2), _, _, rfl, rfl, _, rfl, ?_⟩
    rw [hlX]
    have p2 : ∀ m : Nat, (2 : Int) ^ m = ((2 ^ m : Nat) : Int) := fun m => by rw [Int.natCast_pow]; rfl
    by_cases hlt : (2 : Int) ^ b < ((ls.length : Nat) : Int)
    · have hb : b < N := by
        rcases hN with ⟨z, _⟩ | z
        · have h0 : (0 : Int) < 2 ^ b := Int.pow_pos (by decide)
          have h1 : (2 : Int) ^ b < 0 := by
            rw [z] at hlt
            exact hlt
          omega
        · rw [z, p2] at hlt
          have hlt' : 2 ^ b < 2 ^ N := by omega
          exact (Nat.pow_lt_pow_iff_right (by decide)).mp hlt'
      refine itB (decide_eq_true hlt) ⟨_, fun σ' H' p => ⟨N - (b + 1), by omega, p⟩, _, rfl, _, _, rfl, rfl, _, rfl, _, _, rfl, rfl, .inr ⟨by decide, by decide⟩, _, _, rfl, b + 1, rfl, by omega, ?_, rfl⟩
      rw [Int.pow_succ]
      rfl
    refine itN (decide_eq_false hlt) ?_
    have hbN' : b = N := by
      rcases hN with ⟨_, z⟩ | z
      · omega
      · refine Classical.byContradiction fun w => hlt ?_
        rw [z, p2]
        have : 2 ^ b < 2 ^ N := Nat.pow_lt_pow_right (by decide) (by omega)
        omega
    subst hbN'
    refine ⟨_, rfl, r, _, rfl, .inr (st_of hr2), _, rfl, (by show 2 ≤ sizeLine; decide), fun u nu => ⟨u, [.int 0, .int (2 ^ b)], rfl, .inr (st_of upd_same), rfl, rfl, _, rfl, ?_⟩⟩
    have hin : inV (.int (((Xs.map V.ref).length : Nat) : Int)) [.int 0, .int (2 ^ b)] = true := by
      rw [hlX]
      rcases hN with ⟨z, _⟩ | z
      · rw [z]
        simp [inV, eqV]
      · rw [z, ← p2]
        simp [inV, eqV]
    refine itN (by rw [if_pos rfl, hin]; rfl) ?_
    have e3 : Ex H' (upd H' u (.tup [.int 0, .int (2 ^ b)])) := Ex.new nu
    generalize upd H' u (.tup [.int 0, .int (2 ^ b)]) = H3 at e3
    have eb3 := Ex.trans (Ex.trans e1 e2) e3
    have htt3 := (Ex.trans e2 e3) _ _ htt
    have hF3 := (Ex.trans e2 e3) _ _ hF
    refine ⟨_, rfl, r, _, rfl, st_of (eb3 _ _ hX1), for_it (K7.walk_enumT (K := K) (a := r) (xs := Xs.map V.ref)) (fun j σ H' => (∃ v12 v13 v14 v15 : Option V, σ = [some (.ref A.p), some (.ref ds), some (.int (T0.old.length : Nat)), some (.int (T0.new.length : Nat)), some (.int (T0.moved : Nat)), some (.int (T0.vals.length : Nat)), some (.ref r1), some (.ref r2), some (.ref F), some (.ref r), some (.int (b : Nat)), some (.int (2 ^ b)), v12, v13, v14, v15, none, none]) ∧ Ex Hb H' ∧ H' tt = some (.tup [.ref r1, .ref r2]) ∧ H' F = some (.lst ((fd0 ++ (ls.take j).flatten).map V.str)))
      ⟨⟨_, _, _, _, rfl⟩, eb3, htt3, by simpa using hF3⟩ (fun j σ H' _ p => st_of (p.2.1 _ _ hX1)) ?_ ?_⟩
    rotate_left
    · rintro σ H4 ⟨⟨v12, v13, v14, v15, rfl⟩, e4, h4, hF4⟩
      refine ⟨⟨_, _, _, _, _, _, _, rfl⟩, e4, h4, ?_⟩
      rw [hF4, List.length_map, hX2, List.take_length]
    rintro j y σ H4 H5 hj ⟨⟨v12, v13, v14, v15, rfl⟩, e4, htt4, hF4⟩ ⟨Tp, x1, y1, rfl, nT, rfl, ex, ey⟩
    have hj1 : j < Xs.length := by rw [List.length_map] at hj; exact hj
    have hj2 : j < ls.length := by rw [← hX2]; exact hj1
    have ex1 : x1 = V.int (j : Nat) := (Option.some.inj ex).symm
    have ey1 : y1 = V.ref Xs[j] := by
      have ey : (Xs.map V.ref)[j]? = some y1 := ey
      rw [List.getElem?_map, List.getElem?_eq_getElem hj1] at ey
      exact (Option.some.inj ey).symm
    subst ex1 ey1
    have hXj := hX3 j Xs[j] ls[j] (List.getElem?_eq_getElem hj1) (List.getElem?_eq_getElem hj2)
    have hlen : ls.length = 2 ^ b := by
      rcases hN with ⟨z, _⟩ | z
      · rw [z] at hj2
        cases hj2
      · exact z
    have e5 : Ex H4 (upd H4 Tp (.tup [.int (j : Nat), .ref Xs[j]])) := Ex.new nT
    refine ⟨Tp, _, rfl, st_of upd_same, rfl, _, _, rfl, _, _, rfl, rfl, ?_⟩
    generalize upd H4 Tp (.tup [.int (j : Nat), .ref Xs[j]]) = H5 at e5
    refine ⟨_, rfl, _, rfl, (j : Int), b, rfl, hN16, by omega, by rw [p2, ← hlen]; omega, fun q H6 e6 nq hq => ⟨q, _, rfl, st_of hq, rfl, _, _, rfl, _, _, rfl, rfl, ?_⟩⟩
    have e46 := Ex.trans e5 e6
    have eb6 := Ex.trans e4 e46
    have hXj6 := eb6 _ _ hXj
    refine ⟨_, rfl, Xs[j], rfl, ⟨_, st_of hXj6⟩, fun D nD => lc_val (w := walk_tup (K := K) (a := Xs[j]) (xs := ls[j].map V.str)) (fun _ => false) (fun _ => .non) nD ?_ (fun H7 e7 => st_of (e7 _ _ hXj6)) ?_ ?_⟩
    · rw [List.length_map]
      have := B4 _ (List.getElem_mem hj2)
      omega
    · rintro i' y H7 H8 hi' e7 _ ⟨rfl, hy⟩
      obtain ⟨x, hx, rfl, _⟩ := at_str hy
      have hxl : x ∈ ls[j] := List.mem_of_getElem? hx
      have hxk := B3 _ (List.getElem_mem hj2) x hxl
      have hgx := B2 j ls[j] x (List.getElem?_eq_getElem hj2) hxl
      rw [hlen, ← p2] at hgx
      obtain ⟨s1, s2⟩ := spot_in (v := g x) hN16
      rw [hgx] at s1 s2
      refine ⟨Ex.refl _, _, tgt_name, rfl, fun H9 e9 Q q => ?_, fun z => (by cases z)⟩
      refine ⟨_, rfl, _, rfl, _, rfl, ds, _, rfl, dget_nums ((Ex.trans (Ex.trans eb6 e7) e9) _ _ hdsb) hxk, _, _, rfl, rfl, _, rfl, itB (decide_eq_true s1) ⟨_, rfl, _, _, rfl, rfl, _, rfl, ?_⟩⟩
      have e : (!decide (spotI (g x) ≤ (turn (j : Int) b).1 * 2 ^ (16 - b) + 2 ^ (16 - b) - 1)) = false := by rw [decide_eq_true s2]; rfl
      show Q (!decide (spotI (g x) ≤ (turn (j : Int) b).1 * 2 ^ (16 - b) + 2 ^ (16 - b) - 1)) H9
      rw [e]
      exact q H9 (Ex.refl _)
    intro H7 e7 h7
    have eg : given (ls[j].map V.str).length (fun _ => false) (fun _ => V.non) = [] := by
      unfold given
      rw [List.filter_eq_nil_iff.mpr (fun x _ => by simp)]
      rfl
    rw [eg] at h7
    refine ⟨Nat.zero_le _, fun q2 nq2 => ne_nil (ds := []) (n := 0) (sq_of (upd_get h7 (ne_of_none h7 nq2))) .nil (fun d hd => by cases hd) upd_same ⟨_, rfl, iteF ?_⟩⟩
    have e78 : Ex H6 (upd H7 q2 (.lst [])) := Ex.trans e7 (Ex.new nq2)
    generalize upd H7 q2 (.lst []) = H8 at e78
    have e48 := Ex.trans e46 e78
    have hF8 := e48 _ _ hF4
    have hXj8 := e48 _ _ (e4 _ _ hXj)
    refine ⟨_, rfl, .inl ⟨rfl, _, sq_of hF8⟩, _, rfl, Xs[j], _, rfl, .inr (st_of hXj8), fun l nl => ⟨F, l, _, _, rfl, rfl, upd_get hF8 (ne_of_none hF8 nl), upd_same, ?_, ⟨_, _, _, _, rfl⟩, ?_, ?_, ?_⟩⟩
    · have h1 : (ls.take j).flatten.length + ls[j].length ≤ ls.flatten.length := by
        have h2 : ((ls.take (j + 1)).flatten).length ≤ ls.flatten.length := take_flat ls (j + 1)
        rw [List.take_add_one, List.getElem?_eq_getElem hj2, List.flatten_append, List.length_append] at h2
        have h3 : ((some ls[j]).toList.flatten).length = ls[j].length := by simp
        omega
      rw [List.length_map, List.length_map, List.length_append]
      exact Nat.le_trans (show _ ≤ 1000 by omega) (by decide)
    · exact Ex.mut (Ex.trans (Ex.trans e4 e48) (Ex.new nl)) nF
    · have ntF : tt ≠ F := ne_of htt4 hF4 (by intro z; cases z)
      rw [upd_ne ntF]
      have h9 := e48 _ _ htt4
      exact upd_get h9 (ne_of_none h9 nl)
    · rw [upd_same, ← List.map_append, List.append_assoc]
      refine congrArg (fun z => some (HO.lst ((fd0 ++ z).map V.str))) ?_
      rw [List.take_add_one, List.getElem?_eq_getElem hj2, List.flatten_append]
      simp
  · rintro σ H6 ⟨⟨v9, v10, v11, v12, v13, v14, v15, rfl⟩, e6, h6⟩
    have hfl : (T0.old.flatten ++ T0.new.flatten).Perm ks := I.flat.trans hpk
    refine ⟨_, rfl, F, _, rfl, sq_of h6, ?_, fun ys p hp hs np => ?_⟩
    · rw [hfl.length_eq]
      omega
    refine ⟨_, rfl, ds, _, ks, rfl, .inl (upd_get (e6 _ _ hdsb) (ne_of_none (e6 _ _ hdsb) np)), ?_, by omega, fun zs p2 hp2 hs2 np2 => ?_⟩
    · unfold numsD
      rw [List.map_map]
      rfl
    have eyz : ys = zs := sorted_eq ((hp.trans hfl).trans hp2.symm) hs hs2
    subst eyz
    have hok : ∀ x ∈ ys, PyData.strOk x = true := fun x hx => (I.txt x (hpk.mem_iff.mpr (hp2.mem_iff.mp hx))).2
    refine K7.eq_same (d := .list (strsD ys)) (n := 1) (.lst (sq_of (upd_get upd_same (ne_of_none upd_same np2))) (dp_strs ys)) (.lst (sq_of upd_same) (dp_strs ys)) (K7.sh_list (sh_strs hok 0)) ?_
    exact k _ (Ex.trans (Ex.trans (Ex.trans e05 e6) (Ex.new np)) (Ex.new np2))
end
end K70
set_option Elab.async false
set_option linter.all false
set_option maxRecDepth 100000
set_option maxHeartbeats 4000000
namespace K70
open PySem PySem.Spec PyProof.Rows L2 Evl
open C8 (Cal Met Mak pe_c pe_mt pe_mt0 pe_mk pe_gc InsC call_isC)
open K7 (Kp ShOk upd_get eq_nil ne_nil dp_strs sh_strs strsD lc_val lc_ev lc_obj tgt_name tgt_pair given_filter EvP refIS IS)
def TabsOf (K : PySem.W.Frag) (g : Str → Int) (d : Addr) (ns : List Str) (H : Hp) (As : List Ad) : Prop := ∀ A ∈ As, d ∉ A.own ∧ ∃ T, TabH K g H A T ∧ Inv g T ∧ T.names = ns
theorem TabsOf.kp {K : PySem.W.Frag} {g : Str → Int} {d : Addr} {ns : List Str} {H H' : Hp} {As : List Ad} (h : TabsOf K g d ns H As) (k : Kp [d] H H') : TabsOf K g d ns H' As := fun A hA => by
  obtain ⟨n, T, t, i, e⟩ := h A hA
  exact ⟨n, T, t.kp k fun a ha z => n (by rw [← List.mem_singleton.mp z]; exact ha), i, e⟩
def tabVs (As : List Ad) : List V := As.map fun A => V.ref A.p
def sp_law_journey_right (K : PySem.W.Frag) : Sp := fun vs H Q _ => ∃ (d a b : Addr) (g : Str → Int) (ns : List Str) (As : List Ad) (ps : List IS), vs = [.ref d, .ref a, .ref b] ∧ DiceAt H d ∧ H a = some (.lst (tabVs As)) ∧ TabsOf K g d ns H As ∧ As ≠ [] ∧ As.length ≤ 100 ∧
  H b = some (.lst (ps.map refIS)) ∧ (∀ p ∈ ps, H p.1 = some (.tup [.int p.2.1, .str p.2.2])) ∧ ps.map (fun p => p.2.2) = ns ∧ ns.length ≤ 11 ∧ (∀ x ∈ ns, PyData.strOk x = true) ∧ ∀ H', Kp [d] H H' → DiceAt H' d → Q (.bl true) H'
section
variable {P : Program} {w : World} {K : PySem.W.Frag} {mg : Str → Option Value} {base : Heap}
theorem ok_law_journey_right {f : Addr} {fd : FuncData} {dvs : List V} (F : FunD K "_law_journey_right" "_law_journey_right" (defArgs s_law_journey_right) (defBody s_law_journey_right) (defScope s_law_journey_right) dvs [] f fd) (T : Txt K mg)
    (c_Table_scan : Met P w K mg base 3 (He.ga K "Table") "scan" (sp_Table_scan K) [])
    (c_law_one_of : Cal P w K mg base 2 "_law_one_of" (sp_law_one_of K) [])
    (c_law_roll : Cal P w K mg base 1 "_law_roll" sp_law_roll []) :
    FnOk P w K mg base CX0 4 f fd ["dice", "tables", "rows"] (sp_law_journey_right K) := by
  have nd := sc_law_journey_right.nd
  refine ok0 F sc_law_journey_right (fun vs H Q E h => by
    obtain ⟨d, a, b, g, ns, As, ps, rfl, hd, ha, hts, hne, hAl, hb, hps, hns, hnl, hok, k⟩ := h
    rfl) (fun cdv A outer s H vs Q E hr h => ?_)
  obtain ⟨d, a, b, g, ns, As, ps, rfl, hd, ha, hts, hne, hAl, hb, hps, hns, hnl, hok, k⟩ := h
  refine ⟨_, (pss_cons (ps_par3 (i := 3) (j := 4) (l := 5) (by rfl) nd rfl rfl rfl (by decide) (by decide) (by decide) rfl rfl rfl (pa_cons pe_int (pa_cons (pe_lst pa_nil) (pa_cons pe_bl pa_nil))) (by rfl))
     (Evl.pss_cut (ps_for PassesOwn.never rfl (pi_range1 (by rfl) T.b_range (pa_cons pe_int pa_nil)) (pg_name (i := 6) nd rfl (Or.inl rfl)) (pss_cons (ps_asg (pe_mt c_Table_scan hr (by decide) (pe_c c_law_one_of hr (by decide) (by rfl) (pa_cons (pv 0) (pa_cons (pv 1) pa_nil))) (pa_cons (pv 3) (pa_cons (pe_op op_add pe_int (pe_c c_law_roll hr (by decide) (by rfl) (pa_cons (pv 0) (pa_cons pe_int pa_nil)))) pa_nil))) (K7.pg_tupK (K := K) (n := 2) rfl (by rfl) (pgs_cons (pg_name (i := 3) nd rfl (Or.inl rfl)) (pgs_cons (pg_name (i := 7) nd rfl (Or.inl rfl)) pgs_nil))))
     (pss_cons (ps_expr (K7.pe_bmK (K := K) rfl PySem.F.plainAttrs_list PySem.F.slot_list_extend PySem.F.type_list_extend mt_extend (pv 4) (pa_cons (pe_callTy (K7.call_listK (K := K) rfl) (by rfl) T.b_list bt_list (pa_cons (pv 7) pa_nil)) pa_nil)))
     (pss_one (ps_if (pt_cmpR op_eq (pv 3) pe_int (nomark _)) (pss_cons (ps_set (i := 5) nd rfl (Or.inl rfl) pe_bl)
     (pss_one ps_break)) pss_nil)))))
     (pss_one (ps_ret (pe_and (pv 5) (pe_one (pe_cmpR (K7.op_eqK (K := K) rfl hr.units) (pv 4) (pe_lc (own := [("spot", 8), ("name", 9)]) rfl nd (K7.pi_listK (K := K) rfl (pv 2)) (blkOk_by (N := n_law_journey_right) (sc := defScope s_law_journey_right) (own := [("spot", 8), ("name", 9)]) (by decide +kernel)) (fun _ _ _ _ _ => (K7.pg_tupK (K := K) (n := 2) rfl (by rfl) (pgs_cons (pg_name (i := 8) nd rfl (Or.inl rfl)) (pgs_cons (pg_name (i := 9) nd rfl (Or.inl rfl)) pgs_nil)))) (fun _ _ _ _ _ => pts_nil) (fun _ _ _ _ _ => (pv 9))) (nomark _)))))))), ?_⟩
  obtain ⟨l0, m0, c0, hd0⟩ := id hd
  have nad : a ≠ d := fun z => by
    rw [z, hd0] at ha
    unfold tabVs at ha
    cases As with
    | nil => exact hne rfl
    | cons A r =>
      have := HO.lst.inj (Option.some.inj ha)
      rw [List.map_cons] at this
      injection this with h1 _
      cases h1
  have hsrt : ns.Pairwise (fun x y => spotI (g x) ≤ spotI (g y)) := by
    cases As with
    | nil => exact absurd rfl hne
    | cons A r =>
      obtain ⟨_, T1, _, i, e⟩ := hts A List.mem_cons_self
      rw [← e]
      exact i.srt.imp leN_spot
  have hrg : ∀ x ∈ ns, 0 ≤ spotI (g x) ∧ spotI (g x) ≤ 65535 := fun x _ => spot_range _
  refine ⟨Nat.zero_le _, fun l nl => ⟨_, _, _, rfl, ?_⟩⟩
  have nld : l ≠ d := (ne_of_none hd0 nl).symm
  have nla : ∀ {q : Addr} {o : HO}, H q = some o → q ≠ l := fun h => ne_of_none h nl
  refine ⟨fun σ H' => ∃ v3 v6 v7 : Option V, σ = [some (.ref d), some (.ref a), some (.ref b), v3, some (.ref l), some (.bl true), v6, v7, none, none] ∧ Kp [d] H H' ∧ DiceAt H' d ∧ H' l = some (.lst (ns.map V.str)), ?_, ?_⟩
  · refine ⟨13, rfl, by decide, by decide, for_range (lo := 0) (n := (13 : Int).toNat) (fun i σ H' => ∃ (c : Int) (v6 v7 : Option V), σ = [some (.ref d), some (.ref a), some (.ref b), some (.int c), some (.ref l), some (.bl false), v6, v7, none, none] ∧ Kp [d] H H' ∧ DiceAt H' d ∧
      H' l = some (.lst ((ns.filter fun x => decide (spotI (g x) < c)).map V.str)) ∧ 0 ≤ c ∧ c ≤ 65535 ∧ i ≤ (ns.filter fun x => decide (spotI (g x) < c)).length) ⟨0, none, none, rfl, (Kp.refl _ _).old nl, ⟨l0, m0, c0, upd_get hd0 nld.symm⟩, ?_, by decide, by decide, Nat.zero_le _⟩ ?_ ?_⟩
    · rw [upd_same, List.filter_eq_nil_iff.mpr fun x hx => by have := (hrg x hx).1; simp; omega]
      rfl
    · rintro i σ H1 hi ⟨c, v6, v7, rfl, k1, hd1, hl1, hc0, hc1, hil⟩
      have ha1 := k1 _ _ (by simpa using nad) ha
      have hvl : (tabVs As).length = As.length := by unfold tabVs; rw [List.length_map]
      refine ⟨_, rfl, _, rfl, d, a, tabVs As, rfl, sq_of ha1, nad, by rw [hvl]; exact List.length_pos_iff.mpr hne, by rw [hvl]; omega, hd1, fun j v l2 m2 c2 hv => ?_⟩
      obtain ⟨A, hA, rfl⟩ : ∃ A, A ∈ As ∧ v = V.ref A.p := by
        unfold tabVs at hv
        rw [List.getElem?_map] at hv
        obtain ⟨A, hA, rfl⟩ := Option.map_eq_some_iff.mp hv
        exact ⟨A, List.mem_of_getElem? hA, rfl⟩
      have k2 : Kp [d] H (upd H1 d (DiceL l2 m2 c2)) := k1.mut (by simp)
      have hl2 := upd_get (o := DiceL l2 m2 c2) hl1 nld
      obtain ⟨nAd, T1, hT1, i1, en⟩ := (hts.kp k2) A hA
      refine ⟨A.p, _, _, rfl, hT1.ins, rfl, _, rfl, _, rfl, d, 4, rfl, by decide, by decide, ⟨_, _, _, upd_same⟩, fun r l3 m3 c3 h0 h1 => ?_⟩
      have k3 : Kp [d] H (upd (upd H1 d (DiceL l2 m2 c2)) d (DiceL l3 m3 c3)) := k2.mut (by simp)
      have hl3 := upd_get (o := DiceL l3 m3 c3) hl2 nld
      have hd3 : (upd (upd H1 d (DiceL l2 m2 c2)) d (DiceL l3 m3 c3)) d = some (DiceL l3 m3 c3) := upd_same
      obtain ⟨_, T3, hT3, i3, en3⟩ := (hts.kp k3) A hA
      generalize upd (upd H1 d (DiceL l2 m2 c2)) d (DiceL l3 m3 c3) = H3 at k3 hl3 hd3 hT3
      refine ⟨_, _, rfl, rfl, g, A, T3, c, 1 + r, rfl, hT3, i3, hc0, hc1, by omega, by omega, fun t H4 e4 hs => ?_⟩
      rw [en3] at hs
      obtain ⟨u, ht, hu⟩ := hs
      have step := scan_step (sp := fun x => spotI (g x)) (cnt := 1 + r) hsrt hrg hc0 (by omega)
      generalize scanF (fun x => spotI (g x)) ns c (1 + r) = res at ht hu step
      obtain ⟨c', found⟩ := res
      refine ⟨t, _, rfl, st_of ht, rfl, _, _, rfl, _, _, rfl, rfl, ?_⟩
      have hl4 := e4 _ _ hl3
      have hlen : (ns.filter fun x => decide (spotI (g x) < c)).length + found.length ≤ 11 := by
        rcases step with ⟨_, h⟩ | ⟨_, _, h, _⟩
        · rw [← List.length_append]
          rw [h]
          exact hnl
        · rw [← List.length_append]
          rw [h]
          exact Nat.le_trans (List.length_filter_le _ _) hnl
      refine ⟨_, rfl, .inl ⟨rfl, _, sq_of hl4⟩, _, rfl, u, _, rfl, .inr (st_of hu), fun m nm => ⟨l, m, _, _, rfl, rfl, upd_get hl4 (ne_of_none hl4 nm), upd_same, ?_, ?_⟩⟩
      · rw [List.length_map, List.length_map]
        exact Nat.le_trans hlen (by decide)
      have kF : Kp [d] H (upd (upd H4 m (.lst (found.map V.str))) l (.lst ((ns.filter fun x => decide (spotI (g x) < c)).map V.str ++ found.map V.str))) := (((k3.ex e4).new nm).old nl)
      have hdF : DiceAt (upd (upd H4 m (.lst (found.map V.str))) l (.lst ((ns.filter fun x => decide (spotI (g x) < c)).map V.str ++ found.map V.str))) d := by
        have h4 := e4 _ _ hd3
        exact ⟨_, _, _, upd_get (upd_get h4 (ne_of_none h4 nm)) nld.symm⟩
      have hlF : (upd (upd H4 m (.lst (found.map V.str))) l (.lst ((ns.filter fun x => decide (spotI (g x) < c)).map V.str ++ found.map V.str))) l = some (.lst (((ns.filter fun x => decide (spotI (g x) < c)) ++ found).map V.str)) := by rw [upd_same, List.map_append]
      generalize upd (upd H4 m (.lst (found.map V.str))) l (.lst ((ns.filter fun x => decide (spotI (g x) < c)).map V.str ++ found.map V.str)) = HF at kF hdF hlF
      refine ⟨_, rfl, rfl, _, rfl, ?_⟩
      rcases step with ⟨hz, h⟩ | ⟨hp, hp2, h, hfn⟩
      · have hz : c' = 0 := hz
        have h : (ns.filter fun x => decide (spotI (g x) < c)) ++ found = ns := h
        subst hz
        rw [h] at hlF
        exact itB (decide_eq_true rfl) ⟨_, _, _, rfl, kF, hdF, hlF⟩
      · have hp : 0 < c' := hp
        have h : (ns.filter fun x => decide (spotI (g x) < c)) ++ found = ns.filter fun x => decide (spotI (g x) < c') := h
        rw [h] at hlF
        refine itN (decide_eq_false fun z => ?_) ⟨c', _, _, rfl, kF, hdF, hlF, by omega, hp2, ?_⟩
        · have := V.int.inj z
          omega
        · rw [← h, List.length_append]
          have hfn : found ≠ [] := hfn
          have := List.length_pos_iff.mpr hfn
          show i + 1 ≤ _ + found.length
          omega
    · rintro σ H1 ⟨c, v6, v7, rfl, _, _, _, _, _, hil⟩
      have h1 : (13 : Int).toNat ≤ ns.length := Nat.le_trans hil (List.length_filter_le _ _)
      have h2 : (13 : Int).toNat = 13 := rfl
      omega
  · rintro σ H1 ⟨v3, v6, v7, rfl, k1, hd1, hl1⟩
    have df : IS := (0, 0, "")
    have hbd : b ≠ d := fun z => by
      rw [z, hd0] at hb
      cases ps with
      | nil =>
        have := HO.lst.inj (Option.some.inj hb)
        cases this
      | cons p r =>
        have := HO.lst.inj (Option.some.inj hb)
        rw [List.map_cons] at this
        injection this with h1 _
        cases h1
    have hb1 := k1 _ _ (by simpa using hbd) hb
    have hps1 : ∀ p ∈ ps, H1 p.1 = some (.tup [.int p.2.1, .str p.2.2]) := fun p hp => k1 _ _ (fun z => by
      have h1 := hps p hp
      rw [List.mem_singleton.mp z, hd0] at h1
      cases h1) (hps p hp)
    refine ⟨_, rfl, true, rfl, iteT ⟨_, rfl, _, rfl, b, rfl, ⟨_, sq_of hb1⟩, fun D nD => lc_val (w := walk_list (K := K) (a := b) (xs := ps.map refIS)) (fun i => (fun _ : IS => true) (ps.getD i df)) (fun i => (fun p : IS => V.str p.2.2) (ps.getD i df)) nD ?_ (fun H5 e5 => sq_of (e5 _ _ hb1)) ?_ ?_⟩⟩
    · have : ps.length = ns.length := by rw [← hns, List.length_map]
      rw [List.length_map]
      omega
    · rintro i y H5 H6 hi e5 _ ⟨rfl, hy⟩
      obtain ⟨p, hp, rfl, eg⟩ := at_row df hy
      have hpt := e5 _ _ (hps1 p (List.mem_of_getElem? hp))
      rw [eg]
      exact ⟨Ex.refl _, _, tgt_pair (st_of hpt), rfl, fun H7 e7 Q q => q H7 (Ex.refl _), fun _ => ev_var rfl⟩
    intro H2 e2 h2
    rw [given_rows ps (fun _ => true) (fun p => V.str p.2.2) df, List.filter_eq_self.mpr fun _ _ => rfl] at h2
    have e3 : (ps.map fun p => V.str p.2.2) = ns.map V.str := by rw [← hns, List.map_map]; rfl
    rw [e3] at h2
    obtain ⟨l5, m5, c5, hd5⟩ := hd1
    exact K7.eq_same (d := .list (strsD ns)) (n := 1) (.lst (sq_of (e2 _ _ hl1)) (dp_strs ns)) (.lst (sq_of h2) (dp_strs ns)) (K7.sh_list (sh_strs hok 0)) (k H2 (k1.ex e2) ⟨_, _, _, e2 _ _ hd5⟩)
end
end K70
set_option Elab.async false
set_option linter.all false
set_option maxRecDepth 100000
set_option maxHeartbeats 4000000
namespace K70
open PySem PySem.Spec PyProof.Rows L2 Evl
open C8 (Cal Met Mak pe_c pe_mt pe_mt0 pe_mk pe_gc InsC call_isC)
open LamX (Tabs)
open K7 (lc_pair IsPair HeldF FnH held_def Kp ShOk upd_get eq_nil ne_nil dp_strs sh_strs strsD lc_val lc_ev lc_obj tgt_name tgt_pair given_filter EvP refIS IS)
def sp_law_right (Pt : Addr) : Sp := fun vs H Q _ => ∃ d : Addr, vs = [.ref d] ∧ DiceAt H d ∧ Tabs (Tl Pt) H ∧ ∀ H', KpN [d] H H' → Tabs (Tl Pt) H' → Q (.bl true) H'
theorem merge_nums (g : Str → Int) : ∀ (ks pre : List Str), (pre ++ ks).Nodup → mergeK (numsD g pre) (numsD g ks) = numsD g (pre ++ ks)
  | [], pre, _ => by rw [List.append_nil]; rfl
  | x :: r, pre, h => by
    have hx : x ∉ pre := fun z => by
      have := List.nodup_append.mp h
      exact this.2.2 x z x List.mem_cons_self rfl
    show mergeK (putK (numsD g pre) (Sum.inr x) (.int (g x))) (numsD g r) = _
    rw [putK_nums hx, merge_nums g r (pre ++ [x]) (by rw [List.append_assoc]; exact h), List.append_assoc]
    rfl
theorem paired_nums {K : PySem.W.Frag} {H : Hp} {g : Str → Int} : ∀ {Ts : List Addr} {ks : List Str}, Ts.length = ks.length → (∀ (i : Nat) T, Ts[i]? = some T → H T = some (.tup [.str (ks.getD i ""), .int (g (ks.getD i ""))])) → Paired (fun p (kv : Key × V) => SqT K H p [kV kv.1, kv.2]) Ts (numsD g ks)
  | [], [], _, _ => .nil
  | T :: Ts, x :: ks, hl, h => .cons (st_of (h 0 T rfl)) (paired_nums (by simpa using hl) fun i T' hT' => h (i + 1) T' (by simpa using hT'))
  | [], _ :: _, hl, _ => by cases hl
  | _ :: _, [], hl, _ => by cases hl
theorem valV_mem {vs : List (Str × V)} {x : Str} {v : V} (nd : (vs.map (·.1)).Nodup) (h : (x, v) ∈ vs) : valV (valsD vs) (Sum.inr x) = some v := by
  induction vs with
  | nil => cases h
  | cons p r ih =>
    rw [List.map_cons, List.nodup_cons] at nd
    have e : valsD (p :: r) = (Sum.inr p.1, p.2) :: valsD r := rfl
    rw [e]
    rcases List.mem_cons.mp h with z | z
    · rw [← z]
      exact valV_pos rfl
    · have n : ¬ (Sum.inr p.1 : Key) = Sum.inr x := fun w => nd.1 (by
        rw [Sum.inr.inj w]
        exact List.mem_map.mpr ⟨(x, v), z, rfl⟩)
      rw [valV_neg n]
      exact ih nd.2 z
def TabsV (K : PySem.W.Frag) (g : Str → Int) (d : Addr) (ns : List Str) (H : Hp) (As : List Ad) : Prop := ∀ A ∈ As, d ∉ A.own ∧ ∃ T, TabH K g H A T ∧ Inv g T ∧ T.names = ns ∧ T.hk.Perm ns ∧ ∀ x ∈ ns, valV (valsD T.vals) (Sum.inr x) = some (lenV x)
theorem TabsV.kp {K : PySem.W.Frag} {g : Str → Int} {d : Addr} {ns : List Str} {H H' : Hp} {As : List Ad} (h : TabsV K g d ns H As) (k : Kp [d] H H') : TabsV K g d ns H' As := fun A hA => by
  obtain ⟨n, T, t, i, e, p, v⟩ := h A hA
  exact ⟨n, T, t.kp k fun a ha z => n (by rw [← List.mem_singleton.mp z]; exact ha), i, e, p, v⟩
theorem TabsV.of {K : PySem.W.Frag} {g : Str → Int} {d : Addr} {ns : List Str} {H : Hp} {As : List Ad} (h : TabsV K g d ns H As) : TabsOf K g d ns H As := fun A hA => by
  obtain ⟨n, T, t, i, e, _⟩ := h A hA
  exact ⟨n, T, t, i, e⟩
theorem tabs_eq {g : Str → Int} {T T' : Tb} {ns : List Str} (I : Inv g T) (I' : Inv g T') (p : T.hk.Perm ns) (p' : T'.hk.Perm ns) (v : ∀ x ∈ ns, valV (valsD T.vals) (Sum.inr x) = some (lenV x)) (v' : ∀ x ∈ ns, valV (valsD T'.vals) (Sum.inr x) = some (lenV x)) :
    T.vals.length = T'.vals.length ∧ ∀ q ∈ valsD T.vals, valV (valsD T'.vals) q.1 = some q.2 ∧ flatB q.2 = true := by
  refine ⟨?_, fun q hq => ?_⟩
  · rw [← List.length_map (f := Prod.fst), I.keys, ← List.length_map (f := Prod.fst) (as := T'.vals), I'.keys, p.length_eq, p'.length_eq]
  · obtain ⟨⟨x, w⟩, hx, rfl⟩ := List.mem_map.mp hq
    have hk : x ∈ ns := p.mem_iff.mp (by rw [← I.keys]; exact List.mem_map.mpr ⟨_, hx, rfl⟩)
    have h1 := valV_mem (by rw [I.keys]; exact I.nd) hx
    rw [v x hk] at h1
    have e : w = lenV x := (Option.some.inj h1).symm
    show valV (valsD T'.vals) (Sum.inr x) = some w ∧ flatB w = true
    rw [e]
    exact ⟨v' x hk, rfl⟩
section
variable {P : Program} {w : World} {K : PySem.W.Frag} {mg : Str → Option Value} {base : Heap} {Pt : Addr}
theorem spr_hash (c : Cal P w K mg base 1 "hash_in" sp_hash_in []) (T : Txt K mg) (fh : ∃ oc od fd sl, K.lookup (He.ga K "hash_in") = some ⟨oc, od, .func fd, sl⟩) : Spr P w K mg base (He.ga K "hash_in") hashT [] := by
  obtain ⟨f, fd, ps, ds, F, hm, _, hb, hv⟩ := c.ex
  have ef : f = He.ga K "hash_in" := by
    have := hm.symm.trans T.f_hash_in
    exact Value.ref.inj (Option.some.inj this)
  cases hv
  rw [ef] at F
  refine ⟨((held_def F hb).mono (by decide)).imp fun vs H Q E h => ?_, fun H _ => .inl fh, fun x _ => ?_⟩
  · obtain ⟨x, e, _, _, q⟩ := h
    exact ⟨x, e, q⟩
  · unfold hashT
    generalize x.cps.toList = l
    rcases List.eq_nil_or_concat l with z | ⟨l', c, z⟩
    · rw [z]
      exact ⟨by decide, by decide⟩
    · rw [z, List.concat_eq_append, hashL_snoc]
      exact ⟨Int.emod_nonneg _ (by decide), Int.emod_lt_of_pos _ (by decide)⟩
theorem ok_law_right {f : Addr} {fd : FuncData} {dvs : List V} (F : FunD K "_law_right" "_law_right" (defArgs s_law_right) (defBody s_law_right) (defScope s_law_right) dvs [] f fd) (T : Txt K mg)
    (c_law_names : Cal P w K mg base 3 "_law_names" sp_law_names [])
    (c_law_spread : Cal P w K mg base 2 "_law_spread" (sp_law_spread P w K mg base Pt) [])
    (c_law_spot_of : Cal P w K mg base 1 "_law_spot_of" sp_law_spot_of [])
    (c_law_hash : Cal P w K mg base 1 "_law_hash" sp_law_hash [])
    (c_law_table_with : Cal P w K mg base 5 "_law_table_with" (sp_law_table_with P w K mg base) [])
    (c_Table_all_names : Met P w K mg base 1 (He.ga K "Table") "all_names" (sp_Table_all_names K) [])
    (c_Table_all_items : Met P w K mg base 1 (He.ga K "Table") "all_items" (sp_Table_all_items K) [])
    (c_law_buckets_right : Cal P w K mg base 5 "_law_buckets_right" (sp_law_buckets_right K) [])
    (c_law_roll : Cal P w K mg base 1 "_law_roll" sp_law_roll [])
    (c_law_one_of : Cal P w K mg base 2 "_law_one_of" (sp_law_one_of K) [])
    (c_law_scanned : Cal P w K mg base 1 "_law_scanned" (sp_law_scanned K) [])
    (c_Table_scan : Met P w K mg base 3 (He.ga K "Table") "scan" (sp_Table_scan K) [])
    (c_hash_of : Cal P w K mg base 3 "hash_of" sp_hash_of [])
    (c_spot_of : Cal P w K mg base 3 "spot_of" sp_spot_of [])
    (c_law_journey_right : Cal P w K mg base 4 "_law_journey_right" (sp_law_journey_right K) [])
    (e_len : K7.OwnM P w K mg base 1 (He.ga K "Table") "__len__" (sp_Table_d_len K))
    (e_eq : K7.OwnM P w K mg base 1 (He.ga K "Table") "__eq__" (sp_Table_d_eq K)) (mroT : PySem.W.mroIn K (He.ga K "Table") (.type "object") = some true) (neT : PySem.W.findIn K (.ref (He.ga K "Table")) "__ne__" = some (some (.builtin "object.__ne__"))) (c_hash_in : Cal P w K mg base 1 "hash_in" sp_hash_in []) (fh : ∃ oc od fd sl, K.lookup (He.ga K "hash_in") = some ⟨oc, od, .func fd, sl⟩) :
    FnOk P w K mg base CX0 6 f fd ["dice"] (sp_law_right Pt) := by
  have nd := sc_law_right.nd
  refine ok0 F sc_law_right (fun vs H Q E h => by
    obtain ⟨d, rfl, hd, hT, k⟩ := h
    rfl) (fun cdv A outer s H vs Q E hr h => ?_)
  obtain ⟨d, rfl, hd, hT, k⟩ := h
  refine ⟨_, (Evl.pss_cut (ps_asg (pe_tup (pa_cons (pe_c c_law_names hr (by decide) (by rfl) (pa_cons (pv 0) pa_nil)) (pa_cons (pe_c c_law_spread hr (by decide) (by rfl) (pa_cons (pv 0) pa_nil)) pa_nil))) (K7.pg_tupK (K := K) (n := 2) rfl (by rfl) (pgs_cons (pg_name (i := 1) nd rfl (Or.inr rfl)) (pgs_cons (pg_name (i := 2) nd rfl (Or.inr rfl)) pgs_nil))))
     (Evl.pss_cut (ps_set (i := 3) nd rfl (Or.inr rfl) (pe_callTy (K7.call_dictK (K := K) rfl rfl) (by rfl) T.b_dict bt_dict (pa_cons (pe_lc (own := [("name", 12)]) rfl nd (K7.pi_listK (K := K) rfl (pv 1)) (blkOk_by (N := n_law_right) (sc := defScope s_law_right) (own := [("name", 12)]) (by decide +kernel)) (fun _ _ _ _ _ => (pg_name (i := 12) nd rfl (Or.inl rfl))) (fun _ _ _ _ _ => pts_nil) (fun _ _ _ _ _ => (pe_tup (pa_cons (pv 12) (pa_cons (pe_c c_law_spot_of hr (by decide) (by rfl) (pa_cons (pe_ifExp (pt_cmpR op_isN (pv 2) pe_non (nomark _)) (pe_c c_law_hash hr (by decide) (by rfl) (pa_cons (pv 12) pa_nil)) (K7.pe_callHK (P := P) (w := w) (K := K) (mg := mg) (base := base) rfl rfl rfl rfl rfl (k := 2) 2 (hr.mono (by decide)) rfl (by first | exact Or.inl rfl | exact Or.inr (Or.inl rfl) | exact Or.inr (Or.inr rfl)) (pa_cons (pv 12) pa_nil))) pa_nil)) pa_nil))))) pa_nil)))
     (Evl.pss_cut (ps_set (i := 4) nd rfl (Or.inl rfl) (pe_callB (K7.cr_sortedISK (K := K) rfl) (by rfl) T.b_sorted bt_sorted (pa_cons (pe_lc (own := [("name", 12)]) rfl nd (K7.pi_listK (K := K) rfl (pv 1)) (blkOk_by (N := n_law_right) (sc := defScope s_law_right) (own := [("name", 12)]) (by decide +kernel)) (fun _ _ _ _ _ => (pg_name (i := 12) nd rfl (Or.inl rfl))) (fun _ _ _ _ _ => pts_nil) (fun _ _ _ _ _ => (pe_tup (pa_cons (pe_dget (hu_of hr) (pv 3) (pv 12) (fun _ _ => rfl)) (pa_cons (pv 12) pa_nil))))) pa_nil)))
     (Evl.pss_cut (ps_setLc (i := 5) (own := [("turn", 11)]) rfl nd rfl rfl (sw_true rfl rfl rfl (by decide +kernel)) (pi_range1 (by rfl) T.b_range (pa_cons pe_int pa_nil)) (blkOk_by (N := n_law_right) (sc := defScope s_law_right) (own := [("turn", 11)]) (by decide +kernel)) (fun _ _ _ _ _ => (pg_name (i := 11) nd rfl (Or.inl rfl))) (fun _ _ _ _ _ => pts_nil) (fun _ _ _ _ _ => (pe_c c_law_table_with hr (by decide) (by rfl) (pa_cons (pv 0) (pa_cons (pv 2) (pa_cons (pv 1) pa_nil))))))
     (Evl.pss_cut (ps_for PassesOwn.never rfl (K7.pi_listK (K := K) rfl (pv 5)) (pg_name (i := 6) nd rfl (Or.inl rfl)) (pss_cons (ps_if (PW.pt (pw_or (pt_cmpR (K7.op_neK (K := K) rfl hr.units) (pe_callTy (K7.call_listK (K := K) rfl) (by rfl) T.b_list bt_list (pa_cons (pe_mt0 c_Table_all_names hr (by decide) (pv 6)) pa_nil)) (pe_lc (own := [("spot", 13), ("name", 12)]) rfl nd (K7.pi_listK (K := K) rfl (pv 4)) (blkOk_by (N := n_law_right) (sc := defScope s_law_right) (own := [("spot", 13), ("name", 12)]) (by decide +kernel)) (fun _ _ _ _ _ => (K7.pg_tupK (K := K) (n := 2) rfl (by rfl) (pgs_cons (pg_name (i := 13) nd rfl (Or.inl rfl)) (pgs_cons (pg_name (i := 12) nd rfl (Or.inl rfl)) pgs_nil)))) (fun _ _ _ _ _ => pts_nil) (fun _ _ _ _ _ => (pv 12))) (nomark _)) (pw_or1 (pt_cmpR (K7.op_neT e_eq mroT neT hr (by decide)) (pv 6) (pe_ix (K7.ix_listK (K := K) rfl) (pv 5) pe_int (fun _ _ => rfl)) (nomark _))))) (pss_one (ps_ret pe_bl)) pss_nil)
     (pss_cons (ps_if (PW.pt (pw_or (pt_cmpR (K7.op_neK (K := K) rfl hr.units) (pe_mt0 c_Table_all_items hr (by decide) (pv 6)) (pe_callTy (K7.call_tupK (K := K) rfl) (by rfl) T.b_tuple bt_tuple (pa_cons (pe_lc (own := [("spot", 13), ("name", 12)]) rfl nd (K7.pi_listK (K := K) rfl (pv 4)) (blkOk_by (N := n_law_right) (sc := defScope s_law_right) (own := [("spot", 13), ("name", 12)]) (by decide +kernel)) (fun _ _ _ _ _ => (K7.pg_tupK (K := K) (n := 2) rfl (by rfl) (pgs_cons (pg_name (i := 13) nd rfl (Or.inl rfl)) (pgs_cons (pg_name (i := 12) nd rfl (Or.inl rfl)) pgs_nil)))) (fun _ _ _ _ _ => pts_nil) (fun _ _ _ _ _ => (pe_tup (pa_cons (pv 12) (pa_cons (pe_callB call_len_str (by rfl) T.b_len bt_len (pa_cons (pv 12) pa_nil)) pa_nil))))) pa_nil)) (nomark _)) (pw_or1 (pt_cmpR op_ne (pe_callB (K7.call_lenOwn e_len hr (by decide)) (by rfl) T.b_len bt_len (pa_cons (pv 6) pa_nil)) (pe_callB (K7.call_lenK (K := K) rfl) (by rfl) T.b_len bt_len (pa_cons (pv 1) pa_nil)) (nomark _))))) (pss_one (ps_ret pe_bl)) pss_nil)
     (pss_one (ps_if (pt_not (pt_val (pe_c c_law_buckets_right hr (by decide) (by rfl) (pa_cons (pv 6) (pa_cons (pv 3) pa_nil))))) (pss_one (ps_ret pe_bl)) pss_nil)))))
     (Evl.pss_cut (ps_set (i := 7) nd rfl (Or.inl rfl) (pe_op op_cat (pe_lst (pa_cons pe_int (pa_cons pe_int (pa_cons (pe_c c_law_roll hr (by decide) (by rfl) (pa_cons (pv 0) (pa_cons pe_int pa_nil))) pa_nil)))) (pe_lc (own := [("spot", 13), ("name", 12)]) rfl nd (K7.pi_listK (K := K) rfl (pe_slice (K7.sl_listK (K := K) rfl) (pv 4) po_none (po_some pe_int))) (blkOk_by (N := n_law_right) (sc := defScope s_law_right) (own := [("spot", 13), ("name", 12)]) (by decide +kernel)) (fun _ _ _ _ _ => (K7.pg_tupK (K := K) (n := 2) rfl (by rfl) (pgs_cons (pg_name (i := 13) nd rfl (Or.inl rfl)) (pgs_cons (pg_name (i := 12) nd rfl (Or.inl rfl)) pgs_nil)))) (fun _ _ _ _ _ => pts_nil) (fun _ _ _ _ _ => (pv 13)))))
     (Evl.pss_cut (ps_for PassesOwn.never rfl (K7.pi_listK (K := K) rfl (pv 7)) (pg_name (i := 8) nd rfl (Or.inr rfl)) (pss_cons (ps_set (i := 9) nd rfl (Or.inr rfl) (pe_c c_law_one_of hr (by decide) (by rfl) (pa_cons (pv 0) (pa_cons (pe_lst (pa_cons pe_int (pa_cons pe_int (pa_cons pe_int (pa_cons pe_int (pa_cons pe_int pa_nil)))))) pa_nil))))
     (pss_cons (ps_set (i := 10) nd rfl (Or.inr rfl) (pe_c c_law_scanned hr (by decide) (by rfl) (pa_cons (pv 4) (pa_cons (pv 8) (pa_cons (pv 9) pa_nil)))))
     (pss_one (ps_if (pt_cmpR (K7.op_neK (K := K) rfl hr.units) (pe_lc (own := [("table", 6)]) rfl nd (K7.pi_listK (K := K) rfl (pv 5)) (blkOk_by (N := n_law_right) (sc := defScope s_law_right) (own := [("table", 6)]) (by decide +kernel)) (fun _ _ _ _ _ => (pg_name (i := 6) nd rfl (Or.inl rfl))) (fun _ _ _ _ _ => (pts_one (pt_cmpR (K7.op_neK (K := K) rfl hr.units) (pe_mt c_Table_scan hr (by decide) (pv 6) (pa_cons (pv 8) (pa_cons (pv 9) pa_nil))) (pv 10) (nomark _)))) (fun _ _ _ _ _ => (pv 6))) (pe_lst pa_nil) (nomark _)) (pss_one (ps_ret pe_bl)) pss_nil)))))
     (Evl.pss_cut (ps_if (pt_cmpR (K7.op_neK (K := K) rfl hr.units) (pe_lc (own := [("name", 12)]) rfl nd (K7.pi_listK (K := K) rfl (pv 1)) (blkOk_by (N := n_law_right) (sc := defScope s_law_right) (own := [("name", 12)]) (by decide +kernel)) (fun _ _ _ _ _ => (pg_name (i := 12) nd rfl (Or.inl rfl))) (fun _ _ _ _ _ => (pts_one (pt_cmpR op_ne (pe_c c_hash_of hr (by decide) (by rfl) (pa_cons (pv 12) pa_nil)) (pe_c c_law_hash hr (by decide) (by rfl) (pa_cons (pv 12) pa_nil)) (nomark _)))) (fun _ _ _ _ _ => (pv 12))) (pe_lst pa_nil) (nomark _)) (pss_one (ps_ret pe_bl)) pss_nil)
     (Evl.pss_cut (ps_if (pt_cmpR (K7.op_neK (K := K) rfl hr.units) (pe_lc (own := [("name", 12)]) rfl nd (K7.pi_listK (K := K) rfl (pv 1)) (blkOk_by (N := n_law_right) (sc := defScope s_law_right) (own := [("name", 12)]) (by decide +kernel)) (fun _ _ _ _ _ => (pg_name (i := 12) nd rfl (Or.inl rfl))) (fun _ _ _ _ _ => (pts_one (pt_cmpR op_ne (pe_c c_spot_of hr (by decide) (by rfl) (pa_cons (pv 12) pa_nil)) (pe_c c_law_spot_of hr (by decide) (by rfl) (pa_cons (pe_c c_law_hash hr (by decide) (by rfl) (pa_cons (pv 12) pa_nil)) pa_nil)) (nomark _)))) (fun _ _ _ _ _ => (pv 12))) (pe_lst pa_nil) (nomark _)) (pss_one (ps_ret pe_bl)) pss_nil)
     (pss_one (ps_ret (pe_c c_law_journey_right hr (by decide) (by rfl) (pa_cons (pv 0) (pa_cons (pv 5) (pa_cons (pv 4) pa_nil))))))))))))))), ?_⟩
  obtain ⟨l0, m0, c0, hdd⟩ := id hd
  have yes : ∀ {σ : L2.St} {H1 : Hp}, EvT tYes σ H1 true := fun {σ H1} H2 e Q q => q H2 (Ex.refl _)
  have df : IS := (0, 0, "")
  refine ⟨fun σ H' => ∃ (a : Addr) (z : V) (ns : List Str) (g : Str → Int) (l : List (Addr × HO)) (f : Addr), σ = [some (.ref d), some (.ref a), some z, none, none, none, none, none, none, none, none, none, none, none] ∧ KpN [d] H H' ∧ DiceAt H' d ∧ Tabs (Tl Pt) H' ∧ H' a = some (.lst (ns.map V.str)) ∧
    ns.Nodup ∧ ns.length ≤ 11 ∧ (∀ x ∈ ns, x ∈ someNames) ∧ ((z = .non ∧ f = He.ga K "hash_in" ∧ g = hashT) ∨ z = .ref f) ∧ Spr P w K mg base f g l ∧ Std l H', ?_, ?_⟩
  ·
    refine ⟨_, rfl, d, rfl, hd, fun ys p H1 hnd hnl hns np hp hd1 k1 => ?_⟩
    have T1 : Tabs (Tl Pt) H1 := Tabs.kp hT k1 fun a ha => by
      rw [List.mem_singleton.mp ha, hdd]
      exact ⟨fun ps z => (by cases z), fun φ z => (by cases z)⟩
    have npd : p ≠ d := fun z => by
      rw [z, hdd] at np
      cases np
    have fin0 : ∀ (z : V) (f : Addr) (g : Str → Int) (l : List (Addr × HO)) (H2 : Hp), ((z = .non ∧ f = He.ga K "hash_in" ∧ g = hashT) ∨ z = .ref f) → Spr P w K mg base f g l → Std l H2 → KpN [d] H1 H2 → DiceAt H2 d → Tabs (Tl Pt) H2 → ∀ t, H2 t = none →
        ∃ (a : Addr) (z' : V) (ns : List Str) (g : Str → Int) (l : List (Addr × HO)) (f : Addr), [some (V.ref d), some (.ref p), some z, none, none, none, none, none, none, none, none, none, none, none] = [some (.ref d), some (.ref a), some z', none, none, none, none, none, none, none, none, none, none, none] ∧ KpN [d] H (upd H2 t (.tup [.ref p, z])) ∧ DiceAt (upd H2 t (.tup [.ref p, z])) d ∧ Tabs (Tl Pt) (upd H2 t (.tup [.ref p, z])) ∧ (upd H2 t (.tup [.ref p, z])) a = some (.lst (ns.map V.str)) ∧
        ns.Nodup ∧ ns.length ≤ 11 ∧ (∀ x ∈ ns, x ∈ someNames) ∧ ((z' = .non ∧ f = He.ga K "hash_in" ∧ g = hashT) ∨ z' = .ref f) ∧ Spr P w K mg base f g l ∧ Std l (upd H2 t (.tup [.ref p, z])) := fun z f g l H2 hz hS hst kn hd2 T2 t nt => by
      obtain ⟨l2, m2, c2, hd2⟩ := hd2
      have hp2 := kn p _ (by simpa using npd) (fun ps z => (by cases z)) hp
      exact ⟨p, z, ys, g, l, f, rfl, ((KpN.of k1).trans kn).new nt, ⟨_, _, _, upd_get hd2 (ne_of_none hd2 nt)⟩, T2.ext (Ex.new nt), upd_get hp2 (ne_of_none hp2 nt), hnd, hnl, hns, hz, hS, hst.ex (Ex.new nt)⟩
    refine ⟨_, rfl, d, rfl, hd1, T1, fun H2 kn hd2 T2 => ⟨(by show 2 ≤ sizeLine; decide), fun t nt => ⟨t, _, rfl, st_of upd_same, rfl, _, _, rfl, _, _, rfl, rfl, ?_⟩⟩, fun f g l H2 hS hst kn hd2 T2 => ⟨(by show 2 ≤ sizeLine; decide), fun t nt => ⟨t, _, rfl, st_of upd_same, rfl, _, _, rfl, _, _, rfl, rfl, ?_⟩⟩⟩
    · exact fin0 .non _ _ [] H2 (.inl ⟨rfl, rfl, rfl⟩) (spr_hash c_hash_in T fh) (fun p hp => by cases hp) kn hd2 T2 t nt
    · exact fin0 (.ref f) f g l H2 (.inr rfl) hS hst kn hd2 T2 t nt
  rintro σ0 H0 ⟨a, z, ns, g, l, f, rfl, kn0, hd0, T0, ha0, hnd, hnl, hns, hz, hS, hst⟩
  obtain ⟨l1, m1, c1, hdd0⟩ := id hd0
  have hnok : ∀ x ∈ ns, NameOk x := fun x hx => name_ok x (List.mem_append_left _ (hns x hx))
  have nad : a ≠ d := fun w => by
    rw [w, hdd0] at ha0
    cases ns with
    | nil =>
      have := HO.lst.inj (Option.some.inj ha0)
      cases this
    | cons x r =>
      have := HO.lst.inj (Option.some.inj ha0)
      rw [List.map_cons] at this
      injection this with h1 _
      cases h1
  have stdD : ∀ {H' : Hp}, Kp [d] H0 H' → Std l H' := fun k p hp => by
    obtain ⟨e1, φ, e2⟩ := hst p hp
    refine ⟨k _ _ (fun w => ?_) e1, φ, e2⟩
    rw [List.mem_singleton.mp w, hdd0, e2] at e1
    cases e1
  refine ⟨fun σ H' => ∃ s : Addr, σ = [some (.ref d), some (.ref a), some z, some (.ref s), none, none, none, none, none, none, none, none, none, none] ∧ Kp [d] H0 H' ∧ DiceAt H' d ∧ H' s = some (.dK (numsD (fun x => spotI (g x)) ns)), ?_, ?_⟩
  ·
    refine ⟨_, rfl, a, rfl, ⟨_, sq_of ha0⟩, fun D nD => lc_pair (w := walk_list (K := K) (a := a) (xs := ns.map V.str)) (fun i => V.str (ns.getD i "")) (fun i => V.int (spotI (g (ns.getD i "")))) nD (by rw [List.length_map]; omega) (fun H5 e5 => sq_of (e5 _ _ ha0)) ?_ ?_⟩
    · rintro i y H5 H6 hi e5 ⟨ys, hys⟩ ⟨rfl, hy⟩
      obtain ⟨x, hx, rfl, eg⟩ := at_str hy
      have hxo := hnok x (List.mem_of_getElem? hx)
      refine ⟨Ex.refl _, _, tgt_name, rfl, yes, fun H7 e7 Q q => ?_⟩
      have fin : ∀ t, H7 t = none → Q (.ref t) (upd H7 t (.tup [.str x, .int (spotI (g x))])) := fun t nt => q (.ref t) _ (Ex.new nt) ⟨⟨t, rfl, by
        show _ = some (HO.tup [V.str (ns.getD i ""), V.int (spotI (g (ns.getD i "")))])
        rw [upd_same, eg]⟩, fun w => ne_of_none (e7 _ _ hys) nt (V.ref.inj w).symm⟩
      have std7 : Std l H7 := (hst.ex e5).ex e7
      rcases hz with ⟨rfl, rfl, rfl⟩ | rfl
      · exact ⟨_, rfl, _, rfl, rfl, _, rfl, itB rfl ⟨_, rfl, x, rfl, hashT x, rfl, (by show 2 ≤ sizeLine; decide), fin⟩⟩
      · exact ⟨_, rfl, _, rfl, rfl, _, rfl, itN (decide_eq_false (by intro w; cases w)) ⟨f, spS g l, rfl, hS.held, hS.fn _ std7, _, rfl, hS.fn _ std7, x, rfl, hxo, std7, g x, rfl, (by show 2 ≤ sizeLine; decide), fin⟩⟩
    · intro Ts H1 e1 h1 hTl hTs
      refine ⟨D, Ts, numsD (fun x => spotI (g x)) ns, rfl, sq_of h1, paired_nums (g := fun x => spotI (g x)) (by rw [hTl, List.length_map]) hTs, fun p np => ⟨p, rfl, Kp.of (Ex.trans e1 (Ex.new np)), ⟨_, _, _, (Ex.trans e1 (Ex.new np)) _ _ hdd0⟩, ?_⟩⟩
      rw [upd_same]
      have := merge_nums (fun x => spotI (g x)) ns [] hnd
      exact congrArg (fun t => some (HO.dK t)) this
  rintro σ1 H1 ⟨s, rfl, k1, hd1, hs1⟩
  obtain ⟨l2, m2, c2, hdd1⟩ := id hd1
  have ha1 := k1 _ _ (by simpa using nad) ha0
  refine ⟨fun σ H' => ∃ (b : Addr) (qs : List IS), σ = [some (.ref d), some (.ref a), some z, some (.ref s), some (.ref b), none, none, none, none, none, none, none, none, none] ∧ Kp [d] H0 H' ∧ DiceAt H' d ∧ H' s = some (.dK (numsD (fun x => spotI (g x)) ns)) ∧ H' b = some (.lst (qs.map refIS)) ∧
    (∀ p ∈ qs, H' p.1 = some (.tup [.int p.2.1, .str p.2.2]) ∧ p.2.1 = spotI (g p.2.2)) ∧ (qs.map fun p => p.2.2).Perm ns ∧ (qs.map fun p => p.2.2).Pairwise (leN g), ?_, ?_⟩
  ·
    refine ⟨_, rfl, a, rfl, ⟨_, sq_of ha1⟩, fun D nD => lc_pair (w := walk_list (K := K) (a := a) (xs := ns.map V.str)) (fun i => V.int (spotI (g (ns.getD i "")))) (fun i => V.str (ns.getD i "")) nD (by rw [List.length_map]; omega) (fun H5 e5 => sq_of (e5 _ _ ha1)) ?_ ?_⟩
    · rintro i y H5 H6 hi e5 ⟨ys, hys⟩ ⟨rfl, hy⟩
      obtain ⟨x, hx, rfl, eg⟩ := at_str hy
      refine ⟨Ex.refl _, _, tgt_name, rfl, yes, fun H7 e7 Q q => ⟨_, rfl, _, rfl, s, _, rfl, dget_nums ((Ex.trans e5 e7) _ _ hs1) (List.mem_of_getElem? hx), _, rfl, (by show 2 ≤ sizeLine; decide), fun t nt => q (.ref t) _ (Ex.new nt) ⟨⟨t, rfl, ?_⟩, fun w => ne_of_none (e7 _ _ hys) nt (V.ref.inj w).symm⟩⟩⟩
      show _ = some (HO.tup [V.int (spotI (g (ns.getD i ""))), V.str (ns.getD i "")])
      rw [upd_same, eg]
    · intro Ts H2 e2 h2 hTl hTs
      obtain ⟨ps, q1, q2, q3⟩ := pairs_of (g := fun y => spotI (g y)) (by rw [hTl, List.length_map]) hTs
      refine ⟨D, ps, rfl, sq_of (by rw [h2, q1]), fun p hp => st_of (q3 p hp).2, fun qs r hqp hqs nr => ⟨r, qs, rfl, (k1.ex e2).new nr, ⟨_, _, _, (Ex.trans e2 (Ex.new nr)) _ _ hdd1⟩, (Ex.trans e2 (Ex.new nr)) _ _ hs1, upd_same, fun p hp => ?_, by rw [← q2]; exact hqp.map _, rows_srt (fun p hp => (q3 p (hqp.mem_iff.mp hp)).1) hqs⟩⟩
      obtain ⟨h3, h4⟩ := q3 p (hqp.mem_iff.mp hp)
      exact ⟨upd_get h4 (ne_of_none h4 nr), h3⟩
  rintro σ2 H2 ⟨b, qs, rfl, k2, hd2, hs2, hb2, hq2, hperm, hsrt⟩
  obtain ⟨l3, m3, c3, hdd2⟩ := id hd2
  have ha2 := k2 _ _ (by simpa using nad) ha0
  have hbd : b ≠ d := fun w => by
    rw [w, hdd2] at hb2
    cases qs with
    | nil =>
      have := HO.lst.inj (Option.some.inj hb2)
      cases this
    | cons p r =>
      have := HO.lst.inj (Option.some.inj hb2)
      rw [List.map_cons] at this
      injection this with h1 _
      cases h1
  have hsd : s ≠ d := fun w => by
    rw [w, hdd2] at hs2
    cases hs2
  have hqd : ∀ p ∈ qs, p.1 ≠ d := fun p hp w => by
    have h1 := (hq2 p hp).1
    rw [w, hdd2] at h1
    cases h1
  have hql : qs.length ≤ 11 := by
    have := hperm.length_eq
    rw [List.length_map] at this
    omega
  have hqk : ∀ p ∈ qs, p.2.2 ∈ ns := fun p hp => hperm.mem_iff.mp (List.mem_map.mpr ⟨p, hp, rfl⟩)
  have hrl : (qs.map fun p => p.2.2).length ≤ 11 := by rw [List.length_map]; exact hql
  have hrok : ∀ x ∈ qs.map (fun p => p.2.2), PyData.strOk x = true := fun x hx => (hnok x (hperm.mem_iff.mp hx)).2
  generalize hrs : (qs.map fun p => p.2.2) = rs at hperm hsrt hrl hrok
  refine ⟨fun σ H' => ∃ (c : Addr) (As : List Ad), σ = [some (.ref d), some (.ref a), some z, some (.ref s), some (.ref b), some (.ref c), none, none, none, none, none, none, none, none] ∧ Kp [d] H2 H' ∧ DiceAt H' d ∧ H' c = some (.lst (tabVs As)) ∧ As.length = 3 ∧ TabsV K g d rs H' As, ?_, ?_⟩
  ·
    refine ⟨3, rfl, by decide, by decide, fun D nD => lc_it walk_range (fun i H' => ∃ As : List Ad, As.length = i ∧ Kp [d] H2 H' ∧ DiceAt H' d ∧ H' D = some (.lst (tabVs As)) ∧ TabsV K g d rs H' As ∧ ∀ A ∈ As, D ∉ A.own)
      ⟨[], rfl, (Kp.refl _ _).old nD, ⟨_, _, _, upd_get hdd2 (ne_of_none hdd2 nD)⟩, upd_same, fun A hA => (by cases hA), fun A hA => (by cases hA)⟩ (fun _ _ _ _ => trivial) ?_ ?_⟩
    · rintro i y H4 H5 hi ⟨As, hl, k4, hd4, hD4, hts, hDo⟩ ⟨rfl, rfl⟩
      have nDd : D ≠ d := (ne_of_none hdd2 nD).symm
      have ha4 := k4 _ _ (by simpa using nad) ha2
      refine ⟨rfl, _, rfl, _, rfl, _, rfl, d, a, z, ns, g, l, f, rfl, hd4, ha4, nad, hnd, hnl, hns, hz.imp (fun h => ⟨h.1, h.2.1⟩) id, hS, stdD (k2.trans k4), fun A T H6 hnew k6 hd6 tab inv perm vals => ?_⟩
      have hD6 := k6 _ _ (by simpa using nDd) hD4
      have hDA : D ∉ A.own := fun w => by
        have := hnew D w
        rw [hD4] at this
        cases this
      have hdA : d ∉ A.own := fun w => by
        obtain ⟨_, _, _, h⟩ := hd4
        have := hnew d w
        rw [h] at this
        cases this
      obtain ⟨l6, m6, c6, hdd6⟩ := id hd6
      have kD : Kp [D] H6 (upd H6 D (.lst (tabVs As ++ [.ref A.p]))) := (Kp.refl _ _).mut (by simp)
      refine ⟨tabVs As, hD6, ?_, As ++ [A], by rw [List.length_append, hl]; rfl, (k4.trans k6).old nD, ⟨_, _, _, upd_get hdd6 nDd.symm⟩, ?_, fun A' hA' => ?_, fun A' hA' => ?_⟩
      · have : (tabVs As).length = As.length := by unfold tabVs; rw [List.length_map]
        rw [this, hl]
        exact Nat.lt_of_lt_of_le hi (by decide)
      · rw [upd_same]
        unfold tabVs
        rw [List.map_append]
        rfl
      · rcases List.mem_append.mp hA' with w | w
        · obtain ⟨n, T', t, i', e, p, v⟩ := (hts.kp k6) A' w
          exact ⟨n, T', t.kp kD fun q hq w2 => hDo A' w (by rw [← List.mem_singleton.mp w2]; exact hq), i', e, p, v⟩
        · rw [List.mem_singleton.mp w]
          exact ⟨hdA, T, tab.kp kD fun q hq w2 => hDA (by rw [← List.mem_singleton.mp w2]; exact hq), inv, names_eq ((inv.perm.trans perm).trans hperm.symm) inv.srt hsrt, perm.trans hperm.symm, fun x hx => vals x (hperm.mem_iff.mp hx)⟩
      · rcases List.mem_append.mp hA' with w | w
        · exact hDo A' w
        · rw [List.mem_singleton.mp w]
          exact hDA
    · rintro H4 ⟨As, hl, k4, hd4, hD4, hts, _⟩
      exact ⟨D, As, rfl, k4, hd4, hD4, hl, hts⟩
  rintro σ3 H3 ⟨c, As, rfl, k3, hd3, hc3, hAl, hts3⟩
  obtain ⟨l4, m4, c4, hdd3⟩ := id hd3
  have hvl : (tabVs As).length = 3 := by unfold tabVs; rw [List.length_map]; exact hAl
  have hcd : c ≠ d := fun w => by
    rw [w, hdd3] at hc3
    have e := HO.lst.inj (Option.some.inj hc3)
    cases As with
    | nil => cases hAl
    | cons A r =>
      unfold tabVs at e
      rw [List.map_cons] at e
      injection e with h1 _
      cases h1
  have ha3 := k3 _ _ (by simpa using nad) ha2
  have hs3 := k3 _ _ (by simpa using hsd) hs2
  have hb3 := k3 _ _ (by simpa using hbd) hb2
  have hq3 : ∀ p ∈ qs, H3 p.1 = some (.tup [.int p.2.1, .str p.2.2]) := fun p hp => k3 _ _ (by simpa using hqd p hp) (hq2 p hp).1
  have tabAt : ∀ {i : Nat} {y : V}, (tabVs As)[i]? = some y → ∃ A, A ∈ As ∧ y = .ref A.p := fun {i y} h => by
    unfold tabVs at h
    rw [List.getElem?_map] at h
    obtain ⟨A, hA, rfl⟩ := Option.map_eq_some_iff.mp h
    exact ⟨A, List.mem_of_getElem? hA, rfl⟩
  obtain ⟨A0, hA0, hA0m⟩ : ∃ A0, (tabVs As)[0]? = some (.ref A0.p) ∧ A0 ∈ As := by
    cases As with
    | nil => cases hAl
    | cons A r => exact ⟨A, rfl, List.mem_cons_self⟩
  refine ⟨fun σ H' => ∃ v6 : Option V, σ = [some (.ref d), some (.ref a), some z, some (.ref s), some (.ref b), some (.ref c), v6, none, none, none, none, none, none, none] ∧ Ex H3 H', ?_, ?_⟩
  ·
    refine ⟨_, rfl, c, rfl, ⟨_, sq_of hc3⟩, for_list (K := K) (a := c) (xs := tabVs As) (fun i σ H' => ∃ v6 : Option V, σ = [some (.ref d), some (.ref a), some z, some (.ref s), some (.ref b), some (.ref c), v6, none, none, none, none, none, none, none] ∧ Ex H3 H')
      ⟨none, rfl, Ex.refl _⟩ (fun i σ H' _ ⟨_, _, e⟩ => sq_of (e _ _ hc3)) ?_ fun σ H' h => h⟩
    rintro i y σ H4 hi ⟨v6, rfl, e4⟩
    obtain ⟨A, hA, rfl⟩ := tabAt hi
    obtain ⟨_, T4, tab4, inv4, en4, pm4, vv4⟩ := (hts3.kp (Kp.of e4)) A hA
    refine ⟨_, rfl, A.p, _, _, rfl, tab4.ins, rfl, g, A, T4, rfl, tab4, fun t1 H5 e5 h5 => ⟨t1, _, rfl, .inr (st_of h5), fun x1 nx1 => ?_⟩⟩
    rw [en4]
    have hx1 : (upd H5 x1 (.lst (rs.map V.str))) x1 = some (.lst (rs.map V.str)) := upd_same
    have e6 : Ex H4 (upd H5 x1 (.lst (rs.map V.str))) := Ex.trans e5 (Ex.new nx1)
    generalize upd H5 x1 (.lst (rs.map V.str)) = H6 at hx1 e6
    have e36 := Ex.trans e4 e6
    refine ⟨_, rfl, b, rfl, ⟨_, sq_of (e36 _ _ hb3)⟩, fun D nD => lc_val (w := walk_list (K := K) (a := b) (xs := qs.map refIS)) (fun i => (fun _ : IS => true) (qs.getD i df)) (fun i => (fun p : IS => V.str p.2.2) (qs.getD i df)) nD (by rw [List.length_map]; omega) (fun H7 e7 => sq_of (e7 _ _ (e36 _ _ hb3))) ?_ ?_⟩
    · rintro i y H7 H8 hi e7 _ ⟨rfl, hy⟩
      obtain ⟨p, hp, rfl, eg⟩ := at_row df hy
      have hpt := (Ex.trans e36 e7) _ _ (hq3 p (List.mem_of_getElem? hp))
      rw [eg]
      exact ⟨Ex.refl _, _, tgt_pair (st_of hpt), rfl, yes, fun _ => ev_var rfl⟩
    intro H7 e7 h7
    rw [given_rows qs (fun _ => true) (fun p => V.str p.2.2) df, List.filter_eq_self.mpr fun _ _ => rfl] at h7
    have ers : (qs.map fun p => V.str p.2.2) = rs.map V.str := by rw [← hrs, List.map_map]; rfl
    rw [ers] at h7
    refine K7.ne_same (d := .list (strsD rs)) (n := 1) (.lst (sq_of (e7 _ _ hx1)) (dp_strs rs)) (.lst (sq_of h7) (dp_strs rs)) (K7.sh_list (sh_strs hrok 0)) ⟨_, rfl, iteF ?_⟩
    have e37 := Ex.trans e36 e7
    obtain ⟨_, T7, tab7, inv7, en7, pm7, vv7⟩ := (hts3.kp (Kp.of e37)) A hA
    obtain ⟨_, T8, tab8, inv8, en8, pm8, vv8⟩ := (hts3.kp (Kp.of e37)) A0 hA0m
    obtain ⟨eql, eqv⟩ := tabs_eq inv7 inv8 pm7 pm8 vv7 vv8
    refine ⟨_, rfl, _, rfl, c, _, 0, _, rfl, rfl, sq_of (e37 _ _ hc3), atI_nat (j := 0) hA0, A.p, A0.p, _, _, _, _, rfl, rfl, tab7.ins, tab8.ins, g, g, A, A0, T7, T8, rfl, tab7, tab8, eql, eqv, true, rfl, _, rfl, iteF ?_⟩
    refine ⟨_, rfl, A.p, _, _, rfl, tab7.ins, rfl, g, A, T7, lenV, rfl, tab7, inv7, fun x hx => vv7 x (pm7.mem_iff.mp hx), fun t9 H9 e9 h9 => ?_⟩
    rw [en7] at h9
    have e39 := Ex.trans e37 e9
    refine ⟨_, rfl, b, rfl, ⟨_, sq_of (e39 _ _ hb3)⟩, fun D2 nD2 => lc_obj (w := walk_list (K := K) (a := b) (xs := qs.map refIS)) (fun i => .tup [.str (qs.getD i df).2.2, lenV (qs.getD i df).2.2]) nD2 (by rw [List.length_map]; omega) (fun H7 e7 => sq_of (e7 _ _ (e39 _ _ hb3))) ?_ ?_⟩
    · rintro i y Ha Hb hi ea ⟨ys, hys⟩ ⟨rfl, hy⟩
      obtain ⟨p, hp, rfl, eg⟩ := at_row df hy
      have hpt := (Ex.trans e39 ea) _ _ (hq3 p (List.mem_of_getElem? hp))
      have hpo := hnok p.2.2 (hqk p (List.mem_of_getElem? hp))
      refine ⟨Ex.refl _, _, tgt_pair (st_of hpt), rfl, yes, fun Hc ec Q q => ⟨_, rfl, _, rfl, p.2.2, rfl, Nat.le_trans hpo.1.1 (by decide), (by show 2 ≤ sizeLine; decide), fun t nt => q (.ref t) _ (Ex.new nt) ⟨⟨t, rfl, ?_⟩, fun w => ne_of_none (ec _ _ hys) nt (V.ref.inj w).symm⟩⟩⟩
      show _ = some (HO.tup [V.str (qs.getD i df).2.2, lenV (qs.getD i df).2.2])
      rw [upd_same, eg]
      rfl
    intro Ts Ha ea ha hTl hTs
    rw [List.length_map] at hTl
    refine ⟨D2, _, rfl, .inl ⟨sq_of ha, fun u nu => ?_⟩⟩
    obtain ⟨Us, hu1, hu2, hu3⟩ := h9
    rw [List.length_map] at hu2
    have hrq : rs.length = qs.length := by rw [← hrs, List.length_map]
    have dpA : Dp K (upd Ha u (.tup (Ts.map V.ref))) (.ref t9) (.tuple (rs.map fun x => .tuple [.str x, .int ((x.length : Nat) : Int)])) := by
      refine .tup (st_of ((Ex.trans ea (Ex.new nu)) _ _ hu1)) (K7.dp_ix (by rw [List.length_map, List.length_map]; exact hu2) fun i v dd h1 h2 => ?_)
      rw [List.getElem?_map] at h1 h2
      obtain ⟨U, hU, rfl⟩ := Option.map_eq_some_iff.mp h1
      obtain ⟨x, hx, rfl⟩ := Option.map_eq_some_iff.mp h2
      exact .tup (st_of ((Ex.trans ea (Ex.new nu)) _ _ (hu3 i U (x, lenV x) hU (by rw [List.getElem?_map, hx]; rfl)))) (.cons (.str _) (.cons (.int _) .nil))
    have dpB : Dp K (upd Ha u (.tup (Ts.map V.ref))) (.ref u) (.tuple (rs.map fun x => .tuple [.str x, .int ((x.length : Nat) : Int)])) := by
      refine .tup (st_of upd_same) (K7.dp_ix (by rw [List.length_map, List.length_map, hTl, hrq]) fun i v dd h1 h2 => ?_)
      rw [List.getElem?_map] at h1 h2
      obtain ⟨U, hU, rfl⟩ := Option.map_eq_some_iff.mp h1
      obtain ⟨x, hx, rfl⟩ := Option.map_eq_some_iff.mp h2
      have h3 := hTs i U hU
      have hx2 : (qs.getD i df).2.2 = x := by
        rw [← hrs, List.getElem?_map] at hx
        obtain ⟨p, hp, rfl⟩ := Option.map_eq_some_iff.mp hx
        rw [List.getD_eq_getElem?_getD, hp]
        rfl
      rw [hx2] at h3
      exact .tup (st_of (upd_get h3 (ne_of_none h3 nu))) (.cons (.str _) (.cons (.int _) .nil))
    have shI : ShOk (.tuple (rs.map fun x => .tuple [.str x, .int ((x.length : Nat) : Int)])) 2 := K7.sh_tup fun dd hdd => by
      obtain ⟨x, hx, rfl⟩ := List.mem_map.mp hdd
      exact K7.sh_tup (n := 0) fun d2 hd2 => by
        rcases List.mem_cons.mp hd2 with w | w
        · rw [w]; exact K7.sh_str (hrok x hx) _
        · rw [List.mem_singleton.mp w]; exact K7.sh_int _ _
    refine K7.ne_same dpA dpB shI ⟨_, rfl, iteF ?_⟩
    have e3b := Ex.trans (Ex.trans e39 ea) (Ex.new (o := .tup (Ts.map V.ref)) nu)
    clear dpA dpB
    generalize upd Ha u (.tup (Ts.map V.ref)) = Hb at e3b
    obtain ⟨_, Tb_, tabb, invb, enb, pmb, vvb⟩ := (hts3.kp (Kp.of e3b)) A hA
    have hlenb : Tb_.vals.length = ns.length := by rw [← List.length_map (f := Prod.fst), invb.keys, pmb.length_eq, hperm.length_eq]
    refine ⟨_, rfl, A.p, _, _, rfl, tabb.ins, g, A, Tb_, rfl, tabb, _, rfl, by omega, by omega, _, rfl, a, _, rfl, .inl (sq_of (e3b _ _ ha3)), rfl, _, rfl, itN ?_ ?_⟩
    · rw [hlenb, List.length_map]
      simp
    refine ⟨_, rfl, _, rfl, g, A, Tb_, s, ns, rfl, tabb, invb, e3b _ _ hs3, pmb.trans hperm, hnl, fun Hc ec => ⟨true, rfl, iteF ⟨_, rfl, Ex.trans e3b ec⟩⟩⟩
  rintro σ4 H4 ⟨v6, rfl, e4⟩
  have hdd4 := e4 _ _ hdd3
  refine ⟨fun σ H' => ∃ (y : Addr) (cs : List Int), σ = [some (.ref d), some (.ref a), some z, some (.ref s), some (.ref b), some (.ref c), v6, some (.ref y), none, none, none, none, none, none] ∧ Kp [d] H3 H' ∧ DiceAt H' d ∧ H' y = some (.lst (cs.map V.int)) ∧ y ≠ d ∧ ∀ x ∈ cs, 0 ≤ x ∧ x ≤ 65535, ?_, ?_⟩
  ·
    refine ⟨_, rfl, d, 65536, rfl, by decide, by decide, ⟨_, _, _, hdd4⟩, fun r l5 m5 c5 h0 h1 => ⟨(by show 3 ≤ sizeLine; decide), fun x1 nx1 => ?_⟩⟩
    have k5 : Kp [d] H3 (upd H4 d (DiceL l5 m5 c5)) := (Kp.of e4).mut (by simp)
    have hdd5 : (upd H4 d (DiceL l5 m5 c5)) d = some (DiceL l5 m5 c5) := upd_same
    generalize upd H4 d (DiceL l5 m5 c5) = H5 at nx1 k5 hdd5
    have k6 : Kp [d] H3 (upd H5 x1 (.lst [.int 0, .int 65535, .int r])) := k5.new nx1
    have hdd6 := upd_get (o := .lst [.int 0, .int 65535, .int r]) hdd5 (ne_of_none hdd5 nx1)
    have hx6 : (upd H5 x1 (.lst [.int 0, .int 65535, .int r])) x1 = some (.lst [.int 0, .int 65535, .int r]) := upd_same
    generalize upd H5 x1 (.lst [.int 0, .int 65535, .int r]) = H6 at k6 hdd6 hx6
    have hb6 := k6 _ _ (by simpa using hbd) hb3
    refine ⟨_, rfl, 4, rfl, b, _, rfl, sq_of hb6, fun t nt => ?_⟩
    have ecut : cutV (qs.map refIS) none (some 4) = (qs.take 4).map refIS := by
      unfold cutV
      rw [HT.sIx_none, show (4 : Int) = ((4 : Nat) : Int) from rfl, HT.sIx_nat, List.drop_zero, Nat.sub_zero, List.map_take]
      rw [List.take_eq_take_iff]
      omega
    rw [ecut]
    have ht7 : (upd H6 t (.lst ((qs.take 4).map refIS))) t = some (.lst ((qs.take 4).map refIS)) := upd_same
    have e67 : Ex H6 (upd H6 t (.lst ((qs.take 4).map refIS))) := Ex.new nt
    generalize upd H6 t (.lst ((qs.take 4).map refIS)) = H7 at ht7 e67
    refine ⟨t, rfl, ⟨_, sq_of ht7⟩, fun D nD => lc_val (w := walk_list (K := K) (a := t) (xs := (qs.take 4).map refIS)) (fun i => (fun _ : IS => true) ((qs.take 4).getD i df)) (fun i => (fun p : IS => V.int p.2.1) ((qs.take 4).getD i df)) nD (by rw [List.length_map, List.length_take]; omega) (fun Ha ea => sq_of (ea _ _ ht7)) ?_ ?_⟩
    · rintro i y Ha Hb hi ea _ ⟨rfl, hy⟩
      obtain ⟨p, hp, rfl, eg⟩ := at_row df hy
      have hpm : p ∈ qs := List.mem_of_mem_take (List.mem_of_getElem? hp)
      have hpt := (Ex.trans e67 ea) _ _ (k6 _ _ (by simpa using hqd p hpm) (hq3 p hpm))
      rw [eg]
      exact ⟨Ex.refl _, _, tgt_pair (st_of hpt), rfl, yes, fun _ => ev_var rfl⟩
    intro H8 e8 h8
    rw [given_rows (qs.take 4) (fun _ => true) (fun p => V.int p.2.1) df, List.filter_eq_self.mpr fun _ _ => rfl] at h8
    have e68 := Ex.trans e67 e8
    refine ⟨x1, D, _, _, rfl, rfl, e68 _ _ hx6, h8, ?_, fun y ny => ⟨y, [0, 65535, r] ++ (qs.take 4).map (fun p => p.2.1), rfl, (k6.ex e68).new ny, ⟨_, _, _, upd_get (e68 _ _ hdd6) (ne_of_none (e68 _ _ hdd6) ny)⟩, ?_, (ne_of_none (e68 _ _ hdd6) ny).symm, fun x hx => ?_⟩⟩
    · rw [List.length_map, List.length_take]
      exact Nat.le_trans (show [V.int 0, V.int 65535, V.int r].length + min 4 qs.length ≤ 7 by show 3 + _ ≤ 7; omega) (by decide)
    · rw [upd_same, List.map_append, List.map_map]
      rfl
    · rcases List.mem_append.mp hx with w | w
      · simp only [List.mem_cons, List.not_mem_nil, or_false] at w
        rcases w with w | w | w <;> omega
      · obtain ⟨p, hp, rfl⟩ := List.mem_map.mp w
        rw [(hq2 p (List.mem_of_mem_take hp)).2]
        exact spot_range _
  rintro σ5 H5 ⟨y, cs, rfl, k5, hd5, hy5, hyd, hcs⟩
  refine ⟨fun σ H' => ∃ v8 v9 v10 : Option V, σ = [some (.ref d), some (.ref a), some z, some (.ref s), some (.ref b), some (.ref c), v6, some (.ref y), v8, v9, v10, none, none, none] ∧ Kp [d] H5 H' ∧ DiceAt H' d, ?_, ?_⟩
  ·
    refine ⟨_, rfl, y, rfl, ⟨_, sq_of hy5⟩, for_list (K := K) (a := y) (xs := cs.map V.int) (fun i σ H' => ∃ v8 v9 v10 : Option V, σ = [some (.ref d), some (.ref a), some z, some (.ref s), some (.ref b), some (.ref c), v6, some (.ref y), v8, v9, v10, none, none, none] ∧ Kp [d] H5 H' ∧ DiceAt H' d)
      ⟨none, none, none, rfl, Kp.refl _ _, hd5⟩ (fun i σ H' _ ⟨_, _, _, _, k, _⟩ => sq_of (k _ _ (by simpa using hyd) hy5)) ?_ fun σ H' h => h⟩
    rintro i yv σ H6 hi ⟨v8, v9, v10, rfl, k6, hd6⟩
    obtain ⟨cur, hcur, rfl⟩ : ∃ cur, cur ∈ cs ∧ yv = V.int cur := by
      rw [List.getElem?_map] at hi
      obtain ⟨x, hx, rfl⟩ := Option.map_eq_some_iff.mp hi
      exact ⟨x, List.mem_of_getElem? hx, rfl⟩
    obtain ⟨cur0, cur1⟩ := hcs cur hcur
    obtain ⟨l6, m6, c6, hdd6⟩ := id hd6
    refine ⟨_, rfl, (by show 5 ≤ sizeLine; decide), fun x1 nx1 => ⟨d, x1, _, rfl, sq_of upd_same, (ne_of_none hdd6 nx1).symm, (by show 0 < 5; decide), (by show 5 < 1000000; decide), ⟨_, _, _, upd_get hdd6 (ne_of_none hdd6 nx1)⟩, fun j v l7 m7 c7 hv => ?_⟩⟩
    obtain ⟨cnt, rfl, cnt1, cnt2⟩ : ∃ cnt : Int, v = V.int cnt ∧ 1 ≤ cnt ∧ cnt ≤ 1000 := by
      have hm := List.mem_of_getElem? hv
      simp only [List.mem_cons, List.not_mem_nil, or_false] at hm
      rcases hm with w | w | w | w | w
      · exact ⟨1, w, by decide, by decide⟩
      · exact ⟨1, w, by decide, by decide⟩
      · exact ⟨2, w, by decide, by decide⟩
      · exact ⟨3, w, by decide, by decide⟩
      · exact ⟨1000, w, by decide, by decide⟩
    have k7 : Kp [d] H5 (upd (upd H6 x1 (.lst [.int 1, .int 1, .int 2, .int 3, .int 1000])) d (DiceL l7 m7 c7)) := (k6.new nx1).mut (by simp)
    have hdd7 : (upd (upd H6 x1 (.lst [.int 1, .int 1, .int 2, .int 3, .int 1000])) d (DiceL l7 m7 c7)) d = some (DiceL l7 m7 c7) := upd_same
    generalize upd (upd H6 x1 (.lst [.int 1, .int 1, .int 2, .int 3, .int 1000])) d (DiceL l7 m7 c7) = H7 at k7 hdd7
    have k37 := k5.trans k7
    have hb7 := k37 _ _ (by simpa using hbd) hb3
    refine ⟨_, rfl, _, rfl, _, rfl, b, qs, (fun x => spotI (g x)), cur, cnt, rfl, hb7, fun p hp => ⟨k37 _ _ (by simpa using hqd p hp) (hq3 p hp), (hq2 p hp).2, (hnok _ (hqk p hp)).2⟩, by omega, cnt1, fun t8 H8 e8 h8 => ?_⟩
    rw [hrs] at h8
    have k38 := k37.ex e8
    have hc8 := k38 _ _ (by simpa using hcd) hc3
    have hts8 := hts3.kp k38
    refine ⟨_, rfl, c, rfl, ⟨_, sq_of hc8⟩, fun D nD => lc_val (w := walk_list (K := K) (a := c) (xs := tabVs As)) (fun _ => false) (fun _ => .non) nD (by rw [hvl]; omega) (fun Ha ea => sq_of (ea _ _ hc8)) ?_ ?_⟩
    · rintro i' yv Ha Hb hi' ea _ ⟨rfl, hy⟩
      obtain ⟨A, hA, rfl⟩ := tabAt hy
      refine ⟨Ex.refl _, _, tgt_name, rfl, fun Hc ec Q q => ?_, fun w => (by cases w)⟩
      obtain ⟨_, T9, tab9, inv9, en9, _, _⟩ := (hts8.kp (Kp.of (Ex.trans ea ec))) A hA
      refine ⟨_, rfl, A.p, _, _, rfl, tab9.ins, rfl, _, rfl, _, rfl, g, A, T9, cur, cnt, rfl, tab9, inv9, cur0, cur1, cnt1, cnt2, fun t9 H9 e9 h9 => ⟨_, rfl, ?_⟩⟩
      rw [en9] at h9
      have h89 := ((h8.ex ea).ex ec).ex e9
      obtain ⟨u1, hu1, hu2⟩ := h9
      obtain ⟨u2, hu3, hu4⟩ := h89
      have hsok : ∀ x ∈ (scanF (fun x => spotI (g x)) rs cur cnt).2, PyData.strOk x = true := fun x hx => by
        refine hrok x ?_
        unfold scanF at hx
        split at hx
        · cases hx
        · exact (List.mem_filter.mp (List.mem_filter.mp hx).1).1
      refine K7.ne_same (d := .tuple [.int (scanF (fun x => spotI (g x)) rs cur cnt).1, .tuple (strsD (scanF (fun x => spotI (g x)) rs cur cnt).2)]) (n := 2) (.tup (st_of hu1) (.cons (.int _) (.cons (.tup (st_of hu2) (dp_strs _)) .nil))) (.tup (st_of hu3) (.cons (.int _) (.cons (.tup (st_of hu4) (dp_strs _)) .nil))) (K7.sh_tup fun dd hdd => ?_) ⟨_, rfl, q H9 e9⟩
      rcases List.mem_cons.mp hdd with w | w
      · rw [w]; exact K7.sh_int _ _
      · rw [List.mem_singleton.mp w]; exact K7.sh_tup (sh_strs hsok 0)
    intro Ha ea ha
    have eg : given (tabVs As).length (fun _ => false) (fun _ => V.non) = [] := by
      unfold given
      rw [List.filter_eq_nil_iff.mpr (fun x _ => by simp)]
      rfl
    rw [eg] at ha
    refine ⟨Nat.zero_le _, fun q nq => ne_nil (ds := []) (n := 0) (sq_of (upd_get ha (ne_of_none ha nq))) .nil (fun d hd => by cases hd) upd_same ⟨_, rfl, iteF ⟨_, _, _, rfl, ((k7.ex e8).ex ea).new nq, ?_⟩⟩⟩
    have h9 := (Ex.trans e8 ea) _ _ hdd7
    exact ⟨_, _, _, upd_get h9 (ne_of_none h9 nq)⟩
  rintro σ6 H6 ⟨v8, v9, v10, rfl, k6, hd6⟩
  obtain ⟨l6, m6, c6, hdd6⟩ := id hd6
  have k36 := k5.trans k6
  have ha6 := k36 _ _ (by simpa using nad) ha3
  refine ⟨fun σ H' => σ = [some (.ref d), some (.ref a), some z, some (.ref s), some (.ref b), some (.ref c), v6, some (.ref y), v8, v9, v10, none, none, none] ∧ Ex H6 H', ?_, ?_⟩
  ·
    refine ⟨_, rfl, a, rfl, ⟨_, sq_of ha6⟩, fun D nD => lc_val (w := walk_list (K := K) (a := a) (xs := ns.map V.str)) (fun _ => false) (fun _ => .non) nD (by rw [List.length_map]; omega) (fun Ha ea => sq_of (ea _ _ ha6)) ?_ ?_⟩
    · rintro i' yv Ha Hb hi' ea _ ⟨rfl, hy⟩
      obtain ⟨x, hx, rfl, _⟩ := at_str hy
      have hxo := hnok x (List.mem_of_getElem? hx)
      refine ⟨Ex.refl _, _, tgt_name, rfl, fun Hc ec Q q => ?_, fun w => (by cases w)⟩
      refine ⟨_, rfl, x, rfl, hxo.1, fun H9 e9 => ⟨_, rfl, x, rfl, rfl, _, rfl, ?_⟩⟩
      rw [show (!decide (V.int (hashT x) = V.int (hashT x))) = false by simp]
      exact q H9 e9
    intro Ha ea ha
    have eg : given (ns.map V.str).length (fun _ => false) (fun _ => V.non) = [] := by
      unfold given
      rw [List.filter_eq_nil_iff.mpr (fun x _ => by simp)]
      rfl
    rw [eg] at ha
    exact ⟨Nat.zero_le _, fun q nq => ne_nil (ds := []) (n := 0) (sq_of (upd_get ha (ne_of_none ha nq))) .nil (fun d hd => by cases hd) upd_same ⟨_, rfl, iteF ⟨rfl, Ex.trans ea (Ex.new nq)⟩⟩⟩
  rintro σ7 H7 ⟨rfl, e7⟩
  have ha7 := e7 _ _ ha6
  refine ⟨fun σ H' => σ = [some (.ref d), some (.ref a), some z, some (.ref s), some (.ref b), some (.ref c), v6, some (.ref y), v8, v9, v10, none, none, none] ∧ Ex H7 H', ?_, ?_⟩
  ·
    refine ⟨_, rfl, a, rfl, ⟨_, sq_of ha7⟩, fun D nD => lc_val (w := walk_list (K := K) (a := a) (xs := ns.map V.str)) (fun _ => false) (fun _ => .non) nD (by rw [List.length_map]; omega) (fun Ha ea => sq_of (ea _ _ ha7)) ?_ ?_⟩
    · rintro i' yv Ha Hb hi' ea _ ⟨rfl, hy⟩
      obtain ⟨x, hx, rfl, _⟩ := at_str hy
      have hxo := hnok x (List.mem_of_getElem? hx)
      refine ⟨Ex.refl _, _, tgt_name, rfl, fun Hc ec Q q => ?_, fun w => (by cases w)⟩
      refine ⟨_, rfl, x, rfl, hxo.1, fun H9 e9 => ⟨_, rfl, x, rfl, hashT x, rfl, rfl, _, rfl, ?_⟩⟩
      rw [show (!decide (V.int (spotI (hashT x)) = V.int (spotI (hashT x)))) = false by simp]
      exact q H9 e9
    intro Ha ea ha
    have eg : given (ns.map V.str).length (fun _ => false) (fun _ => V.non) = [] := by
      unfold given
      rw [List.filter_eq_nil_iff.mpr (fun x _ => by simp)]
      rfl
    rw [eg] at ha
    exact ⟨Nat.zero_le _, fun q nq => ne_nil (ds := []) (n := 0) (sq_of (upd_get ha (ne_of_none ha nq))) .nil (fun d hd => by cases hd) upd_same ⟨_, rfl, iteF ⟨rfl, Ex.trans ea (Ex.new nq)⟩⟩⟩
  rintro σ8 H8 ⟨rfl, e8⟩
  have e68 := Ex.trans e7 e8
  have k38 := k36.ex e68
  refine ⟨_, rfl, _, rfl, _, rfl, d, c, b, g, rs, As, qs, rfl, ⟨_, _, _, e68 _ _ hdd6⟩, k38 _ _ (by simpa using hcd) hc3, (hts3.kp k38).of, fun w => (by rw [w] at hAl; cases hAl), by omega, k38 _ _ (by simpa using hbd) hb3, fun p hp => k38 _ _ (by simpa using hqd p hp) (hq3 p hp), hrs, hrl, hrok, fun H' k' hd' => ?_⟩
  have kF : Kp [d] H0 H' := ((k2.trans k3).trans k38).trans k'
  exact k H' (kn0.trans (KpN.of kF)) (Tabs.kp T0 kF fun q hq => by
    rw [List.mem_singleton.mp hq, hdd0]
    exact ⟨fun ps w => (by cases w), fun φ w => (by cases w)⟩)
end
end K70
set_option Elab.async false
set_option linter.all false
set_option maxRecDepth 100000
set_option maxHeartbeats 4000000
namespace K70
open PySem PySem.Spec PyProof.Rows L2 Evl
open C8 (Cal Met Mak pe_c pe_mt pe_mt0 pe_mk pe_gc InsC call_isC)
open LamX (Tabs)
open K7 (lc_pair IsPair HeldF FnH held_def Kp ShOk upd_get eq_nil ne_nil dp_strs sh_strs strsD lc_val lc_ev lc_obj tgt_name tgt_pair given_filter EvP refIS IS)
theorem sq_kpn {K : PySem.W.Frag} {H H' : Hp} {a : Addr} {xs : List V} (h : SqL K H a xs) (k : KpN [] H H') : SqL K H' a xs :=
  h.elim (fun h => .inl (h.elim (fun h => .inl (k _ _ (by simp) (fun ps z => by cases z) h)) fun ⟨o, h⟩ => .inr ⟨o, k _ _ (by simp) (fun ps z => by cases z) h⟩)) .inr
def sp_law (K : PySem.W.Frag) (Pt : Addr) : Sp := fun vs H Q _ => ∃ (a : Addr) (ns : List Int), vs = [.ref a] ∧ SqL K H a (ns.map V.int) ∧ ns.length ≤ 63 ∧ Tabs (Tl Pt) H ∧ ∀ H', Q (.bl true) H'
section
variable {P : Program} {w : World} {K : PySem.W.Frag} {mg : Str → Option Value} {base : Heap} {Pt : Addr}
theorem ok_law {f : Addr} {fd : FuncData} {dvs : List V} (F : FunD K "law" "law" (defArgs s_law) (defBody s_law) (defScope s_law) dvs [] f fd) (T : Txt K mg)
    (c_law_right : Cal P w K mg base 6 "_law_right" (sp_law_right Pt) [])
    (c_law_dice : Cal P w K mg base 1 "_law_dice" (sp_law_dice K) []) :
    FnOk P w K mg base CX0 7 f fd ["script"] (sp_law K Pt) := by
  have nd := sc_law.nd
  refine ok0 F sc_law (fun vs H Q E h => by
    obtain ⟨a, ns, rfl, sq, hl, hT, k⟩ := h
    rfl) (fun cdv A outer s H vs Q E hr h => ?_)
  obtain ⟨a, ns, rfl, sq, hl, hT, k⟩ := h
  refine ⟨_, (pss_cons (ps_for PassesOwn.never rfl (pi_range1 (by rfl) T.b_range (pa_cons (pe_callB (call_max2 rfl) (by rfl) T.b_max bt_max (pa_cons pe_int (pa_cons (pe_callB (call_min2 rfl) (by rfl) T.b_min bt_min (pa_cons pe_int (pa_cons (pe_callB (K7.call_lenK (K := K) rfl) (by rfl) T.b_len bt_len (pa_cons (pv 0) pa_nil)) pa_nil))) pa_nil))) pa_nil)) (pg_name (i := 1) nd rfl (Or.inl rfl)) (pss_one (ps_if (pt_not (pt_val (pe_c c_law_right hr (by decide) (by rfl) (pa_cons (pe_c c_law_dice hr (by decide) (by rfl) (pa_cons (pv 0) (pa_cons (pv 1) pa_nil))) pa_nil)))) (pss_one (ps_ret pe_bl)) pss_nil)))
     (pss_one (ps_ret pe_bl))), ?_⟩
  obtain ⟨n, hn, en⟩ : ∃ n : Nat, n ≤ 10 ∧ (if (if ((ns.map V.int).length : Int) < 3 then ((ns.map V.int).length : Int) else 3) > 1 then (if ((ns.map V.int).length : Int) < 3 then ((ns.map V.int).length : Int) else 3) else 1) = (n : Int) := by
    refine ⟨(if (if ((ns.map V.int).length : Int) < 3 then ((ns.map V.int).length : Int) else 3) > 1 then (if ((ns.map V.int).length : Int) < 3 then ((ns.map V.int).length : Int) else 3) else 1).toNat, ?_, ?_⟩
    · split <;> split at * <;> omega
    · split <;> split at * <;> omega
  refine ⟨_, rfl, a, _, rfl, .inl sq, _, _, rfl, _, _, rfl, ?_⟩
  rw [en]
  refine ⟨n, rfl, by omega, by omega, for_range (lo := 0) (n := (n : Int).toNat) (fun i σ H' => ∃ v1 : Option V, σ = [some (.ref a), v1] ∧ SqL K H' a (ns.map V.int) ∧ Tabs (Tl Pt) H') ⟨none, rfl, sq, hT⟩ ?_ ?_⟩
  · rintro i σ H1 hi ⟨v1, rfl, sq1, hT1⟩
    have hi' : i < n := by simpa using hi
    refine ⟨_, rfl, _, rfl, a, ns, i, (by rw [Int.zero_add]; rfl), sq1, by omega, fun p l m np => ⟨p, rfl, ⟨l, m, 0, upd_same⟩, hT1.ext (Ex.new np), fun H2 kn hT2 => ⟨true, rfl, itN rfl ⟨_, rfl, sq_kpn sq1 fun b o _ n h => ?_, hT2⟩⟩⟩⟩
    exact kn b o (fun w => ne_of_none h np (List.mem_singleton.mp w)) n (upd_get h (ne_of_none h np))
  · rintro σ H1 ⟨v1, rfl, sq1, hT1⟩
    exact k _
end
end K70
set_option Elab.async false
set_option linter.all false
set_option maxRecDepth 100000
set_option maxHeartbeats 0
namespace K70
open PySem PySem.Spec PyProof.Rows L2
open C8 (Cal Met Mak InsC)
theorem cal0' {P : Program} {w : World} {K : PySem.W.Frag} {mg : Str → Option Value} {base : Heap} {k : Nat} {x qual : Str} {pa : Arguments} {bd : List Stmt} {sc : Scope} {f : Addr} {fd : FuncData} {ps : List Str} {sp : Sp} (F : FunD K x qual pa bd sc [] [] f fd) (ok : FnOk P w K mg base CX0 k f fd ps sp) (hm : mg x = some (.ref f)) (b : Binds K fd ps []) : Cal P w K mg base k x sp [] := ⟨f, fd, ps, [], ok, hm, F.kp, b, .nil⟩
abbrev C0 : Str := "Table"
def d_is_integer : He.DefD := ⟨("is_integer", none), "is_integer", "is_integer", defArgs s_is_integer, defBody s_is_integer, defScope s_is_integer, [], []⟩
def d_is_within : He.DefD := ⟨("is_within", none), "is_within", "is_within", defArgs s_is_within, defBody s_is_within, defScope s_is_within, [], []⟩
def d_is_text : He.DefD := ⟨("is_text", none), "is_text", "is_text", defArgs s_is_text, defBody s_is_text, defScope s_is_text, [], []⟩
def d_require_text : He.DefD := ⟨("require_text", none), "require_text", "require_text", defArgs s_require_text, defBody s_require_text, defScope s_require_text, [], []⟩
def d_hash_in : He.DefD := ⟨("hash_in", none), "hash_in", "hash_in", defArgs s_hash_in, defBody s_hash_in, defScope s_hash_in, [], []⟩
def d_turned_bits : He.DefD := ⟨("turned_bits", none), "turned_bits", "turned_bits", defArgs s_turned_bits, defBody s_turned_bits, defScope s_turned_bits, [], []⟩
def d_spot_in : He.DefD := ⟨("spot_in", none), "spot_in", "spot_in", defArgs s_spot_in, defBody s_spot_in, defScope s_spot_in, [], []⟩
def d_require_below : He.DefD := ⟨("require_below", none), "require_below", "require_below", defArgs s_require_below, defBody s_require_below, defScope s_require_below, [], []⟩
def d_hash_of : He.DefD := ⟨("hash_of", none), "hash_of", "hash_of", defArgs s_hash_of, defBody s_hash_of, defScope s_hash_of, [], []⟩
def d_spot_of : He.DefD := ⟨("spot_of", none), "spot_of", "spot_of", defArgs s_spot_of, defBody s_spot_of, defScope s_spot_of, [], []⟩
def d_bucket_spots : He.DefD := ⟨("bucket_spots", none), "bucket_spots", "bucket_spots", defArgs s_bucket_spots, defBody s_bucket_spots, defScope s_bucket_spots, [], []⟩
def d_buckets_above : He.DefD := ⟨("buckets_above", none), "buckets_above", "buckets_above", defArgs s_buckets_above, defBody s_buckets_above, defScope s_buckets_above, [], []⟩
def d_buckets_for : He.DefD := ⟨("buckets_for", none), "buckets_for", "buckets_for", defArgs s_buckets_for, defBody s_buckets_for, defScope s_buckets_for, [], []⟩
def d_empty_buckets : He.DefD := ⟨("empty_buckets", none), "empty_buckets", "empty_buckets", defArgs s_empty_buckets, defBody s_empty_buckets, defScope s_empty_buckets, [], []⟩
def d_without_name : He.DefD := ⟨("without_name", none), "without_name", "without_name", defArgs s_without_name, defBody s_without_name, defScope s_without_name, [], []⟩
def d_Table_d_init : He.DefD := ⟨("Table", some "__init__"), "__init__", "Table.__init__", defArgs s_Table_d_init, defBody s_Table_d_init, defScope s_Table_d_init, [.non], []⟩
def d_Table_move_on : He.DefD := ⟨("Table", some "move_on"), "move_on", "Table.move_on", defArgs s_Table_move_on, defBody s_Table_move_on, defScope s_Table_move_on, [], []⟩
def d_Table_begin_move : He.DefD := ⟨("Table", some "begin_move"), "begin_move", "Table.begin_move", defArgs s_Table_begin_move, defBody s_Table_begin_move, defScope s_Table_begin_move, [], []⟩
def d_Table_put_new : He.DefD := ⟨("Table", some "put_new"), "put_new", "Table.put_new", defArgs s_Table_put_new, defBody s_Table_put_new, defScope s_Table_put_new, [], []⟩
def d_Table_put : He.DefD := ⟨("Table", some "put"), "put", "Table.put", defArgs s_Table_put, defBody s_Table_put, defScope s_Table_put, [], []⟩
def d_Table_get : He.DefD := ⟨("Table", some "get"), "get", "Table.get", defArgs s_Table_get, defBody s_Table_get, defScope s_Table_get, [.non], []⟩
def d_Table_take : He.DefD := ⟨("Table", some "take"), "take", "Table.take", defArgs s_Table_take, defBody s_Table_take, defScope s_Table_take, [.non], []⟩
def d_Table_scan : He.DefD := ⟨("Table", some "scan"), "scan", "Table.scan", defArgs s_Table_scan, defBody s_Table_scan, defScope s_Table_scan, [], []⟩
def d_Table_all_names : He.DefD := ⟨("Table", some "all_names"), "all_names", "Table.all_names", defArgs s_Table_all_names, defBody s_Table_all_names, defScope s_Table_all_names, [], []⟩
def d_Table_all_items : He.DefD := ⟨("Table", some "all_items"), "all_items", "Table.all_items", defArgs s_Table_all_items, defBody s_Table_all_items, defScope s_Table_all_items, [], []⟩
def d_Table_counts : He.DefD := ⟨("Table", some "counts"), "counts", "Table.counts", defArgs s_Table_counts, defBody s_Table_counts, defScope s_Table_counts, [], []⟩
def d_Table_rows : He.DefD := ⟨("Table", some "rows"), "rows", "Table.rows", defArgs s_Table_rows, defBody s_Table_rows, defScope s_Table_rows, [], []⟩
def d_Table_d_len : He.DefD := ⟨("Table", some "__len__"), "__len__", "Table.__len__", defArgs s_Table_d_len, defBody s_Table_d_len, defScope s_Table_d_len, [], []⟩
def d_Table_d_eq : He.DefD := ⟨("Table", some "__eq__"), "__eq__", "Table.__eq__", defArgs s_Table_d_eq, defBody s_Table_d_eq, defScope s_Table_d_eq, [], []⟩
def d_scanned_names : He.DefD := ⟨("scanned_names", none), "scanned_names", "scanned_names", defArgs s_scanned_names, defBody s_scanned_names, defScope s_scanned_names, [], []⟩
def d_law_dice : He.DefD := ⟨("_law_dice", none), "_law_dice", "_law_dice", defArgs s_law_dice, defBody s_law_dice, defScope s_law_dice, [], []⟩
def d_law_roll : He.DefD := ⟨("_law_roll", none), "_law_roll", "_law_roll", defArgs s_law_roll, defBody s_law_roll, defScope s_law_roll, [], []⟩
def d_law_one_of : He.DefD := ⟨("_law_one_of", none), "_law_one_of", "_law_one_of", defArgs s_law_one_of, defBody s_law_one_of, defScope s_law_one_of, [], []⟩
def d_law_mixed : He.DefD := ⟨("_law_mixed", none), "_law_mixed", "_law_mixed", defArgs s_law_mixed, defBody s_law_mixed, defScope s_law_mixed, [], []⟩
def d_law_spot_of : He.DefD := ⟨("_law_spot_of", none), "_law_spot_of", "_law_spot_of", defArgs s_law_spot_of, defBody s_law_spot_of, defScope s_law_spot_of, [], []⟩
def d_law_hash : He.DefD := ⟨("_law_hash", none), "_law_hash", "_law_hash", defArgs s_law_hash, defBody s_law_hash, defScope s_law_hash, [], []⟩
def d_law_names : He.DefD := ⟨("_law_names", none), "_law_names", "_law_names", defArgs s_law_names, defBody s_law_names, defScope s_law_names, [], []⟩
def d_law_spread : He.DefD := ⟨("_law_spread", none), "_law_spread", "_law_spread", defArgs s_law_spread, defBody s_law_spread, defScope s_law_spread, [], []⟩
def d_law_table_with : He.DefD := ⟨("_law_table_with", none), "_law_table_with", "_law_table_with", defArgs s_law_table_with, defBody s_law_table_with, defScope s_law_table_with, [], []⟩
def d_law_scanned : He.DefD := ⟨("_law_scanned", none), "_law_scanned", "_law_scanned", defArgs s_law_scanned, defBody s_law_scanned, defScope s_law_scanned, [], []⟩
def d_law_buckets_right : He.DefD := ⟨("_law_buckets_right", none), "_law_buckets_right", "_law_buckets_right", defArgs s_law_buckets_right, defBody s_law_buckets_right, defScope s_law_buckets_right, [], []⟩
def d_law_journey_right : He.DefD := ⟨("_law_journey_right", none), "_law_journey_right", "_law_journey_right", defArgs s_law_journey_right, defBody s_law_journey_right, defScope s_law_journey_right, [], []⟩
def d_law_right : He.DefD := ⟨("_law_right", none), "_law_right", "_law_right", defArgs s_law_right, defBody s_law_right, defScope s_law_right, [], []⟩
def d_law : He.DefD := ⟨("law", none), "law", "law", defArgs s_law, defBody s_law, defScope s_law, [], []⟩
def fn : List He.DefD := [d_is_integer, d_is_within, d_is_text, d_require_text, d_hash_in, d_turned_bits, d_spot_in, d_require_below, d_hash_of, d_spot_of, d_bucket_spots, d_buckets_above, d_buckets_for, d_empty_buckets, d_without_name, d_Table_d_init, d_Table_move_on, d_Table_begin_move, d_Table_put_new, d_Table_put, d_Table_get, d_Table_take, d_Table_scan, d_Table_all_names, d_Table_all_items, d_Table_counts, d_Table_rows, d_Table_d_len, d_Table_d_eq, d_scanned_names, d_law_dice, d_law_roll, d_law_one_of, d_law_mixed, d_law_spot_of, d_law_hash, d_law_names, d_law_spread, d_law_table_with, d_law_scanned, d_law_buckets_right, d_law_journey_right, d_law_right, d_law]
def fa : List He.Fa := [.free "abs", .free "all", .free "bool", .free "dict", .free "enumerate", .free "int", .free "isinstance", .free "len", .free "list", .free "max", .free "min", .free "ord", .free "range", .free "sorted", .free "str", .free "tuple", .int "MAX_TEXT" 200, .int "HASH_BITS" 16, .int "LEAST_BUCKETS" 4, .int "MOST_BUCKETS" 65536, .int "MOST_COUNT" 1000, .int "LAST_SPOT" 65535, .glo "is_integer", .glo "is_within", .glo "is_text", .glo "require_text", .glo "hash_in", .glo "turned_bits", .glo "spot_in", .glo "require_below", .glo "hash_of", .glo "spot_of", .glo "bucket_spots", .glo "buckets_above", .glo "buckets_for", .glo "empty_buckets", .glo "without_name", .glo "scanned_names", .glo "_law_dice", .glo "_law_roll", .glo "_law_one_of", .glo "_law_mixed", .glo "_law_spot_of", .glo "_law_hash", .glo "_law_names", .glo "_law_spread", .glo "_law_table_with", .glo "_law_scanned", .glo "_law_buckets_right", .glo "_law_journey_right", .glo "_law_right", .glo "law", .glo "Table", .cls "Table", .noat "Table" "own_spread", .noat "Table" "own_values", .noat "Table" "own_hashes", .noat "Table" "own_spots", .noat "Table" "own_names", .noat "Table" "own_old", .noat "Table" "own_new", .noat "Table" "own_moved", .mkr "Table", .meth "Table" "move_on", .meth "Table" "begin_move", .meth "Table" "put_new", .meth "Table" "put", .meth "Table" "get", .meth "Table" "take", .meth "Table" "scan", .meth "Table" "all_names", .meth "Table" "all_items", .meth "Table" "counts", .meth "Table" "rows", .meth "Table" "__len__", .meth "Table" "__eq__"]
def ex (K : PySem.W.Frag) : Bool := He.eqO (PySem.W.findIn K (.ref (He.ga K "Table")) "__class__") (some (some (.builtin "object.__class__"))) && (He.eqO (PySem.W.specialIn K (.builtin "object.__class__") "__get__") (some (some (.builtin "getset_descriptor.__get__"))) && (decide (PySem.W.takesIn K (.builtin "object.__class__") = some true) && (decide (PySem.W.mroIn K (He.ga K "Table") (.type "object") = some true) && (decide (PySem.W.kitOne K (.ref (He.ga K "Table")) (.ref (He.ga K "Table")) = some true) && He.eqO (PySem.W.findIn K (.ref (He.ga K "Table")) "__ne__") (some (some (.builtin "object.__ne__")))))))
theorem ex_ok {K : PySem.W.Frag} (h : ex K = true) (c : Cls K (He.ga K "Table")) : InsC K (He.ga K "Table") ∧ PySem.W.findIn K (.ref (He.ga K "Table")) "__ne__" = some (some (.builtin "object.__ne__")) := by
  obtain ⟨h1, h⟩ := He.ba h
  obtain ⟨h2, h⟩ := He.ba h
  obtain ⟨h3, h⟩ := He.ba h
  obtain ⟨h4, h⟩ := He.ba h
  obtain ⟨h5, h6⟩ := He.ba h
  exact ⟨⟨c, He.eqO_ok h1, He.eqO_ok h2, of_decide_eq_true h3, of_decide_eq_true h4, of_decide_eq_true h5⟩, He.eqO_ok h6⟩
abbrev R : PySem.W.OpenRow := PySem.W.OpenLaw.row PySem.Challenge.rw_deedline_k70_whole_tables_with_the_same
def tf : List He.Defn := [("_law_spread", none)]
abbrev hk : PySem.W.Hook := He.hookX 5 fa fn [] tf ex
def ob (s : PySem.W.SharedT) : He.AlX := He.obsX 5 fa fn [] tf ex (HandSHeadRun.getT s)
theorem ob_eq (s : PySem.W.SharedT) : ob s = hk.obs s.abs := He.obsX_eq (HandSHeadRun.getT_eq s)
def loose0 : List PySem.Str := ["_wall", "__name__", "DeedError", "InvalidText", "InvalidNumber", "MAX_TEXT", "is_integer", "is_within", "is_text", "require_text", "HASH_BITS", "hash_in", "turned_bits", "spot_in", "require_below", "hash_of", "spot_of", "bucket_spots", "LEAST_BUCKETS", "MOST_BUCKETS", "MOST_COUNT", "LAST_SPOT", "buckets_above", "buckets_for", "empty_buckets", "without_name", "Table", "scanned_names", "_law_dice", "_law_roll"]
def loose1 : List PySem.Str := ["_law_one_of", "_law_mixed", "_law_spot_of", "_law_hash", "_law_names", "_law_spread", "_law_table_with", "_law_scanned", "_law_buckets_right", "_law_journey_right", "_law_right"]
abbrev loose : List PySem.Str := loose0 ++ loose1
theorem run (w : World) : HandSHeadRun.RunEq R (PySem.W.view R.prog [45]) hk ob 8000 loose w := by
  intro os
  kernel_rfl
end K70
set_option Elab.async false
set_option linter.all false
set_option maxRecDepth 100000
set_option maxHeartbeats 0
namespace K70
open PySem PySem.Spec PyProof.Rows L2
open C8 (Cal Met Mak InsC)
theorem facts {P : Program} {w : World} {K : PySem.W.Frag} {h : Heap} {mg : Str → Option Value} (X : K.In h) (G : h.Ns mainGlobals mg) (c : He.SaysX fa fn [] tf ex w h K) :
    ∃ fd : FuncData, (∀ (s : Shared) (v : Value), BindsTo s fd ⟨[v], []⟩ [("script", v)]) ∧ ∀ base : Heap, K.In base → base.Ns mainGlobals mg → LamX.TabB base mg (He.cT K ("_law_spread", none)).1 (He.cT K ("_law_spread", none)).2 → FnOk P w K mg base CX0 7 (He.ga K "law") fd ["script"] (sp_law K (He.cT K ("_law_spread", none)).2) := by
  have cd := c.t.d
  obtain ⟨fd_is_integer, F_is_integer⟩ := cd.def_ 0 (d := d_is_integer) rfl
  obtain ⟨fd_is_within, F_is_within⟩ := cd.def_ 1 (d := d_is_within) rfl
  obtain ⟨fd_is_text, F_is_text⟩ := cd.def_ 2 (d := d_is_text) rfl
  obtain ⟨fd_require_text, F_require_text⟩ := cd.def_ 3 (d := d_require_text) rfl
  obtain ⟨fd_hash_in, F_hash_in⟩ := cd.def_ 4 (d := d_hash_in) rfl
  obtain ⟨fd_turned_bits, F_turned_bits⟩ := cd.def_ 5 (d := d_turned_bits) rfl
  obtain ⟨fd_spot_in, F_spot_in⟩ := cd.def_ 6 (d := d_spot_in) rfl
  obtain ⟨fd_require_below, F_require_below⟩ := cd.def_ 7 (d := d_require_below) rfl
  obtain ⟨fd_hash_of, F_hash_of⟩ := cd.def_ 8 (d := d_hash_of) rfl
  obtain ⟨fd_spot_of, F_spot_of⟩ := cd.def_ 9 (d := d_spot_of) rfl
  obtain ⟨fd_bucket_spots, F_bucket_spots⟩ := cd.def_ 10 (d := d_bucket_spots) rfl
  obtain ⟨fd_buckets_above, F_buckets_above⟩ := cd.def_ 11 (d := d_buckets_above) rfl
  obtain ⟨fd_buckets_for, F_buckets_for⟩ := cd.def_ 12 (d := d_buckets_for) rfl
  obtain ⟨fd_empty_buckets, F_empty_buckets⟩ := cd.def_ 13 (d := d_empty_buckets) rfl
  obtain ⟨fd_without_name, F_without_name⟩ := cd.def_ 14 (d := d_without_name) rfl
  obtain ⟨fd_Table_d_init, F_Table_d_init⟩ := cd.def_ 15 (d := d_Table_d_init) rfl
  obtain ⟨fd_Table_move_on, F_Table_move_on⟩ := cd.def_ 16 (d := d_Table_move_on) rfl
  obtain ⟨fd_Table_begin_move, F_Table_begin_move⟩ := cd.def_ 17 (d := d_Table_begin_move) rfl
  obtain ⟨fd_Table_put_new, F_Table_put_new⟩ := cd.def_ 18 (d := d_Table_put_new) rfl
  obtain ⟨fd_Table_put, F_Table_put⟩ := cd.def_ 19 (d := d_Table_put) rfl
  obtain ⟨fd_Table_get, F_Table_get⟩ := cd.def_ 20 (d := d_Table_get) rfl
  obtain ⟨fd_Table_take, F_Table_take⟩ := cd.def_ 21 (d := d_Table_take) rfl
  obtain ⟨fd_Table_scan, F_Table_scan⟩ := cd.def_ 22 (d := d_Table_scan) rfl
  obtain ⟨fd_Table_all_names, F_Table_all_names⟩ := cd.def_ 23 (d := d_Table_all_names) rfl
  obtain ⟨fd_Table_all_items, F_Table_all_items⟩ := cd.def_ 24 (d := d_Table_all_items) rfl
  obtain ⟨fd_Table_counts, F_Table_counts⟩ := cd.def_ 25 (d := d_Table_counts) rfl
  obtain ⟨fd_Table_rows, F_Table_rows⟩ := cd.def_ 26 (d := d_Table_rows) rfl
  obtain ⟨fd_Table_d_len, F_Table_d_len⟩ := cd.def_ 27 (d := d_Table_d_len) rfl
  obtain ⟨fd_Table_d_eq, F_Table_d_eq⟩ := cd.def_ 28 (d := d_Table_d_eq) rfl
  obtain ⟨fd_scanned_names, F_scanned_names⟩ := cd.def_ 29 (d := d_scanned_names) rfl
  obtain ⟨fd_law_dice, F_law_dice⟩ := cd.def_ 30 (d := d_law_dice) rfl
  obtain ⟨fd_law_roll, F_law_roll⟩ := cd.def_ 31 (d := d_law_roll) rfl
  obtain ⟨fd_law_one_of, F_law_one_of⟩ := cd.def_ 32 (d := d_law_one_of) rfl
  obtain ⟨fd_law_mixed, F_law_mixed⟩ := cd.def_ 33 (d := d_law_mixed) rfl
  obtain ⟨fd_law_spot_of, F_law_spot_of⟩ := cd.def_ 34 (d := d_law_spot_of) rfl
  obtain ⟨fd_law_hash, F_law_hash⟩ := cd.def_ 35 (d := d_law_hash) rfl
  obtain ⟨fd_law_names, F_law_names⟩ := cd.def_ 36 (d := d_law_names) rfl
  obtain ⟨fd_law_spread, F_law_spread⟩ := cd.def_ 37 (d := d_law_spread) rfl
  obtain ⟨fd_law_table_with, F_law_table_with⟩ := cd.def_ 38 (d := d_law_table_with) rfl
  obtain ⟨fd_law_scanned, F_law_scanned⟩ := cd.def_ 39 (d := d_law_scanned) rfl
  obtain ⟨fd_law_buckets_right, F_law_buckets_right⟩ := cd.def_ 40 (d := d_law_buckets_right) rfl
  obtain ⟨fd_law_journey_right, F_law_journey_right⟩ := cd.def_ 41 (d := d_law_journey_right) rfl
  obtain ⟨fd_law_right, F_law_right⟩ := cd.def_ 42 (d := d_law_right) rfl
  obtain ⟨fd_law, F_law⟩ := cd.def_ 43 (d := d_law) rfl
  have cl_Table : Cls K (He.ga K "Table") := He.cls_ok (cd.fact 53 (f := .cls "Table") rfl)
  have T : Txt K mg := by
    refine {
      b_abs := He.free_ok X G (cd.fact 0 (f := .free "abs") rfl),
      b_all := He.free_ok X G (cd.fact 1 (f := .free "all") rfl),
      b_bool := He.free_ok X G (cd.fact 2 (f := .free "bool") rfl),
      b_dict := He.free_ok X G (cd.fact 3 (f := .free "dict") rfl),
      b_enumerate := He.free_ok X G (cd.fact 4 (f := .free "enumerate") rfl),
      b_int := He.free_ok X G (cd.fact 5 (f := .free "int") rfl),
      b_isinstance := He.free_ok X G (cd.fact 6 (f := .free "isinstance") rfl),
      b_len := He.free_ok X G (cd.fact 7 (f := .free "len") rfl),
      b_list := He.free_ok X G (cd.fact 8 (f := .free "list") rfl),
      b_max := He.free_ok X G (cd.fact 9 (f := .free "max") rfl),
      b_min := He.free_ok X G (cd.fact 10 (f := .free "min") rfl),
      b_ord := He.free_ok X G (cd.fact 11 (f := .free "ord") rfl),
      b_range := He.free_ok X G (cd.fact 12 (f := .free "range") rfl),
      b_sorted := He.free_ok X G (cd.fact 13 (f := .free "sorted") rfl),
      b_str := He.free_ok X G (cd.fact 14 (f := .free "str") rfl),
      b_tuple := He.free_ok X G (cd.fact 15 (f := .free "tuple") rfl),
      g_MAX_TEXT := (He.int_ok X G (cd.fact 16 (f := .int "MAX_TEXT" 200) rfl)).elim fun t e => ⟨_, e, _, rfl⟩,
      g_HASH_BITS := (He.int_ok X G (cd.fact 17 (f := .int "HASH_BITS" 16) rfl)).elim fun t e => ⟨_, e, _, rfl⟩,
      g_LEAST_BUCKETS := (He.int_ok X G (cd.fact 18 (f := .int "LEAST_BUCKETS" 4) rfl)).elim fun t e => ⟨_, e, _, rfl⟩,
      g_MOST_BUCKETS := (He.int_ok X G (cd.fact 19 (f := .int "MOST_BUCKETS" 65536) rfl)).elim fun t e => ⟨_, e, _, rfl⟩,
      g_MOST_COUNT := (He.int_ok X G (cd.fact 20 (f := .int "MOST_COUNT" 1000) rfl)).elim fun t e => ⟨_, e, _, rfl⟩,
      g_LAST_SPOT := (He.int_ok X G (cd.fact 21 (f := .int "LAST_SPOT" 65535) rfl)).elim fun t e => ⟨_, e, _, rfl⟩,
      f_hash_in := He.glo_ok X G (cd.fact 26 (f := .glo "hash_in") rfl),
      f_Table := He.glo_ok X G (cd.fact 52 (f := .glo "Table") rfl),
      cl_Table := cl_Table,
      na_Table_own_spread := He.noat_ok (cd.fact 54 (f := .noat "Table" "own_spread") rfl),
      na_Table_own_values := He.noat_ok (cd.fact 55 (f := .noat "Table" "own_values") rfl),
      na_Table_own_hashes := He.noat_ok (cd.fact 56 (f := .noat "Table" "own_hashes") rfl),
      na_Table_own_spots := He.noat_ok (cd.fact 57 (f := .noat "Table" "own_spots") rfl),
      na_Table_own_names := He.noat_ok (cd.fact 58 (f := .noat "Table" "own_names") rfl),
      na_Table_own_old := He.noat_ok (cd.fact 59 (f := .noat "Table" "own_old") rfl),
      na_Table_own_new := He.noat_ok (cd.fact 60 (f := .noat "Table" "own_new") rfl),
      na_Table_own_moved := He.noat_ok (cd.fact 61 (f := .noat "Table" "own_moved") rfl) }
  obtain ⟨isT, neT⟩ := ex_ok c.more cl_Table
  have b_is_integer : Binds K fd_is_integer ["value"] [] := FunD.bindsN (ps := ["value"]) F_is_integer fun _ _ _ _ _ _ us hl => match us, hl with | [_], _ => rfl
  have b_is_within : Binds K fd_is_within ["value", "least", "most"] [] := FunD.bindsN (ps := ["value", "least", "most"]) F_is_within fun _ _ _ _ _ _ us hl => match us, hl with | [_, _, _], _ => rfl
  have b_is_text : Binds K fd_is_text ["value"] [] := FunD.bindsN (ps := ["value"]) F_is_text fun _ _ _ _ _ _ us hl => match us, hl with | [_], _ => rfl
  have b_require_text : Binds K fd_require_text ["value"] [] := FunD.bindsN (ps := ["value"]) F_require_text fun _ _ _ _ _ _ us hl => match us, hl with | [_], _ => rfl
  have b_hash_in : Binds K fd_hash_in ["text"] [] := FunD.bindsN (ps := ["text"]) F_hash_in fun _ _ _ _ _ _ us hl => match us, hl with | [_], _ => rfl
  have b_turned_bits : Binds K fd_turned_bits ["value", "bits"] [] := FunD.bindsN (ps := ["value", "bits"]) F_turned_bits fun _ _ _ _ _ _ us hl => match us, hl with | [_, _], _ => rfl
  have b_spot_in : Binds K fd_spot_in ["text"] [] := FunD.bindsN (ps := ["text"]) F_spot_in fun _ _ _ _ _ _ us hl => match us, hl with | [_], _ => rfl
  have b_require_below : Binds K fd_require_below ["value", "bits", "most"] [] := FunD.bindsN (ps := ["value", "bits", "most"]) F_require_below fun _ _ _ _ _ _ us hl => match us, hl with | [_, _, _], _ => rfl
  have b_hash_of : Binds K fd_hash_of ["text"] [] := FunD.bindsN (ps := ["text"]) F_hash_of fun _ _ _ _ _ _ us hl => match us, hl with | [_], _ => rfl
  have b_spot_of : Binds K fd_spot_of ["text"] [] := FunD.bindsN (ps := ["text"]) F_spot_of fun _ _ _ _ _ _ us hl => match us, hl with | [_], _ => rfl
  have b_bucket_spots : Binds K fd_bucket_spots ["bucket", "bits"] [] := FunD.bindsN (ps := ["bucket", "bits"]) F_bucket_spots fun _ _ _ _ _ _ us hl => match us, hl with | [_, _], _ => rfl
  have b_buckets_above : Binds K fd_buckets_above ["many"] [] := FunD.bindsN (ps := ["many"]) F_buckets_above fun _ _ _ _ _ _ us hl => match us, hl with | [_], _ => rfl
  have b_buckets_for : Binds K fd_buckets_for ["many"] [] := FunD.bindsN (ps := ["many"]) F_buckets_for fun _ _ _ _ _ _ us hl => match us, hl with | [_], _ => rfl
  have b_empty_buckets : Binds K fd_empty_buckets ["many"] [] := FunD.bindsN (ps := ["many"]) F_empty_buckets fun _ _ _ _ _ _ us hl => match us, hl with | [_], _ => rfl
  have b_without_name : Binds K fd_without_name ["buckets", "number", "name"] [] := FunD.bindsN (ps := ["buckets", "number", "name"]) F_without_name fun _ _ _ _ _ _ us hl => match us, hl with | [_, _, _], _ => rfl
  have b_Table_d_init : ∃ ds, Vals ([V.non].drop 1) ds ∧ Binds K fd_Table_d_init ["self", "spread"] ds := FunD.binds1 (ps := ["self", "spread"]) F_Table_d_init 2 1 (by intro z; cases z) rfl fun _ _ _ _ _ _ _ us its hu hi => match us, hu, its, hi with | [_, _], _, [_], _ => ⟨_, rfl, rfl⟩
  have b_Table_move_on : Binds K fd_Table_move_on ["self"] [] := FunD.bindsN (ps := ["self"]) F_Table_move_on fun _ _ _ _ _ _ us hl => match us, hl with | [_], _ => rfl
  have b_Table_begin_move : Binds K fd_Table_begin_move ["self", "many"] [] := FunD.bindsN (ps := ["self", "many"]) F_Table_begin_move fun _ _ _ _ _ _ us hl => match us, hl with | [_, _], _ => rfl
  have b_Table_put_new : Binds K fd_Table_put_new ["self", "name"] [] := FunD.bindsN (ps := ["self", "name"]) F_Table_put_new fun _ _ _ _ _ _ us hl => match us, hl with | [_, _], _ => rfl
  have b_Table_put : Binds K fd_Table_put ["self", "name", "value"] [] := FunD.bindsN (ps := ["self", "name", "value"]) F_Table_put fun _ _ _ _ _ _ us hl => match us, hl with | [_, _, _], _ => rfl
  have b_Table_get : ∃ ds, Vals ([V.non].drop 0) ds ∧ Binds K fd_Table_get ["self", "name", "other"] ds := FunD.binds1 (ps := ["self", "name", "other"]) F_Table_get 2 0 (by intro z; cases z) rfl fun _ _ _ _ _ _ _ us its hu hi => match us, hu, its, hi with | [_, _], _, [_], _ => ⟨_, rfl, rfl⟩
  have b_Table_take : ∃ ds, Vals ([V.non].drop 0) ds ∧ Binds K fd_Table_take ["self", "name", "other"] ds := FunD.binds1 (ps := ["self", "name", "other"]) F_Table_take 2 0 (by intro z; cases z) rfl fun _ _ _ _ _ _ _ us its hu hi => match us, hu, its, hi with | [_, _], _, [_], _ => ⟨_, rfl, rfl⟩
  have b_Table_scan : Binds K fd_Table_scan ["self", "cursor", "count"] [] := FunD.bindsN (ps := ["self", "cursor", "count"]) F_Table_scan fun _ _ _ _ _ _ us hl => match us, hl with | [_, _, _], _ => rfl
  have b_Table_all_names : Binds K fd_Table_all_names ["self"] [] := FunD.bindsN (ps := ["self"]) F_Table_all_names fun _ _ _ _ _ _ us hl => match us, hl with | [_], _ => rfl
  have b_Table_all_items : Binds K fd_Table_all_items ["self"] [] := FunD.bindsN (ps := ["self"]) F_Table_all_items fun _ _ _ _ _ _ us hl => match us, hl with | [_], _ => rfl
  have b_Table_counts : Binds K fd_Table_counts ["self"] [] := FunD.bindsN (ps := ["self"]) F_Table_counts fun _ _ _ _ _ _ us hl => match us, hl with | [_], _ => rfl
  have b_Table_rows : Binds K fd_Table_rows ["self"] [] := FunD.bindsN (ps := ["self"]) F_Table_rows fun _ _ _ _ _ _ us hl => match us, hl with | [_], _ => rfl
  have b_Table_d_len : Binds K fd_Table_d_len ["self"] [] := FunD.bindsN (ps := ["self"]) F_Table_d_len fun _ _ _ _ _ _ us hl => match us, hl with | [_], _ => rfl
  have b_Table_d_eq : Binds K fd_Table_d_eq ["self", "other"] [] := FunD.bindsN (ps := ["self", "other"]) F_Table_d_eq fun _ _ _ _ _ _ us hl => match us, hl with | [_, _], _ => rfl
  have b_scanned_names : Binds K fd_scanned_names ["names", "spots", "cursor", "count"] [] := FunD.bindsN (ps := ["names", "spots", "cursor", "count"]) F_scanned_names fun _ _ _ _ _ _ us hl => match us, hl with | [_, _, _, _], _ => rfl
  have b_law_dice : Binds K fd_law_dice ["script", "at"] [] := FunD.bindsN (ps := ["script", "at"]) F_law_dice fun _ _ _ _ _ _ us hl => match us, hl with | [_, _], _ => rfl
  have b_law_roll : Binds K fd_law_roll ["dice", "total"] [] := FunD.bindsN (ps := ["dice", "total"]) F_law_roll fun _ _ _ _ _ _ us hl => match us, hl with | [_, _], _ => rfl
  have b_law_one_of : Binds K fd_law_one_of ["dice", "items"] [] := FunD.bindsN (ps := ["dice", "items"]) F_law_one_of fun _ _ _ _ _ _ us hl => match us, hl with | [_, _], _ => rfl
  have b_law_mixed : Binds K fd_law_mixed ["dice", "items"] [] := FunD.bindsN (ps := ["dice", "items"]) F_law_mixed fun _ _ _ _ _ _ us hl => match us, hl with | [_, _], _ => rfl
  have b_law_spot_of : Binds K fd_law_spot_of ["number"] [] := FunD.bindsN (ps := ["number"]) F_law_spot_of fun _ _ _ _ _ _ us hl => match us, hl with | [_], _ => rfl
  have b_law_hash : Binds K fd_law_hash ["text"] [] := FunD.bindsN (ps := ["text"]) F_law_hash fun _ _ _ _ _ _ us hl => match us, hl with | [_], _ => rfl
  have b_law_names : Binds K fd_law_names ["dice"] [] := FunD.bindsN (ps := ["dice"]) F_law_names fun _ _ _ _ _ _ us hl => match us, hl with | [_], _ => rfl
  have b_law_spread : Binds K fd_law_spread ["dice"] [] := FunD.bindsN (ps := ["dice"]) F_law_spread fun _ _ _ _ _ _ us hl => match us, hl with | [_], _ => rfl
  have b_law_table_with : Binds K fd_law_table_with ["dice", "spread", "names"] [] := FunD.bindsN (ps := ["dice", "spread", "names"]) F_law_table_with fun _ _ _ _ _ _ us hl => match us, hl with | [_, _, _], _ => rfl
  have b_law_scanned : Binds K fd_law_scanned ["rows", "cursor", "count"] [] := FunD.bindsN (ps := ["rows", "cursor", "count"]) F_law_scanned fun _ _ _ _ _ _ us hl => match us, hl with | [_, _, _], _ => rfl
  have b_law_buckets_right : Binds K fd_law_buckets_right ["table", "spots"] [] := FunD.bindsN (ps := ["table", "spots"]) F_law_buckets_right fun _ _ _ _ _ _ us hl => match us, hl with | [_, _], _ => rfl
  have b_law_journey_right : Binds K fd_law_journey_right ["dice", "tables", "rows"] [] := FunD.bindsN (ps := ["dice", "tables", "rows"]) F_law_journey_right fun _ _ _ _ _ _ us hl => match us, hl with | [_, _, _], _ => rfl
  have b_law_right : Binds K fd_law_right ["dice"] [] := FunD.bindsN (ps := ["dice"]) F_law_right fun _ _ _ _ _ _ us hl => match us, hl with | [_], _ => rfl
  have b_law : Binds K fd_law ["script"] [] := FunD.bindsN (ps := ["script"]) F_law fun _ _ _ _ _ _ us hl => match us, hl with | [_], _ => rfl
  have mk_Table := He.mkr_ok (cd.fact 62 (f := .mkr "Table") rfl)
  have me_Table_move_on := He.meth_ok (cd.fact 63 (f := .meth "Table" "move_on") rfl)
  have me_Table_begin_move := He.meth_ok (cd.fact 64 (f := .meth "Table" "begin_move") rfl)
  have me_Table_put_new := He.meth_ok (cd.fact 65 (f := .meth "Table" "put_new") rfl)
  have me_Table_put := He.meth_ok (cd.fact 66 (f := .meth "Table" "put") rfl)
  have me_Table_get := He.meth_ok (cd.fact 67 (f := .meth "Table" "get") rfl)
  have me_Table_take := He.meth_ok (cd.fact 68 (f := .meth "Table" "take") rfl)
  have me_Table_scan := He.meth_ok (cd.fact 69 (f := .meth "Table" "scan") rfl)
  have me_Table_all_names := He.meth_ok (cd.fact 70 (f := .meth "Table" "all_names") rfl)
  have me_Table_all_items := He.meth_ok (cd.fact 71 (f := .meth "Table" "all_items") rfl)
  have me_Table_counts := He.meth_ok (cd.fact 72 (f := .meth "Table" "counts") rfl)
  have me_Table_rows := He.meth_ok (cd.fact 73 (f := .meth "Table" "rows") rfl)
  have me_Table_d_len := He.meth_ok (cd.fact 74 (f := .meth "Table" "__len__") rfl)
  have me_Table_d_eq := He.meth_ok (cd.fact 75 (f := .meth "Table" "__eq__") rfl)
  have fh : ∃ oc od fd sl, K.lookup (He.ga K "hash_in") = some ⟨oc, od, .func fd, sl⟩ := by
    obtain ⟨oc, od, _, _, _, _, _, _, _, sl, _, lk, _⟩ := F_hash_in.ex
    exact ⟨oc, od, _, sl, lk⟩
  have lb := FunD.bindsA (ps := ["script"]) F_law fun _ _ _ _ _ _ us hl => match us, hl with | [_], _ => rfl
  refine ⟨fd_law, fun s v => lb s [v] rfl, fun base _ _ tb => ?_⟩
  have ok_is_integer' := ok_is_integer (P := P) (w := w) (base := base) F_is_integer T
  have c_is_integer : Cal P w K mg base 1 "is_integer" sp_is_integer [] := cal0' F_is_integer ok_is_integer' (He.glo_ok X G (cd.fact 22 (f := .glo "is_integer") rfl)) b_is_integer
  have ok_is_text' := ok_is_text (P := P) (w := w) (base := base) F_is_text T
  have c_is_text : Cal P w K mg base 1 "is_text" sp_is_text [] := cal0' F_is_text ok_is_text' (He.glo_ok X G (cd.fact 24 (f := .glo "is_text") rfl)) b_is_text
  have ok_hash_in' := ok_hash_in (P := P) (w := w) (base := base) F_hash_in T
  have c_hash_in : Cal P w K mg base 1 "hash_in" sp_hash_in [] := cal0' F_hash_in ok_hash_in' (He.glo_ok X G (cd.fact 26 (f := .glo "hash_in") rfl)) b_hash_in
  have ok_turned_bits' := ok_turned_bits (P := P) (w := w) (base := base) F_turned_bits T
  have c_turned_bits : Cal P w K mg base 1 "turned_bits" sp_turned_bits [] := cal0' F_turned_bits ok_turned_bits' (He.glo_ok X G (cd.fact 27 (f := .glo "turned_bits") rfl)) b_turned_bits
  have ok_buckets_above' := ok_buckets_above (P := P) (w := w) (base := base) F_buckets_above T
  have c_buckets_above : Cal P w K mg base 1 "buckets_above" sp_buckets_above [] := cal0' F_buckets_above ok_buckets_above' (He.glo_ok X G (cd.fact 33 (f := .glo "buckets_above") rfl)) b_buckets_above
  have ok_buckets_for' := ok_buckets_for (P := P) (w := w) (base := base) F_buckets_for T
  have c_buckets_for : Cal P w K mg base 1 "buckets_for" sp_buckets_for [] := cal0' F_buckets_for ok_buckets_for' (He.glo_ok X G (cd.fact 34 (f := .glo "buckets_for") rfl)) b_buckets_for
  have ok_empty_buckets' := ok_empty_buckets (P := P) (w := w) (base := base) F_empty_buckets T
  have c_empty_buckets : Cal P w K mg base 1 "empty_buckets" sp_empty_buckets [] := cal0' F_empty_buckets ok_empty_buckets' (He.glo_ok X G (cd.fact 35 (f := .glo "empty_buckets") rfl)) b_empty_buckets
  have ok_without_name' := ok_without_name (P := P) (w := w) (base := base) F_without_name T
  have c_without_name : Cal P w K mg base 1 "without_name" sp_without_name [] := cal0' F_without_name ok_without_name' (He.glo_ok X G (cd.fact 36 (f := .glo "without_name") rfl)) b_without_name
  have ok_Table_move_on' := ok_Table_move_on (P := P) (w := w) (base := base) F_Table_move_on T
  have c_Table_move_on : Met P w K mg base 1 (He.ga K "Table") "move_on" (sp_Table_move_on K) [] := ⟨_, _, _, [], cl_Table, me_Table_move_on, ok_Table_move_on', b_Table_move_on, .nil⟩
  have ok_Table_all_names' := ok_Table_all_names (P := P) (w := w) (base := base) F_Table_all_names T
  have c_Table_all_names : Met P w K mg base 1 (He.ga K "Table") "all_names" (sp_Table_all_names K) [] := ⟨_, _, _, [], cl_Table, me_Table_all_names, ok_Table_all_names', b_Table_all_names, .nil⟩
  have ok_Table_all_items' := ok_Table_all_items (P := P) (w := w) (base := base) F_Table_all_items T
  have c_Table_all_items : Met P w K mg base 1 (He.ga K "Table") "all_items" (sp_Table_all_items K) [] := ⟨_, _, _, [], cl_Table, me_Table_all_items, ok_Table_all_items', b_Table_all_items, .nil⟩
  have ok_Table_counts' := ok_Table_counts (P := P) (w := w) (base := base) F_Table_counts T
  have c_Table_counts : Met P w K mg base 1 (He.ga K "Table") "counts" (sp_Table_counts K) [] := ⟨_, _, _, [], cl_Table, me_Table_counts, ok_Table_counts', b_Table_counts, .nil⟩
  have ok_Table_rows' := ok_Table_rows (P := P) (w := w) (base := base) F_Table_rows T
  have c_Table_rows : Met P w K mg base 1 (He.ga K "Table") "rows" (sp_Table_rows K) [] := ⟨_, _, _, [], cl_Table, me_Table_rows, ok_Table_rows', b_Table_rows, .nil⟩
  have ok_Table_d_len' := ok_Table_d_len (P := P) (w := w) (base := base) F_Table_d_len T
  have c_Table_d_len : Met P w K mg base 1 (He.ga K "Table") "__len__" (sp_Table_d_len K) [] := ⟨_, _, _, [], cl_Table, me_Table_d_len, ok_Table_d_len', b_Table_d_len, .nil⟩
  have e_len : K7.OwnM P w K mg base 1 (He.ga K "Table") "__len__" (sp_Table_d_len K) := ⟨_, _, _, ok_Table_d_len', b_Table_d_len, me_Table_d_len.at_, me_Table_d_len.fn⟩
  have ok_Table_d_eq' := ok_Table_d_eq (P := P) (w := w) (base := base) F_Table_d_eq T isT
  have c_Table_d_eq : Met P w K mg base 1 (He.ga K "Table") "__eq__" (sp_Table_d_eq K) [] := ⟨_, _, _, [], cl_Table, me_Table_d_eq, ok_Table_d_eq', b_Table_d_eq, .nil⟩
  have e_eq : K7.OwnM P w K mg base 1 (He.ga K "Table") "__eq__" (sp_Table_d_eq K) := ⟨_, _, _, ok_Table_d_eq', b_Table_d_eq, me_Table_d_eq.at_, me_Table_d_eq.fn⟩
  have ok_scanned_names' := ok_scanned_names (P := P) (w := w) (base := base) F_scanned_names T
  have c_scanned_names : Cal P w K mg base 1 "scanned_names" (sp_scanned_names K) [] := cal0' F_scanned_names ok_scanned_names' (He.glo_ok X G (cd.fact 37 (f := .glo "scanned_names") rfl)) b_scanned_names
  have ok_law_dice' := ok_law_dice (P := P) (w := w) (base := base) F_law_dice T
  have c_law_dice : Cal P w K mg base 1 "_law_dice" (sp_law_dice K) [] := cal0' F_law_dice ok_law_dice' (He.glo_ok X G (cd.fact 38 (f := .glo "_law_dice") rfl)) b_law_dice
  have ok_law_roll' := ok_law_roll (P := P) (w := w) (base := base) F_law_roll T
  have c_law_roll : Cal P w K mg base 1 "_law_roll" sp_law_roll [] := cal0' F_law_roll ok_law_roll' (He.glo_ok X G (cd.fact 39 (f := .glo "_law_roll") rfl)) b_law_roll
  have ok_law_spot_of' := ok_law_spot_of (P := P) (w := w) (base := base) F_law_spot_of T
  have c_law_spot_of : Cal P w K mg base 1 "_law_spot_of" sp_law_spot_of [] := cal0' F_law_spot_of ok_law_spot_of' (He.glo_ok X G (cd.fact 42 (f := .glo "_law_spot_of") rfl)) b_law_spot_of
  have ok_law_hash' := ok_law_hash (P := P) (w := w) (base := base) F_law_hash T
  have c_law_hash : Cal P w K mg base 1 "_law_hash" sp_law_hash [] := cal0' F_law_hash ok_law_hash' (He.glo_ok X G (cd.fact 43 (f := .glo "_law_hash") rfl)) b_law_hash
  have ok_law_scanned' := ok_law_scanned (P := P) (w := w) (base := base) F_law_scanned T
  have c_law_scanned : Cal P w K mg base 1 "_law_scanned" (sp_law_scanned K) [] := cal0' F_law_scanned ok_law_scanned' (He.glo_ok X G (cd.fact 47 (f := .glo "_law_scanned") rfl)) b_law_scanned
  have ok_is_within' := ok_is_within (P := P) (w := w) (base := base) F_is_within T c_is_integer
  have c_is_within : Cal P w K mg base 2 "is_within" sp_is_within [] := cal0' F_is_within ok_is_within' (He.glo_ok X G (cd.fact 23 (f := .glo "is_within") rfl)) b_is_within
  have ok_require_text' := ok_require_text (P := P) (w := w) (base := base) F_require_text T c_is_text
  have c_require_text : Cal P w K mg base 2 "require_text" sp_require_text [] := cal0' F_require_text ok_require_text' (He.glo_ok X G (cd.fact 25 (f := .glo "require_text") rfl)) b_require_text
  have ok_spot_in' := ok_spot_in (P := P) (w := w) (base := base) F_spot_in T c_turned_bits c_hash_in
  have c_spot_in : Cal P w K mg base 2 "spot_in" sp_spot_in [] := cal0' F_spot_in ok_spot_in' (He.glo_ok X G (cd.fact 28 (f := .glo "spot_in") rfl)) b_spot_in
  have ok_Table_d_init' := ok_Table_d_init (P := P) (w := w) (base := base) F_Table_d_init T c_empty_buckets
  have m_Table : Mak P w K mg base 2 "Table" (He.ga K "Table") (sp_Table_d_init K) [] := b_Table_d_init.elim fun ds b => ⟨_, _, _, ds, mk_Table, ok_Table_d_init', T.f_Table, b.2, b.1⟩
  have ok_Table_begin_move' := ok_Table_begin_move (P := P) (w := w) (base := base) F_Table_begin_move T c_empty_buckets
  have c_Table_begin_move : Met P w K mg base 2 (He.ga K "Table") "begin_move" (sp_Table_begin_move K) [] := ⟨_, _, _, [], cl_Table, me_Table_begin_move, ok_Table_begin_move', b_Table_begin_move, .nil⟩
  have ok_law_one_of' := ok_law_one_of (P := P) (w := w) (base := base) F_law_one_of T c_law_roll
  have c_law_one_of : Cal P w K mg base 2 "_law_one_of" (sp_law_one_of K) [] := cal0' F_law_one_of ok_law_one_of' (He.glo_ok X G (cd.fact 40 (f := .glo "_law_one_of") rfl)) b_law_one_of
  have ok_law_mixed' := ok_law_mixed (P := P) (w := w) (base := base) F_law_mixed T c_law_roll
  have c_law_mixed : Cal P w K mg base 2 "_law_mixed" (sp_law_mixed K) [] := cal0' F_law_mixed ok_law_mixed' (He.glo_ok X G (cd.fact 41 (f := .glo "_law_mixed") rfl)) b_law_mixed
  have ok_law_spread' := ok_law_spread (P := P) (w := w) (base := base) F_law_spread T c_law_roll c_law_hash rfl rfl tb
  have c_law_spread : Cal P w K mg base 2 "_law_spread" (sp_law_spread P w K mg base (He.cT K ("_law_spread", none)).2) [] := cal0' F_law_spread ok_law_spread' (He.glo_ok X G (cd.fact 45 (f := .glo "_law_spread") rfl)) b_law_spread
  have ok_require_below' := ok_require_below (P := P) (w := w) (base := base) F_require_below T c_is_integer c_is_within
  have c_require_below : Cal P w K mg base 3 "require_below" sp_require_below [] := cal0' F_require_below ok_require_below' (He.glo_ok X G (cd.fact 29 (f := .glo "require_below") rfl)) b_require_below
  have ok_hash_of' := ok_hash_of (P := P) (w := w) (base := base) F_hash_of T c_require_text c_hash_in
  have c_hash_of : Cal P w K mg base 3 "hash_of" sp_hash_of [] := cal0' F_hash_of ok_hash_of' (He.glo_ok X G (cd.fact 30 (f := .glo "hash_of") rfl)) b_hash_of
  have ok_spot_of' := ok_spot_of (P := P) (w := w) (base := base) F_spot_of T c_require_text c_spot_in
  have c_spot_of : Cal P w K mg base 3 "spot_of" sp_spot_of [] := cal0' F_spot_of ok_spot_of' (He.glo_ok X G (cd.fact 31 (f := .glo "spot_of") rfl)) b_spot_of
  have ok_Table_put_new' := ok_Table_put_new (P := P) (w := w) (base := base) F_Table_put_new T c_turned_bits
  have c_Table_put_new : Met P w K mg base 3 (He.ga K "Table") "put_new" (sp_Table_put_new P w K mg base) [] := ⟨_, _, _, [], cl_Table, me_Table_put_new, ok_Table_put_new', b_Table_put_new, .nil⟩
  have ok_Table_get' := ok_Table_get (P := P) (w := w) (base := base) F_Table_get T c_require_text c_Table_move_on
  have c_Table_get_d : Met P w K mg base 3 (He.ga K "Table") "get" (sp_Table_get K) [.non] := b_Table_get.elim fun ds b => ⟨_, _, _, ds, cl_Table, me_Table_get, ok_Table_get', b.2, b.1⟩
  have ok_Table_take' := ok_Table_take (P := P) (w := w) (base := base) F_Table_take T c_require_text c_Table_move_on c_without_name c_Table_begin_move c_buckets_for
  have c_Table_take_d : Met P w K mg base 3 (He.ga K "Table") "take" (sp_Table_take K) [.non] := b_Table_take.elim fun ds b => ⟨_, _, _, ds, cl_Table, me_Table_take, ok_Table_take', b.2, b.1⟩
  have ok_Table_scan' := ok_Table_scan (P := P) (w := w) (base := base) F_Table_scan T c_is_within c_scanned_names
  have c_Table_scan : Met P w K mg base 3 (He.ga K "Table") "scan" (sp_Table_scan K) [] := ⟨_, _, _, [], cl_Table, me_Table_scan, ok_Table_scan', b_Table_scan, .nil⟩
  have ok_law_names' := ok_law_names (P := P) (w := w) (base := base) F_law_names T c_law_mixed c_law_roll
  have c_law_names : Cal P w K mg base 3 "_law_names" sp_law_names [] := cal0' F_law_names ok_law_names' (He.glo_ok X G (cd.fact 44 (f := .glo "_law_names") rfl)) b_law_names
  have ok_bucket_spots' := ok_bucket_spots (P := P) (w := w) (base := base) F_bucket_spots T c_require_below c_turned_bits
  have c_bucket_spots : Cal P w K mg base 4 "bucket_spots" sp_bucket_spots [] := cal0' F_bucket_spots ok_bucket_spots' (He.glo_ok X G (cd.fact 32 (f := .glo "bucket_spots") rfl)) b_bucket_spots
  have ok_Table_put' := ok_Table_put (P := P) (w := w) (base := base) F_Table_put T c_require_text c_Table_move_on c_Table_put_new c_Table_begin_move c_buckets_above
  have c_Table_put : Met P w K mg base 4 (He.ga K "Table") "put" (sp_Table_put P w K mg base) [] := ⟨_, _, _, [], cl_Table, me_Table_put, ok_Table_put', b_Table_put, .nil⟩
  have ok_law_journey_right' := ok_law_journey_right (P := P) (w := w) (base := base) F_law_journey_right T c_Table_scan c_law_one_of c_law_roll
  have c_law_journey_right : Cal P w K mg base 4 "_law_journey_right" (sp_law_journey_right K) [] := cal0' F_law_journey_right ok_law_journey_right' (He.glo_ok X G (cd.fact 49 (f := .glo "_law_journey_right") rfl)) b_law_journey_right
  have ok_law_table_with' := ok_law_table_with (P := P) (w := w) (base := base) F_law_table_with T m_Table c_law_mixed c_law_roll c_Table_put c_Table_take_d c_Table_get_d c_law_one_of
  have c_law_table_with : Cal P w K mg base 5 "_law_table_with" (sp_law_table_with P w K mg base) [] := cal0' F_law_table_with ok_law_table_with' (He.glo_ok X G (cd.fact 46 (f := .glo "_law_table_with") rfl)) b_law_table_with
  have ok_law_buckets_right' := ok_law_buckets_right (P := P) (w := w) (base := base) F_law_buckets_right T c_Table_counts c_Table_rows c_bucket_spots
  have c_law_buckets_right : Cal P w K mg base 5 "_law_buckets_right" (sp_law_buckets_right K) [] := cal0' F_law_buckets_right ok_law_buckets_right' (He.glo_ok X G (cd.fact 48 (f := .glo "_law_buckets_right") rfl)) b_law_buckets_right
  have ok_law_right' := ok_law_right (P := P) (w := w) (base := base) F_law_right T c_law_names c_law_spread c_law_spot_of c_law_hash c_law_table_with c_Table_all_names c_Table_all_items c_law_buckets_right c_law_roll c_law_one_of c_law_scanned c_Table_scan c_hash_of c_spot_of c_law_journey_right e_len e_eq isT.hm neT c_hash_in fh
  have c_law_right : Cal P w K mg base 6 "_law_right" (sp_law_right (He.cT K ("_law_spread", none)).2) [] := cal0' F_law_right ok_law_right' (He.glo_ok X G (cd.fact 50 (f := .glo "_law_right") rfl)) b_law_right
  have ok_law' := ok_law (P := P) (w := w) (base := base) F_law T c_law_right c_law_dice
  exact ok_law'
end K70
open PySem PySem.W PySem.Calls PyProof.Rows
theorem PySem.Challenge.cw_deedline_k70_whole_tables_with_the_same_holds : PySem.Challenge.rw_deedline_k70_whole_tables_with_the_same.Holds := by
  w_on; o_law
  refine HandSHeadRun.head_any (r := OpenLaw.row PySem.Challenge.rw_deedline_k70_whole_tables_with_the_same) (q := view (OpenLaw.row PySem.Challenge.rw_deedline_k70_whole_tables_with_the_same).prog [45]) (H := K70.hk) (ob := K70.ob) (M := 8000) (loose := K70.loose) (d := HandSHeadRun.topDef (OpenLaw.row PySem.Challenge.rw_deedline_k70_whole_tables_with_the_same).prog 45) (kwd := []) K70.ob_eq
    (by kernel_rfl) (fun s => by kernel_rfl) K70.run (by kernel_rfl) (by kernel_rfl) (by kernel_rfl) (by rfl) (by first | assumption | decide +kernel) (by decide +kernel) ⟨rfl, rfl, rfl, rfl, rfl, by decide +kernel⟩ ?hw ?hc
  case hw => w_witness2
  case hc =>
    refine LamX.walk_ofTsE (l := PySem.Challenge.rw_deedline_k70_whole_tables_with_the_same) (n := 63) (k := 7) (x := "script") (CX := fun _ => L2.CX0) rfl (by decide) (by kernel_rfl) ⟨rfl, by decide, by decide⟩ ?F (fun _ _ _ _ _ z => z)
    intro w mg fa h Y G hmg0
    obtain ⟨K, KX, c⟩ := Y
    have hmg : mg ("law" : PySem.Str) = some (.ref fa) := by
      have e : (HandSHeadRun.topDef (OpenLaw.row PySem.Challenge.rw_deedline_k70_whole_tables_with_the_same).prog 45).name = ("law" : PySem.Str) := by kernel_rfl
      rw [← e]
      exact hmg0
    have e := hmg.symm.trans (He.glo_ok KX G (c.t.d.fact 51 (f := .glo "law") rfl))
    cases e
    obtain ⟨fd, hb, hF⟩ := K70.facts (P := (PySem.Challenge.rw_deedline_k70_whole_tables_with_the_same).prog) (w := w) KX G c
    refine ⟨K, KX, fd, [He.cT K ("_law_spread", none)], K70.sp_law K (He.cT K ("_law_spread", none)).2, fun p hp => ?_, fun p hp => ?_, fun p hp => ?_, hb, fun H a ns hl _ hT hS => ?_, fun base KB GB tb => hF base KB GB (tb _ List.mem_cons_self)⟩
    · exact c.empty ("_law_spread", none) List.mem_cons_self |> fun z => by rw [List.mem_singleton.mp hp]; exact z
    · rw [List.mem_singleton.mp hp]; exact c.out ("_law_spread", none) List.mem_cons_self
    · rw [List.mem_singleton.mp hp]; exact PySem.W.codeHd_of_K KX (c.hd ("_law_spread", none) List.mem_cons_self)
    · refine ⟨a, ns, rfl, hS, hl, fun p hp => ?_, fun _ => rfl⟩
      rw [List.mem_singleton.mp hp]
      exact LamX.TabS.nil (hT _ List.mem_cons_self)
