import PyProof.Rows.All
import Wide.All
import OpenK.AllK
import Wide.FinOn
import KE.KStateDown
import HandS.ForMost
import HandS.ForExc
import HandS.Defaults
import HandS.CallSlots
import HandS.MakeKw
import HandS.MakeKwOnly
import HandS.Wide
import HandS.WideMore
import HandS.IsInst
import HandS.FStr
import HandS.Flow
import HandS.Style
import HandS.TupAny
import HandS.TryMany
import HandS.ExcInit
import HandS.Deep
import HandS.Small
import HandS.Codes
import HandS.Lambda
import HandS.EndBits
import HandS.EndTab
import HandS.NoneIn
import HandS.Zip
import HandS.Conv
import HandS.SetKeys
import HandS.StrMore
import HandS.Head0
import HandS.Head1
import HandS.Head2
import HandS.HeadEnd
import HandS.HeadHook1
import HandS.HeadHook2
import HandS.HeadHook3
import HandS.HeadHook4
import HandS.HeadWalk
import PyProof.WalksMore
import PyProof.WalksS
import PyProof.CollectIter
import HandS.ClsMeth
import HandS.ExcField
import PySem.Challenge.RW_lanescribe_k61_whole_tests_there_and_bac
set_option Elab.async false
set_option linter.all false
set_option maxRecDepth 100000
set_option maxHeartbeats 4000000
set_option autoImplicit false
universe u

/-! unpacking with a star at the end: a, .., *rest = a tuple or a list -/
namespace Uz
open PySem PySem.Spec PyProof.Rows L2
section
variable {prog : Program} {w : World} {A : Around} {E : Value → Shared → Prop} {I : Addr} {fp wr : List Addr} {n : Nat} {P : Nat → Value → Prop} {St : Nat → Heap → Prop}
theorem walks_shift (W : Walks prog w A I fp wr n P St) (k : Nat) (hk : k ≤ n) : Walks prog w A I fp wr (n - k) (fun i => P (i + k)) (fun i => St (i + k)) where
  sub := W.sub
  frame := fun i h h' st kp => W.frame (i + k) h h' st kp
  item := fun i s Q E hi st hQ => W.item (i + k) s Q E (by omega) st fun v h' tk p st' kp => hQ v h' tk p (by rw [show i + 1 + k = i + k + 1 by omega]; exact st') kp
  done := fun s Q E st hQ => W.done s Q E (by rw [show n = n - k + k by omega]; exact st) hQ
  self := fun i s Q E st hQ => W.self (i + k) s Q E st hQ
theorem draw_walks (W : Walks prog w A I fp wr n P St) : ∀ (k i : Nat) (s : Shared) (Q : List Value → Shared → Prop), i + k ≤ n → St i s.heap →
    (∀ vs h' tk, vs.length = k → (∀ j v, vs[j]? = some v → P (i + j) v) → St (i + k) h' → (∀ b o, b ∉ wr → s.heap.get? b = some o → h'.get? b = some o) → Q vs { s with heap := h', toks := tk }) →
    wpAny (model prog w) A (draw (.ref I) k) Q E s
  | 0, i, s, Q, _, st, hQ => by
    show wpAny _ _ (pure []) Q E s
    exact wpAny_pure (hQ [] s.heap s.toks rfl (fun j v e => by simp at e) st fun _ _ _ e => e)
  | k + 1, i, s, Q, hl, st, hQ => by
    show wpAny _ _ (pyNext (.ref I) >>= _) Q E s
    refine wpAny_bind (W.item i s _ _ (by omega) st fun v h1 t1 p1 st1 k1 => ?_)
    refine wpAny_bind (wpAny_holding (draw_walks W k (i + 1) _ _ (by omega) st1 fun vs h2 t2 l2 p2 st2 k2 => wpAny_pure ?_))
    refine hQ (v :: vs) h2 t2 (by rw [List.length_cons, l2]) (fun j u e => ?_) (by rw [show i + (k + 1) = i + 1 + k by omega]; exact st2) fun b o hb e => k2 b o hb (k1 b o hb e)
    cases j with
    | zero =>
      have e' : v = u := by simpa using e
      rw [← e']
      exact p1
    | succ j =>
      have q := p2 j u (by simpa using e)
      rw [show i + (j + 1) = i + 1 + j by omega]
      exact q
theorem list_of_at {vs l : List Value} (hl : vs.length = l.length) (h : ∀ (j : Nat) (v : Value), vs[j]? = some v → l[j]? = some v) : vs = l := by
  refine List.ext_getElem? fun j => ?_
  cases e : vs[j]? with
  | some v => exact (h j v e).symm
  | none =>
    have h1 := List.getElem?_eq_none_iff.mp e
    exact (List.getElem?_eq_none_iff.mpr (by omega)).symm
end
section
variable {prog : Program} {w : World} {A : Around} {E : Value → Shared → Prop} {s : Shared}
/-- the iterator stands at nought: i items, the others as a new list behind them -/
theorem star_core {it : Addr} {fp wr : List Addr} {its : List Value} {St : Nat → Heap → Prop} {i : Nat} {T : String} {Q : List Value → Shared → Prop} (hT : T = "list_iterator" ∨ T = "tuple_iterator")
    (W : ∀ A : Around, A.handled = none → Walks prog w A it fp wr its.toArray.size (fun j v => its.toArray[j]? = some v) St) (hh : A.handled = none) (hi : i ≤ its.length) (hz : its.length ≤ sizeLine)
    (hTy : ∀ (j : Nat) (s : Shared), St j s.heap → s.TypeIs (.ref it) T) (st : St 0 s.heap) (hL : ∀ (j : Nat) (h : Heap), St j h → ∀ b ∈ fp, ∃ o, h.get? b = some o) (hI : it ∈ fp) (hwr : ∀ b ∈ wr, b = it)
    (hQ : ∀ s' : Shared, (∀ b o, b ≠ it → s.heap.get? b = some o → s'.heap.get? b = some o) → s'.gens = s.gens → s'.drawn = s.drawn → s'.os = s.os →
      Q (its.take i ++ [.ref s'.heap.objs.size]) { s' with heap := s'.heap.push { cls := .type "list", data := .seq (its.drop i).toArray } }) :
    wpAny (model prog w) A (do
      let first ← holding [.ref it] (draw (.ref it) i)
      if first.length < i then
        rule "unpack.star.too-few-before"
        raiseError "ValueError" s!"not enough values to unpack (expected at least {i + 1 - 1}, got {first.length})"
      let rest ← holding first (collect (.ref it))
      let after := i + 1 - 1 - i
      if rest.length < after then
        rule "unpack.star.too-few"
        raiseError "ValueError" s!"not enough values to unpack (expected at least {i + 1 - 1}, got {i + rest.length})"
      let mid := rest.length - after
      return first ++ [← newList (rest.take mid)] ++ rest.drop mid) Q E s := by
  have W0 := W A hh
  refine wpAny_bind (wpAny_holding (draw_walks W0 i 0 s _ (by simpa using hi) st fun vs h1 t1 l1 p1 st1 k1 => ?_))
  have ev : vs = its.take i := list_of_at (by rw [l1, List.length_take]; omega) fun j v e => by
    have hj : j < vs.length := (List.getElem?_eq_some_iff.mp e).1
    have q := p1 j v e
    rw [Nat.zero_add] at q
    rw [List.getElem?_take_of_lt (by omega)]
    simpa using q
  subst ev
  rw [if_neg (by rw [l1]; omega)]
  have st1' : St i h1 := by rw [Nat.zero_add] at st1; exact st1
  have sz : its.toArray.size = its.length := by simp
  have Wi := (walks_shift (W A.in1 hh) i (by rw [sz]; exact hi)).toS
  have hT2 : T = "str_ascii_iterator" ∨ T = "str_iterator" ∨ T = "list_iterator" ∨ T = "tuple_iterator" := by
    rcases hT with e | e
    · exact .inr (.inr (.inl e))
    · exact .inr (.inr (.inr e))
  refine wpAny_bind (wpAny_holding (wpAny_collect_iter hT2 Wi (fun j s q => hTy (j + i) s q) (by show St (0 + i) h1; rw [Nat.zero_add]; exact st1') (fun b hb => let ⟨o, e⟩ := hL i h1 st1' b hb; Heap.lt_size e) hI (fun s2 acc mv hacc => ?_) (by rw [sz]; omega)))
  have ea : acc.toList = its.drop i := list_of_at (by rw [Array.length_toList, hacc.1, sz, List.length_drop]) fun j v e => by
    have q := hacc.2 j v (by simpa using e)
    rw [List.getElem?_drop, Nat.add_comm]
    simpa using q
  rw [ea, show i + 1 - 1 - i = 0 by omega, if_neg (by omega)]
  refine wpAny_bind (wpAny_newObj_type (wpAny_pure ?_) ?_)
  · rw [Nat.sub_zero, List.take_length, List.drop_length, List.append_nil]
    refine hQ s2 (fun b o hb e => mv.heap b o (fun z => hb (hwr b z)) (k1 b o (fun z => hb (hwr b z)) e)) ?_ mv.drawn mv.os
    exact mv.gens
  · rw [Nat.sub_zero, List.take_length]
    show (its.drop i).length ≤ sizeLine
    rw [List.length_drop]
    omega
end
section
variable {X : Cx} {pins : List (Addr × Obj)} {σ : L2.St} {H : Hp} {s : Shared} {a : Addr} {xs : List V}
/-- what the unpacking of a sequence leaves: the first i, and a new list of the others -/
theorem star_ok {i n : Nat} {Q : List Value → Shared → Prop} (I : Inv X pins σ H s) (hc : X.calm = true) (hq : SqT X.K H a xs ∨ SqL X.K H a xs) (hi : i ≤ xs.length) (hn : n = i + 1)
    (h : ∀ p us s', H p = none → Inv X pins σ (upd H p (.lst (xs.drop i))) s' → Vals (xs.take i ++ [.ref p]) us → Q us s') :
    wpAny (model X.prog X.w) X.A (unpackItems (.ref a) n (some i)) Q X.xe s := by
  subst hn
  have hh := I.ok.hd hc
  have fin : ∀ (its : List Value) (it : Addr) (s1 : Shared), Vals xs its → xs.length ≤ sizeLine → s.heap.objs.size = it → (∀ b o, s.heap.get? b = some o → s1.heap.get? b = some o) → s1.gens = s.gens → s1.drawn = s.drawn → s1.os = s.os →
      ∀ s' : Shared, (∀ b o, b ≠ it → s1.heap.get? b = some o → s'.heap.get? b = some o) → s'.gens = s1.gens → s'.drawn = s1.drawn → s'.os = s1.os →
      Q (its.take i ++ [.ref s'.heap.objs.size]) { s' with heap := s'.heap.push { cls := .type "list", data := .seq (its.drop i).toArray } } := by
    intro its it s1 rv hz eit k1 g1 d1 o1 s' k2 g2 d2 o2
    have kk : ∀ b o, s.heap.get? b = some o → s'.heap.get? b = some o := fun b o e => k2 b o (by rw [← eit]; exact Nat.ne_of_lt (Heap.lt_size e)) (k1 b o e)
    obtain ⟨h', gs, dr, tk, os⟩ := s'
    obtain rfl : gs = s.gens := g2.trans g1
    obtain rfl : dr = s.drawn := d2.trans d1
    obtain rfl : os = s.os := o2.trans o1
    have I1 : Inv X pins σ H { s with heap := h', toks := tk } := I.kept kk
    have hf : H h'.objs.size = none := I1.hok.fresh (Nat.le_refl _)
    refine h h'.objs.size _ _ hf ?_ ((rv.take i).append (.cons rfl .nil))
    refine I1.laid (t' := tk) (a := h'.objs.size) (o := .lst (xs.drop i)) (fun b o e => Heap.get?_push_of_some _ e) (Nat.le_refl _) ?_
    exact ⟨by rw [List.length_drop]; omega, its.drop i, _, rv.drop i, Heap.get?_push_size _ rfl⟩
  rcases hq with hq | hq
  · obtain ⟨its, rv, ht, hz⟩ := I.tuple hq
    have hl := rv.length
    unfold unpackItems notIterableAtAll
    refine wpAny_bind (wpAny_bind (wpAny_specialOf ht.typeIs slot_tuple_iter.lookup (wpAny_pure ?_)))
    simp only [Bool.false_eq_true, if_false]
    refine wpAny_bind (wpAny_holding (iter_tuple ht ?_))
    have hne : a ≠ s.heap.objs.size := Nat.ne_of_lt ht.lt
    refine star_core (St := fun j h => h.IsTupleIter s.heap.objs.size a j ∧ h.IsTuple a its.toArray) (fp := [s.heap.objs.size, a]) (wr := [s.heap.objs.size]) (T := "tuple_iterator") (.inr rfl) (fun A hA => Walks.tuple hA s.heap.objs.size a hne its.toArray) hh (by omega) (by omega)
      (fun j s q => ?_) ⟨⟨_, Heap.get?_push_size _ rfl, rfl, rfl⟩, ?_⟩ (fun j h q b hb => ?_) (by simp) (fun b hb => by simpa using hb) (fin its _ _ rv hz rfl (fun b o e => Heap.get?_push_of_some _ e) rfl rfl rfl)
    · obtain ⟨⟨o, ho, hc, _⟩, _⟩ := q
      exact ⟨o, ho, hc⟩
    · exact ht.push _
    · obtain ⟨⟨o, ho, _⟩, ⟨o2, ho2, _⟩⟩ := q
      rcases List.mem_cons.mp hb with e | hb
      · exact ⟨o, by rw [e]; exact ho⟩
      · have e : b = a := by simpa using hb
        exact ⟨o2, by rw [e]; exact ho2⟩
  · obtain ⟨its, rv, pl, hz⟩ := I.list hq
    have ht := pl.isList
    have hl := rv.length
    unfold unpackItems notIterableAtAll
    refine wpAny_bind (wpAny_bind (wpAny_specialOf ht.typeIs slot_list_iter.lookup (wpAny_pure ?_)))
    simp only [Bool.false_eq_true, if_false]
    refine wpAny_bind (wpAny_holding (wpAny_pyIter_list ht ?_))
    have hlt : a < s.heap.objs.size := by
      obtain ⟨o, ho, _⟩ := ht
      exact Heap.lt_size ho
    have hne : a ≠ s.heap.objs.size := Nat.ne_of_lt hlt
    refine star_core (St := fun j h => h.IsListIter s.heap.objs.size a j ∧ h.IsList a its.toArray) (fp := [s.heap.objs.size, a]) (wr := [s.heap.objs.size]) (T := "list_iterator") (.inl rfl) (fun A hA => Walks.list hA s.heap.objs.size a hne its.toArray) hh (by omega) (by omega)
      (fun j s q => ?_) ⟨⟨_, Heap.get?_push_size _ rfl, rfl, rfl⟩, ?_⟩ (fun j h q b hb => ?_) (by simp) (fun b hb => by simpa using hb) (fin its _ _ rv hz rfl (fun b o e => Heap.get?_push_of_some _ e) rfl rfl rfl)
    · obtain ⟨⟨o, ho, hc, _⟩, _⟩ := q
      exact ⟨o, ho, hc⟩
    · obtain ⟨o, ho, r⟩ := ht
      exact ⟨o, Heap.get?_push_of_some _ ho, r⟩
    · obtain ⟨⟨o, ho, _⟩, ⟨o2, ho2, _⟩⟩ := q
      rcases List.mem_cons.mp hb with e | hb
      · exact ⟨o, by rw [e]; exact ho⟩
      · have e : b = a := by simpa using hb
        exact ⟨o2, by rw [e]; exact ho2⟩
/-- (a, .., *rest) = a tuple or a list: i targets ahead of the star -/
def gStar (K : PySem.W.Frag) (i : Nat) (t : TGs) : TG := fun v σ H Q => ∃ a xs, v = .ref a ∧ (SqT K H a xs ∨ SqL K H a xs) ∧ i ≤ xs.length ∧ ∀ p, H p = none → t (xs.take i ++ [.ref p]) σ (upd H p (.lst (xs.drop i))) Q
theorem pgs_star {e : Expr} {es : List Expr} {t : TG} {u : TGs} {p : Pos} (h1 : PG X e t) (h2 : PGs X es u)
    (hs : (assignEach (.Starred e p :: es) X.env).map (·.2) = assign e X.env :: (assignEach es X.env).map (·.2) := by rfl) : PGs X (.Starred e p :: es) (gCons t u) := by
  refine ⟨fun pins s σ H vs us Q I r h => ?_⟩
  obtain ⟨v, vr, e1, h⟩ := h
  subst e1
  cases r with
  | cons r rr =>
    rw [hs]
    refine assignInOrder_cons (thn (h1.run pins s σ H _ _ _ I r h) fun _ s1 ⟨σ1, H1, I1, q1⟩ => ?_)
    exact h2.run pins s1 σ1 H1 _ _ Q I1 rr q1
theorem pg_star {es : List Expr} {k : Nat} {t : TGs} {i : Nat} {pos : Pos} (hc : X.calm = true) (h : PGs X es t) (hst : (assignEach es X.env).findIdx? (·.1) = some i := by rfl) (hn : (assignEach es X.env).length = i + 1 := by rfl) :
    PG X (.Tuple es k pos) (gStar X.K i t) := by
  refine ⟨fun pins s σ H v u Q I r hw => ?_⟩
  obtain ⟨a, xs, e1, hq, hl, hw⟩ := hw
  subst e1
  cases r
  rw [assign_Tuple]
  refine wpAny_bind (wpAny_standAt ?_)
  unfold unpack
  rw [hst]
  refine wpAny_bind (wpAny_holding (star_ok I hc hq hl hn fun p us s' hp I' r' => ?_))
  exact h.run pins s' σ _ _ us Q I' r' (hw p hp)
end
end Uz

/-! the readings, answered one by one -/
namespace Zg
open PySem PySem.Spec PyProof.Rows L2
/-! ### frames -/
/-- all that stood stands, but what F names -/
def Kp (F : Addr → Prop) (H H' : Hp) : Prop := ∀ b o, ¬ F b → H b = some o → H' b = some o
abbrev No : Addr → Prop := fun _ => False
section
variable {F G : Addr → Prop} {H H1 H2 : Hp} {p : Addr} {o : HO} {K : PySem.W.Frag} {a : Addr} {xs : List V}
theorem Kp.refl : Kp F H H := fun _ _ _ e => e
theorem Kp.trans (h1 : Kp F H H1) (h2 : Kp F H1 H2) : Kp F H H2 := fun b o n e => h2 b o n (h1 b o n e)
theorem Kp.new (h : Kp F H H1) (n : H1 p = none) : Kp F H (upd H1 p o) := fun b u nb e => by
  have q := h b u nb e
  rw [upd_ne (ne_of_none q n)]
  exact q
theorem Kp.put (h : Kp F H H1) (n : F p) : Kp F H (upd H1 p o) := fun b u nb e => by
  rw [upd_ne fun z => nb (by rw [z]; exact n)]
  exact h b u nb e
theorem Kp.own (h : Kp F H H1) (n : H p = none) : Kp F H (upd H1 p o) := fun b u nb e => by
  rw [upd_ne (ne_of_none e n)]
  exact h b u nb e
theorem Kp.of_same (h : Same H H1) : Kp F H H1 := fun b o _ e => h b o e
theorem Kp.same (h : Kp No H H1) : Same H H1 := fun b o e => h b o id e
theorem Kp.mono (h : Kp F H H1) (g : ∀ b o, H b = some o → F b → G b) : Kp G H H1 := fun b o n e => h b o (fun z => n (g b o e z)) e
theorem Kp.ofNo (h : Kp No H H1) : Kp G H H1 := h.mono fun _ _ _ z => z.elim
theorem Kp.free (h : Kp F H H1) (n : H1 p = none) (nF : ¬ F p) : H p = none := by
  cases e : H p with
  | none => rfl
  | some o => rw [h p o nF e] at n; cases n
theorem Kp.rd {u : HO} (h : Kp F H H1) (nF : ¬ F a) (e : Rd H a u) : Rd H1 a u := by
  rcases e with e | ⟨o, e⟩
  · exact .inl (h _ _ nF e)
  · exact .inr ⟨o, h _ _ nF e⟩
theorem Kp.sqT (h : Kp F H H1) (nF : ∀ o, H a = some o → ¬ F a) (e : SqT K H a xs) : SqT K H1 a xs := by
  rcases e with (e | ⟨o, e⟩) | e
  · exact .inl (.inl (h _ _ (nF _ e) e))
  · exact .inl (.inr ⟨o, h _ _ (nF _ e) e⟩)
  · exact .inr e
theorem Kp.sqL (h : Kp F H H1) (nF : ∀ o, H a = some o → ¬ F a) (e : SqL K H a xs) : SqL K H1 a xs := by
  rcases e with (e | ⟨o, e⟩) | e
  · exact .inl (.inl (h _ _ (nF _ e) e))
  · exact .inl (.inr ⟨o, h _ _ (nF _ e) e⟩)
  · exact .inr e
end
/-- no tuple is named -/
def NoTup (F : Addr → Prop) (H : Hp) : Prop := ∀ b, F b → ∃ o, H b = some o ∧ (∀ xs, o ≠ .tup xs) ∧ ∀ q u, o ≠ .frz q u
theorem NoTup.no {H : Hp} : NoTup No H := fun _ z => z.elim
section
variable {F : Addr → Prop} {H H1 : Hp} {K : PySem.W.Frag} {a : Addr} {xs : List V}
theorem Kp.tup (h : Kp F H H1) (n : NoTup F H) (e : SqT K H a xs) : SqT K H1 a xs := by
  rcases e with (e | ⟨o, e⟩) | e
  · refine .inl (.inl (h _ _ (fun z => ?_) e))
    obtain ⟨o, q, q1, _⟩ := n a z
    rw [e] at q
    exact q1 xs (Option.some.inj q).symm
  · refine .inl (.inr ⟨o, h _ _ (fun z => ?_) e⟩)
    obtain ⟨o2, q, _, q2⟩ := n a z
    rw [e] at q
    exact q2 _ _ (Option.some.inj q).symm
  · exact .inr e
end
/-! deep values made of tuples and plain things alone -/
mutual
def tupd : PyData → Bool
  | .list _ => false
  | .tuple ds => tupds ds
  | _ => true
def tupds : List PyData → Bool
  | [] => true
  | d :: ds => tupd d && tupds ds
end
section
variable {F : Addr → Prop} {H H1 : Hp} {K : PySem.W.Frag}
mutual
theorem Kp.dp (h : Kp F H H1) (n : NoTup F H) : ∀ (d : PyData) {v : V}, tupd d = true → Dp K H v d → Dp K H1 v d
  | .none, _, _, .non => .non
  | .bool _, _, _, .bl b => .bl b
  | .int _, _, _, .int i => .int i
  | .str _, _, _, .str s => .str s
  | .list _, _, z, _ => by simp [tupd] at z
  | .tuple ds, _, z, .tup e q => .tup (h.tup n e) (Kp.dps h n ds (by simpa [tupd] using z) q)
theorem Kp.dps (h : Kp F H H1) (n : NoTup F H) : ∀ (ds : List PyData) {vs : List V}, tupds ds = true → DpAll K H vs ds → DpAll K H1 vs ds
  | [], _, _, .nil => .nil
  | d :: ds, _, z, .cons q qs => by
    have z1 : tupd d = true ∧ tupds ds = true := by simpa [tupds] using z
    exact .cons (Kp.dp h n d z1.1 q) (Kp.dps h n ds z1.2 qs)
end
end
/-! ### the readings -/
section
variable {σ : L2.St} {H : Hp} {Q : VK} {ta tb tc te : TE} {D : Ends} {K : PySem.W.Frag}
theorem go_var {i : Nat} {v : V} (e : σ[i]? = some (some v)) (h : Q v H) : tVar i σ H Q := ⟨v, e, h⟩
theorem go_c {v : V} (h : Q v H) : tC v σ H Q := h
theorem go_op {r : R2} (h : ta σ H fun x H1 => tb σ H1 fun y H2 => r x y H2 Q) : tOp r ta tb σ H Q := h
theorem go_un {r : V → Hp → VK → Prop} (h : ta σ H fun x H1 => r x H1 Q) : tUn r ta σ H Q := h
theorem go_rI0 {g : Int → Int → V} {i j : Int} (h : Q (g i j) H) : rI0 g (.int i) (.int j) H Q := ⟨i, j, rfl, rfl, h⟩
theorem go_rI {C : Int → Int → Prop} {g : Int → Int → V} {i j : Int} (c : C i j) (h : Q (g i j) H) : rI C g (.int i) (.int j) H Q := ⟨i, j, rfl, rfl, c, h⟩
theorem go_rU {g : Int → V} {i : Int} (h : Q (g i) H) : rU g (.int i) H Q := ⟨i, rfl, h⟩
theorem go_eq {x y : V} (c : scal x y = true) (h : Q (.bl (decide (x = y))) H) : rEq x y H Q := ⟨c, h⟩
theorem go_ne {x y : V} (c : scal x y = true) (h : Q (.bl (!decide (x = y))) H) : rNe x y H Q := ⟨c, h⟩
theorem go_test {t : TE} {Q : Bool → Hp → Prop} (h : t σ H fun x H1 => ∃ k, x = .bl k ∧ Q k H1) : tTest t σ H Q := h
theorem go_bl {k : Bool} {Q : Bool → Hp → Prop} (h : Q k H) : ∃ k', V.bl k = .bl k' ∧ Q k' H := ⟨k, rfl, h⟩
theorem go_bl' {k : Bool} {P : Bool → Prop} (h : P k) : ∃ k', V.bl k = .bl k' ∧ P k' := ⟨k, rfl, h⟩
theorem go_chain {r r' : R2} (h : ta σ H fun x H1 => tb σ H1 fun y H2 => r x y H2 fun z H3 => ∃ k, z = .bl k ∧ if k = true then tc σ H3 fun w H4 => r' y w H4 Q else Q (.bl false) H3) : tChain r r' ta tb tc σ H Q := h
theorem go_and {t u : TT} {Q : Bool → Hp → Prop} (h : t σ H fun c H1 => if c = true then u σ H1 Q else Q false H1) : tAnd t u σ H Q := h
theorem go_or {t u : TT} {Q : Bool → Hp → Prop} (h : t σ H fun c H1 => if c = true then Q true H1 else u σ H1 Q) : tOr t u σ H Q := h
theorem go_not {t : TT} {Q : Bool → Hp → Prop} (h : t σ H fun c H1 => Q (!c) H1) : tNot t σ H Q := h
theorem go_andV (h : ta σ H fun x H1 => ∃ c, x = .bl c ∧ if c = true then tb σ H1 Q else Q (.bl false) H1) : tAndV ta tb σ H Q := h
theorem go_orV (h : ta σ H fun x H1 => ∃ c, x = .bl c ∧ if c = true then Q (.bl true) H1 else tb σ H1 Q) : tOrV ta tb σ H Q := h
theorem go_notV (h : ta σ H fun x H1 => ∃ c, x = .bl c ∧ Q (.bl (!c)) H1) : tNotV ta σ H Q := h
theorem go_ifE {t : TT} (h : t σ H fun c H1 => if c = true then ta σ H1 Q else tb σ H1 Q) : tIf t ta tb σ H Q := h
theorem go_next (h : D.nx σ H) : tNext D σ H := h
theorem go_seq {t u : TS} (h : t (Ends.mk (u D) D.rt D.bk D.ct) σ H) : tSeq t u D σ H := h
theorem go_break (h : D.bk σ H) : tBreak D σ H := h
theorem go_cont (h : D.ct σ H) : tCont D σ H := h
theorem go_drop (h : te σ H fun _ H1 => D.nx σ H1) : tDrop te D σ H := h
theorem go_ret (h : te σ H D.rt) : tRet te D σ H := h
theorem go_retN (h : D.rt .non H) : tRetN D σ H := h
theorem go_ifS {c : TT} {t u : TS} (h : c σ H fun b H1 => if b = true then t D σ H1 else u D σ H1) : tIfS c t u D σ H := h
theorem go_asg {g : TG} (h : te σ H fun x H1 => g x σ H1 D.nx) : tAsg te g D σ H := h
theorem go_name {i : Nat} {v : V} {Q : L2.St → Hp → Prop} (h : Q (σ.set i (some v)) H) : gName i v σ H Q := h
theorem go_par {i j : Nat} {ta : TA} (h : ta σ H fun vs H1 => ∃ v w, vs = [v, w] ∧ D.nx ((σ.set i (some v)).set j (some w)) H1) : tPar i j ta D σ H := h
theorem go_par2 {v w : V} {P : V → V → Prop} (h : P v w) : ∃ v' w', [v, w] = [v', w'] ∧ P v' w' := ⟨v, w, rfl, h⟩
theorem go_aug {i : Nat} {ti : TIp} {x : V} (e : σ[i]? = some (some x)) (h : te σ H fun y H1 => ti x y H1 fun z H2 => D.nx (σ.set i (some z)) H2) : tAug i te ti D σ H := ⟨x, e, h⟩
theorem go_nil {Q : List V → Hp → Prop} (h : Q [] H) : tNil σ H Q := h
theorem go_cons {tr : TA} {Q : List V → Hp → Prop} (h : te σ H fun x H1 => tr σ H1 fun xs H2 => Q (x :: xs) H2) : tCons te tr σ H Q := h
theorem go_gnil {Q : L2.St → Hp → Prop} (h : Q σ H) : gNil [] σ H Q := ⟨rfl, h⟩
theorem go_gcons {t : TG} {u : TGs} {v : V} {r : List V} {Q : L2.St → Hp → Prop} (h : t v σ H fun σ' H' => u r σ' H' Q) : gCons t u (v :: r) σ H Q := ⟨v, r, rfl, h⟩
theorem go_cb {r : List V → Hp → VK → Prop} {t : TA} (h : t σ H fun vs H1 => r vs H1 Q) : tCB r t σ H Q := h
theorem go_call {sp : Sp} {dvs : List V} {E : XK} {t : TA} (h : t σ H fun vs H1 => sp (vs ++ dvs) H1 Q E) : tCall sp dvs E t σ H Q := h
end
/-! ### what is walked -/
structure Walk (J : It) (G : Hp → Prop) (n : Nat) (it : Nat → V → Hp → Prop) : Prop where
  go : ∀ i H, i < n → G H → J.go i H
  yld : ∀ i H x H', i < n → G H → J.yld i H x H' → Kp No H H' ∧ it i x H'
  stop : ∀ H, G H → J.stop n H
theorem walk_str (x : Str) : Walk (Its x) (fun _ => True) x.cps.size (fun i v _ => ∃ c, x.cps[i]? = some c ∧ v = .str ⟨#[c]⟩) :=
  ⟨fun _ _ h _ => h, fun _ _ _ _ _ _ ⟨e, q⟩ => ⟨e ▸ Kp.refl, q⟩, fun _ _ => Nat.le_refl _⟩
theorem walk_list {K : PySem.W.Frag} {a : Addr} (xs : List V) : Walk (Itl K a) (fun H => SqL K H a xs) xs.length (fun i v _ => xs[i]? = some v) :=
  ⟨fun i _ h g => ⟨xs, xs[i], g, by simp [h]⟩, fun i _ _ _ _ g ⟨e, q⟩ => ⟨e ▸ Kp.refl, q xs g⟩, fun _ g => ⟨xs, g, Nat.le_refl _⟩⟩
theorem walk_tup {K : PySem.W.Frag} {a : Addr} (xs : List V) : Walk (Itt K a) (fun H => SqT K H a xs) xs.length (fun i v _ => xs[i]? = some v) :=
  ⟨fun i _ h g => ⟨xs, xs[i], g, by simp [h]⟩, fun i _ _ _ _ g ⟨e, q⟩ => ⟨e ▸ Kp.refl, q xs g⟩, fun _ g => ⟨xs, g, Nat.le_refl _⟩⟩
theorem walk_range (lo : Int) (n : Nat) : Walk (Itr lo n) (fun _ => True) n (fun i v _ => v = .int (lo + i)) :=
  ⟨fun _ _ h _ => h, fun _ _ _ _ _ _ ⟨e, q⟩ => ⟨e ▸ Kp.refl, q⟩, fun _ _ => Nat.le_refl _⟩
theorem walk_enum {K : PySem.W.Frag} {a : Addr} (xs : List V) : Walk (Ite K a) (fun H => SqL K H a xs) xs.length (fun i v H => ∃ T x, v = .ref T ∧ H T = some (.tup [.int i, x]) ∧ xs[i]? = some x) :=
  ⟨fun i _ h g => ⟨xs, xs[i], g, by simp [h]⟩, fun i H v H' _ g ⟨T, x, e, n, u, q⟩ => ⟨by rw [u]; exact Kp.refl.new n, T, x, e, by rw [u]; exact upd_same, q xs g⟩, fun _ g => ⟨xs, g, Nat.le_refl _⟩⟩
/-- [e for x in ..]: Q' is what is wanted behind one turn -/
theorem lc_gen {J : It} {G : Hp → Prop} {n : Nat} {it : Nat → V → Hp → Prop} (W : Walk J G n it) {F : Addr → Prop} {I : Nat → Hp → Prop} {P : Addr → Nat → V → Hp → Prop} {g : TG} {te : TE} {vs : List Nat} {σ : L2.St} {H1 : Hp} {Qd : Addr → Hp → Prop}
    (hG : ∀ H, Kp F H1 H → G H) (hF : ∀ D, H1 D = none → ¬ F D) (hn : n ≤ sizeLine) (h0 : I 0 H1) (hI : ∀ i H D o, H1 D = none → I i H → I i (upd H D o))
    (hP : ∀ D i v H l o, H1 D = none → H D = some (.lst l) → P D i v H → P D i v (upd H D o))
    (hPm : ∀ D i v H H' l, H1 D = none → H D = some (.lst l) → P D i v H → Kp F H1 H → Kp F H H' → P D i v H')
    (step : ∀ D i x H' l (Q' : VK), i < n → H1 D = none → H' D = some (.lst l) → Kp F H1 H' → I i H' → it i x H' → (∀ y H4, Kp F H' H4 → I (i + 1) H4 → P D i y H4 → Q' y H4) →
      g x (wipe σ vs) H' fun σ2 H2 => wipe σ2 vs = wipe σ vs ∧ te σ2 H2 Q')
    (hIy : ∀ i H H', Kp No H H' → I i H → I i H')
    (fin : ∀ D ys H', H1 D = none → ys.length = n → (∀ i v, ys[i]? = some v → P D i v H') → Kp F H1 H' → I n H' → H' D = some (.lst ys) → Qd D H') (D : Addr) (hD : H1 D = none) :
    ∃ W : Nat → Nat → Hp → Prop, (∃ m, W 0 m (upd H1 D (.lst []))) ∧ ∀ i m H, W i m H →
      (J.stop i H ∧ Qd D H) ∨ (J.go i H ∧ ∃ Nx : Hp → Prop, (∀ H', Nx H' → ∃ m', m' < m ∧ W (i + 1) m' H') ∧ ∀ x H', J.yld i H x H' → g x (wipe σ vs) H' fun σ2 H2 => wipe σ2 vs = wipe σ vs ∧ tYes σ2 H2 fun b H3 =>
        if b = true then te σ2 H3 fun y H4 => ∃ acc, H4 D = some (.lst acc) ∧ acc.length < sizeLine ∧ Nx (upd H4 D (.lst (acc ++ [y]))) else Nx H3) := by
  let Pv : Nat → Hp → Prop := fun i H => ∃ acc, H D = some (.lst acc) ∧ acc.length = i ∧ (∀ j v, acc[j]? = some v → P D j v H) ∧ Kp F H1 H ∧ I i H
  have nD := hF D hD
  refine ⟨fun i m H => m = n - i ∧ i ≤ n ∧ Pv i H, ⟨n, by simp, Nat.zero_le _, [], upd_same, rfl, fun j v e => by simp at e, Kp.refl.own hD, hI _ _ _ _ hD h0⟩, ?_⟩
  rintro i m H ⟨rfl, hi, acc, e1, e2, e3, e4, e5⟩
  by_cases hlt : i < n
  · refine .inr ⟨W.go i H hlt (hG H e4), Pv (i + 1), fun H' p' => ⟨n - (i + 1), by omega, rfl, hlt, p'⟩, fun x H' y => ?_⟩
    obtain ⟨k1, k2⟩ := W.yld i H x H' hlt (hG H e4) y
    refine step D i x H' acc _ hlt hD (k1 _ _ id e1) (e4.trans k1.ofNo) (hIy _ _ _ k1 e5) k2 fun y H4 q1 q2 q3 => ?_
    have q4 : H4 D = some (.lst acc) := q1 _ _ nD (k1 _ _ id e1)
    refine ⟨acc, q4, by omega, acc ++ [y], upd_same, by rw [List.length_append, e2]; rfl, fun j v e => ?_, ((e4.trans k1.ofNo).trans q1).own hD, hI _ _ _ _ hD q2⟩
    refine hP D j v H4 acc _ hD q4 ?_
    by_cases hj : j < acc.length
    · rw [List.getElem?_append_left hj] at e
      exact hPm D j v H H4 acc hD e1 (e3 j v e) e4 (k1.ofNo.trans q1)
    · rw [List.getElem?_append_right (by omega)] at e
      have hz : j - acc.length = 0 := by
        rcases Nat.eq_zero_or_pos (j - acc.length) with z | z
        · exact z
        · rw [List.getElem?_eq_none (by simp; omega)] at e
          cases e
      rw [hz] at e
      have ev : y = v := by simpa using e
      rw [← ev, show j = i by omega]
      exact q3
  · have e : i = n := by omega
    subst e
    exact .inl ⟨W.stop H (hG H e4), fin D acc H hD e2 e3 e4 e5 e1⟩
/-- plain values, no change -/
theorem lc_plain {J : It} {G : Hp → Prop} {n : Nat} {it : Nat → V → Hp → Prop} (W : Walk J G n it) {g : TG} {te : TE} {vs : List Nat} {σ : L2.St} {H1 : Hp} {Qd : Addr → Hp → Prop} (f : Nat → V)
    (hG : ∀ H, Kp No H1 H → G H) (hn : n ≤ sizeLine)
    (step : ∀ D i x H' l (Q' : VK), i < n → H1 D = none → H' D = some (.lst l) → Kp No H1 H' → it i x H' → (∀ H4, Kp No H' H4 → Q' (f i) H4) → g x (wipe σ vs) H' fun σ2 H2 => wipe σ2 vs = wipe σ vs ∧ te σ2 H2 Q')
    (fin : ∀ D H', H1 D = none → Kp No H1 H' → H' D = some (.lst ((List.range n).map f)) → Qd D H') (D : Addr) (hD : H1 D = none) :
    ∃ W : Nat → Nat → Hp → Prop, (∃ m, W 0 m (upd H1 D (.lst []))) ∧ ∀ i m H, W i m H →
      (J.stop i H ∧ Qd D H) ∨ (J.go i H ∧ ∃ Nx : Hp → Prop, (∀ H', Nx H' → ∃ m', m' < m ∧ W (i + 1) m' H') ∧ ∀ x H', J.yld i H x H' → g x (wipe σ vs) H' fun σ2 H2 => wipe σ2 vs = wipe σ vs ∧ tYes σ2 H2 fun b H3 =>
        if b = true then te σ2 H3 fun y H4 => ∃ acc, H4 D = some (.lst acc) ∧ acc.length < sizeLine ∧ Nx (upd H4 D (.lst (acc ++ [y]))) else Nx H3) := by
  refine lc_gen W (F := No) (I := fun _ _ => True) (P := fun _ i v _ => v = f i) hG (fun _ _ z => z) hn trivial (fun _ _ _ _ _ _ => trivial) (fun _ _ _ _ _ _ _ _ z => z) (fun _ _ _ _ _ _ _ _ z _ _ => z)
    (fun D i x H' l Q' hi hD e k _ t q => step D i x H' l Q' hi hD e k t fun H4 k4 => q _ _ k4 trivial rfl) (fun _ _ _ _ _ => trivial) (fun D ys H' hD hl hv k _ e => ?_) D hD
  have ey : ys = (List.range n).map f := by
    refine List.ext_getElem? fun j => ?_
    by_cases hj : j < n
    · have e1 : ys[j]? = some ys[j] := by simp [hl, hj]
      rw [e1, hv j _ e1]
      simp [hj]
    · rw [List.getElem?_eq_none (by omega), List.getElem?_eq_none (by simp; omega)]
  rw [ey] at e
  exact fin D H' hD k e
/-- for: the same -/
theorem for_gen {J : It} {G : Hp → Prop} {n : Nat} {it : Nat → V → Hp → Prop} (W : Walk J G n it) {g : TG} {tb : TS} {D : Ends} {σ : L2.St} {H : Hp} (Pv : Nat → L2.St → Hp → Prop) (h0 : Pv 0 σ H) (hG : ∀ i σ H, Pv i σ H → G H)
    (hs : ∀ i x σ H H', i < n → Pv i σ H → Kp No H H' → it i x H' → g x σ H' fun σ2 H2 => tb { D with nx := Pv (i + 1), ct := Pv (i + 1), bk := D.nx } σ2 H2) (hd : ∀ σ H, Pv n σ H → D.nx σ H) :
    ∃ W : Nat → Nat → L2.St → Hp → Prop, (∃ m, W 0 m σ H) ∧ ∀ i m σ H, W i m σ H →
      (J.stop i H ∧ D.nx σ H) ∨ (J.go i H ∧ ∃ N : L2.St → Hp → Prop, (∀ σ' H', N σ' H' → ∃ m', m' < m ∧ W (i + 1) m' σ' H') ∧ ∀ x H', J.yld i H x H' → g x σ H' fun σ2 H2 => tb { D with nx := N, ct := N, bk := D.nx } σ2 H2) := by
  refine ⟨fun i m σ H => m = n - i ∧ i ≤ n ∧ Pv i σ H, ⟨n, by simp, Nat.zero_le _, h0⟩, ?_⟩
  rintro i m σ H ⟨rfl, hi, p⟩
  by_cases hlt : i < n
  · refine .inr ⟨W.go i H hlt (hG _ _ _ p), Pv (i + 1), fun σ' H' p' => ⟨n - (i + 1), by omega, rfl, hlt, p'⟩, fun x H' y => ?_⟩
    obtain ⟨k1, k2⟩ := W.yld i H x H' hlt (hG _ _ _ p) y
    exact hs i x σ H H' hlt p k1 k2
  · have e : i = n := by omega
    subst e
    exact .inl ⟨W.stop H (hG _ _ _ p), hd σ H p⟩
section
variable {σ : L2.St} {H : Hp} {Q : VK} {te tl : TE} {D : Ends} {K : PySem.W.Frag} {R : It → Hp → Prop}
/-- at each free place -/
def Fr (H : Hp) (P : Addr → Prop) : Prop := ∀ D, H D = none → P D
theorem go_lc {wi : TI} {g : TG} {tt : TT} {vs : List Nat} (h : wi σ H fun J H1 => Fr H1 fun D => ∃ W : Nat → Nat → Hp → Prop, (∃ m, W 0 m (upd H1 D (.lst []))) ∧ ∀ i m H, W i m H →
    (J.stop i H ∧ Q (.ref D) H) ∨ (J.go i H ∧ ∃ Nx : Hp → Prop, (∀ H', Nx H' → ∃ m', m' < m ∧ W (i + 1) m' H') ∧ ∀ x H', J.yld i H x H' → g x (wipe σ vs) H' fun σ2 H2 => wipe σ2 vs = wipe σ vs ∧ tt σ2 H2 fun b H3 =>
      if b = true then te σ2 H3 fun y H4 => ∃ acc, H4 D = some (.lst acc) ∧ acc.length < sizeLine ∧ Nx (upd H4 D (.lst (acc ++ [y]))) else Nx H3)) : tLc wi g tt te vs σ H Q := h
theorem go_iStr (h : te σ H fun v H1 => ∃ x, v = .str x ∧ R (Its x) H1) : iStr te σ H R := h
theorem go_str {x : Str} {P : Str → Prop} (h : P x) : ∃ y, V.str x = .str y ∧ P y := ⟨x, rfl, h⟩
theorem go_iList (h : tl σ H fun x H1 => ∃ a, x = .ref a ∧ (∃ xs, SqL K H1 a xs) ∧ R (Itl K a) H1) : iList K tl σ H R := h
theorem go_iTup (h : tl σ H fun x H1 => ∃ a, x = .ref a ∧ (∃ xs, SqT K H1 a xs) ∧ R (Itt K a) H1) : iTup K tl σ H R := h
theorem go_seq1 {a : Addr} {A : Addr → List V → Prop} {B : Addr → Prop} (xs : List V) (h1 : A a xs) (h2 : B a) : ∃ b, V.ref a = .ref b ∧ (∃ xs, A b xs) ∧ B b := ⟨a, rfl, ⟨xs, h1⟩, h2⟩
theorem go_rng1 {ta : TA} (h : ta σ H fun vs H1 => ∃ j : Int, vs = [.int j] ∧ -(2 ^ 62) ≤ j ∧ j < 2 ^ 62 ∧ R (Itr 0 j.toNat) H1) : iRng1 ta σ H R := h
theorem go_int1 {j : Int} {P : Int → Prop} (h : P j) : ∃ i, [V.int j] = [.int i] ∧ P i := ⟨j, rfl, h⟩
theorem go_for {wi : TI} {g : TG} {tb : TS} (h : wi σ H fun J H1 => ∃ W : Nat → Nat → L2.St → Hp → Prop, (∃ m, W 0 m σ H1) ∧ ∀ i m σ H, W i m σ H →
    (J.stop i H ∧ D.nx σ H) ∨ (J.go i H ∧ ∃ N : L2.St → Hp → Prop, (∀ σ' H', N σ' H' → ∃ m', m' < m ∧ W (i + 1) m' σ' H') ∧ ∀ x H', J.yld i H x H' → g x σ H' fun σ2 H2 => tb { D with nx := N, ct := N, bk := D.nx } σ2 H2)) : tFor wi g tb D σ H := h
end
section
variable {H : Hp} {Q : VK} {K : PySem.W.Frag} {P : Program}
theorem go_rfl {α : Sort u} {a : α} {R : Prop} (h : R) : a = a ∧ R := ⟨rfl, h⟩
theorem go_lenS {s : Str} {R : Nat → Prop} (hs : s.length ≤ sizeLine) (h : R s.length) : ∃ x n, [V.str s] = [x] ∧ LenV K x H n ∧ R n := ⟨_, _, rfl, ⟨hs, rfl⟩, h⟩
theorem go_lenL {a : Addr} {xs : List V} {R : Nat → Prop} (hs : SqL K H a xs) (h : R xs.length) : ∃ x n, [V.ref a] = [x] ∧ LenV K x H n ∧ R n := ⟨_, _, rfl, .inl ⟨xs, hs, rfl⟩, h⟩
theorem go_lenT {a : Addr} {xs : List V} {R : Nat → Prop} (hs : SqT K H a xs) (h : R xs.length) : ∃ x n, [V.ref a] = [x] ∧ LenV K x H n ∧ R n := ⟨_, _, rfl, .inr ⟨xs, hs, rfl⟩, h⟩
theorem go_all {a : Addr} {bs : List Bool} (hs : SqL K H a (bs.map V.bl)) (h : Q (.bl (bs.all id)) H) : rAll K [.ref a] H Q := ⟨a, bs, rfl, hs, h⟩
theorem go_sum {a : Addr} {bs : List Int} (hs : SqL K H a (bs.map V.int)) (h : Q (.int bs.sum) H) : rSum K [.ref a] H Q := ⟨a, bs, rfl, hs, h⟩
theorem go_insign {c : Nat} {z : Str} {R : Nat → Str → Prop} (h : R c z) : ∃ c' z', V.str ⟨#[c]⟩ = V.str ⟨#[c']⟩ ∧ V.str z = V.str z' ∧ R c' z' := ⟨c, z, rfl, rfl, h⟩
theorem map_range_get {α : Type} {l : List α} {f : Nat → V} {g : α → V} (h : ∀ i a, l[i]? = some a → f i = g a) : (List.range l.length).map f = l.map g := by
  refine List.ext_getElem? fun j => ?_
  rw [List.getElem?_map, List.getElem?_map]
  by_cases hj : j < l.length
  · have e : l[j]? = some l[j] := by simp [hj]
    rw [e, List.getElem?_range hj]
    simp only [Option.map_some]
    rw [h j _ e]
  · rw [List.getElem?_eq_none (by simp; omega), List.getElem?_eq_none (by omega)]
    rfl
end
section
variable {g : TG} {te : TE} {vs : List Nat} {σ : L2.St} {H1 : Hp} {Qd : Addr → Hp → Prop} {K : PySem.W.Frag} {a : Addr}
theorem lc_strP {z : Str} (f : Nat → V) (hn : z.length ≤ sizeLine)
    (step : ∀ c H' (Q' : VK), c ∈ z.cps.toList → Kp No H1 H' → (∀ H4, Kp No H' H4 → Q' (f c) H4) → g (.str ⟨#[c]⟩) (wipe σ vs) H' fun σ2 H2 => wipe σ2 vs = wipe σ vs ∧ te σ2 H2 Q')
    (fin : ∀ D H', H1 D = none → Kp No H1 H' → H' D = some (.lst (z.cps.toList.map f)) → Qd D H') (D : Addr) (hD : H1 D = none) :
    ∃ W : Nat → Nat → Hp → Prop, (∃ m, W 0 m (upd H1 D (.lst []))) ∧ ∀ i m H, W i m H →
      ((Its z).stop i H ∧ Qd D H) ∨ ((Its z).go i H ∧ ∃ Nx : Hp → Prop, (∀ H', Nx H' → ∃ m', m' < m ∧ W (i + 1) m' H') ∧ ∀ x H', (Its z).yld i H x H' → g x (wipe σ vs) H' fun σ2 H2 => wipe σ2 vs = wipe σ vs ∧ tYes σ2 H2 fun b H3 =>
        if b = true then te σ2 H3 fun y H4 => ∃ acc, H4 D = some (.lst acc) ∧ acc.length < sizeLine ∧ Nx (upd H4 D (.lst (acc ++ [y]))) else Nx H3) := by
  refine lc_plain (walk_str z) (fun i => f (z.cps.toList.getD i 0)) (fun _ _ => trivial) hn (fun D i x H' l Q' hi hD e k t q => ?_) (fun D H' hD k e => fin D H' hD k ?_) D hD
  · obtain ⟨c, hc, rfl⟩ := t
    have hc' : z.cps.toList[i]? = some c := by simpa using hc
    refine step c H' Q' (List.mem_of_getElem? hc') k fun H4 k4 => ?_
    have q' := q H4 k4
    rw [show z.cps.toList.getD i 0 = c from by rw [List.getD_eq_getElem?_getD, hc']; rfl] at q'
    exact q'
  · rw [e]
    have e2 : z.cps.size = z.cps.toList.length := by simp
    rw [e2, map_range_get (l := z.cps.toList) (g := f) fun i a h => by rw [List.getD_eq_getElem?_getD, h]; rfl]
/-- over a list of known values: plain values come -/
theorem lc_listP {α : Type} {xs : List α} (r : α → V) (f : α → V) (hn : xs.length ≤ sizeLine) (hl : ∀ H, Kp No H1 H → SqL K H a (xs.map r))
    (step : ∀ c H' (Q' : VK), c ∈ xs → Kp No H1 H' → (∀ H4, Kp No H' H4 → Q' (f c) H4) → g (r c) (wipe σ vs) H' fun σ2 H2 => wipe σ2 vs = wipe σ vs ∧ te σ2 H2 Q')
    (fin : ∀ D H', H1 D = none → Kp No H1 H' → H' D = some (.lst (xs.map f)) → Qd D H') (D : Addr) (hD : H1 D = none) :
    ∃ W : Nat → Nat → Hp → Prop, (∃ m, W 0 m (upd H1 D (.lst []))) ∧ ∀ i m H, W i m H →
      ((Itl K a).stop i H ∧ Qd D H) ∨ ((Itl K a).go i H ∧ ∃ Nx : Hp → Prop, (∀ H', Nx H' → ∃ m', m' < m ∧ W (i + 1) m' H') ∧ ∀ x H', (Itl K a).yld i H x H' → g x (wipe σ vs) H' fun σ2 H2 => wipe σ2 vs = wipe σ vs ∧ tYes σ2 H2 fun b H3 =>
        if b = true then te σ2 H3 fun y H4 => ∃ acc, H4 D = some (.lst acc) ∧ acc.length < sizeLine ∧ Nx (upd H4 D (.lst (acc ++ [y]))) else Nx H3) := by
  refine lc_plain (n := (xs.map r).length) (walk_list (xs.map r)) (fun i => ((xs.map f)[i]?).getD .non) (fun H k => hl H k) (by simpa using hn) (fun D i x H' l Q' hi hD e k t q => ?_) (fun D H' hD k e => fin D H' hD k ?_) D hD
  · rw [List.getElem?_map, Option.map_eq_some_iff] at t
    obtain ⟨c, hc, rfl⟩ := t
    refine step c H' Q' (List.mem_of_getElem? hc) k fun H4 k4 => ?_
    have q' := q H4 k4
    rw [List.getElem?_map, hc] at q'
    exact q'
  · rw [e, List.length_map, map_range_get (l := xs) (g := f) fun i a h => by rw [List.getElem?_map, h]; rfl]
/-- over a tuple -/
theorem lc_tupP {α : Type} {xs : List α} (r : α → V) (f : α → V) (hn : xs.length ≤ sizeLine) (hl : ∀ H, Kp No H1 H → SqT K H a (xs.map r))
    (step : ∀ c H' (Q' : VK), c ∈ xs → Kp No H1 H' → (∀ H4, Kp No H' H4 → Q' (f c) H4) → g (r c) (wipe σ vs) H' fun σ2 H2 => wipe σ2 vs = wipe σ vs ∧ te σ2 H2 Q')
    (fin : ∀ D H', H1 D = none → Kp No H1 H' → H' D = some (.lst (xs.map f)) → Qd D H') (D : Addr) (hD : H1 D = none) :
    ∃ W : Nat → Nat → Hp → Prop, (∃ m, W 0 m (upd H1 D (.lst []))) ∧ ∀ i m H, W i m H →
      ((Itt K a).stop i H ∧ Qd D H) ∨ ((Itt K a).go i H ∧ ∃ Nx : Hp → Prop, (∀ H', Nx H' → ∃ m', m' < m ∧ W (i + 1) m' H') ∧ ∀ x H', (Itt K a).yld i H x H' → g x (wipe σ vs) H' fun σ2 H2 => wipe σ2 vs = wipe σ vs ∧ tYes σ2 H2 fun b H3 =>
        if b = true then te σ2 H3 fun y H4 => ∃ acc, H4 D = some (.lst acc) ∧ acc.length < sizeLine ∧ Nx (upd H4 D (.lst (acc ++ [y]))) else Nx H3) := by
  refine lc_plain (n := (xs.map r).length) (walk_tup (xs.map r)) (fun i => ((xs.map f)[i]?).getD .non) (fun H k => hl H k) (by simpa using hn) (fun D i x H' l Q' hi hD e k t q => ?_) (fun D H' hD k e => fin D H' hD k ?_) D hD
  · rw [List.getElem?_map, Option.map_eq_some_iff] at t
    obtain ⟨c, hc, rfl⟩ := t
    refine step c H' Q' (List.mem_of_getElem? hc) k fun H4 k4 => ?_
    have q' := q H4 k4
    rw [List.getElem?_map, hc] at q'
    exact q'
  · rw [e, List.length_map, map_range_get (l := xs) (g := f) fun i a h => by rw [List.getElem?_map, h]; rfl]
end
end Zg

namespace Uz
open PySem PySem.Spec PyProof.Rows L2
/-! ### a dict of the top with text keys: what stands in it -/
structure KD (K : PySem.W.Frag) (w : World) (d : Addr) (kvs : List (Str × V)) : Prop where
  dic : He.dicW K d = some (He.keysIn w.params (kvs.map (·.1)))
  vals : ∀ q ∈ kvs, ∃ u, PySem.W.nsIn K d q.1 = some (some u) ∧ RelV q.2 u
theorem dic_at {K : PySem.W.Frag} {w : World} {d : Addr} {ks : List Str} (h : He.dicW K d = some (He.keysIn w.params ks)) :
    ∃ es n, K.lookup d = some ⟨.type "dict", none, .dict es n, #[]⟩ ∧ es.toList.map He.keyOf = He.keysIn w.params ks ∧ (d == sysModules) = false := by
  unfold He.dicW at h
  cases q : K.lookup d with
  | none => rw [q] at h; cases h
  | some o =>
    obtain ⟨oc, od, dt, osl⟩ := o
    rw [q] at h
    cases oc with
    | type c =>
      cases od with
      | some b => cases dt <;> cases h
      | none =>
        cases dt with
        | dict es n =>
          dsimp only at h
          cases z : decide (c = "dict") && (osl.isEmpty && !(d == sysModules)) with
          | false => rw [z] at h; cases h
          | true =>
            rw [z] at h
            rw [Bool.and_eq_true, Bool.and_eq_true] at z
            obtain ⟨z1, z2, z3⟩ := z
            obtain rfl := of_decide_eq_true z1
            obtain rfl := Array.isEmpty_iff.mp z2
            exact ⟨es, n, rfl, Option.some.inj h, by simpa using z3⟩
        | _ => cases h
    | _ => cases od <;> cases dt <;> cases h
theorem keyOf_str {e : DictEntry} {z : Str} {n : Int} (h : He.keyOf e = some (z, n)) : ∃ t, e.key = .str z t ∧ e.hash = n := by
  unfold He.keyOf at h
  split at h
  · rename_i x t q
    injection h with h
    injection h with h1 h2
    exact ⟨t, by rw [q, h1], h2⟩
  · cases h
section
variable {K : PySem.W.Frag} {w : World} {d : Addr} {kvs : List (Str × V)}
theorem KD.kdict (D : KD K w d kvs) : ∃ es n, KDict K w d es n ∧ es.toList.map He.keyOf = He.keysIn w.params (kvs.map (·.1)) := by
  obtain ⟨es, n, h1, h2, h3⟩ := dic_at D.dic
  exact ⟨es, n, ⟨h1, He.keysLit_of h2, h3⟩, h2⟩
theorem KD.no (D : KD K w d kvs) {z : Str} (hz : z ∉ kvs.map (·.1)) : PySem.W.nsIn K d z = some none := by
  obtain ⟨es, n, h1, h2, h3⟩ := dic_at D.dic
  have all : ∀ e ∈ es.toList, ∃ x t, x ∈ kvs.map (·.1) ∧ e.key = .str x t := by
    intro e he
    have m : He.keyOf e ∈ es.toList.map He.keyOf := List.mem_map_of_mem he
    rw [h2] at m
    obtain ⟨x, hx, e2⟩ := List.mem_map.mp m
    obtain ⟨t, q, _⟩ := keyOf_str e2.symm
    exact ⟨x, t, hx, q⟩
  unfold PySem.W.nsIn
  rw [h1]
  dsimp only
  rw [List.find?_eq_none.mpr, if_neg]
  · intro q
    obtain ⟨e, he, q2⟩ := List.any_eq_true.mp q
    obtain ⟨x, t, hx, hk⟩ := all e he
    unfold DictEntry.refKey at q2
    rw [hk] at q2
    cases q2
  · intro e he q
    obtain ⟨x, t, hx, hk⟩ := all e he
    rw [hk] at q
    have e2 : x = z := by simpa [Value.isStr] using q
    exact hz (e2 ▸ hx)
end
section
variable {X : Cx} {d : Addr} {kvs : List (Str × V)}
theorem op_in_kd' (D : KD X.K X.w d kvs) : OpR X (compareOp .In) (fun x y H Q => ∃ z : Str, x = .str z ∧ y = .ref d ∧ Q (.bl (decide (z ∈ kvs.map (·.1)))) H) := by
  obtain ⟨es, n, k, _⟩ := D.kdict
  intro pins s σ H x y v u Q I rx ry h
  obtain ⟨z, e1, e2, q⟩ := h
  by_cases hz : z ∈ kvs.map (·.1)
  · obtain ⟨p, hp, rfl⟩ := List.mem_map.mp hz
    obtain ⟨u1, n1, _⟩ := D.vals p hp
    rw [decide_eq_true hz] at q
    exact op_in_kd k pins s σ H x y v u Q I rx ry ⟨p.1, some u1, e1, e2, n1, q⟩
  · rw [decide_eq_false hz] at q
    exact op_in_kd k pins s σ H x y v u Q I rx ry ⟨z, none, e1, e2, D.no hz, q⟩
theorem op_notIn_kd' (D : KD X.K X.w d kvs) : OpR X (compareOp .NotIn) (fun x y H Q => ∃ z : Str, x = .str z ∧ y = .ref d ∧ Q (.bl (!decide (z ∈ kvs.map (·.1)))) H) := by
  obtain ⟨es, n, k, _⟩ := D.kdict
  intro pins s σ H x y v u Q I rx ry h
  obtain ⟨z, e1, e2, q⟩ := h
  by_cases hz : z ∈ kvs.map (·.1)
  · obtain ⟨p, hp, rfl⟩ := List.mem_map.mp hz
    obtain ⟨u1, n1, _⟩ := D.vals p hp
    rw [decide_eq_true hz] at q
    exact op_notIn_kd k pins s σ H x y v u Q I rx ry ⟨p.1, some u1, e1, e2, n1, q⟩
  · rw [decide_eq_false hz] at q
    exact op_notIn_kd k pins s σ H x y v u Q I rx ry ⟨z, none, e1, e2, D.no hz, q⟩
def rKd (d : Addr) (kvs : List (Str × V)) : R2 := fun x y H Q => ∃ (z : Str) (v0 : V), x = .ref d ∧ y = .str z ∧ (z, v0) ∈ kvs ∧ Q v0 H
theorem op_item_kd' (D : KD X.K X.w d kvs) : OpR X getItem (rKd d kvs) := by
  obtain ⟨es, n, k, _⟩ := D.kdict
  intro pins s σ H x y v u Q I rx ry h
  obtain ⟨z, v0, e1, e2, hm, q⟩ := h
  obtain ⟨u1, n1, r1⟩ := D.vals _ hm
  exact op_item_kd k pins s σ H x y v u Q I rx ry ⟨z, u1, v0, e1, e2, n1, r1, q⟩
end
theorem ix_kd {X : Cx} {d : Addr} {kvs : List (Str × V)} (D : KD X.K X.w d kvs) : IxR X (rKd d kvs) := by
  obtain ⟨es, n, k, _⟩ := D.kdict
  intro value slice pins s σ H x y v u Q I rx ry h hs
  obtain ⟨z, v0, e1, e2, hm, q⟩ := h
  obtain ⟨u1, n1, r1⟩ := D.vals _ hm
  exact ix_kdict value slice pins s σ H x y v u Q I rx ry ⟨d, z, v0, e1, e2, ⟨es, n, u1, k.at_, k.lit, n1, r1⟩, q⟩ hs
theorem go_kd {d : Addr} {kvs : List (Str × V)} {z : Str} {H : Hp} {Q : VK} (v0 : V) (hm : (z, v0) ∈ kvs) (h : Q v0 H) : rKd d kvs (.ref d) (.str z) H Q := ⟨z, v0, rfl, rfl, hm, h⟩
theorem go_inkd {d : Addr} {z : Str} {R : Str → Prop} (h : R z) : ∃ z', V.str z = .str z' ∧ V.ref d = .ref d ∧ R z' := ⟨z, rfl, rfl, h⟩
/-! ### for z in a dict of the top -/
def Itkd (zs : List Str) : It := ⟨fun i _ => i < zs.length, fun i H x H' => H' = H ∧ ∃ z, zs[i]? = some z ∧ x = .str z, fun i _ => zs.length ≤ i⟩
theorem turn_kd {P : Program} {w : World} {K : PySem.W.Frag} {tg : Expr} {d it : Addr} {zs : List Str} {es : Array DictEntry} {ep : Nat} (hl : K.lookup d = some ⟨.type "dict", none, .dict es ep, #[]⟩) (hk : es.toList.map He.keyOf = He.keysIn w.params zs) :
    Turn P w K tg (Itkd zs) [it] it (fun i h => h.IsKeyIter it d i es.size ep) where
  mem := List.mem_singleton.mpr rfl
  obj := fun i h st b hb => by
    obtain rfl := List.mem_singleton.mp hb
    obtain ⟨oi, q1, _, q2⟩ := st
    exact ⟨oi, q1, fun v z => by rw [q2] at z; cases z⟩
  keep := fun i h h' st k => st.at fun oi q => k it (List.mem_singleton.mpr rfl) oi q
  item := by
    intro X hP hw hK hc i pins s σ H E I hf st hi
    subst hP hw hK
    obtain ⟨f0, f1, f2, f3, f4, f5⟩ := hf it (List.mem_singleton.mpr rfl)
    have hd : s.heap.get? d = some ⟨.type "dict", none, .dict es ep, #[]⟩ := I.kIn _ _ hl
    have hz : es.toList.length = zs.length := by
      have q := congrArg List.length hk
      rw [List.length_map] at q
      rw [q]
      exact List.length_map _
    have hi2 : i < zs.length := hi
    have hlt : i < es.size := by rw [← Array.length_toList, hz]; exact hi2
    have hen : es[i]? = some es[i] := Array.getElem?_eq_getElem hlt
    have key : He.keyOf es[i] = some (zs[i], PyData.keyHash X.w.params zs[i]) := by
      have q : (es.toList.map He.keyOf)[i]? = (He.keysIn X.w.params zs)[i]? := by rw [hk]
      rw [List.getElem?_map] at q
      unfold He.keysIn at q
      rw [List.getElem?_map, List.getElem?_eq_getElem hi2, Array.getElem?_toList, hen] at q
      exact Option.some.inj q
    obtain ⟨t, ke, _⟩ := keyOf_str key
    refine next_key_item st hd rfl rfl hen fun h' st' sb => ?_
    have I1 : Inv X pins σ H { s with heap := h' } := I.turned (t' := s.toks) (fun b ob hb q => (sb.2 b hb).trans q) f0 f1 f3 f4 f5
    obtain ⟨oi, q1, q2, q3⟩ := id st'
    exact ⟨_, rfl, go_of (s := { s with heap := h' }) q1 q2 q3 (by decide) ⟨.str zs[i], H, I1, ⟨t, ke⟩, ⟨rfl, zs[i], List.getElem?_eq_getElem hi2, rfl⟩, st', fun b hb => (hf b hb).1⟩⟩
  done := by
    intro X hP hw hK hc i pins s σ H E I hf st hg
    subst hP hw hK
    obtain ⟨f0, f1, f2, f3, f4, f5⟩ := hf it (List.mem_singleton.mpr rfl)
    have hd : s.heap.get? d = some ⟨.type "dict", none, .dict es ep, #[]⟩ := I.kIn _ _ hl
    have hz : es.size = zs.length := by
      have q := congrArg List.length hk
      rw [List.length_map, Array.length_toList] at q
      rw [q]
      exact List.length_map _
    exact next_key_end (I.ok.hd hc) st hd rfl rfl (by rw [hz]; exact hg) fun h' eb => ⟨rfl, I.turned (t' := s.toks) (fun b ob hb q => eb b ob hb q) f0 f1 f3 f4 f5⟩
  self := fun _ _ _ _ _ st h => wpAny_pyIter_keyiter st h
def iKd (d : Addr) (zs : List Str) (te : TE) : TI := fun σ H R => te σ H fun x H1 => x = .ref d ∧ R (Itkd zs) H1
theorem pi_kd {X : Cx} {tg e : Expr} {te : TE} {d : Addr} {kvs : List (Str × V)} (D : KD X.K X.w d kvs) (he : PE X e te) : PI X tg e (iKd d (kvs.map (·.1)) te) := by
  refine ⟨fun pins s σ H R I h => ?_⟩
  refine thn (he.run pins s σ H _ I h) fun u s1 ⟨x, H1, I1, r1, ex, q⟩ => ?_
  subst ex
  obtain rfl : u = Value.ref d := r1
  obtain ⟨es, n, hl, hk, hs⟩ := dic_at D.dic
  exact iter_keys hs (I1.kIn _ _ hl) ⟨rfl, rfl, rfl⟩ rfl (pi_one (tk := s1.toks) I1 _ (turn_kd hl hk) ⟨_, Heap.get?_push_size _ rfl, rfl, rfl⟩ q)
theorem walk_kd (zs : List Str) : Zg.Walk (Itkd zs) (fun _ => True) zs.length (fun i v _ => ∃ z, zs[i]? = some z ∧ v = .str z) :=
  ⟨fun _ _ h _ => h, fun _ _ _ _ _ _ ⟨e, q⟩ => ⟨e ▸ Zg.Kp.refl, q⟩, fun _ _ => Nat.le_refl _⟩
/-! ### enumerate(text) -/
def Ites (x : Str) : It :=
  ⟨fun i _ => i < x.cps.size, fun i H v H' => ∃ T c, v = .ref T ∧ H T = none ∧ H' = upd H T (.tup [.int (i : Nat), .str ⟨#[c]⟩]) ∧ x.cps[i]? = some c, fun i _ => i = x.cps.size⟩
theorem turn_enumS {P : Program} {w : World} {K : PySem.W.Frag} {elts : List Expr} {kk : Nat} {tpos : Pos} (x : Str) (t : Tok) (e it : Addr) (ty : String) (hty : ty = "str_ascii_iterator" ∨ ty = "str_iterator") :
    Turn P w K (.Tuple elts kk tpos) (Ites x) [e, it] e (fun i h => (∃ old, IsEnum h e it ((i : Nat) : Int) old) ∧ h.IsStrIter it ty x t i ∧ e ≠ it) where
  mem := List.mem_cons_self ..
  obj := fun i h st b hb => by
    obtain ⟨⟨old, he⟩, ⟨o, ho, hc, hd⟩, _⟩ := st
    rcases List.mem_cons.mp hb with z | hb
    · rw [z]; exact ⟨_, he, fun v q => nomatch q⟩
    · rw [List.mem_singleton.mp hb]; exact ⟨o, ho, fun v q => by rw [hd] at q; cases q⟩
  keep := fun i h h' st k => by
    obtain ⟨⟨old, he⟩, ⟨o, ho, r⟩, hne⟩ := st
    exact ⟨⟨old, k e (by simp) _ he⟩, ⟨o, k it (by simp) o ho, r⟩, hne⟩
  item := by
    intro X hP hw hK hc i pins s σ H E I hf st hg
    subst hP hw hK
    obtain ⟨⟨old, he⟩, hit, hne⟩ := st
    have hel : e < s.heap.objs.size := Heap.lt_size he
    have hil : it < s.heap.objs.size := by obtain ⟨_, q, _⟩ := hit; exact Heap.lt_size q
    have D : Draws X.prog X.w X.A.in1 it [it] x.cps.size (fun i v => ∃ c u, x.cps[i]? = some c ∧ v = .str ⟨#[c]⟩ u) (fun i h => h.IsStrIter it ty x t i) := by
      rcases hty with z | z
      · rw [z]; exact Draws.strAscii (show X.A.in1.handled = none from I.ok.hd hc) it x t
      · rw [z]; exact Draws.strWide (show X.A.in1.handled = none from I.ok.hd hc) it x t
    refine wpAny_pyNext_enum_itemD D he hit hg hne (by simpa using hne) fun v h' tk hv ho hit' hT hsz hk => ?_
    obtain ⟨c, u, hcx, rfl⟩ := hv
    refine ⟨_, rfl, wpAny_letOwnedTupleGo_enum (s := { s with heap := h', toks := tk + 1 }) ho fun h'' he' sb => ?_⟩
    have hT2 : h''.get? s.heap.objs.size = some { cls := .type "tuple", data := .seq #[.int i tk, .str ⟨#[c]⟩ u] } := (sb.2 _ (Nat.ne_of_gt hel)).trans hT
    have new : ObjOk X.prog X.w (upd H s.heap.objs.size (.tup [.int (i : Nat), .str ⟨#[c]⟩])) h'' s.heap.objs.size (.tup [.int (i : Nat), .str ⟨#[c]⟩]) :=
      ⟨by show 2 ≤ sizeLine; decide, [.int i tk, .str ⟨#[c]⟩ u], .cons ⟨_, rfl⟩ (.cons ⟨_, rfl⟩ .nil), ⟨_, hT2, rfl, _, rfl⟩⟩
    have I1 : Inv X pins σ (upd H s.heap.objs.size (.tup [.int (i : Nat), .str ⟨#[c]⟩])) { s with heap := h'', toks := tk + 1 } :=
      I.turnedNew (ch := [e, it]) (fun b ob hb q => (sb.2 b (fun z => hb (by simp [z]))).trans (hk b ob (fun z => hb (by simp [z])) (fun z => hb (by simp [z])) q)) hf (Nat.le_refl _) new
    refine ⟨.ref s.heap.objs.size, _, I1, rfl, ⟨_, c, rfl, I.hok.fresh (Nat.le_refl _), rfl, hcx⟩, ⟨⟨.str ⟨#[c]⟩ u, ?_⟩, ?_, hne⟩, fun b hb => ?_⟩
    · rw [show ((i + 1 : Nat) : Int) = (i : Int) + 1 by omega]; exact he'
    · obtain ⟨o, q1, q2⟩ := hit'
      exact ⟨o, (sb.2 it (Ne.symm hne)).trans q1, q2⟩
    · have hb' : b < s.heap.objs.size := by
        rcases List.mem_cons.mp hb with z | z
        · rw [z]; exact hel
        · rw [List.mem_singleton.mp z]; exact hil
      rw [upd_ne (Nat.ne_of_lt hb')]
      exact (hf b hb).1
  done := by
    intro X hP hw hK hc i pins s σ H E I hf st hg
    subst hP hw hK
    obtain ⟨⟨old, he⟩, hit, hne⟩ := st
    obtain ⟨f0, f1, f2, f3, f4, f5⟩ := hf it (by simp)
    have D : Draws X.prog X.w X.A.in1 it [it] x.cps.size (fun i v => ∃ c u, x.cps[i]? = some c ∧ v = .str ⟨#[c]⟩ u) (fun i h => h.IsStrIter it ty x t i) := by
      rcases hty with z | z
      · rw [z]; exact Draws.strAscii (show X.A.in1.handled = none from I.ok.hd hc) it x t
      · rw [z]; exact Draws.strWide (show X.A.in1.handled = none from I.ok.hd hc) it x t
    have hg2 : i = x.cps.size := hg
    subst hg2
    exact wpAny_pyNext_enum_endD D he hit fun h' eb => ⟨rfl, I.turned (t' := s.toks) (fun b o hb q => eb b o hb q) f0 f1 f3 f4 f5⟩
  self := fun A i s Q E st h => let ⟨⟨_, he⟩, _⟩ := st; wpAny_pyIter_enum he h
def iEnumS (ta : TA) : TI := fun σ H R => ta σ H fun vs H1 => ∃ x, vs = [.str x] ∧ R (Ites x) H1
theorem pi_enumS {X : Cx} {e : Expr} {ta : TA} {p pos tpos : Pos} {elts : List Expr} {kk : Nat} (hg : Gl X "enumerate") (hm : X.mg "enumerate" = none) (ha : PA X [e] ta) (hs : starEach [e] X.env = [(false, eval e X.env)] := by rfl) :
    PI X (.Tuple elts kk tpos) (.Call (.Name "enumerate" p) [e] [] pos) (iEnumS ta) := by
  refine ⟨fun pins s σ H R I h => ?_⟩
  refine Call_ (ld_blt I hg hm boot_enumerate (PyProof.Rows.callWith_type1 (thn (ha.run pos pins s σ H _ I h) fun us s1 ⟨vs, H1, I1, r1, q1⟩ => ?_) hs rfl))
  obtain ⟨x, ex, q⟩ := q1
  subst ex
  cases r1 with
  | cons r rr =>
    cases rr
    obtain ⟨t, rfl⟩ := r
    refine call_enumerate_str fun h' he hit hsz hk => wpAny_pyIter_enum he ?_
    have I2 : Inv X pins σ H1 { s1 with heap := h' } := I1.kept (t' := s1.toks) hk
    have hty : strIterType x = "str_ascii_iterator" ∨ strIterType x = "str_iterator" := by
      unfold strIterType
      split
      · exact .inl rfl
      · exact .inr rfl
    refine ⟨s1.heap.objs.size + 1, [s1.heap.objs.size + 1, s1.heap.objs.size], _, _, H1, rfl, I2, turn_enumS x t (s1.heap.objs.size + 1) s1.heap.objs.size _ hty, ⟨⟨.none, he⟩, hit, Nat.succ_ne_self _⟩, fun b hb => ?_, q⟩
    have hle : s1.heap.objs.size ≤ b := by
      rcases List.mem_cons.mp hb with z | z
      · rw [z]; exact Nat.le_succ _
      · rw [List.mem_singleton.mp z]; exact Nat.le_refl _
    exact I1.fpOk hle (I1.hok.fresh hle)
theorem walk_enumS (x : Str) : Zg.Walk (Ites x) (fun _ => True) x.cps.size (fun i v H => ∃ T c, v = .ref T ∧ H T = some (.tup [.int i, .str ⟨#[c]⟩]) ∧ x.cps[i]? = some c) :=
  ⟨fun _ _ h _ => h, fun i H v H' _ _ ⟨T, c, e, n, u, q⟩ => ⟨by rw [u]; exact Zg.Kp.refl.new n, T, c, e, by rw [u]; exact upd_same, q⟩, fun _ _ => rfl⟩
end Uz

namespace Zg
open PySem PySem.Spec PyProof.Rows L2
theorem Kp.tup2 {F : Addr → Prop} {H H1 : Hp} {K : PySem.W.Frag} {a : Addr} {xs : List V} (n : NoTup F H) (h : Kp F H H1) (e : SqT K H a xs) : SqT K H1 a xs := h.tup n e
theorem go_ip {H : Hp} {Q : VK} {f : Int → Int → Int} {i j : Int} (h : Q (.int (f i j)) H) : ipI f (.int i) (.int j) H Q := ⟨i, j, rfl, rfl, h⟩
theorem atI_zero {α : Type} {x : α} {xs : List α} : atI (x :: xs) 0 = some x := atI_nat (xs := x :: xs) (j := 0) rfl
theorem go_star1 {σ : L2.St} {H : Hp} {Q : L2.St → Hp → Prop} {K : PySem.W.Frag} {t : TGs} {a : Addr} {x : V} {r : List V} (hs : SqT K H a (x :: r)) (h : ∀ p, H p = none → t [x, .ref p] σ (upd H p (.lst r)) Q) : Uz.gStar K (0 + 1) t (.ref a) σ H Q :=
  ⟨a, x :: r, rfl, .inl hs, by simp, fun p n => by simpa using h p n⟩
theorem go_fmtS {te : TE} {σ : L2.St} {H : Hp} {Q : VK} (h : te σ H fun x H1 => (∃ y : Str, x = .str y ∧ y.length ≤ sizeLine ∧ Q (.str y) H1) ∨ ∃ i : Int, x = .int i ∧ i.natAbs.log2 < 1920 ∧ Q (.str (toString i)) H1) : tFmt te σ H Q := h
theorem go_fmt1 {y : Str} {R : Str → Prop} {B : Prop} (hl : y.length ≤ sizeLine) (h : R y) : (∃ z : Str, V.str y = .str z ∧ z.length ≤ sizeLine ∧ R z) ∨ B := .inl ⟨y, rfl, hl, h⟩
theorem go_fmt2 {i : Int} {R : Int → Prop} {B : Prop} (hl : i.natAbs.log2 < 1920) (h : R i) : B ∨ ∃ j : Int, V.int i = .int j ∧ j.natAbs.log2 < 1920 ∧ R j := .inr ⟨i, rfl, hl, h⟩
theorem go_js0 {acc : Str} {σ : L2.St} {H : Hp} {Q : Str → Hp → Prop} (h : Q acc H) : tJs [] acc σ H Q := h
theorem go_js {t : TE} {ts : List TE} {acc : Str} {σ : L2.St} {H : Hp} {Q : Str → Hp → Prop} (h : t σ H fun x H1 => ∃ y : Str, x = .str y ∧ (acc ++ y).length ≤ sizeLine ∧ tJs ts (acc ++ y) σ H1 Q) : tJs (t :: ts) acc σ H Q := h
theorem go_jsy {y : Str} {acc : Str} {R : Str → Prop} (hl : (acc ++ y).length ≤ sizeLine) (h : R y) : ∃ z : Str, V.str y = .str z ∧ (acc ++ z).length ≤ sizeLine ∧ R z := ⟨y, rfl, hl, h⟩
theorem go_m1 {r : V → List V → Hp → VK → Prop} {to te : TE} {σ : L2.St} {H : Hp} {Q : VK} (h : to σ H fun x H1 => (∃ a, x = .str a) ∧ te σ H1 fun y H2 => r x [y] H2 Q) : tM1 r to te σ H Q := h
theorem go_isstr {a : Str} {R : Prop} (h : R) : (∃ b, V.str a = .str b) ∧ R := ⟨⟨a, rfl⟩, h⟩
theorem go_ss {a b : Str} {R : Str → Str → Prop} (h : R a b) : ∃ a' b', V.str a = .str a' ∧ [V.str b] = [.str b'] ∧ R a' b' := ⟨a, b, rfl, rfl, h⟩
theorem go_join {K : PySem.W.Frag} {H : Hp} {a : Str} {p : Addr} {ys : List Str} {R : Str → List Str → Prop} (hs : SqL K H p (ys.map V.str)) (hl : (ys.map fun x => x.length).sum + ys.length * a.length ≤ 16777216) (h : R a ys) :
    ∃ a' p' ys', V.str a = .str a' ∧ [V.ref p] = [.ref p'] ∧ (SqL K H p' (ys'.map V.str) ∨ SqT K H p' (ys'.map V.str)) ∧ (ys'.map fun x => x.length).sum + ys'.length * a'.length ≤ 16777216 ∧ R a' ys' := ⟨a, p, ys, rfl, rfl, .inl hs, hl, h⟩
theorem go_wipe {a b : L2.St} {vs : List Nat} {R : Prop} (e : wipe a vs = wipe b vs) (h : R) : wipe a vs = wipe b vs ∧ R := ⟨e, h⟩
theorem hu64 {k : Nat} {A : Around} (hr : Room k A) : A.units + 64 < cLine := by have := hr.un; omega
theorem hu65 {k : Nat} {A : Around} (hr : Room k A) : A.units + 65 < cLine := by have := hr.un; omega
theorem go_intS {a : Str} {n : Int} {R : Int → Prop} (e : intText? a = some n) (hl : a.length ≤ 640) (h : R n) : ∃ a' n', [V.str a] = [.str a'] ∧ intText? a' = some n' ∧ a'.length ≤ 640 ∧ R n' := ⟨a, n, rfl, e, hl, h⟩
theorem go_part1 {H : Hp} {a b : Str} {A B C : Str} {R : Addr → Hp → Prop} (hb : (b.length == 0) = false) (ha : a.length ≤ sizeLine) (e : Txt.partition a b = (A, B, C)) (h : ∀ p, H p = none → R p (upd H p (.tup [.str A, .str B, .str C]))) :
    ∃ a' b', V.str a = .str a' ∧ [V.str b] = [.str b'] ∧ (b'.length == 0) = false ∧ a'.length ≤ sizeLine ∧ ∀ p, H p = none → R p (upd H p (.tup [.str (Txt.partition a' b').1, .str (Txt.partition a' b').2.1, .str (Txt.partition a' b').2.2])) := by
  refine ⟨a, b, rfl, rfl, hb, ha, fun p np => ?_⟩
  rw [e]
  exact h p np
theorem go_gtup {K : PySem.W.Frag} {n : Nat} {t : TGs} {a : Addr} {xs : List V} {σ : L2.St} {H : Hp} {Q : L2.St → Hp → Prop} (hs : SqT K H a xs) (hl : xs.length = n) (h : t xs σ H Q) : gTup K n t (.ref a) σ H Q := ⟨a, xs, rfl, hs, hl, h⟩
theorem go_isN {x : V} {H : Hp} {Q : VK} (h : Q (.bl (decide (x = .non))) H) : V.non = .non ∧ Q (.bl (decide (x = .non))) H := ⟨rfl, h⟩
theorem go_iEnumS {ta : TA} {σ : L2.St} {H : Hp} {R : It → Hp → Prop} (h : ta σ H fun vs H1 => ∃ x, vs = [.str x] ∧ R (Uz.Ites x) H1) : Uz.iEnumS ta σ H R := h
theorem go_str1 {x : Str} {R : Str → Prop} (h : R x) : ∃ y, [V.str x] = [V.str y] ∧ R y := ⟨x, rfl, h⟩
theorem go_iKd {d : Addr} {zs : List Str} {te : TE} {σ : L2.St} {H : Hp} {R : It → Hp → Prop} (h : te σ H fun x H1 => x = .ref d ∧ R (Uz.Itkd zs) H1) : Uz.iKd d zs te σ H R := h
theorem sg1 {c d : Nat} {z : Str} (hz : z = ⟨#[d]⟩) : decide (V.str ⟨#[c]⟩ = V.str z) = decide (c = d) := by
  subst hz
  rw [decide_eq_decide]
  constructor
  · intro e
    injection e with e
    injection e with e
    simpa using e
  · intro e
    rw [e]
/-- two ways that meet again -/
theorem go_ifJ {c : Bool} {ta tb : TE} {σ : L2.St} {H : Hp} {Kt : VK} (X : V → Hp → Prop) (tail : ∀ x H1, X x H1 → Kt x H1) (h1 : c = true → ∀ K' : VK, (∀ x H1, X x H1 → K' x H1) → ta σ H K') (h2 : c = false → ∀ K' : VK, (∀ x H1, X x H1 → K' x H1) → tb σ H K') :
    if c = true then ta σ H Kt else tb σ H Kt := by
  cases c with
  | true => exact iteT (h1 rfl Kt tail)
  | false => exact iteF (h2 rfl Kt tail)
theorem go_inD {K : PySem.W.Frag} {x y : V} {H : Hp} {Q : VK} {d : PyData} {ds : List PyData} (h1 : Dp K H x d) (h2 : Dp K H y (.list ds)) (s1 : SeqAt.shaped d = true) (s2 : SeqAt.shaped (.list ds) = true) (h : Q (.bl (ds.any fun z => PyData.eqv z d)) H) : rInD K x y H Q := ⟨d, ds, h1, h2, s1, s2, h⟩
theorem go_catT {K : PySem.W.Frag} {a b : Addr} {x y : V} {xs ys : List V} {H : Hp} {Q : VK} (h1 : SqT K H a (x :: xs)) (h2 : SqT K H b (y :: ys)) (hl : (x :: xs).length + (y :: ys).length ≤ sizeLine) (h : ∀ p, H p = none → Q (.ref p) (upd H p (.tup (x :: xs ++ y :: ys)))) : rCatA K (.ref a) (.ref b) H Q :=
  ⟨a, b, x :: xs, y :: ys, rfl, rfl, h1, h2, hl, fun z => (by cases z), fun _ z => (by cases z), fun _ _ => h⟩
theorem go_tupL {K : PySem.W.Frag} {p : Addr} {ys : List V} {H : Hp} {R : Addr → Hp → Prop} (hs : SqL K H p ys) (h : ∀ l, H l = none → R l (upd H l (.tup ys))) : ∃ p' ys', [V.ref p] = [.ref p'] ∧ ((SqL K H p' ys' ∧ ∀ l, H l = none → R l (upd H l (.tup ys'))) ∨ SqT K H p' ys' ∧ R p' H) := ⟨p, ys, rfl, .inl ⟨hs, h⟩⟩
theorem le_line {n : Nat} (h : Nat.ble n 1000 = true) : n ≤ sizeLine := Nat.le_trans (Nat.le_of_ble_eq_true h) (by decide)
theorem lt_line {n : Nat} (h : Nat.ble n 1000 = true) : n < sizeLine := Nat.lt_of_le_of_lt (Nat.le_of_ble_eq_true h) (by decide)
section
variable {σ : L2.St} {H : Hp} {Q : VK} {ta tb tc te : TE} {D : Ends} {K : PySem.W.Frag} {a b : Addr} {xs ys : List V}
theorem go_ifT {c : Bool} {A B : Prop} (hc : c = true) (h : A) : if c = true then A else B := by rw [if_pos hc]; exact h
theorem go_ifF {c : Bool} {A B : Prop} (hc : c = false) (h : B) : if c = true then A else B := by rw [if_neg (by rw [hc]; exact Bool.false_ne_true)]; exact h
theorem go_if {c : Bool} {A B : Prop} (h1 : c = true → A) (h2 : c = false → B) : if c = true then A else B := by
  cases c with
  | true => exact iteT (h1 rfl)
  | false => exact iteF (h2 rfl)
theorem go_ixT {i : Int} {v : V} (hs : SqT K H a xs) (e : atI xs i = some v) (h : Q v H) : rIxT K (.ref a) (.int i) H Q := ⟨a, xs, i, v, rfl, rfl, hs, e, h⟩
theorem go_ixL {i : Int} {v : V} (hs : SqL K H a xs) (e : atI xs i = some v) (h : Q v H) : rIxL K (.ref a) (.int i) H Q := ⟨a, xs, i, v, rfl, rfl, hs, e, h⟩
theorem go_ixS {z : Str} {i : Int} {c : Nat} (hz : z.length ≤ sizeLine) (e : atI z.cps.toList i = some c) (h : Q (.str ⟨#[c]⟩) H) : rIxS (.str z) (.int i) H Q := ⟨z, i, c, rfl, rfl, hz, e, h⟩
theorem go_tup {t : TA} (h : t σ H fun xs H1 => xs.length ≤ sizeLine ∧ ∀ p, H1 p = none → Q (.ref p) (upd H1 p (.tup xs))) : tTup t σ H Q := h
theorem go_lst {t : TA} (h : t σ H fun xs H1 => xs.length ≤ sizeLine ∧ ∀ p, H1 p = none → Q (.ref p) (upd H1 p (.lst xs))) : tLst t σ H Q := h
theorem go_new {n : Nat} {P : Addr → Prop} (hn : n ≤ sizeLine) (h : ∀ p, P p) : n ≤ sizeLine ∧ ∀ p, P p := ⟨hn, h⟩
theorem go_inT {x : V} (hs : SqT K H a xs) (f1 : flatV x = true) (f2 : xs.all flatV = true) (h : Q (.bl (inV x xs)) H) : rIn K false x (.ref a) H Q := ⟨a, xs, rfl, .inr hs, f1, f2, h⟩
theorem go_inL {x : V} (hs : SqL K H a xs) (f1 : flatV x = true) (f2 : xs.all flatV = true) (h : Q (.bl (inV x xs)) H) : rIn K false x (.ref a) H Q := ⟨a, xs, rfl, .inl hs, f1, f2, h⟩
theorem go_ninT {x : V} (hs : SqT K H a xs) (f1 : flatV x = true) (f2 : xs.all flatV = true) (h : Q (.bl (!inV x xs)) H) : rIn K true x (.ref a) H Q := ⟨a, xs, rfl, .inr hs, f1, f2, h⟩
theorem go_ninL {x : V} (hs : SqL K H a xs) (f1 : flatV x = true) (f2 : xs.all flatV = true) (h : Q (.bl (!inV x xs)) H) : rIn K true x (.ref a) H Q := ⟨a, xs, rfl, .inl hs, f1, f2, h⟩
theorem go_fresh {P : Addr → Prop} (h : ∀ p, H p = none → P p) : ∀ p, H p = none → P p := h
theorem go_truB {c : Bool} {R : Bool → Prop} (h : R c) : ∃ k, TruV K (.bl c) H k ∧ R k := ⟨c, rfl, h⟩
theorem go_truI {i : Int} {R : Bool → Prop} (h : R (i != 0)) : ∃ k, TruV K (.int i) H k ∧ R k := ⟨_, rfl, h⟩
theorem go_truN {R : Bool → Prop} (h : R false) : ∃ k, TruV K .non H k ∧ R k := ⟨_, rfl, h⟩
theorem go_truS {z : Str} {R : Bool → Prop} (hz : z.length ≤ sizeLine) (h : R ((z.length : Int) != 0)) : ∃ k, TruV K (.str z) H k ∧ R k := ⟨_, ⟨hz, rfl⟩, h⟩
theorem go_truL {R : Bool → Prop} (hs : SqL K H a xs) (h : R (!xs.isEmpty)) : ∃ k, TruV K (.ref a) H k ∧ R k := ⟨_, .inl ⟨xs, hs, rfl⟩, h⟩
theorem go_truT {R : Bool → Prop} (hs : SqT K H a xs) (h : R (!xs.isEmpty)) : ∃ k, TruV K (.ref a) H k ∧ R k := ⟨_, .inr (.inl ⟨xs, hs, rfl⟩), h⟩
/-! isinstance -/
end
inductive Ty1 (K : PySem.W.Frag) (H : Hp) : V → String → Prop
  | non : Ty1 K H .non "NoneType"
  | bl (b : Bool) : Ty1 K H (.bl b) "bool"
  | int (i : Int) : Ty1 K H (.int i) "int"
  | str (s : Str) : Ty1 K H (.str s) "str"
  | lst {a xs} (h : SqL K H a xs) : Ty1 K H (.ref a) "list"
  | tup {a xs} (h : SqT K H a xs) : Ty1 K H (.ref a) "tuple"
section
variable {σ : L2.St} {H : Hp} {Q : VK} {K : PySem.W.Frag} {a b : Addr} {xs ys : List V}
theorem Ty1.x {v : V} {n : String} (t : Ty1 K H v n) : TyX K H v (.type n) := by
  cases t with
  | non => exact .base .non
  | bl b => exact .base (.bl b)
  | int i => exact .base (.int i)
  | str s => exact .base (.str s)
  | @lst a xs h =>
    rcases h with (h | ⟨o, h⟩) | ⟨o, its, n, h1, h2, _⟩
    · exact .base (.lst h)
    · exact .base (.frz h)
    · exact .kList h1 h2
  | @tup a xs h =>
    rcases h with (h | ⟨o, h⟩) | ⟨o, its, n, h1, h2, _⟩
    · exact .base (.tup h)
    · exact .fTuple h
    · exact .kTuple h1 h2
theorem go_isi {x : V} {n m : String} {b : Bool} (t : Ty1 K H x n) (e : kitB n m = some b) (h : Q (.bl b) H) : rIsi K [x, .ty m] H Q := ⟨x, _, _, _, b, rfl, .ty m, t.x, kit_ty e, h⟩
theorem go_isi2 {x : V} {p : Addr} {n m1 m2 : String} {b1 b2 : Bool} (hp : H p = some (.tup [.ty m1, .ty m2])) (t : Ty1 K H x n) (e1 : kitB n m1 = some b1) (e2 : kitB n m2 = some b2) (h : Q (.bl (b1 || b2)) H) : rIsiT K [x, .ref p] H Q := by
  refine ⟨x, p, _, _, _, b1 || b2, rfl, hp, .cons (.ty m1) (.cons (.ty m2) .nil), t.x, ?_, h⟩
  refine kitAny_cons (kit_ty e1) (fun z => ?_) (fun z => by rw [z]; rfl)
  rw [z]
  refine kitAny_cons (kit_ty e2) (fun z2 => ?_) (fun z2 => by rw [z2]; rfl)
  rw [z2]
  rfl
/-! ### dicts -/
theorem go_dget {td ty : TE} (h : td σ H fun x H1 => ty σ H1 fun y H2 => ∃ a v, x = .ref a ∧ DGet H2 a y (some v) ∧ Q v H2) : tDGet td ty σ H Q := h
theorem go_dgetS {R : V → Prop} {z : Str} {kvs : List (Key × V)} {v : V} (e : H a = some (.dK kvs)) (hv : valV kvs (.inr z) = some v) (h : R v) : ∃ a' v', V.ref a = .ref a' ∧ DGet H a' (.str z) (some v') ∧ R v' :=
  ⟨a, v, rfl, by rw [← hv]; exact DGet.k (k := .inr z) e, h⟩
theorem go_dput {td ty tv : TE} {D : Ends} (h : tv σ H fun v H1 => td σ H1 fun x H2 => ty σ H2 fun y H3 => ∃ a H4, x = .ref a ∧ DPut H3 a y v H4 ∧ D.nx σ H4) : sDPut td ty tv D σ H := h
theorem go_dputS {R : Hp → Prop} {z : Str} {kvs : List (Key × V)} {v : V} (e : H a = some (.dK kvs)) (hl : kvs.length < sizeLine) (h : R (upd H a (.dK (putK kvs (.inr z) v)))) : ∃ a' H', V.ref a = .ref a' ∧ DPut H a' (.str z) v H' ∧ R H' :=
  ⟨a, _, rfl, DPut.k (k := .inr z) e hl, h⟩
end
/-! ### a deep tuple, taken apart -/
theorem dp_tup {K : PySem.W.Frag} {H : Hp} {v : V} {ds : List PyData} (h : Dp K H v (.tuple ds)) : ∃ p xs, v = .ref p ∧ SqT K H p xs ∧ DpAll K H xs ds := by
  cases h with
  | tup a b => exact ⟨_, _, rfl, a, b⟩
theorem dp_lst {K : PySem.W.Frag} {H : Hp} {v : V} {ds : List PyData} (h : Dp K H v (.list ds)) : ∃ p xs, v = .ref p ∧ SqL K H p xs ∧ DpAll K H xs ds := by
  cases h with
  | lst a b => exact ⟨_, _, rfl, a, b⟩
theorem dp_str {K : PySem.W.Frag} {H : Hp} {v : V} {s : Str} (h : Dp K H v (.str s)) : v = .str s := by cases h; rfl
theorem dp_int {K : PySem.W.Frag} {H : Hp} {v : V} {i : Int} (h : Dp K H v (.int i)) : v = .int i := by cases h; rfl
theorem dps_cons {K : PySem.W.Frag} {H : Hp} {vs : List V} {d : PyData} {ds : List PyData} (h : DpAll K H vs (d :: ds)) : ∃ v r, vs = v :: r ∧ Dp K H v d ∧ DpAll K H r ds := by
  cases h with
  | cons a b => exact ⟨_, _, rfl, a, b⟩
theorem dps_nil {K : PySem.W.Frag} {H : Hp} {vs : List V} (h : DpAll K H vs []) : vs = [] := by cases h; rfl
end Zg

namespace Zg
open PySem PySem.Spec PyProof.Rows L2
theorem go_lc2 {σ : L2.St} {H : Hp} {Q : VK} {wi wi1 : TI} {g g1 : TG} {tt tt1 : TT} {te : TE} {vs vs1 : List Nat}
    (h : wi σ H fun J H1 => Fr H1 fun D => ∃ W : Nat → Nat → Hp → Prop, (∃ m, W 0 m (upd H1 D (.lst []))) ∧ ∀ i m H, W i m H → (J.stop i H ∧ Q (.ref D) H) ∨ (J.go i H ∧ ∃ Nx : Hp → Prop, (∀ H', Nx H' → ∃ m', m' < m ∧ W (i + 1) m' H') ∧
      ∀ x H', J.yld i H x H' → g x (wipe σ vs) H' fun σ2 H2 => wipe σ2 vs = wipe σ vs ∧ tt σ2 H2 fun b H3 => if b = true then wi1 σ2 H3 fun J1 H4 => ∃ W1 : Nat → Nat → Hp → Prop, (∃ m, W1 0 m H4) ∧ ∀ j k H, W1 j k H → (J1.stop j H ∧ Nx H) ∨
        (J1.go j H ∧ ∃ Nx1 : Hp → Prop, (∀ H', Nx1 H' → ∃ k', k' < k ∧ W1 (j + 1) k' H') ∧ ∀ x H', J1.yld j H x H' → g1 x (wipe σ2 vs1) H' fun σ3 H5 => wipe σ3 vs1 = wipe σ2 vs1 ∧ tt1 σ3 H5 fun b H6 => if b = true then te σ3 H6 fun y H7 => ∃ acc, H7 D = some (.lst acc) ∧
          acc.length < sizeLine ∧ Nx1 (upd H7 D (.lst (acc ++ [y]))) else Nx1 H6) else Nx H3)) : tLc2 wi g tt wi1 g1 tt1 te vs vs1 σ H Q := h
theorem go_yes {σ : L2.St} {H : Hp} {A B : Hp → Prop} (h : A H) : tYes σ H (fun b H3 => if b = true then A H3 else B H3) := show (if true = true then A H else B H) from iteT h
/-- [y for x in .. for y in a list that x gives]: the lists one behind the other -/
theorem lc2_gen {J : It} {G : Hp → Prop} {n M : Nat} {it : Nat → V → Hp → Prop} (W : Walk J G n it) {K : PySem.W.Frag} {A : Nat → List V → Hp → Prop} {te : TE} {vs vs1 : List Nat} {i0 i1 : Nat} {wi1 : TI} {σ : L2.St} {H1 : Hp} {Qd : Addr → Hp → Prop}
    (hG : ∀ H, Kp No H1 H → G H) (hA0 : A 0 [] H1) (hAm : ∀ i acc H H' l D, H1 D = none → H D = some (.lst l) → (∀ b o, b ≠ D → H b = some o → H' b = some o) → A i acc H → A i acc H')
    (hA1 : ∀ (H : Hp) D, H1 D = none → A 0 [] H1 → A 0 [] (upd H1 D (.lst []))) (hlen : ∀ i acc H, A i acc H → acc.length ≤ M) (hM : M < sizeLine)
    (step : ∀ D i x H' acc (R : It → Hp → Prop), i < n → H1 D = none → H' D = some (.lst acc) → Kp No H1 H' → A i acc H' → it i x H' →
      (∀ b ys H4, Kp No H' H4 → SqL K H4 b ys → b ≠ D → A (i + 1) (acc ++ ys) H4 → R (Itl K b) H4) → wi1 ((wipe σ vs).set i0 (some x)) H' R)
    (hw : ∀ x, wipe ((wipe σ vs).set i0 (some x)) vs = wipe σ vs)
    (hin : ∀ x y H5 (Q' : VK), Q' y H5 → wipe ((wipe ((wipe σ vs).set i0 (some x)) vs1).set i1 (some y)) vs1 = wipe ((wipe σ vs).set i0 (some x)) vs1 ∧ te ((wipe ((wipe σ vs).set i0 (some x)) vs1).set i1 (some y)) H5 Q')
    (fin : ∀ D acc H', H1 D = none → Kp No H1 H' → A n acc H' → H' D = some (.lst acc) → Qd D H') (D : Addr) (hD : H1 D = none) :
    ∃ W : Nat → Nat → Hp → Prop, (∃ m, W 0 m (upd H1 D (.lst []))) ∧ ∀ i m H, W i m H → (J.stop i H ∧ Qd D H) ∨ (J.go i H ∧ ∃ Nx : Hp → Prop, (∀ H', Nx H' → ∃ m', m' < m ∧ W (i + 1) m' H') ∧
      ∀ x H', J.yld i H x H' → gName i0 x (wipe σ vs) H' fun σ2 H2 => wipe σ2 vs = wipe σ vs ∧ tYes σ2 H2 fun b H3 => if b = true then wi1 σ2 H3 fun J1 H4 => ∃ W1 : Nat → Nat → Hp → Prop, (∃ m, W1 0 m H4) ∧ ∀ j k H, W1 j k H → (J1.stop j H ∧ Nx H) ∨
        (J1.go j H ∧ ∃ Nx1 : Hp → Prop, (∀ H', Nx1 H' → ∃ k', k' < k ∧ W1 (j + 1) k' H') ∧ ∀ x H', J1.yld j H x H' → gName i1 x (wipe σ2 vs1) H' fun σ3 H5 => wipe σ3 vs1 = wipe σ2 vs1 ∧ tYes σ3 H5 fun b H6 => if b = true then te σ3 H6 fun y H7 => ∃ acc, H7 D = some (.lst acc) ∧
          acc.length < sizeLine ∧ Nx1 (upd H7 D (.lst (acc ++ [y]))) else Nx1 H6) else Nx H3) := by
  let Pv : Nat → Hp → Prop := fun i H => ∃ acc, H D = some (.lst acc) ∧ A i acc H ∧ Kp No H1 H
  refine ⟨fun i m H => m = n - i ∧ i ≤ n ∧ Pv i H, ⟨n, by simp, Nat.zero_le _, [], upd_same, hA1 H1 D hD hA0, Kp.refl.own hD⟩, ?_⟩
  rintro i m H ⟨rfl, hi, acc, e1, e2, e3⟩
  by_cases hlt : i < n
  · refine .inr ⟨W.go i H hlt (hG H e3), Pv (i + 1), fun H' p' => ⟨n - (i + 1), by omega, rfl, hlt, p'⟩, fun x H' y => ?_⟩
    obtain ⟨k1, k2⟩ := W.yld i H x H' hlt (hG H e3) y
    refine ⟨hw x, go_yes ?_⟩
    have e1' : H' D = some (.lst acc) := k1 _ _ id e1
    have e2' : A i acc H' := hAm i acc H H' acc D hD e1 (fun b o _ e => k1 b o id e) e2
    refine step D i x H' acc _ hlt hD e1' (e3.trans k1) e2' k2 fun b ys H4 k4 hb hbD hA => ?_
    have e1'' : H4 D = some (.lst acc) := k4 _ _ id e1'
    refine ⟨fun j k H => k = ys.length - j ∧ j ≤ ys.length ∧ H D = some (.lst (acc ++ ys.take j)) ∧ ∀ c o, c ≠ D → H4 c = some o → H c = some o, ⟨ys.length, by simp, Nat.zero_le _, by simpa using e1'', fun _ _ _ e => e⟩, ?_⟩
    rintro j k H5 ⟨rfl, hj, f1, f2⟩
    have hb5 : SqL K H5 b ys := by
      rcases hb with (q | ⟨o, q⟩) | q
      · exact .inl (.inl (f2 _ _ hbD q))
      · exact .inl (.inr ⟨o, f2 _ _ hbD q⟩)
      · exact .inr q
    have f3 : Kp No H1 H5 := fun c o _ e => f2 c o (ne_of_none e hD) (k4 _ _ id ((e3.trans k1) _ _ id e))
    by_cases hjl : j < ys.length
    · refine .inr ⟨⟨ys, ys[j], hb5, by simp [hjl]⟩, fun H' => H' D = some (.lst (acc ++ ys.take (j + 1))) ∧ ∀ c o, c ≠ D → H4 c = some o → H' c = some o, fun H' p' => ⟨ys.length - (j + 1), by omega, rfl, hjl, p'⟩, fun z H6 y => ?_⟩
      obtain ⟨rfl, y⟩ := y
      have hz : ys[j]? = some z := y ys hb5
      refine ⟨(hin x z H6 (fun _ _ => True) trivial).1, go_yes ((hin x z H6 _ ?_).2)⟩
      refine ⟨_, f1, ?_, ?_, fun c o hc e => by rw [upd_ne hc]; exact f2 c o hc e⟩
      · have l1 := hlen (i + 1) _ H4 hA
        rw [List.length_append] at l1 ⊢
        rw [List.length_take]
        omega
      · rw [upd_same, List.append_assoc, List.take_add_one, hz]
        rfl
    · have ej : j = ys.length := by omega
      subst ej
      rw [List.take_length] at f1
      exact .inl ⟨⟨ys, hb5, Nat.le_refl _⟩, acc ++ ys, f1, hAm (i + 1) _ H4 H5 acc D hD e1'' f2 hA, f3⟩
  · have e : i = n := by omega
    subst e
    exact .inl ⟨W.stop H (hG H e3), fin D acc H hD e3 e2 e1⟩
section
variable {σ : L2.St} {H : Hp} {Q : VK} {te : TE} {K : PySem.W.Frag} {a : Addr} {xs : List V}
theorem go_sl {r : V → Option Int → Option Int → Hp → VK → Prop} {tl th : TO} (h : te σ H fun x H1 => tl σ H1 fun l H2 => th σ H2 fun u H3 => r x l u H3 Q) : tSl r te tl th σ H Q := h
theorem go_part {t : TE} {R : Option Int → Hp → Prop} (h : t σ H fun x H1 => ∃ i, x = .int i ∧ R (some i) H1) : tPart t σ H R := h
theorem go_nopart {R : Option Int → Hp → Prop} (h : R none H) : tNoPart σ H R := h
theorem go_int {i : Int} {R : Int → Prop} (h : R i) : ∃ j, V.int i = .int j ∧ R j := ⟨i, rfl, h⟩
theorem go_slA1 {x : V} {r : List V} (hs : SqT K H a (x :: r)) (h : ∀ p, H p = none → Q (.ref p) (upd H p (.tup r))) : rSlA K (.ref a) (some 1) none H Q := by
  have e1 : HT.sIx (x :: r).length 0 (some 1) = 1 := by
    rw [show (1 : Int) = ((1 : Nat) : Int) from rfl, HT.sIx_nat]
    simp
  have e2 : HT.sIx (x :: r).length (x :: r).length none = (x :: r).length := rfl
  refine ⟨a, x :: r, rfl, hs, fun z => ?_, fun _ p n => ?_⟩
  · rw [e1] at z; exact absurd z.1 (by decide)
  · have e3 : cutV (x :: r) (some 1) none = r := by
      unfold cutV
      rw [e1, e2]
      simp
    rw [e3]
    exact h p n
theorem go_slS {z : Str} {lo hi : Option Int} (hz : z.length ≤ sizeLine) (h : Q (.str (cutS z lo hi)) H) : rSlS (.str z) lo hi H Q := ⟨z, rfl, hz, h⟩
theorem go_slL {lo hi : Option Int} (hs : SqL K H a xs) (h : ∀ p, H p = none → Q (.ref p) (upd H p (.lst (cutV xs lo hi)))) : rSlL K (.ref a) lo hi H Q := ⟨a, xs, rfl, hs, h⟩
theorem go_catS {i j : Str} {R : Str → Str → Prop} (hl : i.length + j.length ≤ sizeLine) (h : R i j) : ∃ i' j', V.str i = .str i' ∧ V.str j = .str j' ∧ i'.length + j'.length ≤ sizeLine ∧ R i' j' := ⟨i, j, rfl, rfl, hl, h⟩
end
end Zg

namespace Uz
open PySem PySem.Spec PyProof.Rows L2
/-! rules whose reading names the frame K alone (within a comprehension the context is another one at each place) -/
section
variable {X : Cx} {K : PySem.W.Frag} {tg e : Expr} {te : TE}
theorem kx_list (hK : X.K = K := by rfl) : IxR X (rIxL K) := hK ▸ ix_list
theorem kx_tup (hK : X.K = K := by rfl) : IxR X (rIxT K) := hK ▸ ix_tup
theorem kx_seq (hK : X.K = K := by rfl) : IxR X (rIx K) := hK ▸ ix_seq
theorem kc_len (hK : X.K = K := by rfl) : CallR X (.builtin "len") (fun xs H Q => ∃ x n, xs = [x] ∧ LenV K x H n ∧ Q (.int n) H) := hK ▸ call_len
theorem kc_isi (hK : X.K = K := by rfl) : CallR X (.builtin "isinstance") (rIsi K) := hK ▸ call_isi
theorem kc_isiT (hK : X.K = K := by rfl) : CallR X (.builtin "isinstance") (rIsiT K) := hK ▸ call_isiT
theorem kc_all (hc : X.calm = true) (hK : X.K = K := by rfl) : CallR X (.builtin "all") (rAll K) := hK ▸ cr_all hc
theorem kc_sum (hc : X.calm = true) (hK : X.K = K := by rfl) : CallR X (.builtin "sum") (rSum K) := hK ▸ cr_sum hc
theorem ko_in (hK : X.K = K := by rfl) : OpR X (compareOp .In) (rIn K false) := hK ▸ op_in_seq
theorem ki_list (he : PE X e te) (hK : X.K = K := by rfl) : PI X tg e (iList K te) := hK ▸ pi_list he
theorem ki_tup (he : PE X e te) (hK : X.K = K := by rfl) : PI X tg e (iTup K te) := hK ▸ pi_tup he
theorem ks_tup (hK : X.K = K := by rfl) : SlR X (rSlA K) := hK ▸ sl_tupA
theorem ks_list (hK : X.K = K := by rfl) : SlR X (rSlL K) := hK ▸ sl_list
theorem kt_truth {a : Expr} {ta : TE} (ha : PE X a ta) (he : ∀ whole, isTrue a X.env whole = (do let v ← whole; standAt a.pos; holding [v] (truthy v))) (hK : X.K = K := by rfl) : PT X a (fun σ H Q => ta σ H fun x H' => ∃ k, TruV K x H' k ∧ Q k H') := hK ▸ pt_truth ha he
theorem kf_fld {f : Str} {pos : Pos} {t : TE} (h : PE X e t) (ht : t = te) : PE X e te := ht ▸ h
end
end Uz

/-! own exceptions whose __init__ goes on to the one of the class above; several named except clauses -/
namespace Uz
open PySem PySem.Spec PyProof.Rows L2
section
variable {X : Cx} {e : Expr} {es : List Expr} {ta : TA} {p1 p2 pos : Pos} {pl : Sem Bool}
/-- C.m(e, ..), C a global class, m a plain def of it -/
theorem pe_cfun {CX : CXT} {x m : Str} {C g : Addr} {mc : Value} {k : Nat} {fd : FuncData} {ps : List Str} {sp : Sp} {ds : List Value} {dvs : List V} {E : XK} (hg : Gl X x) (hm : X.mg x = some (.ref C)) (hdb : (x == ("__debug__" : Str)) = false)
    (rd : ClX.CRead X.K C mc) (at_ : PySem.W.findCls X.K (.ref C) mc m = some (.val (.ref g))) (F : FnOk X.prog X.w X.K X.mg X.base CX k g fd ps sp) (hr : Room k X.A) (kp : PySem.W.keepIn X.K (.ref g) = true) (hb : L2.Binds X.K fd ps ds) (hd : Vals dvs ds) (hx : Passes CX X E) (ha : PA X (e :: es) ta)
    (hc : eval (.Call (.Attribute (.Name x p1) m p2) (e :: es) [] pos) X.env = (do
      let ov ← eval (.Name x p1) X.env
      standAt p2.atName
      let (f, first) ← holding [ov] (getMethod ov m pl)
      callWith pos f first (backTo pos (starEach (e :: es) X.env)) (backToKw pos (keywordEach [] X.env))) := by rfl)
    (he : starEach (e :: es) X.env = (false, eval e X.env) :: starEach es X.env := by rfl) (hpl : (backTo pos (starEach es X.env)).any (·.1) = false := by rfl) :
    PE X (.Call (.Attribute (.Name x p1) m p2) (e :: es) [] pos) (tCall sp dvs E ta) := by
  refine ⟨fun pins s σ H Q I h => ?_⟩
  refine PySem.W.methodCall_KW (ld_glob I hg hm ?_ hdb) hc
  refine PySem.W.method_cls I.kIn rd.ga (ClX.getcval_ok I rd (⟨at_, rfl⟩ : ClX.CVal X.K C mc m (.ref g) (.ref g)) fun s1 J => ?_)
  refine PySem.W.callWith_K (first := []) (h₀ := X.base) J.ok.mod.kin kp (thn (ha.run pos pins s1 σ H _ J h) fun us s2 hh => ?_) he hpl
  obtain ⟨vs, H2, I2, r2, q2⟩ := hh
  exact ⟨I2.kIn, run_fn F hr hb hd hx I2 r2 q2⟩
/-- C(): its own __init__ keeps sp -/
def tMkO0 (C : Addr) (sp : Sp) : L2.St → Hp → XK → Prop := fun _ H1 Q => ∀ a, H1 a = none → sp [.ref a] (upd H1 a (exo a C none))
  (fun v H2 => v = .non ∧ ∃ (d : Addr) (fs : List (Str × V)), H2 a = some (exo a C (some d)) ∧ H2 d = some (exd d fs) ∧ H1 d = none ∧ Q (.ref C) (some d) (upd (del H2 a) d (.xd fs))) (fun _ _ _ => False)
theorem pmk_oex0 {CX : CXT} {x : Str} {C fI : Addr} {k : Nat} {fd : FuncData} {ps : List Str} {sp : Sp} {p : Pos} (T : OexC X.K C) (iC : PySem.W.findIn X.K (.ref C) "__init__" = some (some (.ref fI))) (tI : PySem.W.typeIn X.K (.ref fI) = some (.type "function"))
    (F1 : FnOk X.prog X.w X.K X.mg X.base CX k fI fd ps sp) (hr : Room (k + 1) X.A) (hb : L2.Binds X.K fd ps []) (hx : Passes CX X (fun _ _ _ => False)) (hg : Gl X x) (hm : X.mg x = some (.ref C)) (hdb : (x == ("__debug__" : Str)) = false := by decide) :
    PMk X (.Call (.Name x p) [] [] pos) (tMkO0 C sp) := by
  intro pins s σ H Q I h
  obtain ⟨nm, q, N, bs, bm, sn, sub, ab, col, dd, k0, k1, k2, k3, k5, hC, hbm⟩ := T.cls
  refine wpAny_Call_Name_kw (ld_glob I hg hm ?_ hdb)
  refine PySem.W.callWith_K0 I.kIn T.kC ?_
  obtain ⟨hp, g, dr, tk, os⟩ := s
  have sz : hp.objs.size ≤ hp.objs.size + 1 := Nat.le_succ _
  have n1 : H (hp.objs.size + 1) = none := I.hok.fresh sz
  have w1 := h (hp.objs.size + 1) n1
  have up : ∀ b o, hp.get? b = some o → ((hp.push (PySem.W.kdv_tup [])).push (PySem.HandSPX.excO C hp.objs.size)).get? b = some o := fun b o z => Heap.get?_push_of_some _ (Heap.get?_push_of_some _ z)
  have at1 : ((hp.push (PySem.W.kdv_tup [])).push (PySem.HandSPX.excO C hp.objs.size)).get? (hp.objs.size + 1) = some (PySem.HandSPX.excO C hp.objs.size) := by heap_get
  have J : Inv X pins σ (upd H (hp.objs.size + 1) (exo (hp.objs.size + 1) C none)) ⟨(hp.push (PySem.W.kdv_tup [])).push (PySem.HandSPX.excO C hp.objs.size), g, dr, tk, os⟩ :=
    I.laid (t' := tk) (o := exo (hp.objs.size + 1) C none) up sz (exo_ok at1)
  have rv : Vals [V.ref (hp.objs.size + 1)] ([Value.ref (hp.objs.size + 1)] ++ []) := .cons rfl .nil
  have ln : ([Value.ref (hp.objs.size + 1)] ++ []).length = ps.length := by
    have z := rv.length
    rw [F1.len _ _ _ _ w1] at z
    exact z.symm
  refine wpAny_call (PySem.HandSPX.call_own (rest := []) F.excBase_ValueError (fun Y => PySem.HandSPX.refsVE_contains Y bm hbm) (I.kIn _ _ hC) (PySem.W.looks_findIn I.kIn iC) (fun self => PySem.W.bind_fn I.kIn self tI) (Nat.zero_le _)
    (codeAny_mono (F1.run _ X.stack _ _ ⟨[Value.ref (hp.objs.size + 1)], []⟩ ([Value.ref (hp.objs.size + 1)] ++ []) _ _ (fun _ _ _ => False) (hr.make C [] []) (J.env0.make C [] []) (hb _ [Value.ref (hp.objs.size + 1)] J.kIn ln) rv w1) fun r s' z => ?_))
  cases r with
  | error er => exact hx pins σ _ _ er s' J z
  | ok fl =>
    cases fl with
    | ret u =>
      obtain ⟨v, H2, z1, z2, z3, z4, z5, ev, d, fs, ea, ed, hd1, q2⟩ := z
      subst ev
      obtain ⟨h2, g2, d2, t2, os'⟩ := s'
      exact ⟨z5, mk_end (raises_own T.exC T.tyC) I sz up z3 z4 z1 z2 ea ed hd1 q2⟩
    | next => exact False.elim z
    | brk => exact False.elim z
    | cont => exact False.elim z
end
end Uz

namespace Uz
open PySem PySem.Spec PyProof.Rows L2
/-- e.f of the caught exception, whatever its class -/
def tXfA (K : PySem.W.Frag) (a : Addr) (cls : Value) (d : Option Addr) (f : Str) (te : TE) : TE := fun σ H Q => te σ H fun x H1 => x = .ref a ∧ ∃ (C dd : Addr) (fs : List (Str × V)) (v : V), cls = .ref C ∧ XfC K C ∧ PySem.W.findIn K (.ref C) f = some none ∧ d = some dd ∧ H1 dd = some (.xd fs) ∧ fs.lookup f = some v ∧ Q v H1
theorem pe_xfA {X : Cx} {a : Addr} {oe : Obj} {cls : Value} {d : Option Addr} {pn : List (Addr × Obj)} {e : Expr} {te : TE} {pos : Pos} {n : Str}
    (hz : Zc cls d oe) (hf : ∃ vs, oe.data = .fields vs) (he : PE (X.suite a ((a, oe) :: pn)) e te) (hb : attributeBase e n X.env (eval e X.env) = eval e X.env := by rfl) :
    PE (X.suite a ((a, oe) :: pn)) (.Attribute e n pos) (tXfA X.K a cls d n te) := by
  refine ⟨fun pins s σ H Q I h => ?_⟩
  refine attr_of hb (thn (he.run pins s σ H _ I h) fun u s1 hh => ?_)
  obtain ⟨x, H1, J, rx, rfl, C, dd, fs, v, rfl, T, hno, rfl, ea, l, q⟩ := hh
  obtain rfl : u = Value.ref a := rx
  obtain ⟨vs, hv⟩ := hf
  have at0 := (J.pin (a, oe) (List.mem_append_left _ List.mem_cons_self)).1
  obtain ⟨mA, ns, hr⟩ := (J.hok dd _ ea : ObjOk X.prog X.w H1 s1.heap dd (.xd fs))
  obtain ⟨od, ho, hl⟩ := lookIn_ns ns
  obtain ⟨w, hw, rw'⟩ := RelO.some_of (v := v) (o := mA n) (by rw [← l]; exact hr n)
  have IA : PySem.W.InstAt s1.heap a oe C (some od) := by
    refine ⟨at0, hz.1, ?_, by rw [hz.2]; exact ho⟩
    unfold PySem.W.notCls
    rw [hv] <;> rfl
  exact HandSPX.exc_get J.kIn IA T.ga T.gg T.exC (PySem.W.findObj_own T.hdC hno rfl (by rw [hl, hw])) (handed_of rw') ⟨v, H1, J.tok _, rw', q⟩
/-- what the written part says of an own exception class over ValueError -/
structure ExF (K : PySem.W.Frag) (C : Addr) : Prop where
  oex : OexC K C
  xf : XfC K C
  rd : ClX.CRead K C (.type "type")
  nw : PySem.W.findIn K (.ref C) "word" = some none
theorem passF {P : Program} {w : World} {X : Cx} : Passes (L2.CX P w) X (fun _ _ _ => False) := fun _ _ _ _ _ _ _ h => by
  obtain ⟨_, _, _, _, _, _, _, _, _, _, _, _, z⟩ := h
  exact z.elim
/-! ### try: .. except A as n: .. except B as n: .. -/
abbrev SuiteT := Addr → Value → Option Addr → TS
def endsAs (i : Nat) (D : Ends) : Ends := { nx := fun σ H => D.nx (σ.set i none) H, rt := D.rt, bk := fun σ H => D.bk (σ.set i none) H, ct := fun σ H => D.ct (σ.set i none) H }
def wAsL (K : PySem.W.Frag) (i : Nat) (Wout : WX) (D : Ends) : List (Value × SuiteT) → WX
  | [] => Wout
  | (c, ts) :: r => fun cls d σ H => ∃ b, PySem.W.exmOne K cls c = some b ∧ (b = true → ∀ a, H a = none → ts a cls d (endsAs i D) (σ.set i (some (.ref a))) H) ∧ (b = false → wAsL K i Wout D r cls d σ H)
inductive HdAs (X : Cx) (n : Str) : List ExceptHandler → List (Value × SuiteT) → Prop
  | nil : HdAs X n [] []
  | cons {x : Str} {c : Value} {ts : SuiteT} {b₀ : Stmt} {suite : List Stmt} {np pos' : Pos} {hds : List ExceptHandler} {l : List (Value × SuiteT)} (hc : Names X x c)
      (hsu : ∀ (a : Addr) (oe : Obj) (cls : Value) (d : Option Addr) (pn : List (Addr × Obj)), Zc cls d oe → (∃ vs, oe.data = .fields vs) → PSs (X.suite a ((a, oe) :: pn)) (b₀ :: suite) (ts a cls d)) (r : HdAs X n hds l) :
      HdAs X n (.ExceptHandler (some (.Name x np)) (some n) (b₀ :: suite) pos' :: hds) ((c, ts) :: l)
theorem ps_try_asL {X : Cx} {n : Str} {i : Nat} {body : List Stmt} {h₀ : ExceptHandler} {hds : List ExceptHandler} {l : List (Value × SuiteT)} {pos : Pos} {tb : WX → TS} {Wout : WX}
    (hs : X.stack = X.env :: X.outer) (hf : X.env.frame = some X.env.locals) (hN : X.N.Nodup) (hi : X.N[i]? = some n) (hln : X.env.kindOf n = some .local) (tk : Takes X Wout)
    (hb : ∀ (W : WX) (pn : List (Addr × Obj)) (xe : Value → Shared → Prop), Takes (X.tr pn xe) W → PassesOwn (model X.prog X.w) X.A X.env xe → PSs (X.tr pn xe) body (tb W))
    (hh : HdAs X n (h₀ :: hds) l) : PS X (.Try body (h₀ :: hds) [] [] pos) (fun D σ H => tb (wAsL X.K i Wout D l) D σ H) := by
  refine ⟨fun pins s σ H D I h => ?_⟩
  have ok := I.ok
  have fr0 : X.A.frames = some (X.env :: X.outer) := by rw [ok.frames, hs]
  have lc0 : L2.Loc X.env.scope n := .inl hln
  refine wpAny_Try_except ?_
  refine wpAny_mono ((hb (wAsL X.K i Wout D l) (X.pn ++ pins) (fun e s₁ => wpAny (model X.prog X.w) X.A (noteFrame e X.env) (fun _ s₂ => wpAny (model X.prog X.w) X.A (setFlight e none) (fun _ s₃ =>
    wpAny (model X.prog X.w) X.A (handleBy e X.env (h₀ :: hds)) (SP X pins D) X.xe s₃) X.xe s₂) X.xe s₁) (fun u s' xx => ?_) PassesOwn.looking).run [] s σ H D (I.toTry _) h) (fun f s1 sp1 => ?_) (fun e s1 he => he)
  · obtain ⟨a, B, sI, pins', σ', H', cls, d, rfl, J', nb, up, sky, na, os, ag, w⟩ := xx
    have J : Inv X pins σ' H' sI := J'.ofTry ok
    have sky2 : Sky B (X.env :: X.outer) a (Zc cls d) X.env.locals s'.heap := by rw [← hs]; exact sky
    show wpAny (model X.prog X.w) X.A (noteFrame (.ref a) X.env) _ _ _
    refine Sky.land Zc.steady fr0 hf sky2 fun g3 fl3 up3 => ?_
    have J3 : Inv X pins σ' H' { s' with heap := g3 } := J.landed nb fl3.1 (up.trans up3) os ag
    obtain ⟨oe3, vs3, a3, z3, d3⟩ := fl3.there
    have nfr : a ∉ frs (X.env :: X.outer) := fun hm => by
      obtain ⟨_, o', e', hnf⟩ := fl3.2.2.1.mem hm
      rw [a3] at e'; cases e'
      exact hnf _ d3
    have nL : a ≠ X.env.locals := fun z => nfr (List.mem_filterMap.mpr ⟨X.env, List.mem_cons_self, by rw [hf, z]⟩)
    have nF : a ∉ X.fs := fun hm => by
      obtain ⟨e, he, q⟩ := List.mem_filterMap.mp hm
      exact nfr (List.mem_filterMap.mpr ⟨e, List.mem_cons_of_mem _ he, q⟩)
    have S3 := J3.suite a3 d3 na nL nF
    have go : ∀ {hd2 : List ExceptHandler} {l2 : List (Value × SuiteT)}, HdAs X n hd2 l2 → wAsL X.K i Wout D l2 cls d σ' H' →
        wpAny (model X.prog X.w) X.A (handleBy (.ref a) X.env hd2) (SP X pins D) X.xe { s' with heap := g3 } := by
      intro hd2 l2 hk
      induction hk with
      | nil =>
        intro w
        refine wpAny_handleBy_nil ?_
        obtain ⟨k1, k2, k3, oe, vs, T, oT, ts', he, hz, hd, h1, hr⟩ := id fl3
        unfold PySem.passOn
        refine wpAny_bind (wpAny_field he hd h1 ?_)
        rw [if_neg (show ¬ ((Value.ref T == Value.none) = true) from by simp)]
        have fin : wpAny (model X.prog X.w) X.A (setFlight (.ref a) X.env.frame) (fun _ s4 => wpAny (model X.prog X.w) X.A (throw (.ref a) : Sem Flow) (SP X pins D) X.xe s4) X.xe { s' with heap := g3 } := by
          rw [hf]
          refine HandSPX.setFlight_upZ fl3 fun g4 hh4 up4 => wpAny_throw (tk _ _ ?_)
          exact ⟨a, B, sI, pins, σ', H', cls, d, rfl, J, nb, (up.trans up3).trans up4, .inr (.inr (by rw [hs]; exact hh4)), na, os, ag, w⟩
        first
          | exact wpAny_bind (wpAny_pure (wpAny_bind fin))
          | exact wpAny_bind fin
      | @cons x c ts b₀ suite np pos' hds3 l3 hc hsu r ih =>
        intro w
        obtain ⟨b, hb1, yes, no⟩ := w
        refine wpAny_handleBy_cons (codeAny_handlers_test ?_) (by intro q; cases q)
        have LT : PySem.W.Looks (model X.prog X.w) g3 (typeOf (.ref a)) cls := fun A Q E s k q => wpAny_typeOf_ref (k _ _ a3) (by rw [z3.1]; exact q)
        have LM := PySem.W.exm_one (M := model X.prog X.w) (J3.kIn) LT hb1
        have test : ∀ {Q : Value → Shared → Prop} {E : Value → Shared → Prop}, Q c { s' with heap := g3 } → wpAny (model X.prog X.w) (X.A.mark (some (.ref a))) (eval (.Name x np) X.env) Q E { s' with heap := g3 } := fun {Q E} q => by
          obtain ⟨hg, nd, hm | ⟨hm, hv, hnn⟩⟩ := hc
          · exact ld_glob (X := X.suite a ((a, oe3) :: (X.pn ++ pins))) S3 hg hm q nd
          · exact ld_blt (X := X.suite a ((a, oe3) :: (X.pn ++ pins))) S3 hg hm hv q hnn nd
        refine test (LM.here ?_)
        cases b with
        | false => exact ih (no rfl)
        | true =>
          refine codeAny_handlers_suite_as ?_
          refine HandSPX.lands_againZ fl3 fun g4 fl4 up4 => ?_
          have J4 : Inv X pins σ' H' { s' with heap := g4 } := J.landed nb fl4.1 ((up.trans up3).trans up4) os ag
          obtain ⟨oe4, vs4, a4, z4, d4⟩ := fl4.there
          have S4 := J4.suite a4 d4 na nL nF
          refine store_ok (X := X.suite a ((a, oe4) :: (X.pn ++ pins))) (v := .ref a) S4 hN hi lc0 rfl (fun s5 S5 => ?_) (.inr hln)
          refine wpAny_mono ((hsu a oe4 cls d (X.pn ++ pins) z4 ⟨_, d4⟩).run [] s5 _ H' _ S5 (yes rfl a na)) (fun f s6 sp6 => ?_) (fun _ _ z => False.elim z)
          have done : ∀ {σ6 : L2.St} {H6 : Hp} {Q : Shared → Prop}, Inv (X.suite a ((a, oe4) :: (X.pn ++ pins))) [] σ6 H6 s6 → (∀ s7, Inv X pins (σ6.set i none) H6 s7 → Q s7) →
              wpAny (model X.prog X.w) X.A (do bindName X.env n .none; unbindBehindTheSuite X.env n pos') (fun _ s7 => Q s7) X.xe s6 := fun {σ6 H6 Q} S6 hq => gone_ok (S6.unsuite ok) hN hi hln hq
          cases f with
          | ret u =>
            obtain ⟨v6, σ6, H6, S6, r6, q6⟩ := sp6
            exact done S6 fun s7 J7 => ⟨_, _, _, J7, r6, q6⟩
          | next => obtain ⟨σ6, H6, S6, q6⟩ := sp6; exact done S6 fun s7 J7 => ⟨_, _, J7, q6⟩
          | brk => obtain ⟨σ6, H6, S6, q6⟩ := sp6; exact done S6 fun s7 J7 => ⟨_, _, J7, q6⟩
          | cont => obtain ⟨σ6, H6, S6, q6⟩ := sp6; exact done S6 fun s7 J7 => ⟨_, _, J7, q6⟩
    exact go hh w
  · cases f with
    | ret u => obtain ⟨v, σ', H', J', r, q⟩ := sp1; exact ⟨v, σ', H', J'.ofTry ok, r, q⟩
    | next => obtain ⟨σ', H', J', q⟩ := sp1; exact wpAny_execs_nil ⟨σ', H', J'.ofTry ok, q⟩
    | brk => obtain ⟨σ', H', J', q⟩ := sp1; exact ⟨σ', H', J'.ofTry ok, q⟩
    | cont => obtain ⟨σ', H', J', q⟩ := sp1; exact ⟨σ', H', J'.ofTry ok, q⟩
end Uz

/-! a lambda handed to a def that catches what it raises: the def's own names as they stand there -/
namespace Uz
open PySem PySem.Spec PyProof.Rows L2 LamX
section
variable {X : Cx} {pins : List (Addr × Obj)} {σ : L2.St} {H : Hp} {s : Shared}
theorem pe_act2 {CXg : CXT} {Eg : XK} {Ng : List Str} {qg : Str} {sg : Scope} {g f c' : Addr} {cdg pm ctv : Value} {params : Arguments} {body : Expr} {scope : Scope} {k i : Nat} {a : Str} {pn : List (Addr × Obj)} {xe : Value → Shared → Prop} {W : WX} {tb : XK → TE} {p1 p2 : Pos}
    (I : Inv X pins σ H s) (L : LamS X.env.scope scope) (hf : s.heap.get? f = some (PySem.W.kla_obj "<lambda>" (X.env.qual ++ "<lambda>") params body scope (cloFrom X.env.cells scope.names []) pm c' ctv)) (hfn : H f = none) (hfr : f ∉ frs X.stack)
    (bd : bindArgs (PySem.W.kla_fn "<lambda>" (X.env.qual ++ "<lambda>") params body scope (cloFrom X.env.cells scope.names []) pm (.ref c') ctv) ⟨[], []⟩ = pure [])
    (tk : Takes ((cxOf CXg X.prog X.w X.K X.mg X.base Ng qg sg g cdg X.A X.stack s H Eg).tr pn xe) W) (hr : Room (k + 1) (X.A.deeper (envOfC qg sg s.heap.objs.size g cdg)))
    (hb : ∀ (A : Around) (outer : List Env) (s : Shared) (H : Hp) (E : XK), Room k (A.deeper (lamEnv X scope s.heap.objs.size f c')) → PE (lamCx X A outer s H E scope f c') body (tb E))
    (hN : Ng[i]? = some a) (hv : Vis sg a) (hd : (a == ("__debug__" : Str)) = false := by decide) (hcd : (a == ("__classdict__" : Str)) = false := by decide) :
    PE ((cxOf CXg X.prog X.w X.K X.mg X.base Ng qg sg g cdg X.A X.stack s H Eg).tr pn xe) (.Call (.Name a p1) [] [] p2)
      (fun σZ HZ Q => ∃ E : XK, (∀ cls d H', E cls d H' → W cls d σZ H') ∧ σZ[i]? = some (some (.ref f)) ∧ HZ c' = some (CodeO c' (X.env.qual ++ "<lambda>")) ∧ tb E σ HZ Q) := by
  refine ⟨fun pinsZ sZ σZ HZ Q IZ h => ?_⟩
  obtain ⟨E, hW, hs, hc, ht⟩ := h
  refine wpAny_Call_Name_kw (thn ((pe_var (pos := p1) (i := i) hN hv hd hcd).run pinsZ sZ σZ HZ (fun v H1 => v = .ref f ∧ H1 = HZ) IZ ⟨.ref f, hs, rfl, rfl⟩) fun u s1 hh => ?_)
  obtain ⟨v, H1, J1, r1, rfl, rfl⟩ := hh
  obtain rfl : u = Value.ref f := r1
  have f1 : s1.heap.get? f = some (PySem.W.kla_obj "<lambda>" (X.env.qual ++ "<lambda>") params body scope (cloFrom X.env.cells scope.names []) pm c' ctv) := J1.base.keep f _ hf hfn hfr (fun z => nomatch (show f ∈ ([] : List Addr) from z))
  refine PySem.W.callWith_F0 ⟨_, _, _, _, f1⟩ ?_
  have un : Un (frs X.stack) [] H H1 s.heap s1.heap := J1.base
  obtain ⟨⟨oc, vs, t, hoc, hdc, hvc⟩, _, _⟩ := J1.hok c' _ hc
  have rc : codeAny (model X.prog X.w) (X.A.deeper (envOfC qg sg s.heap.objs.size g cdg)) (.call (.ref f) ⟨[], []⟩) (CR (L2.CX X.prog X.w) (envOfC qg sg s.heap.objs.size g cdg :: X.stack) X.prog X.w H1 s1 Q E) s1 := by
    refine PySem.W.kla_callFunE hr.depth f1 rfl L.co L.gen rfl ⟨c', oc, vs, t, rfl, hoc, hdc, hvc⟩ ?_
    rw [bd]
    refine wpAny_pure (wpAny_newFunctionEnv (fun y hy => (L.own y hy).2) (fun y hy => absurd hy (by simp)) (fun h₁ hns hsb => ⟨J1.nolimit.fresh _ hsb, ?_⟩) L.kind)
    show codeAny _ _ (.expr body (lamEnv X scope s1.heap.objs.size f c')) _ _
    have up : ∀ b o, s1.heap.get? b = some o → h₁.get? b = some o := fun b o e => hsb.extBut b o (Nat.ne_of_lt (Heap.lt_size e)) (Heap.get?_push_of_some _ e)
    have J : Inv (lamCx X (X.A.deeper (envOfC qg sg s.heap.objs.size g cdg)) (envOfC qg sg s.heap.objs.size g cdg :: X.stack) s1 H1 E scope f c') [] σ H1 { s1 with heap := h₁, toks := s1.toks + ([] : List (Str × Value)).length } :=
      lam_start2 I L J1.env0 hr.hd un hns up
    refine PySem.W.kla_codeExpr (wpAny_mono ((hb _ _ s1 H1 E (hr.deeper _)).run [] _ _ H1 Q J ht) (fun v s' z => ?_) fun e s' z => z)
    obtain ⟨w', H', J', rv, z⟩ := z
    exact ⟨w', H', J'.os, J'.bare, J'.base, J'.hok, rv, z⟩
  refine wpAny_call (codeAny_mono rc fun r s' z => ?_)
  cases r with
  | error e => exact tk e s' (XE.of_call J1 (fun cls d H' y => hW cls d H' y) z)
  | ok fl =>
    cases fl with
    | ret u => exact J1.after z
    | next => exact False.elim z
    | brk => exact False.elim z
    | cont => exact False.elim z
/-- the def that calls what it got -/
def Gives2 (X : Cx) (Ng : List Str) (x : Str) (sg : Scope) (g : Addr) (cdg : Value) (bg : List Stmt) (a : Str) (q : Str) (TT : (XK → Hp → VK → Prop) → Hp → VK → Prop) : Prop :=
  ∀ (f c' : Addr) (s : Shared) (H : Hp) (Q : VK) (tl : XK → Hp → VK → Prop),
    (∀ (W : WX) (pn : List (Addr × Obj)) (xe : Value → Shared → Prop) (p1 p2 : Pos), Takes ((cxOf C8.CX0 X.prog X.w X.K X.mg X.base Ng x sg g cdg X.A X.stack s H C8.E0).tr pn xe) W →
      PE ((cxOf C8.CX0 X.prog X.w X.K X.mg X.base Ng x sg g cdg X.A X.stack s H C8.E0).tr pn xe) (.Call (.Name a p1) [] [] p2) (fun σZ HZ Q => ∃ E : XK, (∀ cls d H', E cls d H' → W cls d σZ H') ∧ σZ[0]? = some (some (.ref f)) ∧ HZ c' = some (CodeO c' q) ∧ tl E HZ Q)) →
    H c' = some (CodeO c' q) → TT tl H Q →
    ∃ t, PSs (cxOf C8.CX0 X.prog X.w X.K X.mg X.base Ng x sg g cdg X.A X.stack s H C8.E0).nox bg t ∧ t { nx := fun _ H' => Q .non H', rt := Q } (L2.start Ng [.ref f]) H
/-- x(lambda: body) -/
theorem pe_lamcall2 {T : List (Addr × Str)} {TT : (XK → Hp → VK → Prop) → Hp → VK → Prop} {x a : Str} {g c P : Addr} {k : Nat} {pg : Arguments} {bg : List Stmt} {sg : Scope} {fdg : FuncData} {Ng : List Str}
    {params : Arguments} {body : Expr} {scope : Scope} {t : XK → TE} {p lpos pos : Pos} (hg : Gl X x) (hm : X.mg x = some (.ref g)) (F : FunD X.K x x pg bg sg [] [] g fdg) (hb : L2.Binds X.K fdg [a] []) (Sg : FnScope Ng [a] sg) (hNg : Ng[0]? = some a) (hva : Vis sg a)
    (hG : ∀ cdv : Value, Gives2 X Ng x sg g cdv bg a (X.env.qual ++ "<lambda>") TT)
    (TB : TabB X.base X.mg c P) (hcode : X.env.code = .ref c) (hmT : (P, X.env.qual ++ "<lambda>") ∈ T) (hu : ∀ p ∈ T, p.1 = P → p.2 = X.env.qual ++ "<lambda>") (hr : Room (k + 2) X.A) (L : LamS X.env.scope scope) (hdef : defaultsOf params X.env = ([], []))
    (bd : ∀ (q : Str) (cl : List (Str × Addr)) (pm cv ctv : Value), bindArgs (PySem.W.kla_fn "<lambda>" q params body scope cl pm cv ctv) ⟨[], []⟩ = pure [])
    (hbody : ∀ (A : Around) (outer : List Env) (s : Shared) (H : Hp) (E : XK) (f c' : Addr), Room k (A.deeper (lamEnv X scope s.heap.objs.size f c')) → PE (lamCx X A outer s H E scope f c') body (t E))
    (hdb : (x == ("__debug__" : Str)) = false := by decide) (hd : (a == ("__debug__" : Str)) = false := by decide) (hcd : (a == ("__classdict__" : Str)) = false := by decide) :
    PE X (.Call (.Name x p) [.Lambda params body scope lpos] [] pos) (tLam T TT t) := by
  obtain ⟨oc, od, dV, kV, doc, pm, an, cdv, ct, osl, rfl, lk, hcg, _, _⟩ := F.ex
  refine ⟨fun pins s σ H Q I h => ?_⟩
  obtain ⟨hT, h⟩ := h
  refine wpAny_Call_Name_kw (ld_glob I hg hm ?_ hdb)
  refine PySem.W.callWith_K (h₀ := X.base) I.ok.mod.kin F.kp ?_ (by rfl) (by rfl)
  show wpAny _ _ (spliced ((false, eval (.Lambda params body scope lpos) X.env) :: backTo pos (starEach [] X.env))) _ _ s
  refine Calls.spliced_cons (lam_make2 I TB hcode hmT hu hT hdef (L.has I.ok) fun f c' pm' ctv H1 s' J e1 T1 f1 f2 f3 hco => ?_)
  refine Calls.spliced_nil ⟨J.kIn, ?_⟩
  have rc : codeAny (model X.prog X.w) X.A (.call (.ref g) ⟨[.ref f], []⟩) (CR C8.CX0 X.stack X.prog X.w H1 s' Q C8.E0) s' := by
    refine run_ofS (N := Ng) (ps := [a]) (us := [.ref f]) (vs := [.ref f]) lk hcg Sg hr J.env0 (hb s' [.ref f] J.kIn rfl) (.cons rfl .nil) rfl fun hr' => ?_
    obtain ⟨t', w1, w2⟩ := hG cdv f c' s' H1 Q (fun E H' Q' => t E σ H' Q') (fun W pn xe p1 p2 tk => pe_act2 (i := 0) J L f1 f2 f3 (bd _ _ _ _ _) tk hr' (fun A outer s H E hr2 => hbody A outer s H E f c' hr2) hNg hva hd hcd) hco (h H1 e1 T1)
    exact ⟨t', w1.nox, w2⟩
  refine wpAny_call (codeAny_mono rc fun r s2 z => ?_)
  cases r with
  | error e => exact (show False from z).elim
  | ok fl =>
    cases fl with
    | ret u => exact J.after z
    | next => exact False.elim z
    | brk => exact False.elim z
    | cont => exact False.elim z
end
end Uz

namespace Zg
open PySem PySem.Spec PyProof.Rows L2
section
variable {σ : L2.St} {H : Hp} {Q : VK} {K : PySem.W.Frag} {l : Addr} {xs ys : List V} {y : V}
theorem go_bm {T : String} {r : V → List V → Hp → VK → Prop} {to : TE} {t : TA} (h : to σ H fun x H1 => tyV K T x H1 ∧ t σ H1 fun xs H2 => r x xs H2 Q) : tBM K T r to t σ H Q := h
theorem go_tyL {R : Prop} (hs : SqL K H l xs) (h : R) : tyV K "list" (.ref l) H ∧ R := ⟨.inl ⟨rfl, xs, hs⟩, h⟩
theorem go_append (e : H l = some (.lst xs)) (hl : xs.length < sizeLine) (h : Q .non (upd H l (.lst (xs ++ [y])))) : rAppend (.ref l) [y] H Q := ⟨l, xs, y, rfl, rfl, e, hl, h⟩
theorem go_extend {b : Addr} (e : H l = some (.lst xs)) (e2 : H b = some (.lst ys)) (hl : xs.length + ys.length ≤ sizeLine) (h : Q .non (upd H l (.lst (xs ++ ys)))) : rExtend (.ref l) [.ref b] H Q := ⟨l, b, xs, ys, rfl, rfl, e, e2, hl, h⟩
theorem go_cat {b : Addr} (e : H l = some (.lst xs)) (e2 : H b = some (.lst ys)) (hl : xs.length + ys.length ≤ sizeLine) (h : ∀ p, H p = none → Q (.ref p) (upd H p (.lst (xs ++ ys)))) : rCat (.ref l) (.ref b) H Q := ⟨l, b, xs, ys, rfl, rfl, e, e2, hl, h⟩
theorem go_sumI {a : Addr} {ns : List Int} (hs : SqL K H a (ns.map V.int)) (h : Q (.int ns.sum) H) : rSum K [.ref a] H Q := ⟨a, ns, rfl, hs, h⟩
theorem go_maxI {a : Addr} {ns : List Int} (hs : SqL K H a (ns.map V.int)) (hn : 0 < ns.length) (h : ∀ m, m ∈ ns → (∀ y, y ∈ ns → y ≤ m) → Q (.int m) H) : rMax K [.ref a] H Q := ⟨a, ns, rfl, hs, hn, h⟩
theorem go_eqD {x y : V} {d e : PyData} (h1 : Dp K H x d) (h2 : Dp K H y e) (s1 : SeqAt.shaped d = true) (s2 : SeqAt.shaped e = true) (h : Q (.bl (PyData.eqv d e)) H) : rEqD K x y H Q := ⟨d, e, h1, h2, s1, s2, h⟩
theorem go_notB {a b : Bool} (h : Q (.bl (!decide (a = b))) H) : rNotB (.bl a) (.bl b) H Q := ⟨a, b, rfl, rfl, h⟩
end
end Zg

namespace Zg
open PySem PySem.Spec PyProof.Rows L2
section
variable {σ : L2.St} {H : Hp} {Q : VK}
theorem go_disp {trs : List (TE × TE)} (h : Fr H fun p => tPairs trs σ (upd H p (.dK [])) fun ps H2 => H2 p = some (.dK []) ∧ ∃ kvs : List (Key × V), ps = kvs.map (fun kv => (kV kv.1, kv.2)) ∧ kvs.length ≤ 15 ∧ Q (.ref p) (upd H2 p (.dK (mergeK [] kvs)))) : tDisp trs σ H Q := h
theorem go_pairs0 {R : List (V × V) → Hp → Prop} (h : R [] H) : tPairs [] σ H R := h
theorem go_pairs {tk tv : TE} {r : List (TE × TE)} {R : List (V × V) → Hp → Prop} (h : tk σ H fun x H1 => tv σ H1 fun y H2 => tPairs r σ H2 fun ps H3 => R ((x, y) :: ps) H3) : tPairs ((tk, tv) :: r) σ H R := h
theorem Kp.sqL2 {H1 : Hp} {K : PySem.W.Frag} {a : Addr} {xs : List V} (h : Kp No H H1) (e : SqL K H a xs) : SqL K H1 a xs := h.sqL (fun _ _ z => z) e
/-- a statement, what holds behind it, and the rest -/
theorem go_seqJ {D : Ends} {t u : TS} (X : L2.St → Hp → Prop) (head : ∀ N : L2.St → Hp → Prop, (∀ σ' H', X σ' H' → N σ' H') → t (Ends.mk N D.rt D.bk D.ct) σ H) (tail : ∀ σ' H', X σ' H' → u D σ' H') : tSeq t u D σ H := head _ tail
theorem go_rI' {C : Int → Int → Prop} {g : Int → Int → V} {i j : Int} (c : C i j) (h : Q (g i j) H) : rI C g (.int i) (.int j) H Q := ⟨i, j, rfl, rfl, c, h⟩
theorem mulL {i j : Int} (h : -(2 ^ 64) < i ∧ i < 2 ^ 64) : CMul i j := .inl h
theorem mulR {i j : Int} (h : -(2 ^ 64) < j ∧ j < 2 ^ 64) : CMul i j := .inr h
end
end Zg
/-! the laws' draws -/
namespace Zd
open PySem PySem.Spec PyProof.Rows L2 Zg
abbrev M61 : Int := 2305843009213693951
def kCells : Key := .inr (Str.ofString "cells")
def kAt : Key := .inr (Str.ofString "at")
def kRest : Key := .inr (Str.ofString "rest")
def kSeed : Key := .inr (Str.ofString "seed")
def drK (c : Addr) (a r s : Int) : List (Key × V) := [(kCells, .ref c), (kAt, .int a), (kRest, .int r), (kSeed, .int s)]
theorem k12 : ¬ kCells = kAt := by decide +kernel
theorem k13 : ¬ kCells = kRest := by decide +kernel
theorem k14 : ¬ kCells = kSeed := by decide +kernel
theorem k23 : ¬ kAt = kRest := by decide +kernel
theorem k24 : ¬ kAt = kSeed := by decide +kernel
theorem k34 : ¬ kRest = kSeed := by decide +kernel
section
variable {c : Addr} {a r s z : Int}
theorem dr_cells : valV (drK c a r s) kCells = some (.ref c) := valV_pos rfl
theorem dr_at : valV (drK c a r s) kAt = some (.int a) := (valV_neg k12).trans (valV_pos rfl)
theorem dr_rest : valV (drK c a r s) kRest = some (.int r) := (valV_neg k13).trans ((valV_neg k23).trans (valV_pos rfl))
theorem dr_seed : valV (drK c a r s) kSeed = some (.int s) := (valV_neg k14).trans ((valV_neg k24).trans ((valV_neg k34).trans (valV_pos rfl)))
theorem pu_at : putK (drK c a r s) kAt (.int z) = drK c z r s := by
  unfold putK
  rw [if_pos (by rw [valV_any, dr_at]; rfl)]
  simp only [drK, List.map_cons, List.map_nil, if_neg k12, if_pos, if_neg (Ne.symm k23 : ¬ kRest = kAt), if_neg (Ne.symm k24 : ¬ kSeed = kAt)]
theorem pu_rest : putK (drK c a r s) kRest (.int z) = drK c a z s := by
  unfold putK
  rw [if_pos (by rw [valV_any, dr_rest]; rfl)]
  simp only [drK, List.map_cons, List.map_nil, if_neg k13, if_neg k23, if_pos, if_neg (Ne.symm k34 : ¬ kSeed = kRest)]
theorem pu_seed : putK (drK c a r s) kSeed (.int z) = drK c a r z := by
  unfold putK
  rw [if_pos (by rw [valV_any, dr_seed]; rfl)]
  simp only [drK, List.map_cons, List.map_nil, if_neg k14, if_neg k24, if_neg k34, if_pos]
theorem mg_dr : mergeK [] [(kCells, .ref c), (kAt, .int a), (kRest, .int r), (kSeed, .int s)] = drK c a r s := by
  have p0 : ∀ v, putK ([] : List (Key × V)) kCells v = [(kCells, v)] := fun _ => rfl
  have e1 : ∀ (l : List (Key × V)) k v, (l.any fun kv => decide (kv.1 = k)) = false → putK l k v = l ++ [(k, v)] := fun l k v h => by
    unfold putK
    rw [if_neg (by rw [h]; exact Bool.false_ne_true)]
  show putK (putK (putK (putK [] kCells (.ref c)) kAt (.int a)) kRest (.int r)) kSeed (.int s) = _
  rw [p0, e1 _ kAt _ (by simp [k12])]
  rw [e1 _ kRest _ (by simp [k13, k23])]
  rw [e1 _ kSeed _ (by simp [k14, k24, k34])]
  rfl
end
/-- the draws' dict stands at d; q: its cells -/
def DrawAt (K : PySem.W.Frag) (d : Addr) (q : Addr × List Int) (H : Hp) : Prop := ∃ (a : Nat) (r s : Int), H d = some (.dK (drK q.1 (a : Int) r s)) ∧ SqL K H q.1 (q.2.map V.int) ∧ a ≤ q.2.length ∧ q.2.length ≤ 63 ∧ 0 ≤ r ∧ 0 ≤ s ∧ s < M61
/-- only d changes -/
abbrev At (d : Addr) : Addr → Prop := fun b => b = d
section
variable {K : PySem.W.Frag} {d c : Addr} {H H' : Hp} {xs : List V} {kvs : List (Key × V)} {q : Addr × List Int}
theorem sqL_kp (e : H d = some (.dK kvs)) (k : Kp (At d) H H') (h : SqL K H c xs) : SqL K H' c xs := by
  rcases h with (q | ⟨o, q⟩) | q
  · exact .inl (.inl (k _ _ (fun z => by rw [show c = d from z, e] at q; cases q) q))
  · exact .inl (.inr ⟨o, k _ _ (fun z => by rw [show c = d from z, e] at q; cases q) q⟩)
  · exact .inr q
theorem noTup (e : H d = some (.dK kvs)) : NoTup (At d) H := fun b z => ⟨.dK kvs, by rw [show b = d from z]; exact e, ⟨fun _ y => (by cases y), fun _ _ y => (by cases y)⟩⟩
theorem DrawAt.noTup (h : DrawAt K d q H) : NoTup (At d) H := by
  obtain ⟨a, r, s, e, _⟩ := h
  exact Zd.noTup e
theorem DrawAt.sqL (h : DrawAt K d q H) (k : Kp (At d) H H') (z : SqL K H c xs) : SqL K H' c xs := by
  obtain ⟨a, r, s, e, _⟩ := h
  exact sqL_kp e k z
theorem DrawAt.free {p : Addr} (h : DrawAt K d q H) (n : H p = none) : ¬ At d p := fun z => by
  obtain ⟨a, r, s, e, _⟩ := h
  rw [show p = d from z, e] at n
  cases n
/-- what does not touch d -/
theorem DrawAt.kept (h : DrawAt K d q H) (k : Kp No H H') : DrawAt K d q H' := by
  obtain ⟨a, r, s, e, z, x⟩ := h
  exact ⟨a, r, s, k _ _ id e, k.sqL (fun _ _ z => z) z, x⟩
theorem DrawAt.upd {p : Addr} {o : HO} (h : DrawAt K d q H) (n : H p = none) : DrawAt K d q (upd H p o) := h.kept (Kp.refl.new n)
/-- a place that was free when the draws stood already -/
theorem DrawAt.own {H2 : Hp} {D : Addr} {o : HO} (h2 : DrawAt K d q H2) (n : H2 D = none) (h : DrawAt K d q H) : DrawAt K d q (L2.upd H D o) := by
  have nd : d ≠ D := fun z => h2.free n z.symm
  obtain ⟨a2, r2, s2, e2, z2, _⟩ := h2
  obtain ⟨a, r, s, e, z, x⟩ := h
  refine ⟨a, r, s, by rw [upd_ne nd]; exact e, ?_, x⟩
  rcases z2 with y2 | y2
  · have nc : q.1 ≠ D := by
      rcases y2 with y2 | ⟨o2, y2⟩
      · exact ne_of_none y2 n
      · exact ne_of_none y2 n
    rcases z with (y | ⟨o3, y⟩) | y
    · exact .inl (.inl (by rw [upd_ne nc]; exact y))
    · exact .inl (.inr ⟨o3, by rw [upd_ne nc]; exact y⟩)
    · exact .inr y
  · exact .inr y2
end
end Zd

/-! tests, plainly -/
namespace Zp
open PySem PySem.Spec PyProof.Rows L2 Zg
inductive T where
  | all | is (k : Str) | less (f : Str) (n : Int) | same (f : Str) (n : Int) | nt (a : T) | an (a b : T) | orr (a b : T)
def T.d : T → PyData
  | .all => .tuple [.str "all"]
  | .is k => .tuple [.str "is", .str k]
  | .less f n => .tuple [.str "less", .str f, .int n]
  | .same f n => .tuple [.str "same", .str f, .int n]
  | .nt a => .tuple [.str "not", a.d]
  | .an a b => .tuple [.str "and", a.d, b.d]
  | .orr a b => .tuple [.str "or", a.d, b.d]
theorem T.tupd : ∀ t : T, Zg.tupd t.d = true
  | .all => rfl
  | .is _ => rfl
  | .less _ _ => rfl
  | .same _ _ => rfl
  | .nt a => by simp [T.d, Zg.tupd, tupds, T.tupd a]
  | .an a b => by simp [T.d, Zg.tupd, tupds, T.tupd a, T.tupd b]
  | .orr a b => by simp [T.d, Zg.tupd, tupds, T.tupd a, T.tupd b]
def T.deep : T → Nat
  | .nt a => a.deep + 1
  | .an a b => max a.deep b.deep + 1
  | .orr a b => max a.deep b.deep + 1
  | _ => 1
def T.parts : T → Nat
  | .nt a => a.parts + 1
  | .an a b => a.parts + b.parts + 1
  | .orr a b => a.parts + b.parts + 1
  | _ => 1
def T.leaves : T → List T
  | .nt a => a.leaves
  | .an a b => a.leaves ++ b.leaves
  | .orr a b => a.leaves ++ b.leaves
  | t => [t]
def letter (c : Nat) : Bool := decide (97 ≤ c ∧ c ≤ 122)
def isName (s : Str) : Bool := decide (1 ≤ s.length) && decide (s.length ≤ 8) && s.cps.toList.all letter
def inR (n : Int) : Bool := decide (-999999 ≤ n ∧ n ≤ 999999)
/-- its leaves are as leaves must be -/
def T.nm : T → Bool
  | .all => true
  | .is k => isName k
  | .less f n => isName f && inR n
  | .same f n => isName f && inR n
  | .nt a => a.nm
  | .an a b => a.nm && b.nm
  | .orr a b => a.nm && b.nm
def T.leaf : T → Bool
  | .nt _ => false
  | .an _ _ => false
  | .orr _ _ => false
  | _ => true
/-- what parts_of tells -/
def T.cnt (t : T) (d : Nat) : Nat := if t.deep ≤ d then t.parts else 0
theorem T.deep_pos (t : T) : 1 ≤ t.deep := by cases t <;> simp [T.deep]
theorem T.parts_pos (t : T) : 1 ≤ t.parts := by cases t <;> simp [T.parts]
theorem isName_len {s : Str} (h : isName s = true) : 1 ≤ s.length ∧ s.length ≤ 8 := by
  unfold isName at h
  simp only [Bool.and_eq_true, decide_eq_true_eq] at h
  exact ⟨h.1.1, h.1.2⟩
theorem isName_line {s : Str} (h : isName s = true) : s.length ≤ sizeLine := Nat.le_trans (isName_len h).2 (by decide)
def T.tag : T → Str
  | .nt _ => "not"
  | .an _ _ => "and"
  | .orr _ _ => "or"
  | _ => ""
def T.kids : T → List T
  | .nt a => [a]
  | .an a b => [a, b]
  | .orr a b => [a, b]
  | _ => []
theorem T.d_kids {t : T} (h : t.leaf = false) : t.d = .tuple (.str t.tag :: t.kids.map T.d) := by cases t <;> first | rfl | cases h
theorem T.kids_nm {t : T} (h : t.nm = true) : ∀ c ∈ t.kids, c.nm = true := by
  cases t <;> simp_all [T.kids, T.nm]
theorem T.kids_tag {t : T} (h : t.leaf = false) : (t.tag, V.int t.kids.length) ∈ [((Str.ofString "not"), V.int 1), ((Str.ofString "and"), V.int 2), ((Str.ofString "or"), V.int 2)] := by
  cases t with
  | nt a => exact .head _
  | an a b => exact .tail _ (.head _)
  | orr a b => exact .tail _ (.tail _ (.head _))
  | _ => cases h
theorem T.tag_of {t : T} (h : t.leaf = false) : t.tag = Str.ofString "not" ∨ t.tag = Str.ofString "and" ∨ t.tag = Str.ofString "or" := by
  cases t with
  | nt a => exact .inl rfl
  | an a b => exact .inr (.inl rfl)
  | orr a b => exact .inr (.inr rfl)
  | _ => cases h
theorem T.tag_ne {t : T} (h : t.leaf = false) {z : Str} (h1 : decide (V.str (Str.ofString "not") = V.str z) = false) (h2 : decide (V.str (Str.ofString "and") = V.str z) = false) (h3 : decide (V.str (Str.ofString "or") = V.str z) = false) : decide (V.str t.tag = V.str z) = false := by
  rcases T.tag_of h with e | e | e <;> rw [e] <;> assumption
def cntL : List T → Nat → Nat → Nat
  | [], _, m => m
  | c :: cs, d, m => if c.cnt d = 0 then 0 else cntL cs d (m + c.cnt d)
theorem cntL_nil (d m : Nat) : cntL [] d m = m := rfl
theorem cntL_cons (c : T) (cs : List T) (d m : Nat) : cntL (c :: cs) d m = if c.cnt d = 0 then 0 else cntL cs d (m + c.cnt d) := rfl
theorem T.cnt_pos (t : T) (d : Nat) : t.cnt d = 0 ↔ d < t.deep := by
  unfold T.cnt
  have := t.parts_pos
  split <;> omega
theorem T.cnt_le {t : T} {d : Nat} (h : t.deep ≤ d) : t.cnt d = t.parts := by unfold T.cnt; rw [if_pos h]
theorem T.cnt_gt {t : T} {d : Nat} (h : ¬ t.deep ≤ d) : t.cnt d = 0 := by unfold T.cnt; rw [if_neg h]
theorem cnt_one {t a : T} (d : Nat) (e1 : t.deep = a.deep + 1) (e2 : t.parts = a.parts + 1) : t.cnt (d + 1) = cntL [a] d 1 := by
  have pos := a.parts_pos
  unfold cntL cntL
  by_cases h1 : a.deep ≤ d
  · rw [T.cnt_le h1, T.cnt_le (by omega), if_neg (by omega)]
    omega
  · rw [T.cnt_gt h1, T.cnt_gt (by omega), if_pos rfl]
theorem cnt_two {t a b : T} (d : Nat) (e1 : t.deep = max a.deep b.deep + 1) (e2 : t.parts = a.parts + b.parts + 1) : t.cnt (d + 1) = cntL [a, b] d 1 := by
  have pos := a.parts_pos
  have pos := b.parts_pos
  unfold cntL cntL cntL
  by_cases h1 : a.deep ≤ d
  · by_cases h2 : b.deep ≤ d
    · rw [T.cnt_le h1, T.cnt_le h2, T.cnt_le (by omega), if_neg (by omega), if_neg (by omega)]
      omega
    · rw [T.cnt_le h1, T.cnt_gt h2, T.cnt_gt (by omega), if_neg (by omega), if_pos rfl]
  · rw [T.cnt_gt h1, T.cnt_gt (by omega), if_pos rfl]
theorem cnt_kids {t : T} (h : t.leaf = false) (d : Nat) : t.cnt (d + 1) = cntL t.kids d 1 := by
  cases t with
  | nt a => exact cnt_one d rfl rfl
  | an a b => exact cnt_two d rfl rfl
  | orr a b => exact cnt_two d rfl rfl
  | _ => cases h
theorem T.cnt_leaf {t : T} (h : t.leaf = true) (d : Nat) : t.cnt (d + 1) = 1 := by
  have e : t.deep = 1 ∧ t.parts = 1 := by cases t <;> first | exact ⟨rfl, rfl⟩ | cases h
  rw [T.cnt_le (by omega), e.2]
section
variable {K : PySem.W.Frag} {H : Hp} {v : V}
theorem tv_all (h : Dp K H v T.all.d) : ∃ p, v = .ref p ∧ SqT K H p [.str "all"] := by
  obtain ⟨p, xs, e, s, a⟩ := dp_tup (ds := [.str "all"]) h
  obtain ⟨x, r, rfl, d1, a⟩ := dps_cons a
  obtain rfl := dps_nil a
  obtain rfl := dp_str d1
  exact ⟨p, e, s⟩
theorem tv_is {k : Str} (h : Dp K H v (T.is k).d) : ∃ p, v = .ref p ∧ SqT K H p [.str "is", .str k] := by
  obtain ⟨p, xs, e, s, a⟩ := dp_tup (ds := [.str "is", .str k]) h
  obtain ⟨x, r, rfl, d1, a⟩ := dps_cons a
  obtain ⟨x2, r, rfl, d2, a⟩ := dps_cons a
  obtain rfl := dps_nil a
  obtain rfl := dp_str d1
  obtain rfl := dp_str d2
  exact ⟨p, e, s⟩
theorem tv_three {w f : Str} {n : Int} (h : Dp K H v (.tuple [.str w, .str f, .int n])) : ∃ p, v = .ref p ∧ SqT K H p [.str w, .str f, .int n] := by
  obtain ⟨p, xs, e, s, a⟩ := dp_tup h
  obtain ⟨x, r, rfl, d1, a⟩ := dps_cons a
  obtain ⟨x2, r, rfl, d2, a⟩ := dps_cons a
  obtain ⟨x3, r, rfl, d3, a⟩ := dps_cons a
  obtain rfl := dps_nil a
  obtain rfl := dp_str d1
  obtain rfl := dp_str d2
  obtain rfl := dp_int d3
  exact ⟨p, e, s⟩
theorem tv_one {w : Str} {d : PyData} (h : Dp K H v (.tuple [.str w, d])) : ∃ p x, v = .ref p ∧ SqT K H p [.str w, x] ∧ Dp K H x d := by
  obtain ⟨p, xs, e, s, a⟩ := dp_tup h
  obtain ⟨x, r, rfl, d1, a⟩ := dps_cons a
  obtain ⟨x2, r, rfl, d2, a⟩ := dps_cons a
  obtain rfl := dps_nil a
  obtain rfl := dp_str d1
  exact ⟨p, x2, e, s, d2⟩
theorem tv_two {w : Str} {d d' : PyData} (h : Dp K H v (.tuple [.str w, d, d'])) : ∃ p x y, v = .ref p ∧ SqT K H p [.str w, x, y] ∧ Dp K H x d ∧ Dp K H y d' := by
  obtain ⟨p, xs, e, s, a⟩ := dp_tup h
  obtain ⟨x, r, rfl, d1, a⟩ := dps_cons a
  obtain ⟨x2, r, rfl, d2, a⟩ := dps_cons a
  obtain ⟨x3, r, rfl, d3, a⟩ := dps_cons a
  obtain rfl := dps_nil a
  obtain rfl := dp_str d1
  exact ⟨p, x2, x3, e, s, d2, d3⟩
theorem tv_kids {t : T} (hl : t.leaf = false) (h : Dp K H v t.d) : ∃ p xs, v = .ref p ∧ SqT K H p (.str t.tag :: xs) ∧ DpAll K H xs (t.kids.map T.d) ∧ xs.length = t.kids.length := by
  rw [T.d_kids hl] at h
  obtain ⟨p, xs, e, s, a⟩ := dp_tup h
  obtain ⟨x, r, rfl, d1, a2⟩ := dps_cons a
  obtain rfl := dp_str d1
  refine ⟨p, r, e, s, a2, ?_⟩
  have len : ∀ {ds : List PyData} {vs : List V}, DpAll K H vs ds → vs.length = ds.length := by
    intro ds
    induction ds with
    | nil => intro vs q; rw [dps_nil q]; rfl
    | cons d ds ih => intro vs q; obtain ⟨v, r, rfl, _, q2⟩ := dps_cons q; simp [ih q2]
  rw [len a2, List.length_map]
theorem tv_any {t : T} (h : Dp K H v t.d) : ∃ p xs, v = .ref p ∧ SqT K H p xs := by
  have e : ∃ ds, t.d = .tuple ds := by cases t <;> exact ⟨_, rfl⟩
  obtain ⟨ds, e⟩ := e
  rw [e] at h
  obtain ⟨p, xs, q, s, _⟩ := dp_tup h
  exact ⟨p, xs, q, s⟩
theorem dps_get : ∀ {ds : List PyData} {vs : List V} {i : Nat} {x : V}, DpAll K H vs ds → vs[i]? = some x → ∃ d, ds[i]? = some d ∧ Dp K H x d
  | [], _, _, _, q, e => by rw [dps_nil q] at e; cases e
  | d :: ds, vs, i, x, q, e => by
    obtain ⟨v, r, rfl, q1, q2⟩ := dps_cons q
    cases i with
    | zero =>
      obtain rfl : v = x := by simpa using e
      exact ⟨d, rfl, q1⟩
    | succ i =>
      obtain ⟨d', e1, e2⟩ := dps_get q2 (by simpa using e)
      exact ⟨d', by simpa using e1, e2⟩
end
end Zp

/-! a test's text -/
namespace Zp
open PySem PySem.Spec PyProof.Rows L2 Zg
abbrev cs (s : Str) : List Nat := s.cps.toList
theorem cs_app (a b : Str) : cs (a ++ b) = cs a ++ cs b := Array.toList_append
theorem ext_cs {a b : Str} (h : cs a = cs b) : a = b := by
  obtain ⟨⟨a⟩⟩ := a
  obtain ⟨⟨b⟩⟩ := b
  have h : a = b := h
  rw [h]
theorem len_cs (s : Str) : s.length = (cs s).length := rfl
theorem len_app (a b : Str) : (a ++ b).length = a.length + b.length := by
  rw [len_cs, cs_app, List.length_append]
  rfl
theorem len_empty : Str.empty.length = 0 := rfl
theorem log_small {i : Int} (h : -999999 ≤ i ∧ i ≤ 999999) : i.natAbs.log2 < 1920 := by
  by_cases z : i.natAbs = 0
  · rw [z]; decide
  · exact Nat.lt_of_lt_of_le ((Nat.log2_lt z).mpr (show i.natAbs < 2 ^ 20 by omega)) (by decide)
def num (n : Int) : Str := Str.ofString (toString n)
theorem join_one (g a : Str) : cs (Txt.join g [a]) = cs a := rfl
theorem join_two (g a b : Str) : cs (Txt.join g [a, b]) = cs a ++ cs g ++ cs b := by
  show (a.cps ++ g.cps ++ b.cps).toList = _
  simp
def T.text : T → Str
  | .all => "all"
  | .is k => Str.ofString "is:" ++ k
  | .less f n => Str.empty ++ f ++ Str.ofString "<" ++ num n
  | .same f n => Str.empty ++ f ++ Str.ofString "=" ++ num n
  | .nt a => Str.empty ++ Str.ofString "not" ++ Str.ofString "(" ++ Txt.join "," [a.text] ++ Str.ofString ")"
  | .an a b => Str.empty ++ Str.ofString "and" ++ Str.ofString "(" ++ Txt.join "," [a.text, b.text] ++ Str.ofString ")"
  | .orr a b => Str.empty ++ Str.ofString "or" ++ Str.ofString "(" ++ Txt.join "," [a.text, b.text] ++ Str.ofString ")"
theorem T.text_kids {t : T} (h : t.leaf = false) : t.text = Str.empty ++ t.tag ++ Str.ofString "(" ++ Txt.join "," (t.kids.map T.text) ++ Str.ofString ")" := by
  cases t <;> first | rfl | cases h
theorem cs_empty : cs Str.empty = [] := rfl
theorem cs_all : cs (Str.ofString "all") = [97, 108, 108] := by decide +kernel
theorem cs_is : cs (Str.ofString "is:") = [105, 115, 58] := by decide +kernel
theorem cs_lt : cs (Str.ofString "<") = [60] := by decide +kernel
theorem cs_eq : cs (Str.ofString "=") = [61] := by decide +kernel
theorem cs_op : cs (Str.ofString "(") = [40] := by decide +kernel
theorem cs_cl : cs (Str.ofString ")") = [41] := by decide +kernel
theorem cs_co : cs (Str.ofString ",") = [44] := by decide +kernel
theorem cs_not : cs (Str.ofString "not") = [110, 111, 116] := by decide +kernel
theorem cs_and : cs (Str.ofString "and") = [97, 110, 100] := by decide +kernel
theorem cs_or : cs (Str.ofString "or") = [111, 114] := by decide +kernel
abbrev T.tx (t : T) : List Nat := cs t.text
theorem tx_all : T.all.tx = [97, 108, 108] := cs_all
theorem tx_is (k : Str) : (T.is k).tx = [105, 115, 58] ++ cs k := by rw [← cs_is, ← cs_app]; rfl
theorem tx_less (f : Str) (n : Int) : (T.less f n).tx = cs f ++ 60 :: cs (num n) := by
  show cs (Str.empty ++ f ++ Str.ofString "<" ++ num n) = _
  rw [cs_app, cs_app, cs_app, cs_empty, cs_lt]
  simp
theorem tx_same (f : Str) (n : Int) : (T.same f n).tx = cs f ++ 61 :: cs (num n) := by
  show cs (Str.empty ++ f ++ Str.ofString "=" ++ num n) = _
  rw [cs_app, cs_app, cs_app, cs_empty, cs_eq]
  simp
theorem tx_nt (a : T) : (T.nt a).tx = [110, 111, 116, 40] ++ a.tx ++ [41] := by
  show cs (Str.empty ++ Str.ofString "not" ++ Str.ofString "(" ++ Txt.join "," [a.text] ++ Str.ofString ")") = _
  rw [cs_app, cs_app, cs_app, cs_app, cs_empty, cs_not, cs_op, cs_cl, join_one]
  rfl
theorem tx_an (a b : T) : (T.an a b).tx = [97, 110, 100, 40] ++ (a.tx ++ 44 :: b.tx) ++ [41] := by
  show cs (Str.empty ++ Str.ofString "and" ++ Str.ofString "(" ++ Txt.join "," [a.text, b.text] ++ Str.ofString ")") = _
  rw [cs_app, cs_app, cs_app, cs_app, cs_empty, cs_and, cs_op, cs_cl, join_two, cs_co]
  simp
theorem tx_orr (a b : T) : (T.orr a b).tx = [111, 114, 40] ++ (a.tx ++ 44 :: b.tx) ++ [41] := by
  show cs (Str.empty ++ Str.ofString "or" ++ Str.ofString "(" ++ Txt.join "," [a.text, b.text] ++ Str.ofString ")") = _
  rw [cs_app, cs_app, cs_app, cs_app, cs_empty, cs_or, cs_op, cs_cl, join_two, cs_co]
  simp
def dg (m : Nat) : List Nat := (Nat.toDigits 10 m).map Char.toNat
theorem num_nat (m : Nat) : cs (num (m : Int)) = dg m := PySem.W.KIN.signs_num m
theorem num_neg (k : Nat) : cs (num (Int.negSucc k)) = 45 :: dg (k + 1) := by
  show (Str.ofString (toString (Int.negSucc k))).cps.toList = _
  rw [show toString (Int.negSucc k) = "-" ++ Nat.repr (k + 1) from rfl, signs_ofString, String.toList_append, Nat.toList_repr, List.map_append]
  rfl
theorem num_len {n : Int} (h : inR n = true) : (cs (num n)).length ≤ 7 := by
  have h := of_decide_eq_true h
  have e := int_text_length_le10 (a := n) (k := 6) (by decide) (by omega)
  show (Str.ofString (toString n)).length ≤ 7
  rw [PySem.ofString_length]
  exact e
theorem T.tx_len : ∀ {t : T}, t.nm = true → t.tx.length ≤ 20 * t.parts
  | .all, _ => by rw [tx_all]; decide
  | .is k, h => by
    have h : isName k = true := h
    have := (isName_len h).2
    rw [len_cs] at this
    rw [tx_is, List.length_append]
    simp only [T.parts, List.length_cons, List.length_nil]
    omega
  | .less f n, h => by
    have h : isName f = true ∧ inR n = true := by simpa [T.nm] using h
    have := (isName_len h.1).2
    have := num_len h.2
    rw [len_cs] at *
    rw [tx_less, List.length_append, List.length_cons]
    simp only [T.parts]
    omega
  | .same f n, h => by
    have h : isName f = true ∧ inR n = true := by simpa [T.nm] using h
    have := (isName_len h.1).2
    have := num_len h.2
    rw [len_cs] at *
    rw [tx_same, List.length_append, List.length_cons]
    simp only [T.parts]
    omega
  | .nt a, h => by
    have ih := T.tx_len (t := a) h
    rw [tx_nt]
    simp only [T.parts, List.length_append, List.length_cons, List.length_nil]
    omega
  | .an a b, h => by
    have h : a.nm = true ∧ b.nm = true := by simpa [T.nm] using h
    have := T.tx_len h.1
    have := T.tx_len h.2
    rw [tx_an]
    simp only [T.parts, List.length_append, List.length_cons, List.length_nil]
    omega
  | .orr a b, h => by
    have h : a.nm = true ∧ b.nm = true := by simpa [T.nm] using h
    have := T.tx_len h.1
    have := T.tx_len h.2
    rw [tx_orr]
    simp only [T.parts, List.length_append, List.length_cons, List.length_nil]
    omega
theorem T.text_len {t : T} (h : t.nm = true) : t.text.length ≤ 20 * t.parts := T.tx_len h
end Zp

/-! reading a text: what the texts' operations tell -/
namespace Zp
open PySem PySem.Spec PyProof.Rows L2 Zg
theorem starts_eq (x y : Str) : Txt.startswith x y = ((cs x).take (cs y).length == cs y) := by
  unfold Txt.startswith
  rw [StrLaws.subAt_eq]
  show (decide (0 + (cs y).length ≤ (cs x).length) && _) = _
  by_cases h : (cs y).length ≤ (cs x).length
  · rw [decide_eq_true (by omega)]
    rfl
  · rw [decide_eq_false (by omega)]
    show false = _
    symm
    rw [beq_eq_false_iff_ne]
    intro e
    have e := congrArg List.length e
    rw [List.length_take] at e
    omega
theorem starts_T {x y : Str} {r : List Nat} (h : cs x = cs y ++ r) : Txt.startswith x y = true := by
  rw [starts_eq, h, List.take_left' rfl, beq_self_eq_true]
theorem starts_F {x y : Str} {a b : Nat} {r r' : List Nat} (h : cs x = a :: r) (h' : cs y = b :: r') (n : a ≠ b) : Txt.startswith x y = false := by
  rw [starts_eq, h, h', beq_eq_false_iff_ne]
  intro e
  simp only [List.length_cons, List.take_succ_cons, List.cons.injEq] at e
  exact n e.1
theorem ends_T {x y : Str} {r : List Nat} (h : cs x = r ++ cs y) : Txt.endswith x y = true := by
  unfold Txt.endswith
  rw [StrLaws.subAt_eq]
  have l1 : x.length = r.length + y.length := by
    show (cs x).length = _
    rw [h, List.length_append]
    rfl
  rw [decide_eq_true (by omega), Bool.true_and]
  show ((cs x).drop (x.length - y.length)).take y.length == cs y
  rw [h, show x.length - y.length = r.length by omega, List.drop_left, show y.length = (cs y).length from rfl, List.take_length, beq_self_eq_true]
theorem ends_F {x : Str} {c : Nat} {y : Str} (hy : cs y = [c]) {r : List Nat} {d : Nat} (h : cs x = r ++ [d]) (n : d ≠ c) : Txt.endswith x y = false := by
  unfold Txt.endswith
  rw [StrLaws.subAt_eq]
  have ly : y.length = 1 := by show (cs y).length = 1; rw [hy]; rfl
  have l1 : x.length = r.length + 1 := by
    show (cs x).length = _
    rw [h, List.length_append]
    rfl
  rw [decide_eq_true (by omega), Bool.true_and, ly]
  show (((cs x).drop (x.length - 1)).take 1 == cs y) = false
  rw [h, show x.length - 1 = r.length by omega, List.drop_left, hy, beq_eq_false_iff_ne]
  intro e
  simp at e
  exact n e
theorem sIx_neg1 (n : Nat) (d : Nat) : HT.sIx n d (some (-1)) = n - 1 := by
  show (if (-1 : Int) < 0 then ((-1 : Int) + (n : Int)).toNat else min (-1 : Int).toNat n) = n - 1
  rw [if_pos (by decide)]
  omega
theorem cut_mid {x : Str} {a b : List Nat} {c : Nat} {k : Int} (h : cs x = a ++ b ++ [c]) (hk : k = (a.length : Nat)) : cutS x (some k) (some (-1)) = ⟨b.toArray⟩ := by
  subst hk
  unfold cutS
  have l1 : x.length = a.length + b.length + 1 := by
    show (cs x).length = _
    rw [h, List.length_append, List.length_append]
    rfl
  rw [HT.sIx_nat, sIx_neg1, show x.cps.toList = a ++ b ++ [c] from h, show min a.length x.length = a.length by omega, List.append_assoc, List.drop_left, show x.length - 1 - a.length = b.length by omega, List.take_left]
theorem cut_from {x : Str} {a b : List Nat} {k : Int} (h : cs x = a ++ b) (hk : k = (a.length : Nat)) : cutS x (some k) none = ⟨b.toArray⟩ := by
  subst hk
  unfold cutS
  have l1 : x.length = a.length + b.length := by
    show (cs x).length = _
    rw [h, List.length_append]
  rw [HT.sIx_nat, HT.sIx_none, show x.cps.toList = a ++ b from h, show min a.length x.length = a.length by omega, List.drop_left, show x.length - a.length = b.length by omega, List.take_length]
theorem cut_to {x : Str} {k : Int} {n : Nat} (hk : k = (n : Nat)) : cutS x none (some k) = ⟨((cs x).take n).toArray⟩ := by
  subst hk
  unfold cutS
  rw [HT.sIx_nat, HT.sIx_none, List.drop_zero]
  have l1 : x.length = (cs x).length := rfl
  rw [Nat.sub_zero, l1]
  by_cases h : n ≤ (cs x).length
  · rw [show min n (cs x).length = n by omega]
  · rw [show min n (cs x).length = (cs x).length by omega, List.take_length, List.take_of_length_le (by omega)]
theorem part_T {x y : Str} {c : Nat} {a b : List Nat} (hy : y = ⟨#[c]⟩) (h : cs x = a ++ c :: b) (n : c ∉ a) : Txt.partition x y = (⟨a.toArray⟩, y, ⟨b.toArray⟩) := by
  subst hy
  unfold Txt.partition
  have at0 : (cs x)[a.length]? = some c := by rw [h]; simp
  rcases StrLaws.occ_head x ⟨#[c]⟩ 1 (Nat.le_refl 1) with ⟨_, hn⟩ | ⟨i, r, h0, hi, hn⟩
  · exact absurd ((StrLaws.subAt_one x c a.length).mpr at0) (hn a.length)
  · have hm := (StrLaws.subAt_one x c i).mp hi
    have le1 : a.length ≤ i := by
      rcases Nat.lt_or_ge i a.length with z | z
      · have hm2 : (cs x)[i]? = some c := hm
        rw [h, List.getElem?_append_left z] at hm2
        exact absurd (List.mem_of_getElem? hm2) n
      · exact z
    have le2 : ¬ a.length < i := fun z => hn a.length z ((StrLaws.subAt_one x c a.length).mpr at0)
    obtain rfl : i = a.length := by omega
    rw [h0]
    have e1 : Builtin.Str.strSub x 0 a.length = ⟨a.toArray⟩ := by
      refine ext_cs ?_
      show (Builtin.Str.strSub x 0 a.length).cps.toList = a
      rw [StrLaws.strSub_toList, show x.cps.toList = a ++ c :: b from h]
      simp
    have e2 : Builtin.Str.strSub x (a.length + (⟨#[c]⟩ : Str).length) x.length = ⟨b.toArray⟩ := by
      refine ext_cs ?_
      show (Builtin.Str.strSub x (a.length + 1) x.length).cps.toList = b
      have l1 : x.length = a.length + (b.length + 1) := by
        show (cs x).length = _
        rw [h, List.length_append, List.length_cons]
      rw [StrLaws.strSub_toList, show x.cps.toList = a ++ c :: b from h, l1, show a ++ c :: b = (a ++ [c]) ++ b by simp, show a.length + 1 = (a ++ [c]).length by simp, List.drop_left]
      refine List.take_of_length_le ?_
      simp
      omega
    show (Builtin.Str.strSub x 0 a.length, _, _) = _
    rw [e1, e2]
theorem part_F {x y : Str} {c : Nat} (hy : y = ⟨#[c]⟩) (n : c ∉ cs x) : Txt.partition x y = (x, Str.empty, Str.empty) := by
  subst hy
  unfold Txt.partition
  rcases StrLaws.occ_head x ⟨#[c]⟩ 1 (Nat.le_refl 1) with ⟨h0, _⟩ | ⟨i, r, h0, hi, hn⟩
  · rw [h0]
  · exact absurd (List.mem_of_getElem? ((StrLaws.subAt_one x c i).mp hi)) n
/-! the level of brackets -/
def lev : List Nat → Int → Int
  | [], d => d
  | c :: r, d => if c = 40 then lev r (d + 1) else if c = 41 then lev r (d - 1) else lev r d
def okc : List Nat → Int → Bool
  | [], _ => true
  | c :: r, d => if c = 40 then okc r (d + 1) else if c = 41 then okc r (d - 1) else (!(decide (c = 44) && decide (d = 0))) && okc r d
theorem lev_app : ∀ (a b : List Nat) (d : Int), lev (a ++ b) d = lev b (lev a d)
  | [], _, _ => rfl
  | c :: r, b, d => by
    show (if c = 40 then lev (r ++ b) (d + 1) else if c = 41 then lev (r ++ b) (d - 1) else lev (r ++ b) d) = lev b (if c = 40 then lev r (d + 1) else if c = 41 then lev r (d - 1) else lev r d)
    split
    · exact lev_app r b _
    · split <;> exact lev_app r b _
theorem okc_app : ∀ (a b : List Nat) (d : Int), okc (a ++ b) d = (okc a d && okc b (lev a d))
  | [], _, _ => rfl
  | c :: r, b, d => by
    show (if c = 40 then okc (r ++ b) (d + 1) else if c = 41 then okc (r ++ b) (d - 1) else (!(decide (c = 44) && decide (d = 0))) && okc (r ++ b) d) =
      ((if c = 40 then okc r (d + 1) else if c = 41 then okc r (d - 1) else (!(decide (c = 44) && decide (d = 0))) && okc r d) && okc b (if c = 40 then lev r (d + 1) else if c = 41 then lev r (d - 1) else lev r d))
    split
    · exact okc_app r b _
    · split
      · exact okc_app r b _
      · rw [okc_app r b d, Bool.and_assoc]
theorem flat_lev : ∀ {l : List Nat} (d : Int), (∀ c ∈ l, c ≠ 40 ∧ c ≠ 41 ∧ c ≠ 44) → lev l d = d ∧ okc l d = true
  | [], _, _ => ⟨rfl, rfl⟩
  | c :: r, d, h => by
    obtain ⟨h1, h2, h3⟩ := h c (List.mem_cons_self ..)
    obtain ⟨i1, i2⟩ := flat_lev (l := r) d fun c hc => h c (List.mem_cons_of_mem _ hc)
    unfold lev okc
    rw [if_neg h1, if_neg h2, if_neg h1, if_neg h2, i1, i2, decide_eq_false h3]
    exact ⟨rfl, rfl⟩
theorem letter_of {s : Str} (h : isName s = true) : ∀ c ∈ cs s, 97 ≤ c ∧ c ≤ 122 := by
  unfold isName at h
  simp only [Bool.and_eq_true, List.all_eq_true] at h
  exact fun c hc => of_decide_eq_true (h.2 c hc)
theorem dg_of (m : Nat) : ∀ c ∈ dg m, 48 ≤ c ∧ c ≤ 57 := by
  intro c hc
  obtain ⟨ch, hch, e⟩ := List.mem_map.mp hc
  have r := digit_range (Nat.isDigit_of_mem_toDigits (by decide) (by decide) hch)
  rw [← e]
  exact r
theorem dg_ne (m : Nat) : dg m ≠ [] := by
  intro e
  have h := toDigits_len_ge 10 m
  rw [List.map_eq_nil_iff.mp e] at h
  exact absurd h (by decide)
theorem num_of (n : Int) : ∀ c ∈ cs (num n), c = 45 ∨ (48 ≤ c ∧ c ≤ 57) := by
  cases n with
  | ofNat m => intro c hc; exact .inr (dg_of m c (by rw [← num_nat]; exact hc))
  | negSucc m =>
    intro c hc
    rw [num_neg] at hc
    rcases List.mem_cons.mp hc with e | hc
    · exact .inl e
    · exact .inr (dg_of _ c hc)
theorem T.leaf_signs {t : T} (hl : t.leaf = true) (hn : t.nm = true) : ∀ c ∈ t.tx, c ≠ 40 ∧ c ≠ 41 ∧ c ≠ 44 := by
  intro c hc
  cases t with
  | all => rw [tx_all] at hc; simp at hc; omega
  | is k =>
    rw [tx_is] at hc
    rcases List.mem_append.mp hc with hc | hc
    · simp at hc; omega
    · have := letter_of (s := k) hn c hc; omega
  | less f n =>
    have hn : isName f = true ∧ inR n = true := by simpa [T.nm] using hn
    rw [tx_less] at hc
    rcases List.mem_append.mp hc with hc | hc
    · have := letter_of hn.1 c hc; omega
    · rcases List.mem_cons.mp hc with hc | hc
      · omega
      · have := num_of n c hc; omega
  | same f n =>
    have hn : isName f = true ∧ inR n = true := by simpa [T.nm] using hn
    rw [tx_same] at hc
    rcases List.mem_append.mp hc with hc | hc
    · have := letter_of hn.1 c hc; omega
    · rcases List.mem_cons.mp hc with hc | hc
      · omega
      · have := num_of n c hc; omega
  | _ => cases hl
theorem T.lev_ok : ∀ (t : T), t.nm = true → ∀ d : Int, 0 ≤ d → lev t.tx d = d ∧ okc t.tx d = true
  | .all, hn, d, _ => flat_lev d (T.leaf_signs rfl hn)
  | .is _, hn, d, _ => flat_lev d (T.leaf_signs rfl hn)
  | .less _ _, hn, d, _ => flat_lev d (T.leaf_signs rfl hn)
  | .same _ _, hn, d, _ => flat_lev d (T.leaf_signs rfl hn)
  | .nt a, hn, d, h => by
    obtain ⟨i1, i2⟩ := T.lev_ok a hn (d + 1) (by omega)
    have e1 : lev [110, 111, 116, 40] d = d + 1 := rfl
    have e2 : okc [110, 111, 116, 40] d = true := rfl
    rw [tx_nt, lev_app, lev_app, okc_app, okc_app, lev_app, e1, e2, i1, i2]
    exact ⟨show d + 1 - 1 = d by omega, rfl⟩
  | .an a b, hn, d, h => by
    have hn : a.nm = true ∧ b.nm = true := by simpa [T.nm] using hn
    obtain ⟨i1, i2⟩ := T.lev_ok a hn.1 (d + 1) (by omega)
    obtain ⟨j1, j2⟩ := T.lev_ok b hn.2 (d + 1) (by omega)
    have e1 : lev [97, 110, 100, 40] d = d + 1 := rfl
    have e2 : okc [97, 110, 100, 40] d = true := rfl
    have e3 : lev (44 :: b.tx) (d + 1) = d + 1 := j1
    have e4 : okc (44 :: b.tx) (d + 1) = true := by
      show ((!(decide (44 = 44) && decide (d + 1 = 0))) && okc b.tx (d + 1)) = true
      rw [j2, decide_eq_false (by omega : ¬ d + 1 = 0)]
      rfl
    rw [tx_an, lev_app, lev_app, lev_app, okc_app, okc_app, okc_app, lev_app, lev_app, e1, e2, i1, i2, e3, e4]
    exact ⟨show d + 1 - 1 = d by omega, rfl⟩
  | .orr a b, hn, d, h => by
    have hn : a.nm = true ∧ b.nm = true := by simpa [T.nm] using hn
    obtain ⟨i1, i2⟩ := T.lev_ok a hn.1 (d + 1) (by omega)
    obtain ⟨j1, j2⟩ := T.lev_ok b hn.2 (d + 1) (by omega)
    have e1 : lev [111, 114, 40] d = d + 1 := rfl
    have e2 : okc [111, 114, 40] d = true := rfl
    have e3 : lev (44 :: b.tx) (d + 1) = d + 1 := j1
    have e4 : okc (44 :: b.tx) (d + 1) = true := by
      show ((!(decide (44 = 44) && decide (d + 1 = 0))) && okc b.tx (d + 1)) = true
      rw [j2, decide_eq_false (by omega : ¬ d + 1 = 0)]
      rfl
    rw [tx_orr, lev_app, lev_app, lev_app, okc_app, okc_app, okc_app, lev_app, lev_app, e1, e2, i1, i2, e3, e4]
    exact ⟨show d + 1 - 1 = d by omega, rfl⟩
end Zp

namespace Zp
open PySem PySem.Spec PyProof.Rows L2 Zg
theorem dg_small {m : Nat} (h : m < 10) : dg m = [(Nat.digitChar m).toNat] := by
  unfold dg
  rw [Nat.toDigits_of_lt_base h]
  rfl
theorem dg_big {m : Nat} (h : ¬ m < 10) : dg m = dg (m / 10) ++ dg (m % 10) := by
  have t : Nat.toDigits 10 (m / 10) ++ Nat.toDigits 10 (m % 10) = Nat.toDigits 10 (10 * (m / 10) + m % 10) := Nat.toDigits_append_toDigits (by decide) (by omega) (Nat.mod_lt m (by decide))
  rw [Nat.div_add_mod] at t
  unfold dg
  rw [← t, List.map_append]
theorem head_zero : ∀ d : Nat, d < 10 → (Nat.digitChar d).toNat = 48 → d = 0 := by decide
theorem dg_head (m : Nat) : ∀ r, dg m = 48 :: r → m = 0 := by
  induction m using Nat.strongRecOn with
  | _ m ih =>
    intro r e
    by_cases h : m < 10
    · rw [dg_small h] at e
      injection e with e _
      exact head_zero m h e
    · rw [dg_big h] at e
      cases q : dg (m / 10) with
      | nil => exact absurd q (dg_ne _)
      | cons c t =>
        rw [q] at e
        injection e with e _
        subst e
        have := ih (m / 10) (by omega) t q
        omega
theorem dg_zero : dg 0 = [48] := by decide +kernel
theorem dg_len {m : Nat} (h : m ≤ 999999) : 1 ≤ (dg m).length ∧ (dg m).length ≤ 6 := by
  unfold dg
  rw [List.length_map]
  exact ⟨toDigits_len_ge 10 m, digits10_le (by decide) (by omega)⟩
/-- the figures of a number's text -/
theorem num_parts {n : Int} (h : inR n = true) : ∃ m : Nat, m ≤ 999999 ∧ ((cs (num n) = dg m ∧ n = (m : Int)) ∨ (cs (num n) = 45 :: dg m ∧ 0 < m ∧ n = -(m : Int))) := by
  have h := of_decide_eq_true h
  cases n with
  | ofNat m =>
    have e : Int.ofNat m = (m : Int) := rfl
    exact ⟨m, by omega, .inl ⟨num_nat m, rfl⟩⟩
  | negSucc m => exact ⟨m + 1, by omega, .inr ⟨num_neg m, by omega, rfl⟩⟩
theorem dg_all (m : Nat) : PySem.NumText.AllDigits (dg m) := fun c hc => dg_of m c hc
theorem dg_val (m : Nat) : PySem.NumText.digitsVal (dg m) = m := PySem.W.KIN.val_back m
theorem num_reads' {n : Int} (h : inR n = true) : intText? (num n) = some n ∧ (num n).length ≤ 640 := by
  have l := num_len h
  refine ⟨?_, Nat.le_trans l (by decide)⟩
  obtain ⟨m, hm, ⟨e, en⟩ | ⟨e, hp, en⟩⟩ := num_parts h
  · have q := intText_digits (x := num n) (by rw [show (num n).cps.toList = dg m from e]; exact dg_all m) (by rw [show (num n).cps.toList = dg m from e]; exact dg_ne m) (Nat.le_trans l (by decide))
    rw [q, show (num n).cps.toList = dg m from e, dg_val, en]
  · have q := intText_neg (x := num n) e (dg_all m) (dg_ne m) (Nat.le_trans l (by decide))
    rw [q, dg_val, en]
end Zp

namespace Zp
open PySem PySem.Spec PyProof.Rows L2 Zg
/-- what test_in tells of t's text -/
def rdD (d : Nat) (t : T) : PyData := if t.deep ≤ d then t.d else .none
theorem rdD_tupd (d : Nat) (t : T) : Zg.tupd (rdD d t) = true := by
  unfold rdD
  split
  · exact t.tupd
  · rfl
/-- what stands between the brackets -/
def T.inn : T → List Nat
  | .nt a => a.tx
  | .an a b => a.tx ++ 44 :: b.tx
  | .orr a b => a.tx ++ 44 :: b.tx
  | _ => []
theorem T.tx_inn {t : T} (h : t.leaf = false) : t.tx = (cs t.tag ++ [40]) ++ t.inn ++ [41] := by
  cases t with
  | nt a => rw [tx_nt, show T.tag (.nt a) = Str.ofString "not" from rfl, cs_not]; rfl
  | an a b => rw [tx_an, show T.tag (.an a b) = Str.ofString "and" from rfl, cs_and]; rfl
  | orr a b => rw [tx_orr, show T.tag (.orr a b) = Str.ofString "or" from rfl, cs_or]; rfl
  | _ => cases h
def T.idx : T → Nat
  | .nt _ => 0
  | .an _ _ => 1
  | .orr _ _ => 2
  | _ => 3
theorem idx_eq {t : T} (hl : t.leaf = false) {z : Str} (hz : ([((Str.ofString "not"), V.int 1), ((Str.ofString "and"), V.int 2), ((Str.ofString "or"), V.int 2)].map (·.1))[t.idx]? = some z) : z = t.tag := by
  cases t with
  | nt a => exact (Option.some.inj hz).symm
  | an a b => exact (Option.some.inj hz).symm
  | orr a b => exact (Option.some.inj hz).symm
  | _ => cases hl
theorem idx_lt {t : T} (hl : t.leaf = false) {i : Nat} {z : Str} (hi : i < t.idx) (hz : ([((Str.ofString "not"), V.int 1), ((Str.ofString "and"), V.int 2), ((Str.ofString "or"), V.int 2)].map (·.1))[i]? = some z) : Txt.startswith t.text (z ++ Str.ofString "(") = false := by
  have h0 : cs (Str.ofString "not" ++ Str.ofString "(") = 110 :: [111, 116, 40] := by decide +kernel
  have h1 : cs (Str.ofString "and" ++ Str.ofString "(") = 97 :: [110, 100, 40] := by decide +kernel
  cases t with
  | nt a => exact absurd hi (Nat.not_lt_zero _)
  | an a b =>
    have hi : i < 1 := hi
    obtain rfl : i = 0 := by omega
    obtain rfl : Str.ofString "not" = z := Option.some.inj hz
    exact starts_F (tx_an a b) h0 (by decide)
  | orr a b =>
    have hi : i < 2 := hi
    have hi2 : i = 0 ∨ i = 1 := by omega
    rcases hi2 with rfl | rfl
    · obtain rfl : Str.ofString "not" = z := Option.some.inj hz
      exact starts_F (tx_orr a b) h0 (by decide)
    · obtain rfl : Str.ofString "and" = z := Option.some.inj hz
      exact starts_F (tx_orr a b) h1 (by decide)
  | _ => cases hl
theorem T.tx_ne (t : T) : t.tx ≠ [] := by
  cases t with
  | all => rw [tx_all]; simp
  | is k => rw [tx_is]; simp
  | less f n => rw [tx_less]; simp
  | same f n => rw [tx_same]; simp
  | nt a => rw [tx_nt]; simp
  | an a b => rw [tx_an]; simp
  | orr a b => rw [tx_orr]; simp
theorem leaf_ends {t : T} (hl : t.leaf = true) (hn : t.nm = true) : Txt.endswith t.text (Str.ofString ")") = false := by
  have e := List.dropLast_concat_getLast t.tx_ne
  exact ends_F cs_cl e.symm (T.leaf_signs hl hn _ (List.getLast_mem t.tx_ne)).2.1
theorem comp_starts {t : T} (hl : t.leaf = false) : Txt.startswith t.text (t.tag ++ Str.ofString "(") = true := by
  refine starts_T (r := t.inn ++ [41]) ?_
  rw [cs_app, cs_op, ← List.append_assoc]
  exact T.tx_inn hl
theorem comp_ends {t : T} (hl : t.leaf = false) : Txt.endswith t.text (Str.ofString ")") = true := by
  refine ends_T (r := (cs t.tag ++ [40]) ++ t.inn) ?_
  rw [cs_cl]
  exact T.tx_inn hl
theorem comp_cut {t : T} (hl : t.leaf = false) {k : Int} (hk : k = (t.tag.length : Int) + 1) : cutS t.text (some k) (some (-1)) = ⟨t.inn.toArray⟩ := by
  refine cut_mid (T.tx_inn hl) ?_
  rw [hk, List.length_append]
  rfl
theorem tag_len {t : T} (hl : t.leaf = false) : t.tag.length ≤ sizeLine := by
  rcases T.tag_of hl with e | e | e <;> rw [e] <;> decide +kernel
theorem idx_leaf {t : T} (h : t.leaf = true) : t.idx = 3 := by cases t <;> first | rfl | cases h
theorem kids_all {t : T} (h : t.leaf = false) (d : Nat) : (t.deep ≤ d + 1 ↔ ∀ c ∈ t.kids, c.deep ≤ d) := by
  cases t with
  | nt a => simp [T.deep, T.kids]
  | an a b => simp only [T.deep, T.kids, List.mem_cons, List.not_mem_nil, or_false, forall_eq_or_imp, forall_eq]; omega
  | orr a b => simp only [T.deep, T.kids, List.mem_cons, List.not_mem_nil, or_false, forall_eq_or_imp, forall_eq]; omega
  | _ => cases h
theorem d_tuple (t : T) : ∃ ds, t.d = .tuple ds := by cases t <;> exact ⟨_, rfl⟩
theorem eqv_none (d : Nat) (t : T) : PyData.eqv (rdD d t) .none = decide (¬ t.deep ≤ d) := by
  unfold rdD
  obtain ⟨ds, e⟩ := d_tuple t
  by_cases h : t.deep ≤ d
  · rw [if_pos h, e, decide_eq_false (fun z => z h)]
    simp [PyData.eqv]
  · rw [if_neg h, decide_eq_true h]
    simp [PyData.eqv]
theorem any_none {t : T} (h : t.leaf = false) (d : Nat) : ((t.kids.map (rdD d)).any fun z => PyData.eqv z .none) = decide (¬ t.deep ≤ d + 1) := by
  rw [List.any_map]
  by_cases hd : t.deep ≤ d + 1
  · rw [decide_eq_false (fun z => z hd), List.any_eq_false]
    intro c hc
    show ¬ PyData.eqv (rdD d c) .none = true
    rw [eqv_none, decide_eq_false (fun z => z ((kids_all h d).mp hd c hc))]
    exact Bool.false_ne_true
  · rw [decide_eq_true hd, List.any_eq_true]
    have : ∃ c ∈ t.kids, ¬ c.deep ≤ d := by
      have q := fun z => hd ((kids_all h d).mpr z)
      exact Classical.byContradiction fun z => q fun c hc => Classical.byContradiction fun y => z ⟨c, hc, y⟩
    obtain ⟨c, hc, hn⟩ := this
    refine ⟨c, hc, ?_⟩
    show PyData.eqv (rdD d c) .none = true
    rw [eqv_none, decide_eq_true hn]
/-! shapes -/
theorem strOk_of {s : Str} (h : ∀ c ∈ cs s, c < 1114112) : PyData.strOk s = true := by
  unfold PyData.strOk
  rw [← Array.all_toList]
  exact List.all_eq_true.mpr fun c hc => decide_eq_true (h c hc)
theorem name_ok {s : Str} (h : isName s = true) : PyData.strOk s = true := strOk_of fun c hc => by have := letter_of h c hc; omega
theorem T.canLay : ∀ {t : T}, t.nm = true → t.d.canLay0 = true
  | .all, _ => by decide +kernel
  | .is k, h => by simp [T.d, PyData.canLay0, PyData.canLayAll0, name_ok (s := k) h]; decide +kernel
  | .less f n, h => by
    have h : isName f = true ∧ inR n = true := by simpa [T.nm] using h
    simp [T.d, PyData.canLay0, PyData.canLayAll0, name_ok h.1]; decide +kernel
  | .same f n, h => by
    have h : isName f = true ∧ inR n = true := by simpa [T.nm] using h
    simp [T.d, PyData.canLay0, PyData.canLayAll0, name_ok h.1]; decide +kernel
  | .nt a, h => by simp [T.d, PyData.canLay0, PyData.canLayAll0, T.canLay (t := a) h]; decide +kernel
  | .an a b, h => by
    have h : a.nm = true ∧ b.nm = true := by simpa [T.nm] using h
    simp [T.d, PyData.canLay0, PyData.canLayAll0, T.canLay h.1, T.canLay h.2]; decide +kernel
  | .orr a b, h => by
    have h : a.nm = true ∧ b.nm = true := by simpa [T.nm] using h
    simp [T.d, PyData.canLay0, PyData.canLayAll0, T.canLay h.1, T.canLay h.2]; decide +kernel
theorem T.depth_d : ∀ t : T, t.d.depth ≤ t.deep
  | .all => by decide +kernel
  | .is _ => by simp [T.d, PyData.depth, PyData.depthAll, T.deep]
  | .less _ _ => by simp [T.d, PyData.depth, PyData.depthAll, T.deep]
  | .same _ _ => by simp [T.d, PyData.depth, PyData.depthAll, T.deep]
  | .nt a => by have := T.depth_d a; simp [T.d, PyData.depth, PyData.depthAll, T.deep]; omega
  | .an a b => by have := T.depth_d a; have := T.depth_d b; simp [T.d, PyData.depth, PyData.depthAll, T.deep]; omega
  | .orr a b => by have := T.depth_d a; have := T.depth_d b; simp [T.d, PyData.depth, PyData.depthAll, T.deep]; omega
theorem T.shaped {t : T} (h : t.nm = true) (hd : t.deep ≤ 60) : SeqAt.shaped t.d = true := by
  have := t.depth_d
  unfold SeqAt.shaped
  rw [T.canLay h, decide_eq_true (by omega)]
  rfl
theorem rdD_shaped {d : Nat} {t : T} (h : t.nm = true) : (rdD d t).canLay0 = true ∧ (rdD d t).depth ≤ d := by
  have := t.depth_d
  unfold rdD
  split
  · exact ⟨T.canLay h, by omega⟩
  · exact ⟨by simp [PyData.canLay0], by simp [PyData.depth]⟩
theorem list_shaped {l : List PyData} {n : Nat} (h : ∀ d ∈ l, d.canLay0 = true ∧ d.depth ≤ n) (hn : n ≤ 60) : SeqAt.shaped (.list l) = true := by
  have e : PyData.canLayAll0 l = true ∧ PyData.depthAll l ≤ n := by
    induction l with
    | nil => exact ⟨by simp [PyData.canLayAll0], by simp [PyData.depthAll]⟩
    | cons d l ih =>
      obtain ⟨i1, i2⟩ := ih fun x hx => h x (List.mem_cons_of_mem _ hx)
      obtain ⟨h1, h2⟩ := h d (List.mem_cons_self ..)
      exact ⟨by simp [PyData.canLayAll0, h1, i1], by simp [PyData.depthAll]; omega⟩
  unfold SeqAt.shaped
  have q1 : (PyData.list l).canLay0 = true := by simp [PyData.canLay0, e.1]
  have q2 : (PyData.list l).depth ≤ 64 := by simp [PyData.depth]; omega
  rw [q1, decide_eq_true q2]
  rfl
end Zp

namespace Zp
open PySem PySem.Spec PyProof.Rows L2 Zg
/-! unlike tests have unlike texts -/
theorem split_at {c : Nat} {a a' b b' : List Nat} (h : a ++ c :: b = a' ++ c :: b') (n : c ∉ a) (n' : c ∉ a') : a = a' ∧ b = b' := by
  induction a generalizing a' with
  | nil =>
    cases a' with
    | nil => exact ⟨rfl, by simpa using h⟩
    | cons x r =>
      have e : c = x := by
        have h : c :: b = x :: (r ++ c :: b') := h
        injection h
      exact absurd (e ▸ List.mem_cons_self ..) n'
  | cons x r ih =>
    cases a' with
    | nil =>
      have e : x = c := by
        have h : x :: (r ++ c :: b) = c :: b' := h
        injection h
      exact absurd (e ▸ List.mem_cons_self ..) n
    | cons y s =>
      have h : x :: (r ++ c :: b) = y :: (s ++ c :: b') := h
      injection h with h1 h2
      obtain ⟨e1, e2⟩ := ih h2 (fun z => n (List.mem_cons_of_mem _ z)) (fun z => n' (List.mem_cons_of_mem _ z))
      exact ⟨by rw [h1, e1], e2⟩
theorem split_lev {a a' b b' : List Nat} (h : a ++ 44 :: b = a' ++ 44 :: b') (l : lev a 0 = 0) (l' : lev a' 0 = 0) (o : okc a 0 = true) (o' : okc a' 0 = true) : a = a' ∧ b = b' := by
  have key : ∀ {a a' b b' : List Nat}, a ++ 44 :: b = a' ++ 44 :: b' → lev a 0 = 0 → okc a' 0 = true → a'.length ≤ a.length := by
    intro a a' b b' h l o'
    refine Classical.byContradiction fun z => ?_
    have hlt : a.length < a'.length := by omega
    have e1 : (a ++ 44 :: b).take a'.length = a' := by rw [h, List.take_left]
    have e2 : a' = a ++ (44 :: b).take (a'.length - a.length) := e1.symm.trans (by rw [List.take_append, List.take_of_length_le (by omega)])
    obtain ⟨m, hm⟩ : ∃ m, a'.length - a.length = m + 1 := ⟨a'.length - a.length - 1, by omega⟩
    rw [hm, List.take_succ_cons] at e2
    rw [e2, okc_app, l] at o'
    have q := (Bool.and_eq_true_iff.mp o').2
    exact absurd q (by show ¬ ((!(decide (44 = 44) && decide ((0 : Int) = 0))) && okc (b.take m) 0) = true; simp)
  have e : a.length = a'.length := Nat.le_antisymm (key h.symm l' o) (key h l o')
  have q := List.append_inj h e
  exact ⟨q.1, by simpa using q.2⟩
theorem num_inj {n m : Int} (h1 : inR n = true) (h2 : inR m = true) (h : cs (num n) = cs (num m)) : n = m := by
  have e := ext_cs h
  have a := (num_reads' h1).1
  rw [e, (num_reads' h2).1] at a
  exact (Option.some.inj a).symm
theorem leaf_ne_comp {t u : T} (h1 : t.leaf = true) (n1 : t.nm = true) (h2 : u.leaf = false) : t.tx ≠ u.tx := by
  intro e
  have m : 41 ∈ u.tx := by rw [T.tx_inn h2]; simp
  rw [← e] at m
  exact (T.leaf_signs h1 n1 41 m).2.1 rfl
/-- where '<' or '=' stands -/
theorem no_sign {t : T} {c : Nat} (hc : c = 60 ∨ c = 61) (h : match t with | .all => True | .is k => isName k = true | _ => False) : c ∉ t.tx := by
  intro m
  cases t with
  | all => rw [tx_all] at m; simp at m; omega
  | is k =>
    have h : isName k = true := h
    rw [tx_is] at m
    rcases List.mem_append.mp m with m | m
    · simp at m; omega
    · have := letter_of h c m; omega
  | _ => exact h
theorem T.tx_inj : ∀ {t u : T}, t.nm = true → u.nm = true → t.tx = u.tx → t = u := by
  have lf : ∀ {t u : T}, t.leaf = true → u.leaf = true → t.nm = true → u.nm = true → t.tx = u.tx → t = u := by
    intro t u l1 l2 n1 n2 e
    have sgn : ∀ {c : Nat} {f : Str} {n : Int}, isName f = true → (c = 60 ∨ c = 61) → c ∉ cs f := fun hf hc m => by have := letter_of hf _ m; omega
    have nsg : ∀ {c : Nat} {n : Int}, (c = 60 ∨ c = 61) → c ∉ cs (num n) := fun hc m => by have := num_of _ _ m; omega
    cases t with
    | all =>
      cases u with
      | all => rfl
      | is k =>
        rw [tx_all, tx_is] at e
        have e := congrArg (fun l => l[0]?) e
        simp at e
      | less f n => exact absurd (show 60 ∈ T.all.tx by rw [e, tx_less]; simp) (no_sign (.inl rfl) trivial)
      | same f n => exact absurd (show 61 ∈ T.all.tx by rw [e, tx_same]; simp) (no_sign (.inr rfl) trivial)
      | _ => cases l2
    | is k =>
      cases u with
      | all =>
        rw [tx_all, tx_is] at e
        have e := congrArg (fun l => l[0]?) e
        simp at e
      | is k' =>
        rw [tx_is, tx_is] at e
        rw [ext_cs (List.append_cancel_left e)]
      | less f n => exact absurd (show 60 ∈ (T.is k).tx by rw [e, tx_less]; simp) (no_sign (.inl rfl) n1)
      | same f n => exact absurd (show 61 ∈ (T.is k).tx by rw [e, tx_same]; simp) (no_sign (.inr rfl) n1)
      | _ => cases l2
    | less f n =>
      have n1' : isName f = true ∧ inR n = true := by simpa [T.nm] using n1
      cases u with
      | all => exact absurd (show 60 ∈ T.all.tx by rw [← e, tx_less]; simp) (no_sign (.inl rfl) trivial)
      | is k => exact absurd (show 60 ∈ (T.is k).tx by rw [← e, tx_less]; simp) (no_sign (.inl rfl) n2)
      | less g m =>
        have n2' : isName g = true ∧ inR m = true := by simpa [T.nm] using n2
        rw [tx_less, tx_less] at e
        obtain ⟨e1, e2⟩ := split_at e (sgn (n := n) n1'.1 (.inl rfl)) (sgn (n := n) n2'.1 (.inl rfl))
        rw [ext_cs e1, num_inj n1'.2 n2'.2 e2]
      | same g m =>
        have n2' : isName g = true ∧ inR m = true := by simpa [T.nm] using n2
        have h : 60 ∈ (T.same g m).tx := by rw [← e, tx_less]; simp
        rw [tx_same] at h
        rcases List.mem_append.mp h with h | h
        · exact absurd h (sgn (n := n) n2'.1 (.inl rfl))
        · rcases List.mem_cons.mp h with h | h
          · cases h
          · exact absurd h (nsg (.inl rfl))
      | _ => cases l2
    | same f n =>
      have n1' : isName f = true ∧ inR n = true := by simpa [T.nm] using n1
      cases u with
      | all => exact absurd (show 61 ∈ T.all.tx by rw [← e, tx_same]; simp) (no_sign (.inr rfl) trivial)
      | is k => exact absurd (show 61 ∈ (T.is k).tx by rw [← e, tx_same]; simp) (no_sign (.inr rfl) n2)
      | less g m =>
        have n2' : isName g = true ∧ inR m = true := by simpa [T.nm] using n2
        have h : 61 ∈ (T.less g m).tx := by rw [← e, tx_same]; simp
        rw [tx_less] at h
        rcases List.mem_append.mp h with h | h
        · exact absurd h (sgn (n := n) n2'.1 (.inr rfl))
        · rcases List.mem_cons.mp h with h | h
          · cases h
          · exact absurd h (nsg (.inr rfl))
      | same g m =>
        have n2' : isName g = true ∧ inR m = true := by simpa [T.nm] using n2
        rw [tx_same, tx_same] at e
        obtain ⟨e1, e2⟩ := split_at e (sgn (n := n) n1'.1 (.inr rfl)) (sgn (n := n) n2'.1 (.inr rfl))
        rw [ext_cs e1, num_inj n1'.2 n2'.2 e2]
      | _ => cases l2
    | _ => cases l1
  intro t
  induction t with
  | nt a ih =>
    intro u n1 n2 e
    cases hu : u.leaf with
    | true => exact absurd e.symm (leaf_ne_comp hu n2 rfl)
    | false =>
      cases u with
      | nt b =>
        rw [tx_nt, tx_nt] at e
        have e := List.append_cancel_left (List.append_cancel_right e)
        rw [ih (u := b) n1 n2 e]
      | an b c => rw [tx_nt, tx_an] at e; have e := congrArg (fun l => l[0]?) e; simp at e
      | orr b c => rw [tx_nt, tx_orr] at e; have e := congrArg (fun l => l[0]?) e; simp at e
      | _ => cases hu
  | an a b iha ihb =>
    intro u n1 n2 e
    have n1 : a.nm = true ∧ b.nm = true := by simpa [T.nm] using n1
    cases hu : u.leaf with
    | true => exact absurd e.symm (leaf_ne_comp hu n2 rfl)
    | false =>
      cases u with
      | nt c => rw [tx_an, tx_nt] at e; have e := congrArg (fun l => l[0]?) e; simp at e
      | an c d =>
        have n2 : c.nm = true ∧ d.nm = true := by simpa [T.nm] using n2
        rw [tx_an, tx_an] at e
        have e := List.append_cancel_left (List.append_cancel_right e)
        obtain ⟨q1, q2⟩ := T.lev_ok a n1.1 0 (Int.le_refl _)
        obtain ⟨q3, q4⟩ := T.lev_ok c n2.1 0 (Int.le_refl _)
        obtain ⟨e1, e2⟩ := split_lev e q1 q3 q2 q4
        rw [iha n1.1 n2.1 e1, ihb n1.2 n2.2 e2]
      | orr c d => rw [tx_an, tx_orr] at e; have e := congrArg (fun l => l[0]?) e; simp at e
      | _ => cases hu
  | orr a b iha ihb =>
    intro u n1 n2 e
    have n1 : a.nm = true ∧ b.nm = true := by simpa [T.nm] using n1
    cases hu : u.leaf with
    | true => exact absurd e.symm (leaf_ne_comp hu n2 rfl)
    | false =>
      cases u with
      | nt c => rw [tx_orr, tx_nt] at e; have e := congrArg (fun l => l[0]?) e; simp at e
      | an c d => rw [tx_orr, tx_an] at e; have e := congrArg (fun l => l[0]?) e; simp at e
      | orr c d =>
        have n2 : c.nm = true ∧ d.nm = true := by simpa [T.nm] using n2
        rw [tx_orr, tx_orr] at e
        have e := List.append_cancel_left (List.append_cancel_right e)
        obtain ⟨q1, q2⟩ := T.lev_ok a n1.1 0 (Int.le_refl _)
        obtain ⟨q3, q4⟩ := T.lev_ok c n2.1 0 (Int.le_refl _)
        obtain ⟨e1, e2⟩ := split_lev e q1 q3 q2 q4
        rw [iha n1.1 n2.1 e1, ihb n1.2 n2.2 e2]
      | _ => cases hu
  | all =>
    intro u n1 n2 e
    cases hu : u.leaf with
    | true => exact lf rfl hu n1 n2 e
    | false => exact absurd e (leaf_ne_comp rfl n1 hu)
  | is k =>
    intro u n1 n2 e
    cases hu : u.leaf with
    | true => exact lf rfl hu n1 n2 e
    | false => exact absurd e (leaf_ne_comp rfl n1 hu)
  | less f n =>
    intro u n1 n2 e
    cases hu : u.leaf with
    | true => exact lf rfl hu n1 n2 e
    | false => exact absurd e (leaf_ne_comp rfl n1 hu)
  | same f n =>
    intro u n1 n2 e
    cases hu : u.leaf with
    | true => exact lf rfl hu n1 n2 e
    | false => exact absurd e (leaf_ne_comp rfl n1 hu)
/-! equality of tests as data -/
mutual
def plainD : PyData → Bool
  | .int _ => true
  | .str _ => true
  | .tuple ds => plainDs ds
  | _ => false
def plainDs : List PyData → Bool
  | [] => true
  | d :: ds => plainD d && plainDs ds
end
mutual
theorem eqv_eq : ∀ (a b : PyData), plainD a = true → plainD b = true → PyData.eqv a b = true → a = b
  | .int i, b, _, hb, h => by
    cases b with
    | int j => simp [PyData.eqv] at h; rw [h]
    | _ => first | cases hb; done | (simp [PyData.eqv] at h; done) | simp [plainD] at hb
  | .str s, b, _, hb, h => by
    cases b with
    | str t => simp [PyData.eqv] at h; rw [h]
    | _ => first | cases hb; done | (simp [PyData.eqv] at h; done) | simp [plainD] at hb
  | .tuple as, b, ha, hb, h => by
    cases b with
    | tuple bs =>
      rw [eqvAll_eq as bs (by simpa [plainD] using ha) (by simpa [plainD] using hb) (by simpa [PyData.eqv] using h)]
    | _ => first | cases hb; done | (simp [PyData.eqv] at h; done) | simp [plainD] at hb
  | .none, _, ha, _, _ => by simp [plainD] at ha
  | .bool _, _, ha, _, _ => by simp [plainD] at ha
  | .list _, _, ha, _, _ => by simp [plainD] at ha
  | .dict _, _, ha, _, _ => by simp [plainD] at ha
theorem eqvAll_eq : ∀ (as bs : List PyData), plainDs as = true → plainDs bs = true → PyData.eqvAll as bs = true → as = bs
  | [], [], _, _, _ => rfl
  | [], _ :: _, _, _, h => by simp [PyData.eqvAll] at h
  | _ :: _, [], _, _, h => by simp [PyData.eqvAll] at h
  | a :: as, b :: bs, ha, hb, h => by
    have ha : plainD a = true ∧ plainDs as = true := by simpa [plainDs] using ha
    have hb : plainD b = true ∧ plainDs bs = true := by simpa [plainDs] using hb
    have h : PyData.eqv a b = true ∧ PyData.eqvAll as bs = true := by simpa [PyData.eqvAll] using h
    rw [eqv_eq a b ha.1 hb.1 h.1, eqvAll_eq as bs ha.2 hb.2 h.2]
end
theorem T.plain : ∀ t : T, plainD t.d = true
  | .all => rfl
  | .is _ => rfl
  | .less _ _ => rfl
  | .same _ _ => rfl
  | .nt a => by simp [T.d, plainD, plainDs, T.plain a]
  | .an a b => by simp [T.d, plainD, plainDs, T.plain a, T.plain b]
  | .orr a b => by simp [T.d, plainD, plainDs, T.plain a, T.plain b]
theorem d_head {w w' : Str} {r r' : List PyData} (h : PyData.tuple (.str w :: r) = .tuple (.str w' :: r')) : w = w' ∧ r = r' := by
  injection h with h
  injection h with h1 h2
  injection h1 with h1
  exact ⟨h1, h2⟩
theorem T.d_inj : ∀ (t u : T), t.d = u.d → t = u
  | .all, .all, _ => rfl
  | .all, .is _, h => absurd (d_head h).1 (by decide +kernel)
  | .all, .less _ _, h => absurd (d_head h).1 (by decide +kernel)
  | .all, .same _ _, h => absurd (d_head h).1 (by decide +kernel)
  | .all, .nt _, h => absurd (d_head h).1 (by decide +kernel)
  | .all, .an _ _, h => absurd (d_head h).1 (by decide +kernel)
  | .all, .orr _ _, h => absurd (d_head h).1 (by decide +kernel)
  | .is _, .all, h => absurd (d_head h).1 (by decide +kernel)
  | .is a0, .is b0, h => by
    have h := (d_head h).2
    injection h with h1 h2
    injection h1 with h1
    rw [h1]
  | .is _, .less _ _, h => absurd (d_head h).1 (by decide +kernel)
  | .is _, .same _ _, h => absurd (d_head h).1 (by decide +kernel)
  | .is _, .nt _, h => absurd (d_head h).1 (by decide +kernel)
  | .is _, .an _ _, h => absurd (d_head h).1 (by decide +kernel)
  | .is _, .orr _ _, h => absurd (d_head h).1 (by decide +kernel)
  | .less _ _, .all, h => absurd (d_head h).1 (by decide +kernel)
  | .less _ _, .is _, h => absurd (d_head h).1 (by decide +kernel)
  | .less a0 a1, .less b0 b1, h => by
    have h := (d_head h).2
    injection h with h1 h2
    injection h1 with h1
    injection h2 with h2 h3
    injection h2 with h2
    rw [h1, h2]
  | .less _ _, .same _ _, h => absurd (d_head h).1 (by decide +kernel)
  | .less _ _, .nt _, h => absurd (d_head h).1 (by decide +kernel)
  | .less _ _, .an _ _, h => absurd (d_head h).1 (by decide +kernel)
  | .less _ _, .orr _ _, h => absurd (d_head h).1 (by decide +kernel)
  | .same _ _, .all, h => absurd (d_head h).1 (by decide +kernel)
  | .same _ _, .is _, h => absurd (d_head h).1 (by decide +kernel)
  | .same _ _, .less _ _, h => absurd (d_head h).1 (by decide +kernel)
  | .same a0 a1, .same b0 b1, h => by
    have h := (d_head h).2
    injection h with h1 h2
    injection h1 with h1
    injection h2 with h2 h3
    injection h2 with h2
    rw [h1, h2]
  | .same _ _, .nt _, h => absurd (d_head h).1 (by decide +kernel)
  | .same _ _, .an _ _, h => absurd (d_head h).1 (by decide +kernel)
  | .same _ _, .orr _ _, h => absurd (d_head h).1 (by decide +kernel)
  | .nt _, .all, h => absurd (d_head h).1 (by decide +kernel)
  | .nt _, .is _, h => absurd (d_head h).1 (by decide +kernel)
  | .nt _, .less _ _, h => absurd (d_head h).1 (by decide +kernel)
  | .nt _, .same _ _, h => absurd (d_head h).1 (by decide +kernel)
  | .nt a0, .nt b0, h => by
    have h := (d_head h).2
    injection h with h1 h2
    rw [T.d_inj a0 b0 h1]
  | .nt _, .an _ _, h => absurd (d_head h).1 (by decide +kernel)
  | .nt _, .orr _ _, h => absurd (d_head h).1 (by decide +kernel)
  | .an _ _, .all, h => absurd (d_head h).1 (by decide +kernel)
  | .an _ _, .is _, h => absurd (d_head h).1 (by decide +kernel)
  | .an _ _, .less _ _, h => absurd (d_head h).1 (by decide +kernel)
  | .an _ _, .same _ _, h => absurd (d_head h).1 (by decide +kernel)
  | .an _ _, .nt _, h => absurd (d_head h).1 (by decide +kernel)
  | .an a0 a1, .an b0 b1, h => by
    have h := (d_head h).2
    injection h with h1 h2
    injection h2 with h2 h3
    rw [T.d_inj a0 b0 h1, T.d_inj a1 b1 h2]
  | .an _ _, .orr _ _, h => absurd (d_head h).1 (by decide +kernel)
  | .orr _ _, .all, h => absurd (d_head h).1 (by decide +kernel)
  | .orr _ _, .is _, h => absurd (d_head h).1 (by decide +kernel)
  | .orr _ _, .less _ _, h => absurd (d_head h).1 (by decide +kernel)
  | .orr _ _, .same _ _, h => absurd (d_head h).1 (by decide +kernel)
  | .orr _ _, .nt _, h => absurd (d_head h).1 (by decide +kernel)
  | .orr _ _, .an _ _, h => absurd (d_head h).1 (by decide +kernel)
  | .orr a0 a1, .orr b0 b1, h => by
    have h := (d_head h).2
    injection h with h1 h2
    injection h2 with h2 h3
    rw [T.d_inj a0 b0 h1, T.d_inj a1 b1 h2]
theorem text_eqv {t u : T} (h1 : t.nm = true) (h2 : u.nm = true) : PyData.eqv t.d u.d = decide (u.text = t.text) := by
  by_cases h : t = u
  · subst h
    rw [decide_eq_true rfl]
    exact SeqAt.eqv_refl _ (T.canLay h1)
  · rw [decide_eq_false (fun e => h (T.tx_inj h1 h2 (by show cs t.text = cs u.text; rw [e])))]
    cases q : PyData.eqv t.d u.d with
    | false => rfl
    | true => exact absurd (T.d_inj t u (eqv_eq _ _ t.plain u.plain q)) h
theorem leaves8 : ∀ t : T, 2 * t.leaves.length ≤ t.parts + 1
  | .all => Nat.le_refl _
  | .is _ => Nat.le_refl _
  | .less _ _ => Nat.le_refl _
  | .same _ _ => Nat.le_refl _
  | .nt a => by have := leaves8 a; simp only [T.leaves, T.parts]; omega
  | .an a b => by have := leaves8 a; have := leaves8 b; simp only [T.leaves, T.parts, List.length_append]; omega
  | .orr a b => by have := leaves8 a; have := leaves8 b; simp only [T.leaves, T.parts, List.length_append]; omega
end Zp

namespace Z
open PySem PySem.Spec PyProof.Rows L2
def top (i : Nat) : Stmt := PySem.Challenge.pw_lanescribe_k61_whole_tests_there_and_bac.main.body.getD i (.Pass ⟨0, 0, 0, 0⟩)
abbrev s_ScribeError_init : Stmt := inClass (top 1) 0
abbrev s_Missing_init : Stmt := inClass (top 2) 0
abbrev s_BadTest_init : Stmt := inClass (top 3) 0
abbrev s_BadValue_init : Stmt := inClass (top 4) 0
abbrev s_is_name : Stmt := top 9
abbrev s_is_leaf : Stmt := top 17
abbrev s_parts_of : Stmt := top 18
abbrev s_is_test : Stmt := top 19
abbrev s_look_test : Stmt := top 20
abbrev s_leaves_in : Stmt := top 21
abbrev s_leaves : Stmt := top 22
abbrev s_text_of : Stmt := top 23
abbrev s_test_text : Stmt := top 24
abbrev s_number_in : Stmt := top 25
abbrev s_parted_at : Stmt := top 26
abbrev s_leaf_in : Stmt := top 27
abbrev s_test_in : Stmt := top 28
abbrev s_read_test : Stmt := top 29
abbrev s_law_begin : Stmt := top 31
abbrev s_law_pick : Stmt := top 32
abbrev s_law_of : Stmt := top 33
abbrev s_law_same : Stmt := top 34
abbrev s_law_word : Stmt := top 35
abbrev s_law_words : Stmt := top 36
abbrev s_law_ask : Stmt := top 37
abbrev s_law_number : Stmt := top 38
abbrev s_law_leaf : Stmt := top 39
abbrev s_law_tree : Stmt := top 40
abbrev s_law_parts : Stmt := top 41
abbrev s_law_deep : Stmt := top 42
abbrev s_law_test : Stmt := top 43
abbrev s_law_leaves : Stmt := top 44
abbrev s_law : Stmt := top 45
structure Top (K : PySem.W.Frag) (mg : PySem.Str → Option Value) (w : World) : Type where
  b_LookupError : mg "LookupError" = none
  b_ValueError : mg "ValueError" = none
  b_all : mg "all" = none
  b_bool : mg "bool" = none
  b_enumerate : mg "enumerate" = none
  b_int : mg "int" = none
  b_isinstance : mg "isinstance" = none
  b_len : mg "len" = none
  b_list : mg "list" = none
  b_max : mg "max" = none
  b_range : mg "range" = none
  b_str : mg "str" = none
  b_sum : mg "sum" = none
  b_tuple : mg "tuple" = none
  c_LIMIT : ∃ t, mg "LIMIT" = some (.int 999999 t)
  c_LONGEST : ∃ t, mg "LONGEST" = some (.int 8 t)
  c_LETTERS : ∃ t, mg "LETTERS" = some (.str "abcdefghijklmnopqrstuvwxyz" t)
  c_MOST_PARTS : ∃ t, mg "MOST_PARTS" = some (.int 15 t)
  c_DEEPEST : ∃ t, mg "DEEPEST" = some (.int 5 t)
  a_WITHIN : Addr
  g_WITHIN : mg "WITHIN" = some (.ref a_WITHIN)
  k_WITHIN : Uz.KD K w a_WITHIN [("not", V.int 1), ("and", V.int 2), ("or", V.int 2)]
  a_SIGNS : Addr
  g_SIGNS : mg "SIGNS" = some (.ref a_SIGNS)
  k_SIGNS : Uz.KD K w a_SIGNS [("<", V.str "less"), ("=", V.str "same")]
  c_FIGURES : ∃ t, mg "FIGURES" = some (.str "0123456789" t)
  c_MOST_FIGURES : ∃ t, mg "MOST_FIGURES" = some (.int 6 t)
  a_ScribeError : Addr
  g_ScribeError : mg "ScribeError" = some (.ref a_ScribeError)
  a_Missing : Addr
  g_Missing : mg "Missing" = some (.ref a_Missing)
  a_BadTest : Addr
  g_BadTest : mg "BadTest" = some (.ref a_BadTest)
  a_BadValue : Addr
  g_BadValue : mg "BadValue" = some (.ref a_BadValue)
  v_VE : PySem.W.findCls K (.type "ValueError") (.type "type") "__init__" = some (.val (.builtin "ValueError.__init__"))
  x_ScribeError : Uz.ExF K a_ScribeError
  x_BadTest : Uz.ExF K a_BadTest
  m_BadTest_ScribeError : PySem.W.exmOne K (.ref a_BadTest) (.ref a_ScribeError) = some true
  m_BadTest_Missing : PySem.W.exmOne K (.ref a_BadTest) (.ref a_Missing) = some false
  m_BadTest_BadValue : PySem.W.exmOne K (.ref a_BadTest) (.ref a_BadValue) = some false
  x_BadValue : Uz.ExF K a_BadValue
  m_BadValue_ScribeError : PySem.W.exmOne K (.ref a_BadValue) (.ref a_ScribeError) = some true
  m_BadValue_Missing : PySem.W.exmOne K (.ref a_BadValue) (.ref a_Missing) = some false
  m_BadValue_BadValue : PySem.W.exmOne K (.ref a_BadValue) (.ref a_BadValue) = some true
  a_ScribeError_init : Addr
  d_ScribeError_init : FuncData
  F_ScribeError_init : FunD K "__init__" "ScribeError.__init__" (defArgs s_ScribeError_init) (defBody s_ScribeError_init) (defScope s_ScribeError_init) [] [] a_ScribeError_init d_ScribeError_init
  i_ScribeError_init : PySem.W.findIn K (.ref a_ScribeError) "__init__" = some (some (.ref a_ScribeError_init))
  t_ScribeError_init : PySem.W.typeIn K (.ref a_ScribeError_init) = some (.type "function")
  l_ScribeError_init : PySem.W.findCls K (.ref a_ScribeError) (.type "type") "__init__" = some (.val (.ref a_ScribeError_init))
  a_Missing_init : Addr
  d_Missing_init : FuncData
  F_Missing_init : FunD K "__init__" "Missing.__init__" (defArgs s_Missing_init) (defBody s_Missing_init) (defScope s_Missing_init) [] [] a_Missing_init d_Missing_init
  a_BadTest_init : Addr
  d_BadTest_init : FuncData
  F_BadTest_init : FunD K "__init__" "BadTest.__init__" (defArgs s_BadTest_init) (defBody s_BadTest_init) (defScope s_BadTest_init) [] [] a_BadTest_init d_BadTest_init
  i_BadTest_init : PySem.W.findIn K (.ref a_BadTest) "__init__" = some (some (.ref a_BadTest_init))
  t_BadTest_init : PySem.W.typeIn K (.ref a_BadTest_init) = some (.type "function")
  l_BadTest_init : PySem.W.findCls K (.ref a_BadTest) (.type "type") "__init__" = some (.val (.ref a_BadTest_init))
  a_BadValue_init : Addr
  d_BadValue_init : FuncData
  F_BadValue_init : FunD K "__init__" "BadValue.__init__" (defArgs s_BadValue_init) (defBody s_BadValue_init) (defScope s_BadValue_init) [] [] a_BadValue_init d_BadValue_init
  i_BadValue_init : PySem.W.findIn K (.ref a_BadValue) "__init__" = some (some (.ref a_BadValue_init))
  t_BadValue_init : PySem.W.typeIn K (.ref a_BadValue_init) = some (.type "function")
  l_BadValue_init : PySem.W.findCls K (.ref a_BadValue) (.type "type") "__init__" = some (.val (.ref a_BadValue_init))
  a_is_name : Addr
  d_is_name : FuncData
  F_is_name : FunD K "is_name" "is_name" (defArgs s_is_name) (defBody s_is_name) (defScope s_is_name) [] [] a_is_name d_is_name
  g_is_name : mg "is_name" = some (.ref a_is_name)
  a_is_leaf : Addr
  d_is_leaf : FuncData
  F_is_leaf : FunD K "is_leaf" "is_leaf" (defArgs s_is_leaf) (defBody s_is_leaf) (defScope s_is_leaf) [] [] a_is_leaf d_is_leaf
  g_is_leaf : mg "is_leaf" = some (.ref a_is_leaf)
  a_parts_of : Addr
  d_parts_of : FuncData
  F_parts_of : FunD K "parts_of" "parts_of" (defArgs s_parts_of) (defBody s_parts_of) (defScope s_parts_of) [] [] a_parts_of d_parts_of
  g_parts_of : mg "parts_of" = some (.ref a_parts_of)
  a_is_test : Addr
  d_is_test : FuncData
  F_is_test : FunD K "is_test" "is_test" (defArgs s_is_test) (defBody s_is_test) (defScope s_is_test) [] [] a_is_test d_is_test
  g_is_test : mg "is_test" = some (.ref a_is_test)
  a_look_test : Addr
  d_look_test : FuncData
  F_look_test : FunD K "look_test" "look_test" (defArgs s_look_test) (defBody s_look_test) (defScope s_look_test) [] [] a_look_test d_look_test
  g_look_test : mg "look_test" = some (.ref a_look_test)
  a_leaves_in : Addr
  d_leaves_in : FuncData
  F_leaves_in : FunD K "leaves_in" "leaves_in" (defArgs s_leaves_in) (defBody s_leaves_in) (defScope s_leaves_in) [] [] a_leaves_in d_leaves_in
  g_leaves_in : mg "leaves_in" = some (.ref a_leaves_in)
  a_leaves : Addr
  d_leaves : FuncData
  F_leaves : FunD K "leaves" "leaves" (defArgs s_leaves) (defBody s_leaves) (defScope s_leaves) [] [] a_leaves d_leaves
  g_leaves : mg "leaves" = some (.ref a_leaves)
  a_text_of : Addr
  d_text_of : FuncData
  F_text_of : FunD K "text_of" "text_of" (defArgs s_text_of) (defBody s_text_of) (defScope s_text_of) [] [] a_text_of d_text_of
  g_text_of : mg "text_of" = some (.ref a_text_of)
  a_test_text : Addr
  d_test_text : FuncData
  F_test_text : FunD K "test_text" "test_text" (defArgs s_test_text) (defBody s_test_text) (defScope s_test_text) [] [] a_test_text d_test_text
  g_test_text : mg "test_text" = some (.ref a_test_text)
  a_number_in : Addr
  d_number_in : FuncData
  F_number_in : FunD K "number_in" "number_in" (defArgs s_number_in) (defBody s_number_in) (defScope s_number_in) [V.int 6] [] a_number_in d_number_in
  g_number_in : mg "number_in" = some (.ref a_number_in)
  a_parted_at : Addr
  d_parted_at : FuncData
  F_parted_at : FunD K "parted_at" "parted_at" (defArgs s_parted_at) (defBody s_parted_at) (defScope s_parted_at) [] [] a_parted_at d_parted_at
  g_parted_at : mg "parted_at" = some (.ref a_parted_at)
  a_leaf_in : Addr
  d_leaf_in : FuncData
  F_leaf_in : FunD K "leaf_in" "leaf_in" (defArgs s_leaf_in) (defBody s_leaf_in) (defScope s_leaf_in) [] [] a_leaf_in d_leaf_in
  g_leaf_in : mg "leaf_in" = some (.ref a_leaf_in)
  a_test_in : Addr
  d_test_in : FuncData
  F_test_in : FunD K "test_in" "test_in" (defArgs s_test_in) (defBody s_test_in) (defScope s_test_in) [] [] a_test_in d_test_in
  g_test_in : mg "test_in" = some (.ref a_test_in)
  a_read_test : Addr
  d_read_test : FuncData
  F_read_test : FunD K "read_test" "read_test" (defArgs s_read_test) (defBody s_read_test) (defScope s_read_test) [] [] a_read_test d_read_test
  g_read_test : mg "read_test" = some (.ref a_read_test)
  a_law_begin : Addr
  d_law_begin : FuncData
  F_law_begin : FunD K "_law_begin" "_law_begin" (defArgs s_law_begin) (defBody s_law_begin) (defScope s_law_begin) [] [] a_law_begin d_law_begin
  g_law_begin : mg "_law_begin" = some (.ref a_law_begin)
  a_law_pick : Addr
  d_law_pick : FuncData
  F_law_pick : FunD K "_law_pick" "_law_pick" (defArgs s_law_pick) (defBody s_law_pick) (defScope s_law_pick) [] [] a_law_pick d_law_pick
  g_law_pick : mg "_law_pick" = some (.ref a_law_pick)
  a_law_of : Addr
  d_law_of : FuncData
  F_law_of : FunD K "_law_of" "_law_of" (defArgs s_law_of) (defBody s_law_of) (defScope s_law_of) [] [] a_law_of d_law_of
  g_law_of : mg "_law_of" = some (.ref a_law_of)
  a_law_same : Addr
  d_law_same : FuncData
  F_law_same : FunD K "_law_same" "_law_same" (defArgs s_law_same) (defBody s_law_same) (defScope s_law_same) [] [] a_law_same d_law_same
  g_law_same : mg "_law_same" = some (.ref a_law_same)
  a_law_word : Addr
  d_law_word : FuncData
  F_law_word : FunD K "_law_word" "_law_word" (defArgs s_law_word) (defBody s_law_word) (defScope s_law_word) [] [] a_law_word d_law_word
  g_law_word : mg "_law_word" = some (.ref a_law_word)
  a_law_words : Addr
  d_law_words : FuncData
  F_law_words : FunD K "_law_words" "_law_words" (defArgs s_law_words) (defBody s_law_words) (defScope s_law_words) [] [] a_law_words d_law_words
  g_law_words : mg "_law_words" = some (.ref a_law_words)
  a_law_ask : Addr
  d_law_ask : FuncData
  F_law_ask : FunD K "_law_ask" "_law_ask" (defArgs s_law_ask) (defBody s_law_ask) (defScope s_law_ask) [] [] a_law_ask d_law_ask
  g_law_ask : mg "_law_ask" = some (.ref a_law_ask)
  a_law_number : Addr
  d_law_number : FuncData
  F_law_number : FunD K "_law_number" "_law_number" (defArgs s_law_number) (defBody s_law_number) (defScope s_law_number) [] [] a_law_number d_law_number
  g_law_number : mg "_law_number" = some (.ref a_law_number)
  a_law_leaf : Addr
  d_law_leaf : FuncData
  F_law_leaf : FunD K "_law_leaf" "_law_leaf" (defArgs s_law_leaf) (defBody s_law_leaf) (defScope s_law_leaf) [] [] a_law_leaf d_law_leaf
  g_law_leaf : mg "_law_leaf" = some (.ref a_law_leaf)
  a_law_tree : Addr
  d_law_tree : FuncData
  F_law_tree : FunD K "_law_tree" "_law_tree" (defArgs s_law_tree) (defBody s_law_tree) (defScope s_law_tree) [] [] a_law_tree d_law_tree
  g_law_tree : mg "_law_tree" = some (.ref a_law_tree)
  a_law_parts : Addr
  d_law_parts : FuncData
  F_law_parts : FunD K "_law_parts" "_law_parts" (defArgs s_law_parts) (defBody s_law_parts) (defScope s_law_parts) [] [] a_law_parts d_law_parts
  g_law_parts : mg "_law_parts" = some (.ref a_law_parts)
  a_law_deep : Addr
  d_law_deep : FuncData
  F_law_deep : FunD K "_law_deep" "_law_deep" (defArgs s_law_deep) (defBody s_law_deep) (defScope s_law_deep) [] [] a_law_deep d_law_deep
  g_law_deep : mg "_law_deep" = some (.ref a_law_deep)
  a_law_test : Addr
  d_law_test : FuncData
  F_law_test : FunD K "_law_test" "_law_test" (defArgs s_law_test) (defBody s_law_test) (defScope s_law_test) [] [] a_law_test d_law_test
  g_law_test : mg "_law_test" = some (.ref a_law_test)
  a_law_leaves : Addr
  d_law_leaves : FuncData
  F_law_leaves : FunD K "_law_leaves" "_law_leaves" (defArgs s_law_leaves) (defBody s_law_leaves) (defScope s_law_leaves) [] [] a_law_leaves d_law_leaves
  g_law_leaves : mg "_law_leaves" = some (.ref a_law_leaves)
  a_law : Addr
  d_law : FuncData
  F_law : FunD K "law" "law" (defArgs s_law) (defBody s_law) (defScope s_law) [] [] a_law d_law
  g_law : mg "law" = some (.ref a_law)
end Z


local macro_rules
  | `(tactic| walk_at "g0") => `(tactic| first
    | ((with_reducible apply Zg.go_var); exact rfl)
    | with_reducible refine Zg.go_c ?_
    | with_reducible refine Zg.go_op ?_
    | with_reducible refine Zg.go_ret ?_
    | with_reducible refine Zg.go_cons ?_
    | with_reducible refine Zg.go_nil ?_
    | with_reducible refine Zg.go_cb ?_
    | with_reducible refine Zg.go_call ?_
    | with_reducible refine Zg.go_rI0 ?_
    | ((with_reducible refine Zg.go_eq ?_ ?_); exact rfl)
    | ((with_reducible refine Zg.go_ne ?_ ?_); exact rfl)
    | with_reducible refine Zg.go_test ?_
    | with_reducible refine Zg.go_bl ?_
    | with_reducible refine Zg.go_bl' ?_
    | with_reducible refine Zg.go_str ?_
    | with_reducible refine Zg.go_chain ?_
    | with_reducible refine Zg.go_andV ?_
    | with_reducible refine Zg.go_orV ?_
    | with_reducible refine Zg.go_notV ?_
    | with_reducible refine Zg.go_and ?_
    | with_reducible refine Zg.go_or ?_
    | with_reducible refine Zg.go_not ?_
    | with_reducible refine Zg.go_ifS ?_
    | with_reducible refine Zg.go_ifE ?_
    | with_reducible refine Zg.go_asg ?_
    | with_reducible refine Zg.go_name ?_
    | with_reducible refine Zg.go_un ?_
    | with_reducible refine Zg.go_rU ?_
    | with_reducible refine Zg.go_drop ?_
    | with_reducible refine Zg.go_next ?_
    | with_reducible refine Zg.go_break ?_
    | with_reducible refine Zg.go_cont ?_
    | with_reducible refine Zg.go_retN ?_
    | ((with_reducible apply Zg.go_aug); exact rfl)
    | with_reducible refine Zg.go_par ?_
    | with_reducible refine Zg.go_par2 ?_
    | with_reducible refine Zg.go_gnil ?_
    | with_reducible refine Zg.go_gcons ?_
    | with_reducible refine Zg.go_lc ?_
    | with_reducible refine Zg.go_iStr ?_
    | with_reducible refine Zg.go_iList ?_
    | with_reducible refine Zg.go_iTup ?_
    | with_reducible refine Zg.go_rng1 ?_
    | with_reducible refine Zg.go_int1 ?_
    | with_reducible refine Zg.go_for ?_
    | with_reducible refine Zg.go_rfl ?_
    | with_reducible refine Zg.go_bm ?_
    | with_reducible refine Zg.go_notB ?_
    | with_reducible refine Zg.go_disp ?_
    | with_reducible refine Zg.go_pairs0 ?_
    | with_reducible refine Zg.go_pairs ?_
    | with_reducible refine Zg.go_iEnumS ?_
    | with_reducible refine Zg.go_str1 ?_
    | with_reducible refine Zg.go_iKd ?_
    | ((with_reducible refine Zg.go_wipe ?_ ?_); exact rfl)
    | with_reducible refine Zg.go_fmtS ?_
    | with_reducible refine Zg.go_js0 ?_
    | with_reducible refine Zg.go_js ?_
    | with_reducible refine Zg.go_m1 ?_
    | with_reducible refine Zg.go_isstr ?_
    | with_reducible refine Zg.go_ss ?_
    | with_reducible refine Zg.go_lc2 ?_
    | with_reducible refine Zg.go_sl ?_
    | with_reducible refine Zg.go_part ?_
    | with_reducible refine Zg.go_nopart ?_
    | with_reducible refine Zg.go_int ?_
    | with_reducible refine Zg.go_ip ?_
    | with_reducible refine Zg.go_truB ?_
    | with_reducible refine Zg.go_truI ?_
    | with_reducible refine Zg.go_truN ?_
    | with_reducible refine Zg.go_dget ?_
    | with_reducible refine Zg.go_dput ?_
    | with_reducible refine Zg.go_tup ?_
    | with_reducible refine Zg.go_lst ?_
    | ((with_reducible refine Zg.go_new ?_ ?_); exact Zg.le_line rfl)
    | with_reducible refine Uz.go_inkd ?_
    | with_reducible refine Zg.go_insign ?_
    | with_reducible refine L2.iteT ?_
    | with_reducible refine L2.iteF ?_)
  | `(tactic| walk_at "g") => `(tactic| first | walk_at "g0" | with_reducible refine Zg.go_seq ?_)
  | `(tactic| walk_at "kp") => `(tactic| first
    | exact Zg.Kp.refl
    | assumption
    | ((refine Zg.Kp.new ?_ (by assumption)); walk_at "kp")
    | ((refine Zg.Kp.trans ?_ (by assumption)); walk_at "kp")
    | ((refine Zg.Kp.trans ?_ (Zg.Kp.ofNo (by assumption))); walk_at "kp"))
  | `(tactic| walk_at "hp") => `(tactic| first
    | assumption
    | exact L2.upd_same
    | exact L2.SqT.of L2.upd_same
    | exact L2.SqL.of L2.upd_same
    | exact L2.SqT.of (by assumption)
    | exact L2.SqL.of (by assumption)
    | ((refine Zg.Kp.tup2 (F := Zg.No) Zg.NoTup.no ?_ (by assumption)); walk_at "kp")
    | ((refine Zg.Kp.sqL2 ?_ (by assumption)); walk_at "kp")
    | ((refine Zg.Kp.tup2 (by assumption) ?_ (by assumption)); walk_at "kp"))
  | `(tactic| walk_at "if") => `(tactic| first
    | (refine Zg.go_ifT (by decide +kernel) ?_)
    | (refine Zg.go_ifF (by decide +kernel) ?_)
    | (refine Zg.go_ifT (by assumption) ?_)
    | (refine Zg.go_ifF (by assumption) ?_)
    | (refine Zg.go_ifT rfl ?_)
    | (refine Zg.go_ifF rfl ?_))
  | `(tactic| walk_at "v1") => `(tactic| (first
    | walk_at "g0"
    | ((with_reducible refine Zg.go_fresh ?_); intro _ _)
    | walk_at "if"
    | ((with_reducible apply Zg.go_ixT); (walk_at "hp"); (first | exact rfl | exact Zg.atI_zero))
    | ((with_reducible apply Zg.go_isi); (first | exact .str _ | exact .int _ | exact .bl _ | exact .non | exact .tup (by walk_at "hp") | exact .lst (by walk_at "hp")); exact rfl)
    | ((with_reducible apply Zg.go_slA1); (walk_at "hp"))
    | ((with_reducible refine Zg.go_slS ?_ ?_); assumption)
    | ((with_reducible apply Zg.go_slL); (walk_at "hp"))
    | ((with_reducible apply Zg.go_gtup); (walk_at "hp"); exact rfl)
    | ((with_reducible apply Zg.go_star1); (walk_at "hp"))
    | ((with_reducible refine Zg.go_rI' (show L2.CMul _ _ from Zg.mulR (by decide)) ?_))
    | ((with_reducible refine Zg.go_rI' (show L2.CPow _ _ from ⟨by decide, by decide, by decide⟩) ?_))
    | ((with_reducible refine Zg.go_rI' (show 0 < _ from by decide) ?_))
    | ((with_reducible apply Zg.go_tyL); (walk_at "hp"))
    | ((with_reducible apply Zg.go_isi2); (exact L2.upd_same); (first | exact .str _ | exact .int _ | exact .bl _ | exact .non | exact .tup (by walk_at "hp") | exact .lst (by walk_at "hp")); (exact rfl); exact rfl)
    | ((with_reducible apply Zg.go_inT); (walk_at "hp"); (exact rfl); exact rfl)
    | ((with_reducible apply Zg.go_lenT); walk_at "hp")
    | ((with_reducible apply Zg.go_lenL); walk_at "hp")
    | ((with_reducible apply Uz.go_kd); assumption)
    | ((with_reducible apply Zg.go_seq1); (walk_at "hp"))
    | ((with_reducible apply Zg.go_lenS); (first | assumption | exact Zg.le_line rfl))))
  | `(tactic| walk_at "v") => `(tactic| repeat walk_at "v1")
  | `(tactic| walk_at "w") => `(tactic| repeat (first | walk_at "v1" | with_reducible refine Zg.go_seq ?_))
  | `(tactic| walk_at "go") => `(tactic| repeat walk_at "g")

namespace Z
open PySem PySem.Spec PyProof.Rows L2 Zg Zp
def spIsName : Sp := fun vs H Q _ => ∃ s : Str, vs = [.str s] ∧ s.length ≤ sizeLine ∧ ∀ H', Kp No H H' → Q (.bl (isName s)) H'
theorem letters_in (c : Nat) : decide (c ∈ (Str.ofString "abcdefghijklmnopqrstuvwxyz").cps.toList) = letter c := by
  rw [show (Str.ofString "abcdefghijklmnopqrstuvwxyz").cps.toList = (List.range 26).map (· + 97) from by decide +kernel]
  unfold letter
  rw [decide_eq_decide, List.mem_map]
  constructor
  · rintro ⟨a, h, rfl⟩
    have := List.mem_range.mp h
    omega
  · rintro ⟨h1, h2⟩
    exact ⟨c - 97, List.mem_range.mpr (by omega), by omega⟩
def spIsLeaf (K : PySem.W.Frag) : Sp := fun vs H Q _ => ∃ v t, vs = [v] ∧ Dp K H v (T.d t) ∧ t.nm = true ∧ t.leaf = true ∧ ∀ H', Kp No H H' → Q (.bl true) H'
def spParts (K : PySem.W.Frag) (n : Nat) : Sp := fun vs H Q _ => ∃ v t, ∃ d : Nat, d < n ∧ vs = [v, .int d] ∧ Dp K H v (T.d t) ∧ t.nm = true ∧ ∀ H', Kp No H H' → Q (.int (t.cnt d)) H'
def spIsTest (K : PySem.W.Frag) : Sp := fun vs H Q _ => ∃ v t, vs = [v] ∧ Dp K H v (T.d t) ∧ t.nm = true ∧ ∀ H', Kp No H H' → Q (.bl (decide (t.deep ≤ 5 ∧ t.parts ≤ 15))) H'
def spLook (K : PySem.W.Frag) : Sp := fun vs H Q _ => ∃ v t, vs = [v] ∧ Dp K H v (T.d t) ∧ t.nm = true ∧ t.deep ≤ 5 ∧ t.parts ≤ 15 ∧ ∀ H', Kp No H H' → Q .non H'
section
variable {P : Program} {w : World} {K : PySem.W.Frag} {mg : Str → Option Value} {base : Heap}
theorem sc_is_name : FnScope ["text", "sign"] ["text"] (defScope s_is_name) := ⟨rfl, rfl, rfl, by decide +kernel, rfl, by decide +kernel, by decide +kernel⟩
theorem ok_is_name (Y : Top K mg w) : FnOk P w K mg base CX0 1 Y.a_is_name Y.d_is_name ["text"] spIsName := by
  refine Y.F_is_name.ok sc_is_name (fun vs H Q E h => ?_) (fun cdv A outer s H vs Q E hr h => ?_)
  · obtain ⟨s, rfl, _⟩ := h
    rfl
  · obtain ⟨s, rfl, hs, k⟩ := h
    refine ⟨_, PSs.nox (pss_one (ps_ret (pe_and (pe_chain op_le op_le pe_int (pe_callB call_len (by rfl) Y.b_len PySem.boot_len (pa_cons (pv 0) pa_nil)) (pe_glob (v := .int 8) (by rfl) Y.c_LONGEST.choose_spec ⟨_, rfl⟩)) (pe_one (pe_callB (cr_all rfl) (by rfl) Y.b_all (by decide +kernel) (pa_cons (pe_lc (own := [("sign", 1)]) (g := (gName 1)) (tt := tYes) rfl sc_is_name.nd (pi_str (pv 0)) (blkOk_by (N := ["text", "sign"]) (sc := defScope s_is_name) (by decide +kernel)) (fun _ _ _ _ _ => (pg_name (i := 1) sc_is_name.nd rfl (by first | exact Or.inl rfl | exact Or.inr rfl))) (fun _ _ _ _ _ => pts_nil) (fun _ _ _ _ _ => (pe_cmpR op_in_sign (pv 1) (pe_glob (v := .str "abcdefghijklmnopqrstuvwxyz") (by rfl) Y.c_LETTERS.choose_spec ⟨_, rfl⟩) (by with_unfolding_all rfl)))) pa_nil)))))), ?_⟩
    walk_at "go"
    refine go_lenS hs ?_
    walk_at "go"
    by_cases h1 : 1 ≤ s.length
    · rw [if_pos (by simp; omega)]
      walk_at "go"
      by_cases h2 : s.length ≤ 8
      · rw [if_pos (by simp; omega)]
        walk_at "go"
        refine lc_strP (fun c => .bl (letter c)) hs (fun c H' Q' hc k1 q => ?_) (fun D H' hD k1 e => ?_)
        · walk_at "go"
          rw [letters_in]
          exact q _ Kp.refl
        · walk_at "go"
          have e' : H' D = some (.lst ((s.cps.toList.map letter).map V.bl)) := by rw [e, List.map_map]; rfl
          refine go_all (SqL.of e') ?_
          have e2 : isName s = (s.cps.toList.map letter).all id := by unfold isName; rw [decide_eq_true h1, decide_eq_true h2, List.all_map]; rfl
          rw [e2] at k
          exact k H' k1
      · rw [if_neg (by simp; omega)]
        have e : isName s = false := by unfold isName; rw [decide_eq_false h2]; simp
        rw [e] at k
        exact k H Kp.refl
    · rw [if_neg (by simp; omega)]
      walk_at "go"
      have e : isName s = false := by unfold isName; rw [decide_eq_false h1]; simp
      rw [e] at k
      exact k H Kp.refl

theorem B_is_name (Y : Top K mg w) : L2.Binds K Y.d_is_name ["text"] [] := Y.F_is_name.bindsN fun _ _ _ _ _ _ us hl => match us, hl with | [_], _ => rfl
theorem sc_is_leaf : FnScope ["test"] ["test"] (defScope s_is_leaf) := ⟨rfl, rfl, rfl, by decide +kernel, rfl, by decide +kernel, by decide +kernel⟩
theorem ok_is_leaf (Y : Top K mg w) : FnOk P w K mg base CX0 2 Y.a_is_leaf Y.d_is_leaf ["test"] (spIsLeaf K) := by
  have G_is_name := ok_is_name (P := P) (base := base) Y
  refine Y.F_is_leaf.ok sc_is_leaf (fun vs H Q E h => ?_) (fun cdv A outer s H vs Q E hr h => ?_)
  · obtain ⟨v, t, rfl, _⟩ := h
    rfl
  · obtain ⟨v, t, rfl, hd, hn, hl, k⟩ := h
    refine ⟨_, PSs.nox (pss_cons (ps_if (pt_cmpR op_eq (pe_ix ix_tup (pv 0) pe_int (fun _ _ => rfl)) pe_str (nomark _)) (pss_one (ps_ret (pe_cmpR op_eq (pe_callB call_len (by rfl) Y.b_len PySem.boot_len (pa_cons (pv 0) pa_nil)) pe_int (nomark _)))) pss_nil) (pss_cons (ps_if (pt_cmpR op_eq (pe_ix ix_tup (pv 0) pe_int (fun _ _ => rfl)) pe_str (nomark _)) (pss_one (ps_ret (pe_and (pe_cmpR op_eq (pe_callB call_len (by rfl) Y.b_len PySem.boot_len (pa_cons (pv 0) pa_nil)) pe_int (nomark _)) (pe_and (pe_callB call_isi (by rfl) Y.b_isinstance (by decide +kernel) (pa_cons (pe_ix ix_tup (pv 0) pe_int (fun _ _ => rfl)) (pa_cons (pe_bltn (v := .ty "str") (by rfl) Y.b_str (by decide +kernel) rfl) pa_nil))) (pe_one (pe_call G_is_name (hr.mono (by first | decide | omega)) (by rfl) Y.g_is_name Y.F_is_name.kp (B_is_name Y) .nil pass0 (pa_cons (pe_ix ix_tup (pv 0) pe_int (fun _ _ => rfl)) pa_nil))))))) pss_nil) (pss_cons (ps_if (PW.pt (pw_or (pt_cmpR op_ne (pe_callB call_len (by rfl) Y.b_len PySem.boot_len (pa_cons (pv 0) pa_nil)) pe_int (nomark _)) (pw_or (pt_not (pt_truth (pe_callB call_isi (by rfl) Y.b_isinstance (by decide +kernel) (pa_cons (pe_ix ix_tup (pv 0) pe_int (fun _ _ => rfl)) (pa_cons (pe_bltn (v := .ty "str") (by rfl) Y.b_str (by decide +kernel) rfl) pa_nil))) (fun _ => rfl))) (pw_or1 (pt_not (pt_truth (pe_callB call_isi (by rfl) Y.b_isinstance (by decide +kernel) (pa_cons (pe_ix ix_tup (pv 0) pe_int (fun _ _ => rfl)) (pa_cons (pe_bltn (v := .ty "int") (by rfl) Y.b_int (by decide +kernel) rfl) pa_nil))) (fun _ => rfl))))))) (pss_one (ps_ret pe_bl)) pss_nil) (pss_one (ps_ret (pe_and (pe_cmpR op_in_seq (pe_ix ix_tup (pv 0) pe_int (fun _ _ => rfl)) (pe_tup (pa_cons pe_str (pa_cons pe_str pa_nil))) (by with_unfolding_all rfl)) (pe_and (pe_call G_is_name (hr.mono (by first | decide | omega)) (by rfl) Y.g_is_name Y.F_is_name.kp (B_is_name Y) .nil pass0 (pa_cons (pe_ix ix_tup (pv 0) pe_int (fun _ _ => rfl)) pa_nil)) (pe_one (pe_chain op_le op_le (pe_un un_neg (pe_glob (v := .int 999999) (by rfl) Y.c_LIMIT.choose_spec ⟨_, rfl⟩)) (pe_ix ix_tup (pv 0) pe_int (fun _ _ => rfl)) (pe_glob (v := .int 999999) (by rfl) Y.c_LIMIT.choose_spec ⟨_, rfl⟩)))))))))), ?_⟩
    walk_at "go"
    cases t with
    | all =>
      obtain ⟨p, rfl, hs⟩ := tv_all hd
      walk_at "w"
      exact k _ Kp.refl
    | is s =>
      obtain ⟨p, rfl, hs⟩ := tv_is hd
      walk_at "w"
      have hn : isName s = true := hn
      refine ⟨s, rfl, isName_line hn, fun H' k1 => ?_⟩
      rw [hn]
      exact k _ k1
    | less f n =>
      obtain ⟨p, rfl, hs⟩ := tv_three hd
      have hn : isName f = true ∧ inR n = true := by simpa [Zp.T.nm] using hn
      walk_at "w"
      refine ⟨f, rfl, isName_line hn.1, fun H' k1 => ?_⟩
      rw [hn.1]
      have h2 : -999999 ≤ n ∧ n ≤ 999999 := of_decide_eq_true hn.2
      walk_at "w"
      refine go_ifT (decide_eq_true h2.1) ?_
      walk_at "w"
      have e : decide (n ≤ 999999) = true := decide_eq_true h2.2
      rw [e]
      exact k _ (by walk_at "kp")
    | same f n =>
      obtain ⟨p, rfl, hs⟩ := tv_three hd
      have hn : isName f = true ∧ inR n = true := by simpa [Zp.T.nm] using hn
      walk_at "w"
      refine ⟨f, rfl, isName_line hn.1, fun H' k1 => ?_⟩
      rw [hn.1]
      have h2 : -999999 ≤ n ∧ n ≤ 999999 := of_decide_eq_true hn.2
      walk_at "w"
      refine go_ifT (decide_eq_true h2.1) ?_
      walk_at "w"
      have e : decide (n ≤ 999999) = true := decide_eq_true h2.2
      rw [e]
      exact k _ (by walk_at "kp")
    | _ => cases hl
theorem head_leaf {K : PySem.W.Frag} {H : Hp} {v : V} {t : Zp.T} (hl : t.leaf = true) (h : Dp K H v t.d) : ∃ p xs z, v = .ref p ∧ SqT K H p (.str z :: xs) ∧ z ∉ [((Str.ofString "not"), V.int 1), ((Str.ofString "and"), V.int 2), ((Str.ofString "or"), V.int 2)].map (·.1) := by
  cases t with
  | all => obtain ⟨p, e, hs⟩ := tv_all h; exact ⟨p, _, _, e, hs, by decide +kernel⟩
  | is k => obtain ⟨p, e, hs⟩ := tv_is h; exact ⟨p, _, _, e, hs, by decide +kernel⟩
  | less f n => obtain ⟨p, e, hs⟩ := tv_three h; exact ⟨p, _, _, e, hs, by decide +kernel⟩
  | same f n => obtain ⟨p, e, hs⟩ := tv_three h; exact ⟨p, _, _, e, hs, by decide +kernel⟩
  | _ => cases hl
theorem B_is_leaf (Y : Top K mg w) : L2.Binds K Y.d_is_leaf ["test"] [] := Y.F_is_leaf.bindsN fun _ _ _ _ _ _ us hl => match us, hl with | [_], _ => rfl
theorem B_parts_of (Y : Top K mg w) : L2.Binds K Y.d_parts_of ["test", "deep"] [] := Y.F_parts_of.bindsN fun _ _ _ _ _ _ us hl => match us, hl with | [_, _], _ => rfl
theorem sc_parts_of : FnScope ["test", "deep", "word", "inner", "many", "part", "more"] ["test", "deep"] (defScope s_parts_of) := ⟨rfl, rfl, rfl, by decide +kernel, rfl, by decide +kernel, by decide +kernel⟩
theorem ok_parts_of (Y : Top K mg w) : ∀ n, FnOk P w K mg base CX0 (n + 3) Y.a_parts_of Y.d_parts_of ["test", "deep"] (spParts K n)
  | 0 => Y.F_parts_of.ok sc_parts_of (fun vs H Q E ⟨_, _, _, h, _⟩ => absurd h (Nat.not_lt_zero _)) fun cdv A outer s H vs Q E hr ⟨_, _, _, h, _⟩ => absurd h (Nat.not_lt_zero _)
  | n + 1 => by
    have G_parts_of := ok_parts_of Y n
    have G_is_leaf := ok_is_leaf (P := P) (base := base) Y
    refine Y.F_parts_of.ok sc_parts_of (fun vs H Q E h => ?_) (fun cdv A outer s H vs Q E hr h => ?_)
    · obtain ⟨v, t, d, _, rfl, _⟩ := h
      rfl
    · obtain ⟨v, t, d, hd, rfl, hv, hn, k⟩ := h
      refine ⟨_, PSs.nox (pss_cons (ps_if (PW.pt (pw_or (pt_cmpR op_eq (pv 1) pe_int (nomark _)) (pw_or1 (pt_cmpR op_eq (pe_callB call_len (by rfl) Y.b_len PySem.boot_len (pa_cons (pv 0) pa_nil)) pe_int (nomark _))))) (pss_one (ps_ret pe_int)) pss_nil) (pss_cons (ps_if (pt_cmpR (Uz.op_notIn_kd' Y.k_WITHIN) (pe_ix ix_tup (pv 0) pe_int (fun _ _ => rfl)) (pe_glob (v := .ref Y.a_WITHIN) (by rfl) Y.g_WITHIN rfl) (by with_unfolding_all rfl)) (pss_one (ps_ret (pe_callTy call_int1 (by rfl) Y.b_int (by decide +kernel) (pa_cons (pe_call G_is_leaf (hr.mono (by first | decide | omega)) (by rfl) Y.g_is_leaf Y.F_is_leaf.kp (B_is_leaf Y) .nil pass0 (pa_cons (pv 0) pa_nil)) pa_nil)))) pss_nil) (pss_cons (ps_asg (pv 0) (Uz.pg_star rfl (pgs_cons (pg_name (i := 2) sc_parts_of.nd rfl (by first | exact Or.inl rfl | exact Or.inr rfl)) (Uz.pgs_star (pg_name (i := 3) sc_parts_of.nd rfl (by first | exact Or.inl rfl | exact Or.inr rfl)) pgs_nil)))) (pss_cons (ps_if (pt_cmpR op_ne (pe_callB call_len (by rfl) Y.b_len PySem.boot_len (pa_cons (pv 3) pa_nil)) (pe_ix (Uz.ix_kd Y.k_WITHIN) (pe_glob (v := .ref Y.a_WITHIN) (by rfl) Y.g_WITHIN rfl) (pv 2) (fun _ _ => rfl)) (nomark _)) (pss_one (ps_ret pe_int)) pss_nil) (pss_cons (ps_set (i := 4) sc_parts_of.nd rfl (by first | exact Or.inl rfl | exact Or.inr rfl) pe_int) (pss_cons (ps_for PassesOwn.never rfl (pi_list (pv 3)) (pg_name (i := 5) sc_parts_of.nd rfl (by first | exact Or.inl rfl | exact Or.inr rfl)) (pss_cons (ps_set (i := 6) sc_parts_of.nd rfl (by first | exact Or.inl rfl | exact Or.inr rfl) (pe_ifExp (pt_truth (pe_callB call_isi (by rfl) Y.b_isinstance (by decide +kernel) (pa_cons (pv 5) (pa_cons (pe_bltn (v := .ty "tuple") (by rfl) Y.b_tuple (by decide +kernel) rfl) pa_nil))) (fun _ => rfl)) (pe_call G_parts_of (hr.mono (by first | decide | omega)) (by rfl) Y.g_parts_of Y.F_parts_of.kp (B_parts_of Y) .nil pass0 (pa_cons (pv 5) (pa_cons (pe_op op_sub (pv 1) pe_int) pa_nil))) pe_int)) (pss_cons (ps_if (pt_cmpR op_eq (pv 6) pe_int (nomark _)) (pss_one (ps_ret pe_int)) pss_nil) (pss_one (ps_aug (i := 4) sc_parts_of.nd rfl (by first | exact Or.inl rfl | exact Or.inr rfl) (pv 6) ip_add))))) (pss_one (ps_ret (pv 4))))))))), ?_⟩
      walk_at "w"
      cases d with
      | zero =>
        walk_at "w"
        rw [show Zp.T.cnt t 0 = 0 from T.cnt_gt (by have := t.deep_pos; omega)] at k
        exact k _ Kp.refl
      | succ d =>
        have z : decide (V.int ((d + 1 : Nat) : Int) = V.int 0) = false := decide_eq_false (fun z => by injection z; omega)
        walk_at "w"
        cases hl : t.leaf with
        | true =>
          obtain ⟨p, xs, u, rfl, hs, hz⟩ := head_leaf hl hv
          have z2 : decide (V.int (((V.str u :: xs).length : Nat) : Int) = V.int 0) = false := decide_eq_false (fun z => by injection z with z; rw [List.length_cons] at z; omega)
          walk_at "w"
          have z3 : (!decide (u ∈ [((Str.ofString "not"), V.int 1), ((Str.ofString "and"), V.int 2), ((Str.ofString "or"), V.int 2)].map (·.1))) = true := by rw [decide_eq_false hz]; rfl
          walk_at "w"
          refine ⟨_, t, rfl, hv, hn, hl, fun H' k1 => ?_⟩
          refine .inr ⟨true, rfl, ?_⟩
          rw [T.cnt_leaf hl] at k
          exact k _ (by walk_at "kp")
        | false =>
          obtain ⟨p, xs, rfl, hs, ha, hlen⟩ := tv_kids hl hv
          have z2 : decide (V.int (((V.str t.tag :: xs).length : Nat) : Int) = V.int 0) = false := decide_eq_false (fun z => by injection z with z; rw [List.length_cons] at z; omega)
          walk_at "w"
          have z3 : (!decide (t.tag ∈ [((Str.ofString "not"), V.int 1), ((Str.ofString "and"), V.int 2), ((Str.ofString "or"), V.int 2)].map (·.1))) = false := by
            rw [decide_eq_true (List.mem_map_of_mem (f := fun q : Str × V => q.1) (Zp.T.kids_tag hl))]; rfl
          have hm := Zp.T.kids_tag hl
          have z4 : (!decide (V.int (xs.length : Nat) = V.int (t.kids.length : Nat))) = false := by rw [hlen]; simp
          walk_at "w"
          rename_i q nq
          refine for_gen (walk_list xs) (fun i σ H' => ∃ (m : Nat) (o1 o2 : Option V), σ = [some (.ref p), some (.int ((d + 1 : Nat) : Int)), some (.str t.tag), some (.ref q), some (.int (m : Int)), o1, o2] ∧
            Kp No H H' ∧ H' q = some (.lst xs) ∧ cntL (t.kids.drop i) d m = cntL t.kids d 1) ?_ ?_ ?_ ?_
          · exact ⟨1, none, none, rfl, by walk_at "kp", upd_same, rfl⟩
          · rintro i σ H' ⟨m, o1, o2, _, _, e, _⟩
            exact SqL.of e
          · rintro i x σ H1 H2 hi ⟨m, o1, o2, rfl, k1, e1, e2⟩ k2 hx
            obtain ⟨dx, he, hdx⟩ := dps_get ha hx
            rw [List.getElem?_map, Option.map_eq_some_iff] at he
            obtain ⟨c, hc, rfl⟩ := he
            have hk : Kp No H H2 := k1.trans k2
            have hdx2 : Dp K H2 x c.d := hk.dp NoTup.no _ c.tupd hdx
            obtain ⟨px, xx, rfl, hsx⟩ := tv_any hdx2
            walk_at "w"
            refine ⟨.ref px, c, d, by omega, ?_, hdx2, Zp.T.kids_nm hn c (List.mem_of_getElem? hc), fun H3 k3 => ?_⟩
            · rw [show ((d + 1 : Nat) : Int) - 1 = (d : Nat) by omega]; rfl
            walk_at "w"
            have ed : t.kids.drop i = c :: t.kids.drop (i + 1) := by
              have hlt : i < t.kids.length := (List.getElem?_eq_some_iff.mp hc).1
              have e := (List.getElem?_eq_some_iff.mp hc).2
              rw [List.drop_eq_getElem_cons hlt, e]
            rw [ed, cntL_cons] at e2
            refine go_if (fun z => ?_) (fun z => ?_)
            · walk_at "w"
              have z0 : c.cnt d = 0 := by
                have := of_decide_eq_true z
                injection this with z
                omega
              rw [if_pos z0] at e2
              rw [cnt_kids hl, ← e2] at k
              exact k _ (by walk_at "kp")
            · walk_at "w"
              have z0 : ¬ c.cnt d = 0 := fun y => by
                rw [y] at z
                exact of_decide_eq_false z rfl
              rw [if_neg z0] at e2
              exact ⟨m + c.cnt d, _, _, rfl, hk.trans k3, k3 _ _ id (k2 _ _ id e1), e2⟩
          · rintro σ H1 ⟨m, o1, o2, rfl, k1, e1, e2⟩
            walk_at "w"
            rw [show t.kids.drop xs.length = [] from by rw [hlen]; exact List.drop_length .., cntL_nil] at e2
            rw [cnt_kids hl, ← e2] at k
            exact k _ k1
theorem B_is_test (Y : Top K mg w) : L2.Binds K Y.d_is_test ["test"] [] := Y.F_is_test.bindsN fun _ _ _ _ _ _ us hl => match us, hl with | [_], _ => rfl
theorem sc_is_test : FnScope ["test"] ["test"] (defScope s_is_test) := ⟨rfl, rfl, rfl, by decide +kernel, rfl, by decide +kernel, by decide +kernel⟩
theorem ok_is_test (Y : Top K mg w) : FnOk P w K mg base CX0 10 Y.a_is_test Y.d_is_test ["test"] (spIsTest K) := by
  have G_parts_of := ok_parts_of (P := P) (base := base) Y 6
  refine Y.F_is_test.ok sc_is_test (fun vs H Q E h => ?_) (fun cdv A outer s H vs Q E hr h => ?_)
  · obtain ⟨v, t, rfl, _⟩ := h
    rfl
  · obtain ⟨v, t, rfl, hv, hn, k⟩ := h
    refine ⟨_, PSs.nox (pss_one (ps_ret (pe_chain op_le op_le pe_int (pe_call G_parts_of (hr.mono (by first | decide | omega)) (by rfl) Y.g_parts_of Y.F_parts_of.kp (B_parts_of Y) .nil pass0 (pa_cons (pv 0) (pa_cons (pe_glob (v := .int 5) (by rfl) Y.c_DEEPEST.choose_spec ⟨_, rfl⟩) pa_nil))) (pe_glob (v := .int 15) (by rfl) Y.c_MOST_PARTS.choose_spec ⟨_, rfl⟩)))), ?_⟩
    walk_at "w"
    refine ⟨v, t, 5, by omega, rfl, hv, hn, fun H' k1 => ?_⟩
    walk_at "w"
    have := t.parts_pos
    refine go_if (fun z => ?_) (fun z => ?_)
    · walk_at "w"
      have e : decide (t.deep ≤ 5 ∧ t.parts ≤ 15) = decide (((t.cnt 5 : Nat) : Int) ≤ 15) := by
        have z := of_decide_eq_true z
        rw [decide_eq_decide]
        by_cases h : t.deep ≤ 5
        · rw [Zp.T.cnt_le h]; omega
        · rw [Zp.T.cnt_gt h] at z; omega
      rw [e] at k
      exact k _ k1
    · have e : decide (t.deep ≤ 5 ∧ t.parts ≤ 15) = false := by
        have z := of_decide_eq_false z
        refine decide_eq_false fun h => z ?_
        rw [Zp.T.cnt_le h.1]; omega
      rw [e] at k
      exact k _ k1
theorem B_look_test (Y : Top K mg w) : L2.Binds K Y.d_look_test ["test"] [] := Y.F_look_test.bindsN fun _ _ _ _ _ _ us hl => match us, hl with | [_], _ => rfl
theorem sc_look_test : FnScope ["test"] ["test"] (defScope s_look_test) := ⟨rfl, rfl, rfl, by decide +kernel, rfl, by decide +kernel, by decide +kernel⟩
theorem ok_look_test (Y : Top K mg w) : FnOk P w K mg base CX0 11 Y.a_look_test Y.d_look_test ["test"] (spLook K) := by
  have G_is_test := ok_is_test (P := P) (base := base) Y
  refine Y.F_look_test.ok sc_look_test (fun vs H Q E h => ?_) (fun cdv A outer s H vs Q E hr h => ?_)
  · obtain ⟨v, t, rfl, _⟩ := h
    rfl
  · obtain ⟨v, t, rfl, hv, hn, h1, h2, k⟩ := h
    refine ⟨_, PSs.nox (pss_one (ps_if (pt_not (pt_truth (pe_call G_is_test (hr.mono (by first | decide | omega)) (by rfl) Y.g_is_test Y.F_is_test.kp (B_is_test Y) .nil pass0 (pa_cons (pv 0) pa_nil)) (fun _ => rfl))) (pss_one ps_never) pss_nil)), ?_⟩
    walk_at "w"
    refine ⟨v, t, rfl, hv, hn, fun H' k1 => ?_⟩
    rw [decide_eq_true ⟨h1, h2⟩]
    walk_at "w"
    exact k _ k1
end
end Z

namespace Z
open PySem PySem.Spec PyProof.Rows L2 Zg Zp
def spLeaves (K : PySem.W.Frag) (n : Nat) : Sp := fun vs H Q _ => ∃ v t, vs = [v] ∧ Dp K H v (T.d t) ∧ t.deep ≤ n ∧ t.parts ≤ 1000 ∧
  ∀ H' p xs, Kp No H H' → H p = none → H' p = some (.lst xs) → DpAll K H' xs (t.leaves.map T.d) → Q (.ref p) H'
section
variable {P : Program} {w : World} {K : PySem.W.Frag} {mg : Str → Option Value} {base : Heap}
theorem leaves_flat {t : Zp.T} (h : t.leaf = false) : t.leaves = t.kids.flatMap Zp.T.leaves := by
  cases t with
  | nt a => simp [Zp.T.leaves, Zp.T.kids]
  | an a b => simp [Zp.T.leaves, Zp.T.kids]
  | orr a b => simp [Zp.T.leaves, Zp.T.kids]
  | _ => cases h
theorem leaves_leaf {t : Zp.T} (h : t.leaf = true) : t.leaves = [t] := by cases t <;> first | rfl | cases h
theorem leaves_len : ∀ t : Zp.T, t.leaves.length ≤ t.parts
  | .all => Nat.le_refl _
  | .is _ => Nat.le_refl _
  | .less _ _ => Nat.le_refl _
  | .same _ _ => Nat.le_refl _
  | .nt a => by have := leaves_len a; simp only [Zp.T.leaves, Zp.T.parts]; omega
  | .an a b => by have := leaves_len a; have := leaves_len b; simp only [Zp.T.leaves, Zp.T.parts, List.length_append]; omega
  | .orr a b => by have := leaves_len a; have := leaves_len b; simp only [Zp.T.leaves, Zp.T.parts, List.length_append]; omega
theorem kids_deep {t c : Zp.T} (h : c ∈ t.kids) : c.deep < t.deep ∧ c.parts < t.parts := by
  cases t <;> simp [Zp.T.kids] at h
  case nt a => subst h; exact ⟨Nat.lt_succ_self _, Nat.lt_succ_self _⟩
  case an a b => rcases h with rfl | rfl <;> simp only [Zp.T.deep, Zp.T.parts] <;> constructor <;> omega
  case orr a b => rcases h with rfl | rfl <;> simp only [Zp.T.deep, Zp.T.parts] <;> constructor <;> omega
theorem leaves_tupd (l : List Zp.T) : tupds (l.map Zp.T.d) = true := by
  induction l with
  | nil => rfl
  | cons a l ih => simp [tupds, Zp.T.tupd a, ih]
theorem dps_app {K : PySem.W.Frag} {H : Hp} {xs ys : List V} {ds es : List PyData} (h1 : DpAll K H xs ds) (h2 : DpAll K H ys es) : DpAll K H (xs ++ ys) (ds ++ es) := by
  induction ds generalizing xs with
  | nil => rw [dps_nil h1]; exact h2
  | cons d ds ih =>
    obtain ⟨v, r, rfl, a, b⟩ := dps_cons h1
    exact .cons a (ih b)
theorem dps_len {K : PySem.W.Frag} {H : Hp} : ∀ {ds : List PyData} {vs : List V}, DpAll K H vs ds → vs.length = ds.length
  | [], _, q => by rw [dps_nil q]; rfl
  | d :: ds, _, q => by
    obtain ⟨v, r, rfl, _, q2⟩ := dps_cons q
    simp [dps_len q2]
/-- kept where a list at D changes -/
theorem dps_list {K : PySem.W.Frag} {H H' : Hp} {D : Addr} {l : List V} {ds : List PyData} {xs : List V} (e : H D = some (.lst l)) (k : ∀ b o, b ≠ D → H b = some o → H' b = some o) (hd : tupds ds = true) (h : DpAll K H xs ds) : DpAll K H' xs ds :=
  Kp.dps (F := fun b => b = D) (fun b o n q => k b o n q) (fun b z => ⟨.lst l, by rw [show b = D from z]; exact e, ⟨fun _ y => (by cases y), fun _ _ y => (by cases y)⟩⟩) ds hd h
theorem upd_none {H : Hp} {q D : Addr} {o : HO} (h : upd H q o D = none) : H D = none ∧ D ≠ q := by
  by_cases z : D = q
  · rw [z, upd_same] at h; cases h
  · rw [upd_ne z] at h; exact ⟨h, z⟩
theorem flat_len {α β : Type} (l : List α) (f : α → List β) (i : Nat) : ((l.take i).flatMap f).length ≤ (l.flatMap f).length := by
  have e : l.flatMap f = (l.take i).flatMap f ++ (l.drop i).flatMap f := by rw [← List.flatMap_append, List.take_append_drop]
  rw [e, List.length_append]
  omega
theorem sc_leaves_in : FnScope ["test", "part", "leaf"] ["test"] (defScope s_leaves_in) := ⟨rfl, rfl, rfl, by decide +kernel, rfl, by decide +kernel, by decide +kernel⟩
theorem B_leaves_in (Y : Top K mg w) : L2.Binds K Y.d_leaves_in ["test"] [] := Y.F_leaves_in.bindsN fun _ _ _ _ _ _ us hl => match us, hl with | [_], _ => rfl
theorem ok_leaves_in (Y : Top K mg w) : ∀ n, FnOk P w K mg base CX0 (n + 1) Y.a_leaves_in Y.d_leaves_in ["test"] (spLeaves K n)
  | 0 => Y.F_leaves_in.ok sc_leaves_in (fun vs H Q E ⟨_, t, _, _, h, _⟩ => absurd h (by have := t.deep_pos; omega)) fun cdv A outer s H vs Q E hr ⟨_, t, _, _, h, _⟩ => absurd h (by have := t.deep_pos; omega)
  | n + 1 => by
    have G_leaves_in := ok_leaves_in Y n
    refine Y.F_leaves_in.ok sc_leaves_in (fun vs H Q E h => ?_) (fun cdv A outer s H vs Q E hr h => ?_)
    · obtain ⟨v, t, rfl, _⟩ := h
      rfl
    · obtain ⟨v, t, rfl, hv, hd, hp, k⟩ := h
      refine ⟨_, PSs.nox (pss_cons (ps_if (pt_cmpR (Uz.op_notIn_kd' Y.k_WITHIN) (pe_ix ix_tup (pv 0) pe_int (fun _ _ => rfl)) (pe_glob (v := .ref Y.a_WITHIN) (by rfl) Y.g_WITHIN rfl) (by with_unfolding_all rfl)) (pss_one (ps_ret (pe_lst (pa_cons (pv 0) pa_nil)))) pss_nil) (pss_one (ps_ret (pe_lc2 (own := [("part", 1), ("leaf", 2)]) (vs1 := [2]) (g := (gName 1)) (g1 := (gName 2)) (tt := tYes) (tt1 := tYes) rfl sc_leaves_in.nd (pi_tup (pe_slice sl_tupA (pv 0) (po_some pe_int) po_none)) (blkOk_by (N := ["test", "part", "leaf"]) (sc := defScope s_leaves_in) (by decide +kernel)) (by decide) (fun _ _ _ _ _ => (pg_name (i := 1) sc_leaves_in.nd rfl (by first | exact Or.inl rfl | exact Or.inr rfl))) (fun _ _ _ _ _ => pts_nil) (fun _ _ _ _ _ => (Uz.ki_list (K := K) (pe_call G_leaves_in (hr.mono (by first | decide | omega)) (by rfl) Y.g_leaves_in Y.F_leaves_in.kp (B_leaves_in Y) .nil pass0 (pa_cons (pv 1) pa_nil)))) (fun _ _ _ _ _ => (pg_name (i := 2) sc_leaves_in.nd rfl (by first | exact Or.inl rfl | exact Or.inr rfl))) (fun _ _ _ _ _ => pts_nil) (fun _ _ _ _ _ => (pv 2)))))), ?_⟩
      walk_at "w"
      cases hl : t.leaf with
      | true =>
        obtain ⟨p, xs, u, rfl, hs, hz⟩ := head_leaf hl hv
        have z3 : (!decide (u ∈ [((Str.ofString "not"), V.int 1), ((Str.ofString "and"), V.int 2), ((Str.ofString "or"), V.int 2)].map (·.1))) = true := by rw [decide_eq_false hz]; rfl
        walk_at "w"
        rename_i q nq
        rw [leaves_leaf hl] at k
        refine k _ q _ (Kp.refl.new nq) nq upd_same (.cons ((Kp.refl.new nq : Kp No H _).dp NoTup.no _ t.tupd hv) .nil)
      | false =>
        obtain ⟨p, xs, rfl, hs, ha, hlen⟩ := tv_kids hl hv
        have z3 : (!decide (t.tag ∈ [((Str.ofString "not"), V.int 1), ((Str.ofString "and"), V.int 2), ((Str.ofString "or"), V.int 2)].map (·.1))) = false := by
          rw [decide_eq_true (List.mem_map_of_mem (f := fun q : Str × V => q.1) (Zp.T.kids_tag hl))]; rfl
        walk_at "w"
        rename_i q nq
        have take1 : ∀ i c, t.kids[i]? = some c → t.kids.take (i + 1) = t.kids.take i ++ [c] := fun i c e => by rw [List.take_add_one, e]; rfl
        refine lc2_gen (K := K) (M := 1000) (walk_tup xs) (A := fun i acc H => DpAll K H acc (((t.kids.take i).flatMap Zp.T.leaves).map Zp.T.d) ∧ acc.length ≤ 1000) (fun H' k1 => k1.tup NoTup.no (SqT.of upd_same)) ⟨.nil, Nat.zero_le _⟩ ?_ ?_ (fun i acc H z => z.2) (by decide) ?_
          ?_ ?_ ?_
        · intro i acc H1 H2 l D' nD' e kk hA
          exact ⟨dps_list e kk (leaves_tupd _) hA.1, hA.2⟩
        · intro H1 D' nD' hA
          exact ⟨.nil, Nat.zero_le _⟩
        · intro D' i x H2 acc R hi nD' eD kk hA hx kont
          obtain ⟨dx, he, hdx⟩ := dps_get ha hx
          rw [List.getElem?_map, Option.map_eq_some_iff] at he
          obtain ⟨c, hc, rfl⟩ := he
          have k0 : Kp No H H2 := (Kp.refl.new nq).trans kk
          have kd := kids_deep (List.mem_of_getElem? hc)
          walk_at "w"
          refine ⟨x, c, rfl, k0.dp NoTup.no _ c.tupd hdx, by omega, by omega, fun H3 b ys k3 nb eb hb => ?_⟩
          refine ⟨b, rfl, ⟨_, SqL.of eb⟩, kont b ys H3 k3 (SqL.of eb) (fun z => ?_) ⟨?_, ?_⟩⟩
          · rw [z, eD] at nb; cases nb
          · rw [take1 i c hc, List.flatMap_append, List.map_append]
            refine dps_app (k3.dps NoTup.no _ (leaves_tupd _) hA.1) ?_
            simpa using hb
          · have l1 := dps_len (dps_app (k3.dps NoTup.no _ (leaves_tupd _) hA.1) hb)
            rw [l1, List.length_append, List.length_map, List.length_map]
            have l2 := flat_len t.kids Zp.T.leaves (i + 1)
            rw [take1 i c hc, List.flatMap_append, List.length_append, ← leaves_flat hl] at l2
            have l3 := leaves_len t
            have l4 : ([c].flatMap Zp.T.leaves).length = c.leaves.length := by simp
            omega
        · intro x
          rfl
        · intro x y H5 Q' q
          exact ⟨rfl, _, rfl, q⟩
        · intro D' acc H' nD' kk hA e
          have e2 : (t.kids.take xs.length).flatMap Zp.T.leaves = t.leaves := by rw [hlen, List.take_length, leaves_flat hl]
          rw [e2] at hA
          exact k _ D' acc ((Kp.refl.new nq).trans kk) (upd_none nD').1 e hA.1
theorem sc_leaves : FnScope ["test"] ["test"] (defScope s_leaves) := ⟨rfl, rfl, rfl, by decide +kernel, rfl, by decide +kernel, by decide +kernel⟩
theorem B_leaves (Y : Top K mg w) : L2.Binds K Y.d_leaves ["test"] [] := Y.F_leaves.bindsN fun _ _ _ _ _ _ us hl => match us, hl with | [_], _ => rfl
def spLeavesT (K : PySem.W.Frag) : Sp := fun vs H Q _ => ∃ v t, vs = [v] ∧ Dp K H v (T.d t) ∧ t.nm = true ∧ t.deep ≤ 5 ∧ t.parts ≤ 15 ∧
  ∀ H' p xs, Kp No H H' → H p = none → H' p = some (.lst xs) → DpAll K H' xs (t.leaves.map T.d) → Q (.ref p) H'
theorem ok_leaves (Y : Top K mg w) : FnOk P w K mg base CX0 12 Y.a_leaves Y.d_leaves ["test"] (spLeavesT K) := by
  have G_look_test := ok_look_test (P := P) (base := base) Y
  have G_leaves_in := ok_leaves_in (P := P) (base := base) Y 5
  refine Y.F_leaves.ok sc_leaves (fun vs H Q E h => ?_) (fun cdv A outer s H vs Q E hr h => ?_)
  · obtain ⟨v, t, rfl, _⟩ := h
    rfl
  · obtain ⟨v, t, rfl, hv, hn, h1, h2, k⟩ := h
    refine ⟨_, PSs.nox (pss_cons (ps_expr (pe_call G_look_test (hr.mono (by first | decide | omega)) (by rfl) Y.g_look_test Y.F_look_test.kp (B_look_test Y) .nil pass0 (pa_cons (pv 0) pa_nil))) (pss_one (ps_ret (pe_call G_leaves_in (hr.mono (by first | decide | omega)) (by rfl) Y.g_leaves_in Y.F_leaves_in.kp (B_leaves_in Y) .nil pass0 (pa_cons (pv 0) pa_nil))))), ?_⟩
    walk_at "w"
    refine ⟨v, t, rfl, hv, hn, h1, h2, fun H1 k1 => ?_⟩
    walk_at "w"
    refine ⟨v, t, rfl, k1.dp NoTup.no _ t.tupd hv, h1, by omega, fun H2 p xs k2 np e hd => ?_⟩
    exact k H2 p xs (k1.trans k2) (k1.free np id) e hd
theorem join_bound {t : Zp.T} (hl : t.leaf = false) (hn : t.nm = true) (hp : t.parts ≤ 1000) : ((t.kids.map Zp.T.text).map fun x => x.length).sum + (t.kids.map Zp.T.text).length * (Str.ofString ",").length ≤ 16777216 := by
  have e : (Str.ofString ",").length = 1 := by decide +kernel
  have one : ∀ c ∈ t.kids, c.text.length ≤ 20000 := fun c hc => by
    have := T.text_len (Zp.T.kids_nm hn c hc)
    have := (kids_deep hc).2
    omega
  rw [e]
  cases t with
  | nt a =>
    have := one a (by simp [Zp.T.kids])
    simp only [Zp.T.kids, List.map_cons, List.map_nil, List.sum_cons, List.sum_nil, List.length_cons, List.length_nil]
    omega
  | an a b =>
    have := one a (by simp [Zp.T.kids])
    have := one b (by simp [Zp.T.kids])
    simp only [Zp.T.kids, List.map_cons, List.map_nil, List.sum_cons, List.sum_nil, List.length_cons, List.length_nil]
    omega
  | orr a b =>
    have := one a (by simp [Zp.T.kids])
    have := one b (by simp [Zp.T.kids])
    simp only [Zp.T.kids, List.map_cons, List.map_nil, List.sum_cons, List.sum_nil, List.length_cons, List.length_nil]
    omega
  | _ => cases hl
theorem sc_text_of : FnScope ["test", "word", "inner", "within", "part"] ["test"] (defScope s_text_of) := ⟨rfl, rfl, rfl, by decide +kernel, rfl, by decide +kernel, by decide +kernel⟩
theorem B_text_of (Y : Top K mg w) : L2.Binds K Y.d_text_of ["test"] [] := Y.F_text_of.bindsN fun _ _ _ _ _ _ us hl => match us, hl with | [_], _ => rfl
def spText (K : PySem.W.Frag) (n : Nat) : Sp := fun vs H Q _ => ∃ v t, vs = [v] ∧ Dp K H v (T.d t) ∧ t.nm = true ∧ t.deep ≤ n ∧ t.parts ≤ 1000 ∧ ∀ H', Kp No H H' → Q (.str t.text) H'
theorem ok_text_of (Y : Top K mg w) : ∀ n, FnOk P w K mg base CX0 (n + 1) Y.a_text_of Y.d_text_of ["test"] (spText K n)
  | 0 => Y.F_text_of.ok sc_text_of (fun vs H Q E ⟨_, t, _, _, _, h, _⟩ => absurd h (by have := t.deep_pos; omega)) fun cdv A outer s H vs Q E hr ⟨_, t, _, _, _, h, _⟩ => absurd h (by have := t.deep_pos; omega)
  | n + 1 => by
    have G_text_of := ok_text_of Y n
    refine Y.F_text_of.ok sc_text_of (fun vs H Q E h => ?_) (fun cdv A outer s H vs Q E hr h => ?_)
    · obtain ⟨v, t, rfl, _⟩ := h
      rfl
    · obtain ⟨v, t, rfl, hv, hn, hd, hp, k⟩ := h
      refine ⟨_, PSs.nox (pss_cons (ps_asg (pv 0) (Uz.pg_star rfl (pgs_cons (pg_name (i := 1) sc_text_of.nd rfl (by first | exact Or.inl rfl | exact Or.inr rfl)) (Uz.pgs_star (pg_name (i := 2) sc_text_of.nd rfl (by first | exact Or.inl rfl | exact Or.inr rfl)) pgs_nil)))) (pss_cons (ps_if (pt_cmpR op_eq (pv 1) pe_str (nomark _)) (pss_one (ps_ret pe_str)) pss_nil) (pss_cons (ps_if (pt_cmpR op_eq (pv 1) pe_str (nomark _)) (pss_one (ps_ret (pe_op op_add_str pe_str (pe_ix ix_tup (pv 0) pe_int (fun _ _ => rfl))))) pss_nil) (pss_cons (ps_if (pt_cmpR op_eq (pv 1) pe_str (nomark _)) (pss_one (ps_ret (pe_joined (PJ.cons (pe_fmt (pe_ix ix_tup (pv 0) pe_int (fun _ _ => rfl))) (PJ.cons pe_str (PJ.cons (pe_fmt (pe_ix ix_tup (pv 0) pe_int (fun _ _ => rfl))) PJ.nil)))))) pss_nil) (pss_cons (ps_if (pt_cmpR op_eq (pv 1) pe_str (nomark _)) (pss_one (ps_ret (pe_joined (PJ.cons (pe_fmt (pe_ix ix_tup (pv 0) pe_int (fun _ _ => rfl))) (PJ.cons pe_str (PJ.cons (pe_fmt (pe_ix ix_tup (pv 0) pe_int (fun _ _ => rfl))) PJ.nil)))))) pss_nil) (pss_cons (ps_set (i := 3) sc_text_of.nd rfl (by first | exact Or.inl rfl | exact Or.inr rfl) (pe_join pe_str (pe_lc (own := [("part", 4)]) (g := (gName 4)) (tt := tYes) rfl sc_text_of.nd (pi_list (pv 2)) (blkOk_by (N := ["test", "word", "inner", "within", "part"]) (sc := defScope s_text_of) (by decide +kernel)) (fun _ _ _ _ _ => (pg_name (i := 4) sc_text_of.nd rfl (by first | exact Or.inl rfl | exact Or.inr rfl))) (fun _ _ _ _ _ => pts_nil) (fun _ _ _ _ _ => (pe_call G_text_of (hr.mono (by first | decide | omega)) (by rfl) Y.g_text_of Y.F_text_of.kp (B_text_of Y) .nil pass0 (pa_cons (pv 4) pa_nil)))))) (pss_one (ps_ret (pe_joined (PJ.cons (pe_fmt (pv 1)) (PJ.cons pe_str (PJ.cons (pe_fmt (pv 3)) (PJ.cons pe_str PJ.nil))))))))))))), ?_⟩
      walk_at "w"
      cases hl : t.leaf with
      | true =>
        cases t with
        | all =>
          obtain ⟨p, rfl, hs⟩ := tv_all hv
          walk_at "w"
          exact k _ (by walk_at "kp")
        | is s =>
          obtain ⟨p, rfl, hs⟩ := tv_is hv
          have l1 : (Str.ofString "is:" ++ s).length ≤ 20 := T.text_len hn
          have lb : (20 : Nat) ≤ sizeLine := by decide
          walk_at "w"
          refine go_catS ?_ ?_
          · rw [len_app] at l1
            omega
          exact k _ (by walk_at "kp")
        | less f i =>
          obtain ⟨p, rfl, hs⟩ := tv_three hv
          have l1 : (Str.empty ++ f ++ Str.ofString "<" ++ num i).length ≤ 20 := T.text_len hn
          have hn' : isName f = true ∧ inR i = true := by simpa [Zp.T.nm] using hn
          have lg := log_small (of_decide_eq_true hn'.2)
          have lb : (20 : Nat) ≤ sizeLine := by decide
          simp only [len_app, len_empty] at l1
          walk_at "w"
          refine go_fmt1 (by omega) (go_jsy ?_ ?_)
          · simp only [len_app, len_empty]
            omega
          walk_at "w"
          refine ⟨?_, ?_⟩
          · simp only [len_app, len_empty]
            omega
          walk_at "w"
          refine go_fmt2 lg (go_jsy ?_ ?_)
          · show (Str.empty ++ f ++ Str.ofString "<" ++ num i).length ≤ sizeLine
            simp only [len_app, len_empty]
            omega
          walk_at "w"
          exact k _ (by walk_at "kp")
        | same f i =>
          obtain ⟨p, rfl, hs⟩ := tv_three hv
          have l1 : (Str.empty ++ f ++ Str.ofString "=" ++ num i).length ≤ 20 := T.text_len hn
          have hn' : isName f = true ∧ inR i = true := by simpa [Zp.T.nm] using hn
          have lg := log_small (of_decide_eq_true hn'.2)
          have lb : (20 : Nat) ≤ sizeLine := by decide
          simp only [len_app, len_empty] at l1
          walk_at "w"
          refine go_fmt1 (by omega) (go_jsy ?_ ?_)
          · simp only [len_app, len_empty]
            omega
          walk_at "w"
          refine ⟨?_, ?_⟩
          · simp only [len_app, len_empty]
            omega
          walk_at "w"
          refine go_fmt2 lg (go_jsy ?_ ?_)
          · show (Str.empty ++ f ++ Str.ofString "=" ++ num i).length ≤ sizeLine
            simp only [len_app, len_empty]
            omega
          walk_at "w"
          exact k _ (by walk_at "kp")
        | _ => cases hl
      | false =>
        obtain ⟨p, xs, rfl, hs, ha, hlen⟩ := tv_kids hl hv
        have y1 : decide (V.str t.tag = V.str (Str.ofString "all")) = false := Zp.T.tag_ne hl (by decide +kernel) (by decide +kernel) (by decide +kernel)
        have y2 : decide (V.str t.tag = V.str (Str.ofString "is")) = false := Zp.T.tag_ne hl (by decide +kernel) (by decide +kernel) (by decide +kernel)
        have y3 : decide (V.str t.tag = V.str (Str.ofString "less")) = false := Zp.T.tag_ne hl (by decide +kernel) (by decide +kernel) (by decide +kernel)
        have y4 : decide (V.str t.tag = V.str (Str.ofString "same")) = false := Zp.T.tag_ne hl (by decide +kernel) (by decide +kernel) (by decide +kernel)
        walk_at "w"
        rename_i q nq
        have k0 : Kp No H (upd H q (.lst xs)) := Kp.refl.new nq
        refine lc_plain (walk_list xs) (fun i => .str (t.kids.getD i .all).text) (fun H' k1 => SqL.of (k1 _ _ id upd_same)) (by rw [hlen]; cases t <;> exact le_line rfl) (fun D i x H' l Q' hi hD e kk hx kont => ?_) (fun D H' hD kk e => ?_)
        · obtain ⟨dx, he, hdx⟩ := dps_get ha hx
          rw [List.getElem?_map, Option.map_eq_some_iff] at he
          obtain ⟨c, hc, rfl⟩ := he
          have kd := kids_deep (List.mem_of_getElem? hc)
          walk_at "w"
          refine ⟨x, c, rfl, (k0.trans kk).dp NoTup.no _ c.tupd hdx, Zp.T.kids_nm hn c (List.mem_of_getElem? hc), by omega, by omega, fun H4 k4 => ?_⟩
          have q := kont H4 k4
          rw [List.getD_eq_getElem?_getD, hc] at q
          exact q
        · walk_at "w"
          have e2 : H' D = some (.lst ((t.kids.map Zp.T.text).map V.str)) := by
            rw [e, hlen, List.map_map]
            refine congrArg (fun l => some (HO.lst l)) (map_range_get fun i a h => ?_)
            rw [List.getD_eq_getElem?_getD, h]
            rfl
          have tl := T.text_len hn
          have lb : (20000 : Nat) ≤ sizeLine := by decide
          rw [Zp.T.text_kids hl] at tl
          simp only [len_app, len_empty] at tl
          refine go_join (SqL.of e2) ?_ ?_
          · exact join_bound hl hn hp
          walk_at "w"
          refine go_fmt1 (by omega) (go_jsy ?_ ?_)
          · simp only [len_app, len_empty]
            omega
          walk_at "w"
          refine ⟨?_, ?_⟩
          · simp only [len_app, len_empty]
            omega
          walk_at "w"
          refine go_fmt1 (by omega) (go_jsy ?_ ?_)
          · simp only [len_app, len_empty]
            omega
          walk_at "w"
          refine ⟨?_, ?_⟩
          · simp only [len_app, len_empty]
            omega
          walk_at "w"
          rw [Zp.T.text_kids hl] at k
          exact k _ (k0.trans kk)
theorem sc_test_text : FnScope ["test"] ["test"] (defScope s_test_text) := ⟨rfl, rfl, rfl, by decide +kernel, rfl, by decide +kernel, by decide +kernel⟩
theorem B_test_text (Y : Top K mg w) : L2.Binds K Y.d_test_text ["test"] [] := Y.F_test_text.bindsN fun _ _ _ _ _ _ us hl => match us, hl with | [_], _ => rfl
def spTestText (K : PySem.W.Frag) : Sp := fun vs H Q _ => ∃ v t, vs = [v] ∧ Dp K H v (T.d t) ∧ t.nm = true ∧ t.deep ≤ 5 ∧ t.parts ≤ 15 ∧ ∀ H', Kp No H H' → Q (.str t.text) H'
theorem ok_test_text (Y : Top K mg w) : FnOk P w K mg base CX0 12 Y.a_test_text Y.d_test_text ["test"] (spTestText K) := by
  have G_look_test := ok_look_test (P := P) (base := base) Y
  have G_text_of := ok_text_of (P := P) (base := base) Y 5
  refine Y.F_test_text.ok sc_test_text (fun vs H Q E h => ?_) (fun cdv A outer s H vs Q E hr h => ?_)
  · obtain ⟨v, t, rfl, _⟩ := h
    rfl
  · obtain ⟨v, t, rfl, hv, hn, h1, h2, k⟩ := h
    refine ⟨_, PSs.nox (pss_cons (ps_expr (pe_call G_look_test (hr.mono (by first | decide | omega)) (by rfl) Y.g_look_test Y.F_look_test.kp (B_look_test Y) .nil pass0 (pa_cons (pv 0) pa_nil))) (pss_one (ps_ret (pe_call G_text_of (hr.mono (by first | decide | omega)) (by rfl) Y.g_text_of Y.F_text_of.kp (B_text_of Y) .nil pass0 (pa_cons (pv 0) pa_nil))))), ?_⟩
    walk_at "w"
    refine ⟨v, t, rfl, hv, hn, h1, h2, fun H1 k1 => ?_⟩
    walk_at "w"
    exact ⟨v, t, rfl, k1.dp NoTup.no _ t.tupd hv, hn, h1, by omega, fun H2 k2 => k H2 (k1.trans k2)⟩
end
end Z

namespace Z
open PySem PySem.Spec PyProof.Rows L2 Zg Zp
def spNumber : Sp := fun vs H Q _ => ∃ s r, vs = [.str s, .int 6] ∧ ((cs s = [] ∧ r = V.non) ∨ ∃ n, Zp.inR n = true ∧ s = num n ∧ r = V.int n) ∧ ∀ H', Kp No H H' → Q r H'
section
variable {P : Program} {w : World} {K : PySem.W.Frag} {mg : Str → Option Value} {base : Heap}
theorem figures_in {c : Nat} (h : 48 ≤ c ∧ c ≤ 57) : decide (c ∈ (Str.ofString "0123456789").cps.toList) = true := by
  rw [show (Str.ofString "0123456789").cps.toList = (List.range 10).map (· + 48) from by decide +kernel]
  exact decide_eq_true (List.mem_map.mpr ⟨c - 48, List.mem_range.mpr (by omega), by omega⟩)
theorem sc_number_in : FnScope ["text", "most", "figures", "sign"] ["text", "most"] (defScope s_number_in) := ⟨rfl, rfl, rfl, by decide +kernel, rfl, by decide +kernel, by decide +kernel⟩
theorem BV_number_in_1 (Y : Top K mg w) : ∃ ds, Vals [V.int 6] ds ∧ L2.Binds K Y.d_number_in ["text", "most"] ds := by
  refine Y.F_number_in.binds1 1 0 (by decide) rfl fun T kV doc pm an cdv ct us its hu hi => ?_
  match us, hu, its, hi with
  | [a], _, [d], _ => exact ⟨_, rfl, rfl⟩
theorem ok_number_in (Y : Top K mg w) : FnOk P w K mg base CX0 1 Y.a_number_in Y.d_number_in ["text", "most"] spNumber := by
  refine Y.F_number_in.ok sc_number_in (fun vs H Q E h => ?_) (fun cdv A outer s H vs Q E hr h => ?_)
  · obtain ⟨s, r, rfl, _⟩ := h
    rfl
  · obtain ⟨s, r, rfl, hc, k⟩ := h
    refine ⟨_, PSs.nox (pss_cons (ps_set (i := 2) sc_number_in.nd rfl (by first | exact Or.inl rfl | exact Or.inr rfl) (pe_ifExp (pt_cmpR op_eq (pe_slice sl_str (pv 0) po_none (po_some pe_int)) pe_str (nomark _)) (pe_slice sl_str (pv 0) (po_some pe_int) po_none) (pv 0))) (pss_cons (ps_if (PW.pt (pw_or (pt_not (pt_chain op_le op_le pe_int (pe_callB call_len (by rfl) Y.b_len PySem.boot_len (pa_cons (pv 2) pa_nil)) (pv 1))) (pw_or1 (pt_not (pt_truth (pe_callB (cr_all rfl) (by rfl) Y.b_all (by decide +kernel) (pa_cons (pe_lc (own := [("sign", 3)]) (g := (gName 3)) (tt := tYes) rfl sc_number_in.nd (pi_str (pv 2)) (blkOk_by (N := ["text", "most", "figures", "sign"]) (sc := defScope s_number_in) (by decide +kernel)) (fun _ _ _ _ _ => (pg_name (i := 3) sc_number_in.nd rfl (by first | exact Or.inl rfl | exact Or.inr rfl))) (fun _ _ _ _ _ => pts_nil) (fun _ _ _ _ _ => (pe_cmpR op_in_sign (pv 3) (pe_glob (v := .str "0123456789") (by rfl) Y.c_FIGURES.choose_spec ⟨_, rfl⟩) (by with_unfolding_all rfl)))) pa_nil)) (fun _ => rfl)))))) (pss_one (ps_ret pe_non)) pss_nil) (pss_cons (ps_if (PW.pt (pw_and (pt_cmpR op_eq (pe_ix ix_str (pv 2) pe_int (fun _ _ => rfl)) pe_str (nomark _)) (pw_and1 (pt_cmpR op_ne (pv 0) pe_str (nomark _))))) (pss_one (ps_ret pe_non)) pss_nil) (pss_one (ps_ret (pe_callTy call_int_str (by rfl) Y.b_int (by decide +kernel) (pa_cons (pv 0) pa_nil))))))), ?_⟩
    rcases hc with ⟨hs, rfl⟩ | ⟨n, hn, rfl, rfl⟩
    · have e0 : s = Str.empty := ext_cs hs
      subst e0
      have hz : Str.empty.length ≤ sizeLine := by decide
      walk_at "w"
      exact k _ Kp.refl
    · have hz : (num n).length ≤ sizeLine := Nat.le_trans (num_len hn) (by decide)
      obtain ⟨m, hm, ⟨eF, en⟩ | ⟨eN, hp, en⟩⟩ := num_parts hn
      · walk_at "w"
        have z0 : decide (V.str (cutS (num n) none (some 1)) = V.str (Str.ofString "-")) = false := by
          refine decide_eq_false fun y => ?_
          injection y with y
          rw [cut_to (k := 1) (n := 1) rfl, eF] at y
          have y := congrArg cs y
          have y : (dg m).take 1 = cs (Str.ofString "-") := y
          rw [show cs (Str.ofString "-") = [45] from by decide +kernel] at y
          have := dg_of m 45 (List.mem_of_mem_take (by rw [y]; exact List.mem_cons_self ..))
          omega
        walk_at "w"
        have l1 := dg_len hm
        have lF : (num n).length = (dg m).length := by rw [len_cs, eF]
        have z1 : decide ((1 : Int) ≤ ((num n).length : Int)) = true := decide_eq_true (by omega)
        have z2 : (!decide (((num n).length : Int) ≤ 6)) = false := by rw [decide_eq_true (by omega)]; rfl
        walk_at "w"
        refine lc_strP (fun c => .bl true) (by rw [lF]; exact Nat.le_trans l1.2 (by decide)) (fun c H' Q' hc k1 q => ?_) (fun D H' hD k1 e => ?_)
        · walk_at "go"
          rw [figures_in (dg_of m c (by rw [← eF]; exact hc))]
          exact q _ Kp.refl
        · walk_at "w"
          have e' : H' D = some (.lst (((cs (num n)).map fun _ => true).map V.bl)) := by rw [e, List.map_map]; rfl
          refine go_all (SqL.of e') ?_
          have e3 : (((cs (num n)).map fun _ => true).all id) = true := by rw [List.all_map]; exact List.all_eq_true.mpr fun _ _ => rfl
          rw [e3]
          walk_at "w"
          have hix : ∃ c r, dg m = c :: r := by
            cases q : dg m with
            | nil => exact absurd q (dg_ne m)
            | cons c r => exact ⟨c, r, rfl⟩
          obtain ⟨c0, r0, ec⟩ := hix
          have hx0 : atI (num n).cps.toList (0 : Int) = some c0 := by
            have e4 : (num n).cps.toList = c0 :: r0 := eF.trans ec
            rw [e4]; exact atI_zero
          refine go_ixS (by rw [lF]; exact Nat.le_trans l1.2 (by decide)) hx0 ?_
          walk_at "w"
          refine go_if (fun y => ?_) (fun y => ?_)
          · have y := of_decide_eq_true y
            injection y with y
            have y2 : c0 = 48 := by
              have := congrArg cs y
              rw [show cs (Str.ofString "0") = [48] from by decide +kernel] at this
              injection this
            subst y2
            have m0 := dg_head m r0 ec
            subst m0
            have e5 : num n = Str.ofString "0" := ext_cs (by rw [eF, dg_zero]; decide +kernel)
            have y3 : (!decide (V.str (num n) = V.str (Str.ofString "0"))) = false := by rw [e5, decide_eq_true rfl]; rfl
            walk_at "w"
            exact go_intS (num_reads' hn).1 (num_reads' hn).2 (k _ k1)
          · walk_at "w"
            exact go_intS (num_reads' hn).1 (num_reads' hn).2 (k _ k1)
      · walk_at "w"
        have z0 : decide (V.str (cutS (num n) none (some 1)) = V.str (Str.ofString "-")) = true := by
          refine decide_eq_true (congrArg V.str (ext_cs ?_))
          rw [cut_to (k := 1) (n := 1) rfl, eN]
          exact (show [45] = cs (Str.ofString "-") by decide +kernel)
        have eF : cs (⟨(dg m).toArray⟩ : Str) = dg m := rfl
        walk_at "w"
        rw [cut_from (k := 1) (a := [45]) (b := dg m) eN rfl]
        have hzF : (⟨(dg m).toArray⟩ : Str).length ≤ sizeLine := Nat.le_trans (dg_len hm).2 (by decide)
        walk_at "w"
        have l1 := dg_len hm
        have lF : ((⟨(dg m).toArray⟩ : Str)).length = (dg m).length := by rw [len_cs, eF]
        have z1 : decide ((1 : Int) ≤ (((⟨(dg m).toArray⟩ : Str)).length : Int)) = true := decide_eq_true (by omega)
        have z2 : (!decide ((((⟨(dg m).toArray⟩ : Str)).length : Int) ≤ 6)) = false := by rw [decide_eq_true (by omega)]; rfl
        walk_at "w"
        refine lc_strP (fun c => .bl true) (by rw [lF]; exact Nat.le_trans l1.2 (by decide)) (fun c H' Q' hc k1 q => ?_) (fun D H' hD k1 e => ?_)
        · walk_at "go"
          rw [figures_in (dg_of m c (by rw [← eF]; exact hc))]
          exact q _ Kp.refl
        · walk_at "w"
          have e' : H' D = some (.lst (((cs ((⟨(dg m).toArray⟩ : Str))).map fun _ => true).map V.bl)) := by rw [e, List.map_map]; rfl
          refine go_all (SqL.of e') ?_
          have e3 : (((cs ((⟨(dg m).toArray⟩ : Str))).map fun _ => true).all id) = true := by rw [List.all_map]; exact List.all_eq_true.mpr fun _ _ => rfl
          rw [e3]
          walk_at "w"
          have hix : ∃ c r, dg m = c :: r := by
            cases q : dg m with
            | nil => exact absurd q (dg_ne m)
            | cons c r => exact ⟨c, r, rfl⟩
          obtain ⟨c0, r0, ec⟩ := hix
          have hx0 : atI ((⟨(dg m).toArray⟩ : Str)).cps.toList (0 : Int) = some c0 := by
            have e4 : ((⟨(dg m).toArray⟩ : Str)).cps.toList = c0 :: r0 := eF.trans ec
            rw [e4]; exact atI_zero
          refine go_ixS (by rw [lF]; exact Nat.le_trans l1.2 (by decide)) hx0 ?_
          walk_at "w"
          refine go_if (fun y => ?_) (fun y => ?_)
          · have y := of_decide_eq_true y
            injection y with y
            have y2 : c0 = 48 := by
              have := congrArg cs y
              rw [show cs (Str.ofString "0") = [48] from by decide +kernel] at this
              injection this
            subst y2
            have m0 := dg_head m r0 ec
            omega
          · walk_at "w"
            exact go_intS (num_reads' hn).1 (num_reads' hn).2 (k _ k1)
end
end Z

namespace Z
open PySem PySem.Spec PyProof.Rows L2 Zg Zp
def spParted : Sp := fun vs H Q _ => ∃ (x : Str) (a b : List Nat), vs = [.str x] ∧ x.length ≤ 100000 ∧ cs x = a ++ 44 :: b ∧ lev a 0 = 0 ∧ okc a 0 = true ∧ ∀ H' p, Kp No H H' → H p = none → H' p = some (.lst [.str ⟨a.toArray⟩, .str ⟨b.toArray⟩]) → Q (.ref p) H'
section
variable {P : Program} {w : World} {K : PySem.W.Frag} {mg : Str → Option Value} {base : Heap}
theorem sc_parted_at : FnScope ["text", "deep", "at", "sign"] ["text"] (defScope s_parted_at) := ⟨rfl, rfl, rfl, by decide +kernel, rfl, by decide +kernel, by decide +kernel⟩
theorem B_parted_at (Y : Top K mg w) : L2.Binds K Y.d_parted_at ["text"] [] := Y.F_parted_at.bindsN fun _ _ _ _ _ _ us hl => match us, hl with | [_], _ => rfl
theorem ok_parted_at (Y : Top K mg w) : FnOk P w K mg base CX0 1 Y.a_parted_at Y.d_parted_at ["text"] spParted := by
  refine Y.F_parted_at.ok sc_parted_at (fun vs H Q E h => ?_) (fun cdv A outer s H vs Q E hr h => ?_)
  · obtain ⟨x, a, b, rfl, _⟩ := h
    rfl
  · obtain ⟨x, a, b, rfl, hl, hx, h1, h2, k⟩ := h
    refine ⟨_, PSs.nox (pss_cons (ps_set (i := 1) sc_parted_at.nd rfl (by first | exact Or.inl rfl | exact Or.inr rfl) pe_int) (pss_cons (ps_for PassesOwn.never rfl (Uz.pi_enumS (by rfl) Y.b_enumerate (pa_cons (pv 0) pa_nil)) (pg_tup rfl (pgs_cons (pg_name (i := 2) sc_parted_at.nd rfl (by first | exact Or.inl rfl | exact Or.inr rfl)) (pgs_cons (pg_name (i := 3) sc_parted_at.nd rfl (by first | exact Or.inl rfl | exact Or.inr rfl)) pgs_nil))) (pss_one (ps_if (pt_cmpR op_eq (pv 3) pe_str (nomark _)) (pss_one (ps_aug (i := 1) sc_parted_at.nd rfl (by first | exact Or.inl rfl | exact Or.inr rfl) pe_int ip_add)) (pss_one (ps_if (pt_cmpR op_eq (pv 3) pe_str (nomark _)) (pss_one (ps_aug (i := 1) sc_parted_at.nd rfl (by first | exact Or.inl rfl | exact Or.inr rfl) pe_int ip_sub)) (pss_one (ps_if (PW.pt (pw_and (pt_cmpR op_eq (pv 3) pe_str (nomark _)) (pw_and1 (pt_cmpR op_eq (pv 1) pe_int (nomark _))))) (pss_one (ps_ret (pe_lst (pa_cons (pe_slice sl_str (pv 0) po_none (po_some (pv 2))) (pa_cons (pe_slice sl_str (pv 0) (po_some (pe_op op_add (pv 2) pe_int)) po_none) pa_nil))))) pss_nil))))))) (pss_one (ps_ret pe_non)))), ?_⟩
    walk_at "w"
    have lx : (cs x).length = a.length + (b.length + 1) := by rw [hx, List.length_append, List.length_cons]
    have lz : x.length ≤ sizeLine := Nat.le_trans hl (by decide)
    refine for_gen (Uz.walk_enumS x) (fun i σ H' => ∃ o2 o3 : Option V, σ = [some (.str x), some (.int (lev ((cs x).take i) 0)), o2, o3] ∧ Kp No H H' ∧ i ≤ a.length) ?_ (fun _ _ _ _ => trivial) ?_ ?_
    · exact ⟨none, none, rfl, Kp.refl, Nat.zero_le _⟩
    · rintro i v σ H1 H2 hi ⟨o2, o3, rfl, k1, hia⟩ k2 ⟨T, c, rfl, eT, hc⟩
      have hk := k1.trans k2
      have hc : (cs x)[i]? = some c := by simpa using hc
      have e40 := sg1 (c := c) (z := Str.ofString "(") (d := 40) (by decide +kernel)
      have e41 := sg1 (c := c) (z := Str.ofString ")") (d := 41) (by decide +kernel)
      have e44 := sg1 (c := c) (z := Str.ofString ",") (d := 44) (by decide +kernel)
      have st : lev ((cs x).take (i + 1)) 0 = lev [c] (lev ((cs x).take i) 0) := by rw [List.take_add_one, hc, lev_app]; rfl
      walk_at "w"
      rw [e40]
      rcases Nat.lt_or_ge i a.length with hlt | hge
      · have ta : (cs x).take i = a.take i := by rw [hx, List.take_append_of_le_length (by omega)]
        have ca : a[i]? = some c := by rw [hx, List.getElem?_append_left hlt] at hc; exact hc
        have ok : okc (c :: a.drop (i + 1)) (lev (a.take i) 0) = true := by
          have e := h2
          rw [← List.take_append_drop i a, okc_app] at e
          have e := (Bool.and_eq_true_iff.mp e).2
          have hd : a.drop i = c :: a.drop (i + 1) := by
            have hl2 := (List.getElem?_eq_some_iff.mp ca).2
            rw [List.drop_eq_getElem_cons hlt, hl2]
          rw [hd] at e
          exact e
        refine go_if (fun y => ?_) (fun y => ?_)
        · have y := of_decide_eq_true y
          walk_at "w"
          refine ⟨some (.int i), some (.str ⟨#[c]⟩), ?_, hk, by omega⟩
          rw [st, y]
          rfl
        · have y := of_decide_eq_false y
          walk_at "w"
          rw [e41]
          refine go_if (fun y2 => ?_) (fun y2 => ?_)
          · have y2 := of_decide_eq_true y2
            walk_at "w"
            refine ⟨some (.int i), some (.str ⟨#[c]⟩), ?_, hk, by omega⟩
            rw [st, y2]
            rfl
          · have y2 := of_decide_eq_false y2
            have st2 : lev ((cs x).take (i + 1)) 0 = lev ((cs x).take i) 0 := by
              rw [st]
              show (if c = 40 then lev [] (_ + 1) else if c = 41 then lev [] (_ - 1) else lev [] _) = _
              rw [if_neg y, if_neg y2]
              rfl
            have ok2 : (decide (c = 44) && decide (lev (a.take i) 0 = 0)) = false := by
              have ok : (if c = 40 then okc (a.drop (i + 1)) (lev (a.take i) 0 + 1) else if c = 41 then okc (a.drop (i + 1)) (lev (a.take i) 0 - 1) else (!(decide (c = 44) && decide (lev (a.take i) 0 = 0))) && okc (a.drop (i + 1)) (lev (a.take i) 0)) = true := ok
              rw [if_neg y, if_neg y2] at ok
              have q := (Bool.and_eq_true_iff.mp ok).1
              revert q
              cases (decide (c = 44) && decide (lev (a.take i) 0 = 0)) <;> simp
            walk_at "w"
            rw [e44]
            refine go_if (fun y3 => ?_) (fun y3 => ?_)
            · walk_at "w"
              have z : decide (V.int (lev ((cs x).take i) 0) = V.int 0) = false := by
                rw [y3, Bool.true_and] at ok2
                rw [ta]
                exact decide_eq_false fun z => of_decide_eq_false ok2 (by injection z)
              walk_at "w"
              refine ⟨some (.int i), some (.str ⟨#[c]⟩), ?_, hk, by omega⟩
              rw [st2]
              rfl
            · walk_at "w"
              refine ⟨some (.int i), some (.str ⟨#[c]⟩), ?_, hk, by omega⟩
              rw [st2]
              rfl
      · have ei : i = a.length := by omega
        subst ei
        have hc44 : c = 44 := by
          rw [hx, List.getElem?_append_right (Nat.le_refl _)] at hc
          simpa using hc.symm
        subst hc44
        have ta : (cs x).take a.length = a := by rw [hx, List.take_left]
        rw [ta, h1]
        walk_at "w"
        rename_i p np
        rw [cut_to (k := (a.length : Int)) (n := a.length) rfl, cut_from (k := (a.length : Int) + 1) (a := a ++ [44]) (b := b) (by rw [hx]; simp) (by simp), ta]
        exact k _ p (hk.new np) (k1.free (k2.free np id) id) upd_same
    · rintro σ H1 ⟨o2, o3, rfl, k1, hia⟩
      have : x.cps.size = (cs x).length := rfl
      omega
end
end Z

namespace Z
open PySem PySem.Spec PyProof.Rows L2 Zg Zp
def spLeafIn (K : PySem.W.Frag) : Sp := fun vs H Q _ => ∃ t : Zp.T, vs = [.str t.text] ∧ t.leaf = true ∧ t.nm = true ∧ ∀ H' v, Kp No H H' → Dp K H' v t.d → Q v H'
section
variable {P : Program} {w : World} {K : PySem.W.Frag} {mg : Str → Option Value} {base : Heap}
theorem str_cs (a b : Str) : decide (V.str a = V.str b) = decide (cs a = cs b) := by
  rw [decide_eq_decide]
  constructor
  · intro e
    injection e with e
    rw [e]
  · intro e
    rw [ext_cs e]
theorem cs_all' : cs (Str.ofString "all") = [97, 108, 108] := cs_all
theorem sc_leaf_in : FnScope ["text", "sign", "head", "mark", "tail", "number"] ["text"] (defScope s_leaf_in) := ⟨rfl, rfl, rfl, by decide +kernel, rfl, by decide +kernel, by decide +kernel⟩
theorem B_leaf_in (Y : Top K mg w) : L2.Binds K Y.d_leaf_in ["text"] [] := Y.F_leaf_in.bindsN fun _ _ _ _ _ _ us hl => match us, hl with | [_], _ => rfl
theorem ok_leaf_in (Y : Top K mg w) : FnOk P w K mg base CX0 2 Y.a_leaf_in Y.d_leaf_in ["text"] (spLeafIn K) := by
  have G_number_in := ok_number_in (P := P) (base := base) Y
  obtain ⟨dn, V_number_in_1, B_number_in_1⟩ := BV_number_in_1 Y
  refine Y.F_leaf_in.ok sc_leaf_in (fun vs H Q E h => ?_) (fun cdv A outer s H vs Q E hr h => ?_)
  · obtain ⟨t, rfl, _⟩ := h
    rfl
  · obtain ⟨t, rfl, hl, hn, k⟩ := h
    have lz : t.text.length ≤ sizeLine := by
      have := T.text_len hn
      have e : t.parts = 1 := by cases t <;> first | rfl | cases hl
      have lb : (20 : Nat) ≤ sizeLine := by decide
      omega
    refine ⟨_, PSs.nox (pss_cons (ps_if (pt_cmpR op_eq (pv 0) pe_str (nomark _)) (pss_one (ps_ret (pe_tup (pa_cons pe_str pa_nil)))) pss_nil) (pss_cons (ps_if (pt_cmpR op_eq (pe_slice sl_str (pv 0) po_none (po_some pe_int)) pe_str (nomark _)) (pss_one (ps_ret (pe_tup (pa_cons pe_str (pa_cons (pe_slice sl_str (pv 0) (po_some pe_int) po_none) pa_nil))))) pss_nil) (pss_cons (ps_for PassesOwn.never rfl (Uz.pi_kd Y.k_SIGNS (pe_glob (v := .ref Y.a_SIGNS) (by rfl) Y.g_SIGNS rfl)) (pg_name (i := 1) sc_leaf_in.nd rfl (by first | exact Or.inl rfl | exact Or.inr rfl)) (pss_cons (ps_asg (pe_partition (pv 0) (pv 1)) (pg_tup rfl (pgs_cons (pg_name (i := 2) sc_leaf_in.nd rfl (by first | exact Or.inl rfl | exact Or.inr rfl)) (pgs_cons (pg_name (i := 3) sc_leaf_in.nd rfl (by first | exact Or.inl rfl | exact Or.inr rfl)) (pgs_cons (pg_name (i := 4) sc_leaf_in.nd rfl (by first | exact Or.inl rfl | exact Or.inr rfl)) pgs_nil))))) (pss_cons (ps_set (i := 5) sc_leaf_in.nd rfl (by first | exact Or.inl rfl | exact Or.inr rfl) (pe_call G_number_in (hr.mono (by first | decide | omega)) (by rfl) Y.g_number_in Y.F_number_in.kp B_number_in_1 V_number_in_1 pass0 (pa_cons (pv 4) pa_nil))) (pss_one (ps_if (PW.pt (pw_and (pt_cmpR op_ne (pv 3) pe_str (nomark _)) (pw_and1 (pt_cmpR op_notN (pv 5) pe_non (nomark _))))) (pss_one (ps_ret (pe_tup (pa_cons (pe_ix (Uz.ix_kd Y.k_SIGNS) (pe_glob (v := .ref Y.a_SIGNS) (by rfl) Y.g_SIGNS rfl) (pv 1) (fun _ _ => rfl)) (pa_cons (pv 2) (pa_cons (pv 5) pa_nil)))))) pss_nil))))) (pss_one (ps_ret pe_non))))), ?_⟩
    walk_at "w"
    cases t with
    | all =>
      walk_at "w"
      rename_i p np
      exact k _ _ (Kp.refl.new np) (.tup (SqT.of upd_same) (.cons (.str _) .nil))
    | is s =>
      have hn : isName s = true := hn
      have z1 : decide (V.str (Zp.T.is s).text = V.str (Str.ofString "all")) = false := by
        rw [str_cs, show cs (Zp.T.is s).text = [105, 115, 58] ++ cs s from tx_is s, cs_all]
        exact decide_eq_false fun e => by cases e
      walk_at "w"
      have z2 : decide (V.str (cutS (Zp.T.is s).text none (some 3)) = V.str (Str.ofString "is:")) = true := by
        rw [str_cs, cut_to (k := 3) (n := 3) rfl, show cs (Zp.T.is s).text = [105, 115, 58] ++ cs s from tx_is s, cs_is]
        exact decide_eq_true rfl
      walk_at "w"
      rename_i p np
      rw [cut_from (k := 3) (a := [105, 115, 58]) (b := cs s) (tx_is s) rfl]
      exact k _ _ (Kp.refl.new np) (.tup (SqT.of upd_same) (.cons (.str _) (.cons (.str _) .nil)))
    | less f n =>
      have hn : isName f = true ∧ Zp.inR n = true := by simpa [Zp.T.nm] using hn
      have et := tx_less f n
      have z1 : decide (V.str (Zp.T.less f n).text = V.str (Str.ofString "all")) = false := by
        rw [str_cs, show cs (Zp.T.less f n).text = _ from et, cs_all]
        refine decide_eq_false fun e => ?_
        have : 60 ∈ [97, 108, 108] := by rw [← e]; simp
        simp at this
      walk_at "w"
      have z2 : decide (V.str (cutS (Zp.T.less f n).text none (some 3)) = V.str (Str.ofString "is:")) = false := by
        rw [str_cs, cut_to (k := 3) (n := 3) rfl, show cs (Zp.T.less f n).text = _ from et, cs_is]
        refine decide_eq_false fun e => ?_
        have h58 : 58 ∈ cs f ++ 60 :: cs (num n) := List.mem_of_mem_take (i := 3) (show 58 ∈ List.take 3 _ from by rw [show List.take 3 (cs f ++ 60 :: cs (num n)) = [105, 115, 58] from e]; simp)
        rcases List.mem_append.mp h58 with h | h
        · have := letter_of hn.1 58 h; omega
        · rcases List.mem_cons.mp h with h | h
          · omega
          · have := num_of n 58 h; omega
      walk_at "w"
      refine for_gen (Uz.walk_kd _) (fun i σ H' => i = 0 ∧ σ = L2.start ["text", "sign", "head", "mark", "tail", "number"] [.str (Zp.T.less f n).text] ∧ Kp No H H') ?_ (fun _ _ _ _ => trivial) ?_ ?_
      · exact ⟨rfl, rfl, Kp.refl⟩
      · rintro i v σ H1 H2 hi ⟨rfl, rfl, k1⟩ k2 ⟨z, hz, rfl⟩
        obtain rfl : Str.ofString "<" = z := Option.some.inj hz
        walk_at "w"
        refine ⟨by decide +kernel, lz, fun p np => ?_⟩
        rw [part_T (c := 60) (a := cs f) (b := cs (num n)) (by decide +kernel) et (fun h => by have := letter_of hn.1 60 h; omega)]
        walk_at "w"
        refine ⟨num n, .int n, rfl, .inr ⟨n, hn.2, rfl, rfl⟩, fun H3 k3 => ?_⟩
        walk_at "w"
        refine Uz.go_kd (.str (Str.ofString "less")) (.head _) ?_
        walk_at "w"
        rename_i q nq
        exact k _ _ (((((k1.trans k2).new np).trans k3)).new nq) (.tup (SqT.of upd_same) (.cons (.str _) (.cons (.str _) (.cons (.int _) .nil))))
      · rintro σ H1 ⟨h, _⟩
        cases h
    | same f n =>
      have hn : isName f = true ∧ Zp.inR n = true := by simpa [Zp.T.nm] using hn
      have et := tx_same f n
      have z1 : decide (V.str (Zp.T.same f n).text = V.str (Str.ofString "all")) = false := by
        rw [str_cs, show cs (Zp.T.same f n).text = _ from et, cs_all]
        refine decide_eq_false fun e => ?_
        have : 61 ∈ [97, 108, 108] := by rw [← e]; simp
        simp at this
      walk_at "w"
      have z2 : decide (V.str (cutS (Zp.T.same f n).text none (some 3)) = V.str (Str.ofString "is:")) = false := by
        rw [str_cs, cut_to (k := 3) (n := 3) rfl, show cs (Zp.T.same f n).text = _ from et, cs_is]
        refine decide_eq_false fun e => ?_
        have h58 : 58 ∈ cs f ++ 61 :: cs (num n) := List.mem_of_mem_take (i := 3) (show 58 ∈ List.take 3 _ from by rw [show List.take 3 (cs f ++ 61 :: cs (num n)) = [105, 115, 58] from e]; simp)
        rcases List.mem_append.mp h58 with h | h
        · have := letter_of hn.1 58 h; omega
        · rcases List.mem_cons.mp h with h | h
          · omega
          · have := num_of n 58 h; omega
      walk_at "w"
      refine for_gen (Uz.walk_kd _) (fun i σ H' => i ≤ 1 ∧ (∃ o1 o2 o3 o4 o5, σ = [some (.str (Zp.T.same f n).text), o1, o2, o3, o4, o5]) ∧ Kp No H H') ?_ (fun _ _ _ _ => trivial) ?_ ?_
      · exact ⟨Nat.zero_le _, ⟨_, _, _, _, _, rfl⟩, Kp.refl⟩
      · rintro i v σ H1 H2 hi ⟨hi1, ⟨o1, o2, o3, o4, o5, rfl⟩, k1⟩ k2 ⟨z, hz, rfl⟩
        have hi2 : i = 0 ∨ i = 1 := by omega
        rcases hi2 with rfl | rfl
        · obtain rfl : Str.ofString "<" = z := Option.some.inj hz
          walk_at "w"
          refine ⟨by decide +kernel, lz, fun p np => ?_⟩
          rw [part_F (c := 60) (by decide +kernel) (fun h => by
            have h : 60 ∈ cs f ++ 61 :: cs (num n) := et ▸ h
            rcases List.mem_append.mp h with h | h
            · have := letter_of hn.1 60 h; omega
            · rcases List.mem_cons.mp h with h | h
              · omega
              · have := num_of n 60 h; omega)]
          walk_at "w"
          refine ⟨Str.empty, .non, rfl, .inl ⟨rfl, rfl⟩, fun H3 k3 => ?_⟩
          walk_at "w"
          exact ⟨Nat.le_refl _, ⟨_, _, _, _, _, rfl⟩, ((k1.trans k2).new np).trans k3⟩
        · obtain rfl : Str.ofString "=" = z := Option.some.inj hz
          walk_at "w"
          refine ⟨by decide +kernel, lz, fun p np => ?_⟩
          rw [part_T (c := 61) (a := cs f) (b := cs (num n)) (by decide +kernel) et (fun h => by have := letter_of hn.1 61 h; omega)]
          walk_at "w"
          refine ⟨num n, .int n, rfl, .inr ⟨n, hn.2, rfl, rfl⟩, fun H3 k3 => ?_⟩
          walk_at "w"
          refine Uz.go_kd (.str (Str.ofString "same")) (.tail _ (.head _)) ?_
          walk_at "w"
          rename_i q nq
          exact k _ _ (((((k1.trans k2).new np).trans k3)).new nq) (.tup (SqT.of upd_same) (.cons (.str _) (.cons (.str _) (.cons (.int _) .nil))))
      · rintro σ H1 ⟨h, _⟩
        exact absurd h (by decide)
    | _ => cases hl
end
end Z

namespace Z
open PySem PySem.Spec PyProof.Rows L2 Zg Zp
def spTestIn (K : PySem.W.Frag) (n : Nat) : Sp := fun vs H Q _ => ∃ (t : Zp.T) (d : Nat), d < n ∧ d ≤ 50 ∧ vs = [.str t.text, .int d] ∧ t.nm = true ∧ t.parts ≤ 1000 ∧ ∀ H' v, Kp No H H' → Dp K H' v (rdD d t) → Q v H'
section
variable {P : Program} {w : World} {K : PySem.W.Frag} {mg : Str → Option Value} {base : Heap}
theorem dp_list {K : PySem.W.Frag} {H H' : Hp} {D : Addr} {l : List V} {d : PyData} {v : V} (e : H D = some (.lst l)) (k : ∀ b o, b ≠ D → H b = some o → H' b = some o) (hd : tupd d = true) (h : Dp K H v d) : Dp K H' v d :=
  Kp.dp (F := fun b => b = D) (fun b o n q => k b o n q) (fun b z => ⟨.lst l, by rw [show b = D from z]; exact e, ⟨fun _ y => (by cases y), fun _ _ y => (by cases y)⟩⟩) d hd h
theorem upd_keep {H : Hp} {D : Addr} {o : HO} : ∀ b u, b ≠ D → H b = some u → upd H D o b = some u := fun b u n e => by rw [upd_ne n]; exact e
theorem dps_of {K : PySem.W.Frag} {H : Hp} : ∀ {ds : List PyData} {vs : List V}, vs.length = ds.length → (∀ (i : Nat) v d, vs[i]? = some v → ds[i]? = some d → Dp K H v d) → DpAll K H vs ds
  | [], [], _, _ => .nil
  | [], _ :: _, h, _ => by cases h
  | _ :: _, [], h, _ => by cases h
  | d :: ds, v :: vs, h, k => .cons (k 0 v d rfl rfl) (dps_of (by simpa using h) fun i v d e1 e2 => k (i + 1) v d (by simpa using e1) (by simpa using e2))
theorem sc_test_in : FnScope ["text", "deep", "word", "inner", "halves", "found", "half"] ["text", "deep"] (defScope s_test_in) := ⟨rfl, rfl, rfl, by decide +kernel, rfl, by decide +kernel, by decide +kernel⟩
theorem B_test_in (Y : Top K mg w) : L2.Binds K Y.d_test_in ["text", "deep"] [] := Y.F_test_in.bindsN fun _ _ _ _ _ _ us hl => match us, hl with | [_, _], _ => rfl
theorem ok_test_in (Y : Top K mg w) : ∀ n, FnOk P w K mg base CX0 (n + 3) Y.a_test_in Y.d_test_in ["text", "deep"] (spTestIn K n)
  | 0 => Y.F_test_in.ok sc_test_in (fun vs H Q E ⟨_, _, h, _⟩ => absurd h (Nat.not_lt_zero _)) fun cdv A outer s H vs Q E hr ⟨_, _, h, _⟩ => absurd h (Nat.not_lt_zero _)
  | n + 1 => by
    have G_test_in := ok_test_in Y n
    have G_leaf_in := ok_leaf_in (P := P) (base := base) Y
    have G_parted_at := ok_parted_at (P := P) (base := base) Y
    refine Y.F_test_in.ok sc_test_in (fun vs H Q E h => ?_) (fun cdv A outer s H vs Q E hr h => ?_)
    · obtain ⟨t, d, _, _, rfl, _⟩ := h
      rfl
    · obtain ⟨t, d, hd, hd50, rfl, hn, hp, k⟩ := h
      refine ⟨_, PSs.nox (pss_cons (ps_if (pt_cmpR op_eq (pv 1) pe_int (nomark _)) (pss_one (ps_ret pe_non)) pss_nil) (pss_cons (ps_for PassesOwn.never rfl (Uz.pi_kd Y.k_WITHIN (pe_glob (v := .ref Y.a_WITHIN) (by rfl) Y.g_WITHIN rfl)) (pg_name (i := 2) sc_test_in.nd rfl (by first | exact Or.inl rfl | exact Or.inr rfl)) (pss_one (ps_if (PW.pt (pw_and (pt_truth (pe_m1 PySem.F.slot_str_startswith PySem.F.type_str_startswith mt_startswith (pv 0) (pe_op op_add_str (pv 2) pe_str)) (fun _ => rfl)) (pw_and1 (pt_truth (pe_m1 PySem.F.slot_str_endswith PySem.F.type_str_endswith mt_endswith (pv 0) pe_str) (fun _ => rfl))))) (pss_cons (ps_set (i := 3) sc_test_in.nd rfl (by first | exact Or.inl rfl | exact Or.inr rfl) (pe_slice sl_str (pv 0) (po_some (pe_op op_add (pe_callB call_len (by rfl) Y.b_len PySem.boot_len (pa_cons (pv 2) pa_nil)) pe_int)) (po_some (pe_un un_neg pe_int)))) (pss_cons (ps_set (i := 4) sc_test_in.nd rfl (by first | exact Or.inl rfl | exact Or.inr rfl) (pe_ifExp (pt_cmpR op_eq (pv 2) pe_str (nomark _)) (pe_lst (pa_cons (pv 3) pa_nil)) (pe_call G_parted_at (hr.mono (by first | decide | omega)) (by rfl) Y.g_parted_at Y.F_parted_at.kp (B_parted_at Y) .nil pass0 (pa_cons (pv 3) pa_nil)))) (pss_cons (ps_set (i := 5) sc_test_in.nd rfl (by first | exact Or.inl rfl | exact Or.inr rfl) (pe_ifExp (pt_cmpR op_isN (pv 4) pe_non (nomark _)) (pe_lst (pa_cons pe_non pa_nil)) (pe_lc (own := [("half", 6)]) (g := (gName 6)) (tt := tYes) rfl sc_test_in.nd (pi_list (pv 4)) (blkOk_by (N := ["text", "deep", "word", "inner", "halves", "found", "half"]) (sc := defScope s_test_in) (by decide +kernel)) (fun _ _ _ _ _ => (pg_name (i := 6) sc_test_in.nd rfl (by first | exact Or.inl rfl | exact Or.inr rfl))) (fun _ _ _ _ _ => pts_nil) (fun _ _ _ _ _ => (pe_call G_test_in (hr.mono (by first | decide | omega)) (by rfl) Y.g_test_in Y.F_test_in.kp (B_test_in Y) .nil pass0 (pa_cons (pv 6) (pa_cons (pe_op op_sub (pv 1) pe_int) pa_nil))))))) (pss_one (ps_ret (pe_ifExp (pt_cmpR (op_inD (Zg.hu65 hr)) pe_non (pv 5) (by with_unfolding_all rfl)) pe_non (pe_op op_catA (pe_tup (pa_cons (pv 2) pa_nil)) (pe_callTy call_tuple_of (by rfl) Y.b_tuple (by decide +kernel) (pa_cons (pv 5) pa_nil))))))))) pss_nil))) (pss_one (ps_ret (pe_call G_leaf_in (hr.mono (by first | decide | omega)) (by rfl) Y.g_leaf_in Y.F_leaf_in.kp (B_leaf_in Y) .nil pass0 (pa_cons (pv 0) pa_nil)))))), ?_⟩
      have lt := T.text_len hn
      have lz : t.text.length ≤ sizeLine := Nat.le_trans (show t.text.length ≤ 20000 by omega) (by decide)
      walk_at "w"
      cases d with
      | zero =>
        walk_at "w"
        refine k _ _ Kp.refl ?_
        unfold rdD
        rw [if_neg (by have := t.deep_pos; omega)]
        exact .non
      | succ d =>
        have z : decide (V.int ((d + 1 : Nat) : Int) = V.int 0) = false := decide_eq_false (fun z => by injection z; omega)
        walk_at "w"
        refine for_gen (Uz.walk_kd _) (fun i σ H' => i ≤ t.idx ∧ (∃ o2 o3 o4 o5 o6, σ = [some (.str t.text), some (.int ((d + 1 : Nat) : Int)), o2, o3, o4, o5, o6]) ∧ Kp No H H') ?_ (fun _ _ _ _ => trivial) ?_ ?_
        · exact ⟨Nat.zero_le _, ⟨_, _, _, _, _, rfl⟩, Kp.refl⟩
        · rintro i v σ H1 H2 hi ⟨hidx, ⟨o2, o3, o4, o5, o6, rfl⟩, k1⟩ k2 ⟨z, hz, rfl⟩
          have hk := k1.trans k2
          have lzz : z.length + (Str.ofString "(").length ≤ sizeLine := by
            have hz2 : z ∈ [Str.ofString "not", Str.ofString "and", Str.ofString "or"] := List.mem_of_getElem? hz
            simp only [List.mem_cons, List.not_mem_nil, or_false] at hz2
            rcases hz2 with rfl | rfl | rfl <;> decide +kernel
          walk_at "w"
          refine go_catS lzz ?_
          walk_at "w"
          cases hl : t.leaf with
          | true =>
            have hidx3 : i + 1 ≤ t.idx := by rw [idx_leaf hl]; exact hi
            have e := leaf_ends hl hn
            refine go_if (fun y => ?_) (fun y => ?_)
            · walk_at "w"
              exact ⟨hidx3, ⟨_, _, _, _, _, rfl⟩, hk⟩
            · walk_at "w"
              exact ⟨hidx3, ⟨_, _, _, _, _, rfl⟩, hk⟩
          | false =>
            rcases Nat.lt_or_ge i t.idx with hlt | hge
            · have e := idx_lt hl hlt hz
              refine go_ifF e ?_
              walk_at "w"
              exact ⟨hlt, ⟨_, _, _, _, _, rfl⟩, hk⟩
            · obtain rfl : i = t.idx := by omega
              obtain rfl := idx_eq hl hz
              have e1 := comp_starts hl
              have e2 := comp_ends hl
              have ltag := tag_len hl
              refine go_ifT e1 ?_
              walk_at "w"
              rw [comp_cut hl rfl]
              refine go_ifJ (fun x H1 => ∃ L, x = .ref L ∧ Kp No H2 H1 ∧ H1 L = some (.lst (t.kids.map fun c => V.str c.text))) ?_ ?_ ?_
              · rintro _ H3 ⟨L, rfl, k3, eL⟩
                walk_at "w"
                have hk3 := hk.trans k3
                refine lc_gen (walk_list (t.kids.map fun c => V.str c.text)) (F := No) (I := fun _ _ => True) (P := fun _ i v H => ∃ c, t.kids[i]? = some c ∧ Dp K H v (rdD d c)) (fun H' k' => SqL.of (k' _ _ id eL)) (fun _ _ z => z) ?_ trivial (fun _ _ _ _ _ _ => trivial) ?_ ?_ ?_ (fun _ _ _ _ _ => trivial) ?_
                · rw [List.length_map]
                  cases t <;> exact le_line rfl
                · rintro D i v H4 l o hD eD ⟨c, hc, hv⟩
                  exact ⟨c, hc, dp_list eD upd_keep (rdD_tupd _ _) hv⟩
                · rintro D i v H4 H5 l hD eD ⟨c, hc, hv⟩ k5 k6
                  exact ⟨c, hc, k6.dp NoTup.no _ (rdD_tupd _ _) hv⟩
                · intro D i x H4 l Q' hi hD eD k5 _ hx kont
                  rw [List.getElem?_map, Option.map_eq_some_iff] at hx
                  obtain ⟨c, hc, rfl⟩ := hx
                  have hcm := List.mem_of_getElem? hc
                  walk_at "w"
                  refine ⟨c, d, by omega, by omega, ?_, Zp.T.kids_nm hn c hcm, by have := (kids_deep hcm).2; omega, fun H5 v k6 hv => kont v H5 k6 trivial ⟨c, hc, hv⟩⟩
                  rw [show ((d + 1 : Nat) : Int) - 1 = (d : Nat) by omega]
                  rfl
                · intro D ys H4 hD hlen hys k5 _ eD
                  have hk4 := hk3.trans k5
                  rw [List.length_map] at hlen
                  have hall : DpAll K H4 ys (t.kids.map (rdD d)) := by
                    refine dps_of (by rw [hlen, List.length_map]) fun i v dd e1 e2 => ?_
                    obtain ⟨c, hc, hv⟩ := hys i v e1
                    rw [List.getElem?_map, hc] at e2
                    rw [← Option.some.inj e2]
                    exact hv
                  walk_at "w"
                  refine go_inD (ds := t.kids.map (rdD d)) .non (.lst (SqL.of eD) hall) rfl ?_ ?_
                  · refine list_shaped (n := d) (fun dd hdd => ?_) (by omega)
                    obtain ⟨c, hc, rfl⟩ := List.mem_map.mp hdd
                    exact rdD_shaped (Zp.T.kids_nm hn c hc)
                  rw [any_none hl]
                  walk_at "w"
                  refine go_if (fun y => ?_) (fun y => ?_)
                  · walk_at "w"
                    refine k _ _ hk4 ?_
                    unfold rdD
                    rw [if_neg (of_decide_eq_true y)]
                    exact .non
                  · have hdeep : t.deep ≤ d + 1 := Classical.byContradiction fun z => of_decide_eq_false y z
                    have hkd := (kids_all hl d).mp hdeep
                    walk_at "w"
                    rename_i p np
                    refine ⟨_, _, rfl, .inl ⟨SqL.of ((Kp.refl.new np : Kp No H4 _) _ _ id eD), fun q nq => ?_⟩⟩
                    have eys : t.kids.map (rdD d) = t.kids.map Zp.T.d := List.map_congr_left fun c hc => by unfold rdD; rw [if_pos (hkd c hc)]
                    rw [eys] at hall
                    obtain ⟨y0, yr, ey⟩ : ∃ y0 yr, ys = y0 :: yr := by
                      cases ys with
                      | nil =>
                        have : t.kids.length = 0 := by rw [← hlen]; rfl
                        cases t <;> first | cases hl; done | cases this
                      | cons y0 yr => exact ⟨y0, yr, rfl⟩
                    subst ey
                    refine go_catT (x := .str t.tag) (xs := []) (SqT.of ?_) (SqT.of upd_same) ?_ fun r nr => ?_
                    · rw [upd_ne (fun z => by rw [z] at nq; exact absurd nq (by rw [upd_same]; exact fun h => by cases h))]
                      exact upd_same
                    · have : (y0 :: yr).length ≤ 2 := by rw [hlen]; cases t <;> exact Nat.le_of_ble_eq_true rfl
                      have : (3 : Nat) ≤ sizeLine := by decide
                      simp only [List.length_cons, List.length_nil] at *
                      omega
                    · have k7 : Kp No H4 (upd (upd (upd H4 p (.tup [V.str t.tag])) q (.tup (y0 :: yr))) r (.tup ([V.str t.tag] ++ y0 :: yr))) := ((Kp.refl.new np).new nq).new nr
                      refine k _ _ (hk4.trans k7) ?_
                      unfold rdD
                      rw [if_pos hdeep, Zp.T.d_kids hl]
                      exact .tup (SqT.of upd_same) (.cons (.str _) (k7.dps NoTup.no _ (leaves_tupd _) hall))
              · intro y K' kont
                have y := of_decide_eq_true y
                injection y with y
                cases t with
                | nt a =>
                  walk_at "w"
                  rename_i p np
                  exact kont _ _ ⟨p, rfl, Kp.refl.new np, upd_same⟩
                | an a b => exact absurd y (by show ¬ Str.ofString "and" = Str.ofString "not"; decide +kernel)
                | orr a b => exact absurd y (by show ¬ Str.ofString "or" = Str.ofString "not"; decide +kernel)
                | _ => cases hl
              · intro y K' kont
                have y := of_decide_eq_false y
                walk_at "w"
                have two : ∀ a b : Zp.T, t.kids = [a, b] → t.inn = a.tx ++ 44 :: b.tx → a.nm = true → spParted [.str ⟨t.inn.toArray⟩] H2 K' E0 := by
                  intro a b ek ei ha
                  obtain ⟨q1, q2⟩ := T.lev_ok a ha 0 (Int.le_refl _)
                  refine ⟨_, a.tx, b.tx, rfl, ?_, ei, q1, q2, fun H3 p k3 np ep => ?_⟩
                  · have e := congrArg List.length (Zp.T.tx_inn hl)
                    simp only [List.length_append] at e
                    have e3 : t.tx.length = t.text.length := rfl
                    show t.inn.length ≤ 100000
                    omega
                  · refine kont _ _ ⟨p, rfl, k3, ?_⟩
                    rw [ek, ep]
                    rfl
                cases t with
                | nt a => exact absurd rfl y
                | an a b =>
                  have hn : a.nm = true ∧ b.nm = true := by simpa [Zp.T.nm] using hn
                  exact two a b rfl rfl hn.1
                | orr a b =>
                  have hn : a.nm = true ∧ b.nm = true := by simpa [Zp.T.nm] using hn
                  exact two a b rfl rfl hn.1
                | _ => cases hl
        · rintro σ H1 ⟨hidx, ⟨o2, o3, o4, o5, o6, rfl⟩, k1⟩
          have hl : t.leaf = true := by
            cases hl : t.leaf with
            | true => rfl
            | false =>
              have hidx : 3 ≤ t.idx := hidx
              have : t.idx ≤ 2 := by
                cases t with
                | nt a => exact Nat.zero_le _
                | an a b => exact Nat.le_succ _
                | orr a b => exact Nat.le_refl _
                | _ => cases hl
              omega
          walk_at "w"
          refine ⟨t, rfl, hl, hn, fun H3 v k3 hv => k _ _ (k1.trans k3) ?_⟩
          unfold rdD
          rw [if_pos]
          · exact hv
          · have : t.deep = 1 := by cases t <;> first | rfl | cases hl
            omega
end
end Z

namespace Z
open PySem PySem.Spec PyProof.Rows L2 Zg Zp
def spScribe (K : PySem.W.Frag) : Sp := fun vs H Q _ => ∃ (a C : Addr) (wd : Str), vs = [.ref a, .str wd] ∧ OexC K C ∧ PySem.W.findIn K (.ref C) "word" = some none ∧ H a = some (exo a C none) ∧
  ∀ dx, H dx = none → dx ≠ a → Q .non (upd (upd H dx (exd dx [("word", .str wd)])) a (exo a C (some dx)))
def spBad (K : PySem.W.Frag) (wd : Str) : Sp := fun vs H Q _ => ∃ (a C : Addr), vs = [.ref a] ∧ OexC K C ∧ PySem.W.findIn K (.ref C) "word" = some none ∧ H a = some (exo a C none) ∧
  ∀ dx, H dx = none → dx ≠ a → Q .non (upd (upd H dx (exd dx [("word", .str wd)])) a (exo a C (some dx)))
/-- what stands where an error with its word has been let out -/
def Err (C : Addr) (wd : Str) (H : Hp) (cls : Value) (d : Option Addr) (H' : Hp) : Prop := cls = .ref C ∧ ∃ dd, d = some dd ∧ H dd = none ∧ Kp No H H' ∧ H' dd = some (.xd [("word", .str wd)])
section
variable {P : Program} {w : World} {K : PySem.W.Frag} {mg : Str → Option Value} {base : Heap}
theorem go_veI {σ : L2.St} {H : Hp} {Q : VK} {ta : TA} (h : ta σ H fun vs H1 => ∃ (a C : Addr) (ws : List V), vs = .ref a :: ws ∧ ws.length ≤ 1000 ∧ OexC K C ∧ H1 a = some (exo a C none) ∧ Q .non H1) : tVeI K ta σ H Q := h
theorem go_ost {σ : L2.St} {H : Hp} {f : Str} {to te : TE} {D : Ends} (h : te σ H fun y H1 => to σ H1 fun x H2 => ∃ a C : Addr, x = .ref a ∧ OexC K C ∧ PySem.W.findIn K (.ref C) f = some none ∧
  ((H2 a = some (exo a C none) ∧ ∀ dx, H2 dx = none → dx ≠ a → D.nx σ (upd (upd H2 dx (exd dx [(f, y)])) a (exo a C (some dx)))) ∨
    ∃ (dx : Addr) (fs : List (Str × V)), H2 a = some (exo a C (some dx)) ∧ H2 dx = some (exd dx fs) ∧ fs.length ≤ 900 ∧ D.nx σ (upd H2 dx (exd dx ((f, y) :: fs))))) : tOst K f to te D σ H := h
theorem sc_ScribeError_init : FnScope ["self", "word"] ["self", "word"] (defScope s_ScribeError_init) := ⟨rfl, rfl, rfl, by decide +kernel, rfl, by decide +kernel, by decide +kernel⟩
theorem sc_BadTest_init : FnScope ["self"] ["self"] (defScope s_BadTest_init) := ⟨rfl, rfl, rfl, by decide +kernel, rfl, by decide +kernel, by decide +kernel⟩
theorem B_ScribeError_init (Y : Top K mg w) : L2.Binds K Y.d_ScribeError_init ["self", "word"] [] := Y.F_ScribeError_init.bindsN fun _ _ _ _ _ _ us hl => match us, hl with | [_, _], _ => rfl
theorem B_BadTest_init (Y : Top K mg w) : L2.Binds K Y.d_BadTest_init ["self"] [] := Y.F_BadTest_init.bindsN fun _ _ _ _ _ _ us hl => match us, hl with | [_], _ => rfl
theorem ok_ScribeError_init (Y : Top K mg w) : FnOk P w K mg base CX0 1 Y.a_ScribeError_init Y.d_ScribeError_init ["self", "word"] (spScribe K) := by
  refine Y.F_ScribeError_init.ok sc_ScribeError_init (fun vs H Q E h => ?_) (fun cdv A outer s H vs Q E hr h => ?_)
  · obtain ⟨a, C, wd, rfl, _⟩ := h
    rfl
  · obtain ⟨a, C, wd, rfl, hC, hw, ha, k⟩ := h
    refine ⟨_, PSs.nox (pss_cons (ps_expr (pe_veinit (by rfl) Y.b_ValueError Y.v_VE (pa_cons (pv 0) (pa_cons (pv 1) pa_nil)))) (pss_one (ps_ost (pv 0) (pv 1)))), ?_⟩
    walk_at "w"
    refine go_veI ?_
    walk_at "w"
    refine ⟨a, C, [.str wd], rfl, Nat.le_of_ble_eq_true rfl, hC, ha, ?_⟩
    refine go_ost (f := "word") (to := tVar 0) (te := tVar 1) (D := { nx := fun _ H' => Q .non H', rt := Q }) ?_
    walk_at "w"
    exact ⟨a, C, rfl, hC, hw, .inl ⟨ha, fun dx nx ne => k dx nx ne⟩⟩
theorem ok_BadTest_init (Y : Top K mg w) : FnOk P w K mg base CX0 2 Y.a_BadTest_init Y.d_BadTest_init ["self"] (spBad K "badtest") := by
  have G_ScribeError_init := ok_ScribeError_init (P := P) (base := base) Y
  refine Y.F_BadTest_init.ok sc_BadTest_init (fun vs H Q E h => ?_) (fun cdv A outer s H vs Q E hr h => ?_)
  · obtain ⟨a, C, rfl, _⟩ := h
    rfl
  · obtain ⟨a, C, rfl, hC, hw, ha, k⟩ := h
    refine ⟨_, PSs.nox (pss_one (ps_expr (Uz.pe_cfun (by rfl) Y.g_ScribeError (by decide) Y.x_ScribeError.rd Y.l_ScribeError_init G_ScribeError_init (hr.mono (by first | decide | omega)) Y.F_ScribeError_init.kp (B_ScribeError_init Y) .nil pass0 (pa_cons (pv 0) (pa_cons pe_str pa_nil))))), ?_⟩
    walk_at "w"
    exact ⟨a, C, "badtest", rfl, hC, hw, ha, fun dx nx ne => k dx nx ne⟩
theorem err_of {H H1 : Hp} {a C d : Addr} {wd : Str} (k1 : Kp No H H1) (na : H1 a = none) (nd : upd H1 a (exo a C none) d = none) (hda : d ≠ a) :
    Err C wd H (.ref C) (some d) (upd (del (upd (upd (upd H1 a (exo a C none)) d (exd d [("word", .str wd)])) a (exo a C (some d))) a) d (.xd [("word", .str wd)])) := by
  have nd1 : H1 d = none := by rw [upd_ne hda] at nd; exact nd
  refine ⟨rfl, d, rfl, k1.free nd1 id, fun b o _ e => ?_, upd_same⟩
  have e1 := k1 b o id e
  have hb : b ≠ d := ne_of_none e1 nd1
  have ha : b ≠ a := ne_of_none e1 na
  rw [upd_ne hb, del_ne ha, upd_ne ha, upd_ne hb, upd_ne ha]
  exact e1
def spReadTest (K : PySem.W.Frag) (C : Addr) : Sp := fun vs H Q E => ∃ t : Zp.T, vs = [.str t.text] ∧ t.nm = true ∧ t.parts ≤ 1000 ∧
  (t.deep ≤ 5 ∧ t.parts ≤ 15 → ∀ H' v, Kp No H H' → Dp K H' v t.d → Q v H') ∧ (¬ (t.deep ≤ 5 ∧ t.parts ≤ 15) → ∀ cls d H', Err C "badtest" H cls d H' → E cls d H')
theorem sc_read_test : FnScope ["text", "found"] ["text"] (defScope s_read_test) := ⟨rfl, rfl, rfl, by decide +kernel, rfl, by decide +kernel, by decide +kernel⟩
theorem B_read_test (Y : Top K mg w) : L2.Binds K Y.d_read_test ["text"] [] := Y.F_read_test.bindsN fun _ _ _ _ _ _ us hl => match us, hl with | [_], _ => rfl
theorem ok_read_test (Y : Top K mg w) : FnOk P w K mg base (L2.CX P w) 12 Y.a_read_test Y.d_read_test ["text"] (spReadTest K Y.a_BadTest) := by
  have G_is_test := ok_is_test (P := P) (base := base) Y
  have G_test_in := ok_test_in (P := P) (base := base) Y 6
  have G_BadTest_init := ok_BadTest_init (P := P) (base := base) Y
  refine Y.F_read_test.ok sc_read_test (fun vs H Q E h => ?_) (fun cdv A outer s H vs Q E hr h => ?_)
  · obtain ⟨t, rfl, _⟩ := h
    rfl
  · obtain ⟨t, rfl, hn, hp, k1, k2⟩ := h
    refine ⟨_, (pss_cons (ps_set (i := 1) sc_read_test.nd rfl (by first | exact Or.inl rfl | exact Or.inr rfl) (pe_call G_test_in (hr.mono (by first | decide | omega)) (by rfl) Y.g_test_in Y.F_test_in.kp (B_test_in Y) .nil pass0 (pa_cons (pv 0) (pa_cons (pe_glob (v := .int 5) (by rfl) Y.c_DEEPEST.choose_spec ⟨_, rfl⟩) pa_nil)))) (pss_cons (ps_if (PW.pt (pw_or (pt_cmpR op_isN (pv 1) pe_non (nomark _)) (pw_or1 (pt_not (pt_truth (pe_call G_is_test (hr.mono (by first | decide | omega)) (by rfl) Y.g_is_test Y.F_is_test.kp (B_is_test Y) .nil pass0 (pa_cons (pv 1) pa_nil)) (fun _ => rfl)))))) (pss_one (ps_raise rfl (takes_of rfl rfl rfl rfl) (Uz.pmk_oex0 Y.x_BadTest.oex Y.i_BadTest_init Y.t_BadTest_init G_BadTest_init (hr.mono (by first | decide | omega)) (B_BadTest_init Y) pass0 (by rfl) Y.g_BadTest))) pss_nil) (pss_one (ps_ret (pv 1))))), ?_⟩
    walk_at "w"
    refine ⟨t, 5, by omega, by omega, rfl, hn, hp, fun H1 v q1 hv => ?_⟩
    walk_at "w"
    have bad : ¬ (t.deep ≤ 5 ∧ t.parts ≤ 15) → ∀ H2, Kp No H H2 → ∀ a, H2 a = none → spBad K "badtest" [.ref a] (upd H2 a (exo a Y.a_BadTest none))
        (fun v H3 => v = .non ∧ ∃ (d : Addr) (fs : List (Str × V)), H3 a = some (exo a Y.a_BadTest (some d)) ∧ H3 d = some (exd d fs) ∧ H2 d = none ∧ E (.ref Y.a_BadTest) (some d) (upd (del H3 a) d (.xd fs))) (fun _ _ _ => False) := by
      intro hbad H2 q2 a na
      refine ⟨a, Y.a_BadTest, rfl, Y.x_BadTest.oex, Y.x_BadTest.nw, upd_same, fun dx nx ne => ⟨rfl, dx, _, upd_same, ?_, ?_, k2 hbad _ _ _ (err_of q2 na nx ne)⟩⟩
      · rw [upd_ne ne]; exact upd_same
      · rw [upd_ne ne] at nx; exact nx
    unfold rdD at hv
    by_cases hd : t.deep ≤ 5
    · rw [if_pos hd] at hv
      obtain ⟨p, xs, rfl, hs⟩ := tv_any hv
      walk_at "w"
      refine ⟨.ref p, t, rfl, hv, hn, fun H2 q2 => ?_⟩
      walk_at "w"
      refine go_if (fun y => ?_) (fun y => ?_)
      · have hbad : ¬ (t.deep ≤ 5 ∧ t.parts ≤ 15) := fun z => by rw [decide_eq_true z] at y; cases y
        exact bad hbad H2 (q1.trans q2)
      · have hok : t.deep ≤ 5 ∧ t.parts ≤ 15 := Classical.byContradiction fun z => by rw [decide_eq_false z] at y; cases y
        walk_at "w"
        exact k1 hok _ _ (q1.trans q2) (q2.dp NoTup.no _ t.tupd hv)
    · rw [if_neg hd] at hv
      have hv : v = .non := by cases hv; rfl
      subst hv
      walk_at "w"
      exact bad (fun z => hd z.1) H1 q1
end
end Z

namespace Z
open PySem PySem.Spec PyProof.Rows L2 Zg Zp Zd
def spBegin (K : PySem.W.Frag) : Sp := fun vs H Q _ => ∃ (a : Addr) (ns : List Int), vs = [.ref a] ∧ SqL K H a (ns.map V.int) ∧ ns.length ≤ 63 ∧ ∀ H' d q, Kp No H H' → H d = none → DrawAt K d q H' → Q (.ref d) H'
def spPick (K : PySem.W.Frag) : Sp := fun vs H Q _ => ∃ (d : Addr) (q : Addr × List Int) (m : Int), vs = [.ref d, .int m] ∧ DrawAt K d q H ∧ 0 < m ∧ m.natAbs.log2 < 9000 ∧ ∀ H' n, Kp (At d) H H' → DrawAt K d q H' → 0 ≤ n → n < m → Q (.int n) H'
section
variable {P : Program} {w : World} {K : PySem.W.Frag} {mg : Str → Option Value} {base : Heap}
theorem map_cut (l : List V) (hl : l.length ≤ 63) : cutV l none (some 63) = l := by
  unfold cutV
  rw [show (63 : Int) = ((63 : Nat) : Int) from rfl, HT.sIx_nat, HT.sIx_none, List.drop_zero, Nat.sub_zero, List.take_of_length_le (by omega)]
theorem sc_law_begin : FnScope ["_law_script", "_law_seed", "_law_cell"] ["_law_script"] (defScope s_law_begin) := ⟨rfl, rfl, rfl, by decide +kernel, rfl, by decide +kernel, by decide +kernel⟩
theorem sc_law_pick : FnScope ["_law_d", "_law_many", "_law_cell", "_law_digit", "_law_one"] ["_law_d", "_law_many"] (defScope s_law_pick) := ⟨rfl, rfl, rfl, by decide +kernel, rfl, by decide +kernel, by decide +kernel⟩
theorem B_law_begin (Y : Top K mg w) : L2.Binds K Y.d_law_begin ["_law_script"] [] := Y.F_law_begin.bindsN fun _ _ _ _ _ _ us hl => match us, hl with | [_], _ => rfl
theorem B_law_pick (Y : Top K mg w) : L2.Binds K Y.d_law_pick ["_law_d", "_law_many"] [] := Y.F_law_pick.bindsN fun _ _ _ _ _ _ us hl => match us, hl with | [_, _], _ => rfl
theorem ok_law_begin (Y : Top K mg w) : FnOk P w K mg base CX0 1 Y.a_law_begin Y.d_law_begin ["_law_script"] (spBegin K) := by
  refine Y.F_law_begin.ok sc_law_begin (fun vs H Q E h => ?_) (fun cdv A outer s H vs Q E hr h => ?_)
  · obtain ⟨a, ns, rfl, _⟩ := h
    rfl
  · obtain ⟨a, ns, rfl, hs, hl, k⟩ := h
    have hl2 : (ns.map V.int).length ≤ 63 := by rw [List.length_map]; exact hl
    refine ⟨_, PSs.nox (pss_cons (ps_set (i := 1) sc_law_begin.nd rfl (by first | exact Or.inl rfl | exact Or.inr rfl) pe_int) (pss_cons (ps_for PassesOwn.never rfl (pi_list (pe_slice sl_list (pv 0) po_none (po_some pe_int))) (pg_name (i := 2) sc_law_begin.nd rfl (by first | exact Or.inl rfl | exact Or.inr rfl)) (pss_one (ps_set (i := 1) sc_law_begin.nd rfl (by first | exact Or.inl rfl | exact Or.inr rfl) (pe_op op_mod (pe_op op_add (pe_op op_add (pe_op op_mul (pv 1) pe_int) (pe_op op_mul (pv 2) pe_int)) pe_int) pe_int)))) (pss_one (ps_ret (pe_disp (pps_cons pe_str (pe_callTy call_list_of (by rfl) Y.b_list (by decide +kernel) (pa_cons (pe_slice sl_list (pv 0) po_none (po_some pe_int)) pa_nil)) (pps_cons pe_str pe_int (pps_cons pe_str pe_int (pps_cons pe_str (pv 1) pps_nil)))) (by rfl) (by rfl) (fun z => by cases z) (by decide)))))), ?_⟩
    walk_at "w"
    rw [map_cut _ hl2]
    rename_i q nq
    refine for_gen (walk_list (ns.map V.int)) (fun i σ H' => ∃ (s : Int) (o : Option V), σ = [some (.ref a), some (.int s), o] ∧ 0 ≤ s ∧ s < M61 ∧ Kp No H H' ∧ H' q = some (.lst (ns.map V.int))) ?_ ?_ ?_ ?_
    · exact ⟨20011, none, rfl, by decide, by decide, Kp.refl.new nq, upd_same⟩
    · rintro i σ H1 ⟨s, o, _, _, _, _, e⟩
      exact SqL.of e
    · rintro i x σ H1 H2 hi ⟨s, o, rfl, h1, h2, k1, e⟩ k2 hx
      rw [List.getElem?_map, Option.map_eq_some_iff] at hx
      obtain ⟨n, hn, rfl⟩ := hx
      walk_at "w"
      exact ⟨_, _, rfl, Int.emod_nonneg _ (by decide), Int.emod_lt_of_pos _ (by decide), k1.trans k2, k2 _ _ id e⟩
    · rintro σ H1 ⟨s, o, rfl, h1, h2, k1, e⟩
      walk_at "w"
      intro p np
      walk_at "w"
      rw [map_cut _ hl2]
      rename_i q2 nq2
      refine ⟨_, _, rfl, .inl (SqL.of upd_same), fun l nl => ?_⟩
      walk_at "w"
      have np1 : H1 p = none := np
      have hp2 : upd H1 p (.dK []) p = some (.dK []) := upd_same
      have ne1 : p ≠ q2 := ne_of_none hp2 nq2
      have ne2 : p ≠ l := ne_of_none (show upd (upd H1 p (.dK [])) q2 (.lst (ns.map V.int)) p = some (.dK []) by rw [upd_ne ne1]; exact hp2) nl
      refine ⟨?_, [(kCells, .ref l), (kAt, .int 0), (kRest, .int 0), (kSeed, .int s)], rfl, Nat.le_of_ble_eq_true rfl, ?_⟩
      · rw [upd_ne ne2, upd_ne ne1]
        exact upd_same
      rw [mg_dr]
      refine k _ p (l, ns) ?_ (k1.free np id) ⟨0, 0, s, upd_same, SqL.of ?_, Nat.zero_le _, hl, by decide, h1, h2⟩
      · exact ((((k1.new np).new nq2).new nl).own (k1.free np id))
      · rw [upd_ne (Ne.symm ne2)]
        exact upd_same
theorem ok_law_pick (Y : Top K mg w) : FnOk P w K mg base CX0 1 Y.a_law_pick Y.d_law_pick ["_law_d", "_law_many"] (spPick K) := by
  refine Y.F_law_pick.ok sc_law_pick (fun vs H Q E h => ?_) (fun cdv A outer s H vs Q E hr h => ?_)
  · obtain ⟨d, q, m, rfl, _⟩ := h
    rfl
  · obtain ⟨d, ⟨c, cells⟩, m, rfl, ⟨a, r, s, eD, hC, ha, hl, hr0, hs0, hs1⟩, hm, hm2, k⟩ := h
    refine ⟨_, PSs.nox (pss_cons (ps_if (PW.pt (pw_and (pt_cmpR op_eq (pe_dget (hu_of hr) (pv 0) pe_str (fun _ _ => rfl)) pe_int (nomark _)) (pw_and1 (pt_cmpR op_lt (pe_dget (hu_of hr) (pv 0) pe_str (fun _ _ => rfl)) (pe_callB call_len (by rfl) Y.b_len PySem.boot_len (pa_cons (pe_dget (hu_of hr) (pv 0) pe_str (fun _ _ => rfl)) pa_nil)) (nomark _))))) (pss_cons (ps_set (i := 2) sc_law_pick.nd rfl (by first | exact Or.inl rfl | exact Or.inr rfl) (pe_ix ix_list (pe_dget (hu_of hr) (pv 0) pe_str (fun _ _ => rfl)) (pe_dget (hu_of hr) (pv 0) pe_str (fun _ _ => rfl)) (fun _ _ => rfl))) (pss_cons (ps_dput (hu_of hr) (pv 0) pe_str (pe_op op_add (pe_dget (hu_of hr) (pv 0) pe_str (fun _ _ => rfl)) pe_int) rfl) (pss_one (ps_if (pt_cmpR op_ge (pv 2) (pe_op op_pow pe_int pe_int) (nomark _)) (pss_one (ps_dput (hu_of hr) (pv 0) pe_str (pv 2) rfl)) (pss_one (ps_dput (hu_of hr) (pv 0) pe_str (pe_op op_mod (pe_op op_add (pe_op op_add (pe_op op_mul (pe_dget (hu_of hr) (pv 0) pe_str (fun _ _ => rfl)) pe_int) (pe_op op_mul (pv 2) pe_int)) pe_int) pe_int) rfl)))))) pss_nil) (pss_cons (ps_if (pt_cmpR op_gt (pe_dget (hu_of hr) (pv 0) pe_str (fun _ _ => rfl)) pe_int (nomark _)) (pss_cons (ps_set (i := 3) sc_law_pick.nd rfl (by first | exact Or.inl rfl | exact Or.inr rfl) (pe_op op_mod (pe_dget (hu_of hr) (pv 0) pe_str (fun _ _ => rfl)) (pv 1))) (pss_cons (ps_dput (hu_of hr) (pv 0) pe_str (pe_op op_fdivW (pe_dget (hu_of hr) (pv 0) pe_str (fun _ _ => rfl)) (pv 1)) rfl) (pss_one (ps_ret (pv 3))))) pss_nil) (pss_cons (ps_set (i := 4) sc_law_pick.nd rfl (by first | exact Or.inl rfl | exact Or.inr rfl) (pe_op op_mod (pe_op op_mul (pe_dget (hu_of hr) (pv 0) pe_str (fun _ _ => rfl)) (pe_dget (hu_of hr) (pv 0) pe_str (fun _ _ => rfl))) pe_int)) (pss_cons (ps_dput (hu_of hr) (pv 0) pe_str (pe_op op_mod (pe_op op_add (pe_op op_add (pe_op op_mul (pv 4) pe_int) (pe_op op_mul (pe_dget (hu_of hr) (pv 0) pe_str (fun _ _ => rfl)) pe_int)) pe_int) pe_int) rfl) (pss_one (ps_ret (pe_op op_mod (pe_op op_fdivW (pe_dget (hu_of hr) (pv 0) pe_str (fun _ _ => rfl)) pe_int) (pv 1)))))))), ?_⟩
    have ha : a ≤ cells.length := ha
    have hl : cells.length ≤ 63 := hl
    have eD : H d = some (.dK (drK c (a : Int) r s)) := eD
    have hC : SqL K H c (cells.map V.int) := hC
    have hst : ∀ b : Int, 0 ≤ b % M61 ∧ b % M61 < M61 := fun b => ⟨Int.emod_nonneg _ (by decide), Int.emod_lt_of_pos _ (by decide)⟩
    refine go_seqJ (fun σ H' => ∃ (a' : Nat) (r' s' : Int) (o : Option V), σ = [some (.ref d), some (.int m), o, none, none] ∧ Kp (At d) H H' ∧ H' d = some (.dK (drK c (a' : Int) r' s')) ∧ a' ≤ cells.length ∧ 0 ≤ r' ∧ 0 ≤ s' ∧ s' < M61) ?_ ?_
    · intro N hN
      walk_at "w"
      refine go_dgetS eD (z := "rest") dr_rest ?_
      walk_at "w"
      refine go_if (fun y => ?_) (fun y => ?_)
      · walk_at "w"
        refine go_dgetS eD (z := "at") dr_at ?_
        walk_at "w"
        refine go_dgetS eD (z := "cells") dr_cells ?_
        walk_at "w"
        rw [List.length_map]
        refine go_if (fun y2 => ?_) (fun y2 => ?_)
        · have y2 := of_decide_eq_true y2
          have hlt : a < cells.length := by omega
          walk_at "w"
          refine go_dgetS eD (z := "cells") dr_cells ?_
          walk_at "w"
          refine go_dgetS eD (z := "at") dr_at ?_
          walk_at "w"
          refine go_ixL (v := .int cells[a]) hC (atI_nat (by rw [List.getElem?_map, List.getElem?_eq_getElem hlt]; rfl)) ?_
          walk_at "w"
          refine go_dgetS eD (z := "at") dr_at ?_
          walk_at "w"
          refine go_dputS eD (z := "at") (by show 4 < sizeLine; decide) ?_
          rw [show putK (drK c (a : Int) r s) (.inr (Str.ofString "at")) (.int ((a : Int) + 1)) = drK c ((a : Int) + 1) r s from pu_at]
          walk_at "w"
          have eD2 : upd H d (.dK (drK c ((a : Int) + 1) r s)) d = some (.dK (drK c ((a : Int) + 1) r s)) := upd_same
          have kk : ∀ o o2, Kp (At d) H (upd (upd H d o) d o2) := fun o o2 => Kp.put (F := At d) (Kp.put (F := At d) Kp.refl rfl) rfl
          refine go_rI' (show CPow 10 18 from ⟨by decide, by decide, by decide⟩) ?_
          walk_at "w"
          refine go_if (fun y3 => ?_) (fun y3 => ?_)
          · have y3 := of_decide_eq_true y3
            walk_at "w"
            refine go_dputS eD2 (z := "rest") (by show 4 < sizeLine; decide) ?_
            rw [show putK (drK c ((a : Int) + 1) r s) (.inr (Str.ofString "rest")) (.int cells[a]) = drK c ((a : Int) + 1) cells[a] s from pu_rest]
            refine hN _ _ ⟨a + 1, cells[a], s, some (.int cells[a]), rfl, kk _ _, ?_, hlt, ?_, hs0, hs1⟩
            · rw [show ((a + 1 : Nat) : Int) = (a : Int) + 1 by omega]
              exact upd_same
            · exact Int.le_trans (by decide) y3
          · walk_at "w"
            refine go_dgetS eD2 (z := "seed") dr_seed ?_
            walk_at "w"
            refine go_dputS eD2 (z := "seed") (by show 4 < sizeLine; decide) ?_
            rw [show ∀ z, putK (drK c ((a : Int) + 1) r s) (.inr (Str.ofString "seed")) (.int z) = drK c ((a : Int) + 1) r z from fun z => pu_seed]
            refine hN _ _ ⟨a + 1, r, (s * 52361 + cells[a] * 7919 + 3) % M61, some (.int cells[a]), rfl, kk _ _, ?_, hlt, hr0, (hst _).1, (hst _).2⟩
            rw [show ((a + 1 : Nat) : Int) = (a : Int) + 1 by omega]
            exact upd_same
        · walk_at "w"
          exact hN _ _ ⟨a, r, s, none, rfl, Kp.refl, eD, ha, hr0, hs0, hs1⟩
      · walk_at "w"
        exact hN _ _ ⟨a, r, s, none, rfl, Kp.refl, eD, ha, hr0, hs0, hs1⟩
    · rintro _ H1 ⟨a', r', s', o, rfl, k1, e1, b1, b2, b3, b4⟩
      walk_at "w"
      have hC1 : SqL K H1 c (cells.map V.int) := sqL_kp eD k1 hC
      refine go_dgetS e1 (z := "rest") dr_rest ?_
      walk_at "w"
      refine go_if (fun y => ?_) (fun y => ?_)
      · have y := of_decide_eq_true y
        walk_at "w"
        refine go_dgetS e1 (z := "rest") dr_rest ?_
        walk_at "w"
        refine go_rI' hm ?_
        walk_at "w"
        refine go_dgetS e1 (z := "rest") dr_rest ?_
        walk_at "w"
        refine go_rI' (⟨hm, hm2⟩ : CDivW _ _) ?_
        walk_at "w"
        refine go_dputS e1 (z := "rest") (by show 4 < sizeLine; decide) ?_
        rw [show ∀ z, putK (drK c (a' : Int) r' s') (.inr (Str.ofString "rest")) (.int z) = drK c (a' : Int) z s' from fun z => pu_rest]
        walk_at "w"
        exact k _ _ (k1.put rfl) ⟨a', r' / m, s', upd_same, sqL_kp e1 (Kp.refl.put rfl) hC1, b1, hl, Int.ediv_nonneg b2 (Int.le_of_lt hm), b3, b4⟩ (Int.emod_nonneg _ (Int.ne_of_gt hm)) (Int.emod_lt_of_pos _ hm)
      · walk_at "w"
        refine go_dgetS e1 (z := "seed") dr_seed ?_
        walk_at "w"
        refine go_dgetS e1 (z := "seed") dr_seed ?_
        walk_at "w"
        have b4' : s' < 2305843009213693951 := b4
        refine go_rI' (mulL ⟨by omega, by omega⟩) ?_
        walk_at "w"
        refine go_dgetS e1 (z := "seed") dr_seed ?_
        walk_at "w"
        refine go_dputS e1 (z := "seed") (by show 4 < sizeLine; decide) ?_
        rw [show ∀ z, putK (drK c (a' : Int) r' s') (.inr (Str.ofString "seed")) (.int z) = drK c (a' : Int) r' z from fun z => pu_seed]
        walk_at "w"
        refine go_dgetS upd_same (z := "seed") dr_seed ?_
        walk_at "w"
        refine go_rI' (⟨by decide, by decide⟩ : CDivW _ _) ?_
        walk_at "w"
        refine go_rI' hm ?_
        exact k _ _ (k1.put rfl) ⟨a', r', _, upd_same, sqL_kp e1 (Kp.refl.put rfl) hC1, b1, hl, b2, (hst _).1, (hst _).2⟩ (Int.emod_nonneg _ (Int.ne_of_gt hm)) (Int.emod_lt_of_pos _ hm)
def spOf (K : PySem.W.Frag) : Sp := fun vs H Q _ => ∃ (d : Addr) (q : Addr × List Int) (l : Addr) (xs : List V), vs = [.ref d, .ref l] ∧ DrawAt K d q H ∧ SqL K H l xs ∧ xs ≠ [] ∧ xs.length ≤ 1000 ∧ ∀ (H' : Hp) (i : Nat) (v : V), Kp (At d) H H' → DrawAt K d q H' → xs[i]? = some v → Q v H'
theorem log_le {m : Int} (h0 : 0 < m) (h : m < 10 ^ 40) : m.natAbs.log2 < 9000 := by
  refine (Nat.log2_lt (by omega)).mpr (Nat.lt_of_lt_of_le (show m.natAbs < 10 ^ 40 by omega) ?_)
  exact Nat.le_trans (show 10 ^ 40 ≤ 2 ^ 160 by decide +kernel) (Nat.pow_le_pow_right (by decide) (by decide))
theorem sc_law_of : FnScope ["_law_d", "_law_things"] ["_law_d", "_law_things"] (defScope s_law_of) := ⟨rfl, rfl, rfl, by decide +kernel, rfl, by decide +kernel, by decide +kernel⟩
theorem B_law_of (Y : Top K mg w) : L2.Binds K Y.d_law_of ["_law_d", "_law_things"] [] := Y.F_law_of.bindsN fun _ _ _ _ _ _ us hl => match us, hl with | [_, _], _ => rfl
theorem ok_law_of (Y : Top K mg w) : FnOk P w K mg base CX0 2 Y.a_law_of Y.d_law_of ["_law_d", "_law_things"] (spOf K) := by
  have G_law_pick := ok_law_pick (P := P) (base := base) Y
  refine Y.F_law_of.ok sc_law_of (fun vs H Q E h => ?_) (fun cdv A outer s H vs Q E hr h => ?_)
  · obtain ⟨d, q, l, xs, rfl, _⟩ := h
    rfl
  · obtain ⟨d, q, l, xs, rfl, hD, hs, hne, hl, k⟩ := h
    refine ⟨_, PSs.nox (pss_one (ps_ret (pe_ix ix_list (pv 1) (pe_call G_law_pick (hr.mono (by first | decide | omega)) (by rfl) Y.g_law_pick Y.F_law_pick.kp (B_law_pick Y) .nil pass0 (pa_cons (pv 0) (pa_cons (pe_callB call_len (by rfl) Y.b_len PySem.boot_len (pa_cons (pv 1) pa_nil)) pa_nil))) (fun _ _ => rfl)))), ?_⟩
    walk_at "w"
    have hp : 0 < xs.length := List.length_pos_iff.mpr hne
    refine ⟨d, q, xs.length, rfl, hD, by omega, log_le (by omega) (Int.lt_of_le_of_lt (show (xs.length : Int) ≤ 1000 by omega) (by decide)), fun H1 n k1 hD1 n0 n1 => ?_⟩
    have hlt : n.toNat < xs.length := by omega
    refine go_ixL (v := xs[n.toNat]) (hD.sqL k1 hs) ?_ ?_
    · have e := atI_nat (xs := xs) (j := n.toNat) (v := xs[n.toNat]) (by simp [hlt])
      rw [Int.toNat_of_nonneg n0] at e
      exact e
    · exact k _ n.toNat _ k1 hD1 (by simp [hlt])
end
end Z

namespace Z
open PySem PySem.Spec PyProof.Rows L2 Zg Zp Zd
def spNum (K : PySem.W.Frag) : Sp := fun vs H Q _ => ∃ (d : Addr) (q : Addr × List Int), vs = [.ref d] ∧ DrawAt K d q H ∧ ∀ H' n, Kp (At d) H H' → DrawAt K d q H' → Zp.inR n = true → Q (.int n) H'
def spWord (K : PySem.W.Frag) : Sp := fun vs H Q _ => ∃ (d : Addr) (q : Addr × List Int), vs = [.ref d] ∧ DrawAt K d q H ∧ ∀ H' s, Kp (At d) H H' → DrawAt K d q H' → isName s = true → Q (.str s) H'
section
variable {P : Program} {w : World} {K : PySem.W.Frag} {mg : Str → Option Value} {base : Heap}
theorem small_log {m : Int} (h0 : 0 < m) (h : m < 10 ^ 40 := by decide) : 0 < m ∧ m.natAbs.log2 < 9000 := ⟨h0, log_le h0 h⟩
theorem sc_law_number : FnScope ["_law_d"] ["_law_d"] (defScope s_law_number) := ⟨rfl, rfl, rfl, by decide +kernel, rfl, by decide +kernel, by decide +kernel⟩
theorem sc_law_word : FnScope ["_law_d", "_law_letters", "_law_first", "_law_size", "_law_some", "_law_k"] ["_law_d"] (defScope s_law_word) := ⟨rfl, rfl, rfl, by decide +kernel, rfl, by decide +kernel, by decide +kernel⟩
theorem B_law_number (Y : Top K mg w) : L2.Binds K Y.d_law_number ["_law_d"] [] := Y.F_law_number.bindsN fun _ _ _ _ _ _ us hl => match us, hl with | [_], _ => rfl
theorem B_law_word (Y : Top K mg w) : L2.Binds K Y.d_law_word ["_law_d"] [] := Y.F_law_word.bindsN fun _ _ _ _ _ _ us hl => match us, hl with | [_], _ => rfl
theorem ok_law_number (Y : Top K mg w) : FnOk P w K mg base CX0 3 Y.a_law_number Y.d_law_number ["_law_d"] (spNum K) := by
  have G_law_pick := ok_law_pick (P := P) (base := base) Y
  have G_law_of := ok_law_of (P := P) (base := base) Y
  refine Y.F_law_number.ok sc_law_number (fun vs H Q E h => ?_) (fun cdv A outer s H vs Q E hr h => ?_)
  · obtain ⟨d, q, rfl, _⟩ := h
    rfl
  · obtain ⟨d, q, rfl, hD, k⟩ := h
    refine ⟨_, PSs.nox (pss_one (ps_ret (pe_call G_law_of (hr.mono (by first | decide | omega)) (by rfl) Y.g_law_of Y.F_law_of.kp (B_law_of Y) .nil pass0 (pa_cons (pv 0) (pa_cons (pe_lst (pa_cons pe_int (pa_cons pe_int (pa_cons (pe_call G_law_pick (hr.mono (by first | decide | omega)) (by rfl) Y.g_law_pick Y.F_law_pick.kp (B_law_pick Y) .nil pass0 (pa_cons (pv 0) (pa_cons pe_int pa_nil))) (pa_cons (pe_op op_sub (pe_call G_law_pick (hr.mono (by first | decide | omega)) (by rfl) Y.g_law_pick Y.F_law_pick.kp (B_law_pick Y) .nil pass0 (pa_cons (pv 0) (pa_cons pe_int pa_nil))) pe_int) (pa_cons pe_int (pa_cons (pe_un un_neg pe_int) (pa_cons (pe_op op_sub (pe_call G_law_pick (hr.mono (by first | decide | omega)) (by rfl) Y.g_law_pick Y.F_law_pick.kp (B_law_pick Y) .nil pass0 (pa_cons (pv 0) (pa_cons pe_int pa_nil))) pe_int) pa_nil)))))))) pa_nil))))), ?_⟩
    walk_at "w"
    refine ⟨d, q, 12, rfl, hD, (small_log (by decide)).1, (small_log (by decide)).2, fun H1 n1 k1 hD1 a1 b1 => ?_⟩
    walk_at "w"
    refine ⟨d, q, 40, rfl, hD1, (small_log (by decide)).1, (small_log (by decide)).2, fun H2 n2 k2 hD2 a2 b2 => ?_⟩
    walk_at "w"
    refine ⟨d, q, 1999999, rfl, hD2, (small_log (by decide)).1, (small_log (by decide)).2, fun H3 n3 k3 hD3 a3 b3 => ?_⟩
    walk_at "w"
    rename_i p np
    refine ⟨d, q, p, _, rfl, hD3.upd np, SqL.of upd_same, by simp, Nat.le_of_ble_eq_true rfl, fun H4 i v k4 hD4 hv => ?_⟩
    have hk : Kp (At d) H H4 := (((k1.trans k2).trans k3).new np).trans k4
    have hm : ∃ n, v = .int n ∧ Zp.inR n = true := by
      have m := List.mem_of_getElem? hv
      simp only [List.mem_cons, List.not_mem_nil, or_false] at m
      unfold Zp.inR
      rcases m with rfl | rfl | rfl | rfl | rfl | rfl | rfl
      all_goals exact ⟨_, rfl, decide_eq_true (by omega)⟩
    obtain ⟨n, rfl, hn⟩ := hm
    exact k _ n hk hD4 hn
theorem letters_at {n : Int} (h0 : 0 ≤ n) (h1 : n < 26) : ∃ c, atI (Str.ofString "abcdefghijklmnopqrstuvwxyz").cps.toList n = some c ∧ letter c = true := by
  obtain ⟨m, rfl⟩ := Int.eq_ofNat_of_zero_le h0
  have hm : m < 26 := by omega
  rw [show (Str.ofString "abcdefghijklmnopqrstuvwxyz").cps.toList = (List.range 26).map (· + 97) from by decide +kernel]
  refine ⟨m + 97, atI_nat (by rw [List.getElem?_map, List.getElem?_range hm]; rfl), decide_eq_true (by omega)⟩
theorem join_letters (l : List Nat) : cs (Txt.join (Str.ofString "") (l.map fun c => (⟨#[c]⟩ : Str))) = l := by
  show cs (Builtin.Str.glued (Str.ofString "") _) = l
  rw [StrLaws.glued_eq_join, show Str.ofString "" = (⟨#[]⟩ : Str) by decide +kernel, join_ones]
theorem isName_of {s : Str} (h : ∀ c ∈ cs s, letter c = true) (h1 : 1 ≤ s.length) (h2 : s.length ≤ 8) : isName s = true := by
  unfold isName
  rw [decide_eq_true h1, decide_eq_true h2]
  exact List.all_eq_true.mpr h
theorem vals_letters {ys : List V} (h : ∀ v ∈ ys, ∃ c, letter c = true ∧ v = .str ⟨#[c]⟩) : ∃ l : List Nat, ys = (l.map fun c => (⟨#[c]⟩ : Str)).map V.str ∧ ∀ c ∈ l, letter c = true := by
  induction ys with
  | nil => exact ⟨[], rfl, fun _ h => by cases h⟩
  | cons y ys ih =>
    obtain ⟨l, e, hl⟩ := ih fun v hv => h v (List.mem_cons_of_mem _ hv)
    obtain ⟨c, hc, rfl⟩ := h y (List.mem_cons_self ..)
    refine ⟨c :: l, by rw [e]; rfl, fun x hx => ?_⟩
    rcases List.mem_cons.mp hx with rfl | hx
    · exact hc
    · exact hl x hx
theorem sum_ones (l : List Nat) : ((l.map fun c => (⟨#[c]⟩ : Str)).map fun x => x.length).sum = l.length := by
  induction l with
  | nil => rfl
  | cons c l ih =>
    rw [List.map_cons, List.map_cons, List.sum_cons, ih, List.length_cons]
    show 1 + l.length = l.length + 1
    omega
theorem _root_.Zd.DrawAt.free' {K : PySem.W.Frag} {d : Addr} {q : Addr × List Int} {H : Hp} {p : Addr} {xs : List V} (h : DrawAt K d q H) (e : H p = some (.lst xs)) : ¬ At d p := fun z => by
  obtain ⟨a, r, s, e2, _⟩ := h
  rw [show p = d from z, e2] at e
  cases e
theorem ok_law_word (Y : Top K mg w) : FnOk P w K mg base CX0 3 Y.a_law_word Y.d_law_word ["_law_d"] (spWord K) := by
  have G_law_pick := ok_law_pick (P := P) (base := base) Y
  have G_law_of := ok_law_of (P := P) (base := base) Y
  refine Y.F_law_word.ok sc_law_word (fun vs H Q E h => ?_) (fun cdv A outer s H vs Q E hr h => ?_)
  · obtain ⟨d, q, rfl, _⟩ := h
    rfl
  · obtain ⟨d, q, rfl, hD, k⟩ := h
    refine ⟨_, PSs.nox (pss_cons (ps_set (i := 1) sc_law_word.nd rfl (by first | exact Or.inl rfl | exact Or.inr rfl) pe_str) (pss_cons (ps_set (i := 2) sc_law_word.nd rfl (by first | exact Or.inl rfl | exact Or.inr rfl) (pe_call G_law_of (hr.mono (by first | decide | omega)) (by rfl) Y.g_law_of Y.F_law_of.kp (B_law_of Y) .nil pass0 (pa_cons (pv 0) (pa_cons (pe_lst (pa_cons pe_str (pa_cons pe_str (pa_cons pe_str (pa_cons pe_str (pa_cons pe_str pa_nil)))))) pa_nil)))) (pss_cons (ps_set (i := 3) sc_law_word.nd rfl (by first | exact Or.inl rfl | exact Or.inr rfl) (pe_op op_add pe_int (pe_call G_law_pick (hr.mono (by first | decide | omega)) (by rfl) Y.g_law_pick Y.F_law_pick.kp (B_law_pick Y) .nil pass0 (pa_cons (pv 0) (pa_cons (pe_op op_sub pe_int (pe_callB call_len (by rfl) Y.b_len PySem.boot_len (pa_cons (pv 2) pa_nil))) pa_nil))))) (pss_cons (ps_set (i := 4) sc_law_word.nd rfl (by first | exact Or.inl rfl | exact Or.inr rfl) (pe_join pe_str (pe_lc (own := [("_law_k", 5)]) (g := (gName 5)) (tt := tYes) rfl sc_law_word.nd (pi_range1 (by rfl) Y.b_range (pa_cons (pv 3) pa_nil)) (blkOk_by (N := ["_law_d", "_law_letters", "_law_first", "_law_size", "_law_some", "_law_k"]) (sc := defScope s_law_word) (by decide +kernel)) (fun _ _ _ _ _ => (pg_name (i := 5) sc_law_word.nd rfl (by first | exact Or.inl rfl | exact Or.inr rfl))) (fun _ _ _ _ _ => pts_nil) (fun _ _ _ _ _ => (pe_ix ix_str (pv 1) (pe_call G_law_pick (hr.mono (by first | decide | omega)) (by rfl) Y.g_law_pick Y.F_law_pick.kp (B_law_pick Y) .nil pass0 (pa_cons (pv 0) (pa_cons pe_int pa_nil))) (fun _ _ => rfl)))))) (pss_one (ps_ret (pe_ix ix_list (pe_lst (pa_cons (pe_op op_add_str (pv 2) (pv 4)) (pa_cons (pe_op op_add_str (pv 4) (pv 2)) pa_nil))) (pe_call G_law_pick (hr.mono (by first | decide | omega)) (by rfl) Y.g_law_pick Y.F_law_pick.kp (B_law_pick Y) .nil pass0 (pa_cons (pv 0) (pa_cons pe_int pa_nil))) (fun _ _ => rfl)))))))), ?_⟩
    walk_at "w"
    rename_i p np
    refine ⟨d, q, p, _, rfl, hD.upd np, SqL.of upd_same, by simp, Nat.le_of_ble_eq_true rfl, fun H1 i v k1 hD1 hv => ?_⟩
    have hk1 : Kp (At d) H H1 := (Kp.refl.new np).trans k1
    have hv : ∃ f : Str, v = .str f ∧ (∀ c ∈ cs f, letter c = true) ∧ f.length ≤ 7 := by
      have m := List.mem_of_getElem? hv
      simp only [List.mem_cons, List.not_mem_nil, or_false] at m
      have z : ∀ f : Str, ((cs f).all letter && decide (f.length ≤ 7)) = true → (∀ c ∈ cs f, letter c = true) ∧ f.length ≤ 7 := fun f h => by
        obtain ⟨a, b⟩ := Bool.and_eq_true_iff.mp h
        exact ⟨List.all_eq_true.mp a, of_decide_eq_true b⟩
      rcases m with rfl | rfl | rfl | rfl | rfl
      all_goals exact ⟨_, rfl, z _ (by decide +kernel)⟩
    obtain ⟨f, rfl, hf, hfl⟩ := hv
    have lf : f.length ≤ sizeLine := Nat.le_trans hfl (by decide)
    walk_at "w"
    refine ⟨d, q, 8 - (f.length : Int), rfl, hD1, by omega, log_le (by omega) (Int.lt_of_le_of_lt (show 8 - (f.length : Int) ≤ 8 by omega) (by decide)), fun H2 n k2 hD2 a2 b2 => ?_⟩
    walk_at "w"
    refine ⟨by omega, by omega, ?_⟩
    obtain ⟨m, rfl⟩ := Int.eq_ofNat_of_zero_le a2
    rw [show (1 + (m : Int)).toNat = m + 1 by omega]
    have hk2 := hk1.trans k2
    refine lc_gen (walk_range 0 (m + 1)) (F := At d) (I := fun _ H => DrawAt K d q H) (P := fun _ i v H => ∃ c, letter c = true ∧ v = .str ⟨#[c]⟩) (fun _ _ => trivial) (fun D hD z => hD2.free hD z) (Nat.le_trans (show m + 1 ≤ 100 by omega) (by decide)) hD2 ?_ (fun _ _ _ _ _ _ _ _ z => z) (fun _ _ _ _ _ _ _ _ z _ _ => z) ?_ (fun _ _ _ k3 hd => hd.kept k3) ?_
    · intro i H3 D o hD h3
      exact hD2.own hD h3
    · intro D i x H3 l Q' hi hD eD k3 hD3 hx kont
      subst hx
      walk_at "w"
      refine ⟨d, q, 26, rfl, hD3, (small_log (by decide)).1, (small_log (by decide)).2, fun H4 n k4 hD4 a4 b4 => ?_⟩
      obtain ⟨c, hc, hlc⟩ := letters_at a4 b4
      exact go_ixS (by decide +kernel) hc (kont _ _ k4 hD4 ⟨c, hlc, rfl⟩)
    · intro D ys H3 hD hlen hys k3 hD3 eD
      obtain ⟨l, rfl, hl⟩ := vals_letters fun v hv => by
        obtain ⟨i, hi⟩ := List.getElem?_of_mem hv
        exact hys i v hi
      rw [List.length_map, List.length_map] at hlen
      walk_at "w"
      have ej := join_letters l
      have lm : l.length = m + 1 := hlen
      refine go_join (SqL.of eD) ?_ ?_
      · rw [sum_ones, List.length_map, show (Str.ofString "").length = 0 by decide +kernel]
        omega
      generalize Txt.join (Str.ofString "") (l.map fun c => (⟨#[c]⟩ : Str)) = J at ej
      have lJ : J.length = m + 1 := by rw [len_cs, ej, lm]
      have lb : (100 : Nat) ≤ sizeLine := by decide
      have hm : m < 8 - f.length := by omega
      walk_at "w"
      refine go_catS (by omega) ?_
      walk_at "w"
      refine go_catS (by omega) ?_
      walk_at "w"
      rename_i p2 np2
      refine ⟨d, q, 2, rfl, hD3.upd np2, (small_log (by decide)).1, (small_log (by decide)).2, fun H4 n k4 hD4 a4 b4 => ?_⟩
      have e4 : H4 p2 = some (.lst [.str (f ++ J), .str (J ++ f)]) := k4 _ _ (hD3.free np2) upd_same
      have hk4 : Kp (At d) H H4 := ((hk2.trans k3).new np2).trans k4
      have good : ∀ a b : Str, cs a = cs f ∨ cs a = l → cs b = cs f ∨ cs b = l → a.length + b.length = f.length + J.length → isName (a ++ b) = true := by
        intro a b ha hb hab
        refine isName_of (fun c hc => ?_) (by rw [len_app]; omega) (by rw [len_app]; omega)
        rw [cs_app] at hc
        rcases List.mem_append.mp hc with hc | hc
        · rcases ha with ha | ha <;> rw [ha] at hc
          · exact hf c hc
          · exact hl c hc
        · rcases hb with hb | hb <;> rw [hb] at hc
          · exact hf c hc
          · exact hl c hc
      have n01 : n = 0 ∨ n = 1 := by omega
      rcases n01 with rfl | rfl
      · exact go_ixL (SqL.of e4) (v := .str (f ++ J)) rfl (k _ _ hk4 hD4 (good f J (.inl rfl) (.inr ej) rfl))
      · exact go_ixL (SqL.of e4) (v := .str (J ++ f)) rfl (k _ _ hk4 hD4 (good J f (.inr ej) (.inl rfl) (Nat.add_comm ..)))
end
end Z

namespace Z
open PySem PySem.Spec PyProof.Rows L2 Zg Zp Zd
def spWords (K : PySem.W.Frag) : Sp := fun vs H Q _ => ∃ (d : Addr) (q : Addr × List Int) (m : Nat), vs = [.ref d, .int m] ∧ m ≤ 100 ∧ DrawAt K d q H ∧
  ∀ H' l (ws : List Str), Kp (At d) H H' → DrawAt K d q H' → H l = none → H' l = some (.lst (ws.map V.str)) → (∀ s ∈ ws, isName s = true) → ws.length = m → Q (.ref l) H'
section
variable {P : Program} {w : World} {K : PySem.W.Frag} {mg : Str → Option Value} {base : Heap}
theorem sc_law_words : FnScope ["_law_d", "_law_many", "_law_found", "_law_k", "_law_word_here", "_law_step"] ["_law_d", "_law_many"] (defScope s_law_words) := ⟨rfl, rfl, rfl, by decide +kernel, rfl, by decide +kernel, by decide +kernel⟩
theorem B_law_words (Y : Top K mg w) : L2.Binds K Y.d_law_words ["_law_d", "_law_many"] [] := Y.F_law_words.bindsN fun _ _ _ _ _ _ us hl => match us, hl with | [_, _], _ => rfl
theorem eight_at {a b : Str} {n : Int} (e : ((cs a).all letter && decide ((cs a).length = 8)) = true) (h0 : 0 ≤ n) (h1 : n < 8) : ∃ c, atI a.cps.toList n = some c ∧ letter c = true := by
  obtain ⟨e1, e2⟩ := Bool.and_eq_true_iff.mp e
  have e2 := of_decide_eq_true e2
  obtain ⟨m, rfl⟩ := Int.eq_ofNat_of_zero_le h0
  have hm : m < (cs a).length := by omega
  exact ⟨(cs a)[m], atI_nat (List.getElem?_eq_getElem hm), List.all_eq_true.mp e1 _ (List.getElem_mem hm)⟩
theorem flat_strs (ws : List Str) : (ws.map V.str).all flatV = true := by
  rw [List.all_map]
  exact List.all_eq_true.mpr fun _ _ => rfl
theorem ok_law_words (Y : Top K mg w) : FnOk P w K mg base CX0 4 Y.a_law_words Y.d_law_words ["_law_d", "_law_many"] (spWords K) := by
  have G_law_word := ok_law_word (P := P) (base := base) Y
  refine Y.F_law_words.ok sc_law_words (fun vs H Q E h => ?_) (fun cdv A outer s H vs Q E hr h => ?_)
  · obtain ⟨d, q, m, rfl, _⟩ := h
    rfl
  · obtain ⟨d, q, m, rfl, hm, hD, k⟩ := h
    refine ⟨_, PSs.nox (pss_cons (ps_set (i := 2) sc_law_words.nd rfl (by first | exact Or.inl rfl | exact Or.inr rfl) (pe_lst pa_nil)) (pss_cons (ps_for PassesOwn.never rfl (pi_range1 (by rfl) Y.b_range (pa_cons (pv 1) pa_nil)) (pg_name (i := 3) sc_law_words.nd rfl (by first | exact Or.inl rfl | exact Or.inr rfl)) (pss_cons (ps_set (i := 4) sc_law_words.nd rfl (by first | exact Or.inl rfl | exact Or.inr rfl) (pe_call G_law_word (hr.mono (by first | decide | omega)) (by rfl) Y.g_law_word Y.F_law_word.kp (B_law_word Y) .nil pass0 (pa_cons (pv 0) pa_nil))) (pss_cons (ps_for PassesOwn.never rfl (pi_range1 (by rfl) Y.b_range (pa_cons pe_int pa_nil)) (pg_name (i := 5) sc_law_words.nd rfl (by first | exact Or.inl rfl | exact Or.inr rfl)) (pss_one (ps_if (pt_cmpR op_in_seq (pv 4) (pv 2) (by with_unfolding_all rfl)) (pss_one (ps_set (i := 4) sc_law_words.nd rfl (by first | exact Or.inl rfl | exact Or.inr rfl) (pe_op op_add_str (pe_ix ix_str pe_str (pe_op op_mod (pe_op op_add (pv 3) (pv 5)) pe_int) (fun _ _ => rfl)) (pe_ix ix_str pe_str (pe_op op_mod (pe_op op_fdivW (pe_op op_add (pv 3) (pv 5)) pe_int) pe_int) (fun _ _ => rfl))))) pss_nil))) (pss_one (ps_expr (pe_bm PySem.F.plainAttrs_list PySem.F.slot_list_append PySem.F.type_list_append mt_append (pv 2) (pa_cons (pv 4) pa_nil))))))) (pss_one (ps_ret (pv 2))))), ?_⟩
    walk_at "w"
    rename_i l nl
    refine ⟨by omega, by omega, ?_⟩
    rw [show ((m : Nat) : Int).toNat = m by omega]
    refine for_gen (walk_range 0 m) (fun i σ H' => ∃ (ws : List Str) (o3 o4 o5 : Option V), σ = [some (.ref d), some (.int m), some (.ref l), o3, o4, o5] ∧ Kp (At d) H H' ∧ DrawAt K d q H' ∧ H' l = some (.lst (ws.map V.str)) ∧ (∀ s ∈ ws, isName s = true) ∧ ws.length = i) ?_ (fun _ _ _ _ => trivial) ?_ ?_
    · exact ⟨[], none, none, none, rfl, Kp.refl.new nl, hD.upd nl, upd_same, fun _ z => (by cases z), rfl⟩
    · rintro i x σ H1 H2 hi ⟨ws, o3, o4, o5, rfl, k1, hD1, e1, hw, hl⟩ k2 rfl
      have hD2 := hD1.kept k2
      walk_at "w"
      refine ⟨d, q, rfl, hD2, fun H3 s k3 hD3 hs => ?_⟩
      have e3 : H3 l = some (.lst (ws.map V.str)) := k3 _ _ (hD.free nl) (k2 _ _ id e1)
      walk_at "w"
      refine ⟨by decide, by decide, ?_⟩
      refine for_gen (walk_range 0 64) (fun j σ H' => ∃ (s : Str) (o5 : Option V), σ = [some (.ref d), some (.int m), some (.ref l), some (.int (0 + (i : Int))), some (.str s), o5] ∧ Kp No H3 H' ∧ isName s = true) ?_ (fun _ _ _ _ => trivial) ?_ ?_
      · exact ⟨s, o5, rfl, Kp.refl, hs⟩
      · rintro j x σ H4 H5 hj ⟨s, o5, rfl, k4, hs⟩ k5 rfl
        have e5 : H5 l = some (.lst (ws.map V.str)) := k5 _ _ id (k4 _ _ id e3)
        walk_at "w"
        refine go_inL (SqL.of e5) rfl (flat_strs ws) ?_
        walk_at "w"
        refine go_if (fun y => ?_) (fun y => ?_)
        · walk_at "w"
          have b1 : 0 ≤ (0 + (i : Int) + (0 + (j : Int))) % 8 := Int.emod_nonneg _ (by decide)
          have b2 : (0 + (i : Int) + (0 + (j : Int))) % 8 < 8 := Int.emod_lt_of_pos _ (by decide)
          obtain ⟨c1, h1, h2⟩ := eight_at (a := Str.ofString "abcdefgh") (b := Str.ofString "") (by decide +kernel) b1 b2
          refine go_ixS (by decide +kernel) h1 ?_
          walk_at "w"
          refine go_rI' (⟨by decide, by decide⟩ : CDivW _ _) ?_
          walk_at "w"
          obtain ⟨c2, h3, h4⟩ := eight_at (a := Str.ofString "qrstuvwx") (b := Str.ofString "") (by decide +kernel) (Int.emod_nonneg ((0 + (i : Int) + (0 + (j : Int))) / 8) (by decide)) (Int.emod_lt_of_pos _ (by decide))
          refine go_ixS (by decide +kernel) h3 ?_
          refine go_catS (by show 2 ≤ sizeLine; decide) ?_
          walk_at "w"
          refine ⟨_, _, rfl, k4.trans k5, isName_of (fun c hc => ?_) (by show 1 ≤ 2; decide) (by show 2 ≤ 8; decide)⟩
          rw [cs_app] at hc
          have hc : c ∈ [c1, c2] := hc
          simp only [List.mem_cons, List.not_mem_nil, or_false] at hc
          rcases hc with rfl | rfl
          · exact h2
          · exact h4
        · walk_at "w"
          exact ⟨_, _, rfl, k4.trans k5, hs⟩
      · rintro σ H4 ⟨s, o5, rfl, k4, hs⟩
        have e4 : H4 l = some (.lst (ws.map V.str)) := k4 _ _ id e3
        walk_at "w"
        refine go_append e4 (by rw [List.length_map]; exact Nat.lt_of_le_of_lt (show ws.length ≤ 100 by omega) (by decide)) ?_
        have hkl : Kp (At d) H H4 := (((k1.trans k2.ofNo).trans k3).trans k4.ofNo)
        exact ⟨ws ++ [s], _, _, _, rfl, hkl.own nl, hD.own nl (hD3.kept k4), by rw [upd_same, List.map_append]; rfl, fun x hx => by
          rcases List.mem_append.mp hx with hx | hx
          · exact hw x hx
          · rw [List.mem_singleton.mp hx]; exact hs, by rw [List.length_append, hl]; rfl⟩
    · rintro σ H1 ⟨ws, o3, o4, o5, rfl, k1, hD1, e1, hw, hl⟩
      walk_at "w"
      exact k _ l ws k1 hD1 nl e1 hw hl
end
end Z

namespace Z
open PySem PySem.Spec PyProof.Rows L2 Zg Zp Zd
/-- a list of names -/
def NamesAt (K : PySem.W.Frag) (l : Addr) (H : Hp) : Prop := ∃ ws : List Str, SqL K H l (ws.map V.str) ∧ ws ≠ [] ∧ ws.length ≤ 100 ∧ ∀ s ∈ ws, isName s = true
theorem NamesAt.kept {K : PySem.W.Frag} {l d : Addr} {q : Addr × List Int} {H H' : Hp} (h : NamesAt K l H) (hD : DrawAt K d q H) (k : Kp (At d) H H') : NamesAt K l H' := by
  obtain ⟨ws, h1, h2⟩ := h
  exact ⟨ws, hD.sqL k h1, h2⟩
def spLeaf (K : PySem.W.Frag) : Sp := fun vs H Q _ => ∃ (d : Addr) (q : Addr × List Int) (ln lk : Addr), vs = [.ref d, .ref ln, .ref lk] ∧ DrawAt K d q H ∧ NamesAt K ln H ∧ NamesAt K lk H ∧
  ∀ H' v (t : Zp.T), Kp (At d) H H' → DrawAt K d q H' → Dp K H' v t.d → t.leaf = true → t.nm = true → Q v H'
def spTree (K : PySem.W.Frag) (k : Nat) : Sp := fun vs H Q _ => ∃ (d : Addr) (q : Addr × List Int) (n : Nat) (ln lk : Addr), vs = [.ref d, .int n, .ref ln, .ref lk] ∧ n < k ∧ 1 ≤ n ∧ n ≤ 5 ∧ DrawAt K d q H ∧ NamesAt K ln H ∧ NamesAt K lk H ∧
  ∀ H' v (t : Zp.T), Kp (At d) H H' → DrawAt K d q H' → Dp K H' v t.d → t.deep ≤ n → t.parts < 2 ^ n → t.nm = true → Q v H'
section
variable {P : Program} {w : World} {K : PySem.W.Frag} {mg : Str → Option Value} {base : Heap}
theorem sc_law_leaf : FnScope ["_law_d", "_law_names", "_law_kinds", "_law_way"] ["_law_d", "_law_names", "_law_kinds"] (defScope s_law_leaf) := ⟨rfl, rfl, rfl, by decide +kernel, rfl, by decide +kernel, by decide +kernel⟩
theorem sc_law_tree : FnScope ["_law_d", "_law_deep_here", "_law_names", "_law_kinds", "_law_way", "_law_word_here"] ["_law_d", "_law_deep_here", "_law_names", "_law_kinds"] (defScope s_law_tree) := ⟨rfl, rfl, rfl, by decide +kernel, rfl, by decide +kernel, by decide +kernel⟩
theorem B_law_leaf (Y : Top K mg w) : L2.Binds K Y.d_law_leaf ["_law_d", "_law_names", "_law_kinds"] [] := Y.F_law_leaf.bindsN fun _ _ _ _ _ _ us hl => match us, hl with | [_, _, _], _ => rfl
theorem B_law_tree (Y : Top K mg w) : L2.Binds K Y.d_law_tree ["_law_d", "_law_deep_here", "_law_names", "_law_kinds"] [] := Y.F_law_tree.bindsN fun _ _ _ _ _ _ us hl => match us, hl with | [_, _, _, _], _ => rfl
theorem ok_law_leaf (Y : Top K mg w) : FnOk P w K mg base CX0 4 Y.a_law_leaf Y.d_law_leaf ["_law_d", "_law_names", "_law_kinds"] (spLeaf K) := by
  have G_law_pick := ok_law_pick (P := P) (base := base) Y
  have G_law_of := ok_law_of (P := P) (base := base) Y
  have G_law_number := ok_law_number (P := P) (base := base) Y
  refine Y.F_law_leaf.ok sc_law_leaf (fun vs H Q E h => ?_) (fun cdv A outer s H vs Q E hr h => ?_)
  · obtain ⟨d, q, ln, lk, rfl, _⟩ := h
    rfl
  · obtain ⟨d, q, ln, lk, rfl, hD, hN, hK, k⟩ := h
    refine ⟨_, PSs.nox (pss_cons (ps_set (i := 3) sc_law_leaf.nd rfl (by first | exact Or.inl rfl | exact Or.inr rfl) (pe_call G_law_pick (hr.mono (by first | decide | omega)) (by rfl) Y.g_law_pick Y.F_law_pick.kp (B_law_pick Y) .nil pass0 (pa_cons (pv 0) (pa_cons pe_int pa_nil)))) (pss_cons (ps_if (pt_cmpR op_eq (pv 3) pe_int (nomark _)) (pss_one (ps_ret (pe_tup (pa_cons pe_str pa_nil)))) pss_nil) (pss_cons (ps_if (pt_cmpR op_eq (pv 3) pe_int (nomark _)) (pss_one (ps_ret (pe_tup (pa_cons pe_str (pa_cons (pe_call G_law_of (hr.mono (by first | decide | omega)) (by rfl) Y.g_law_of Y.F_law_of.kp (B_law_of Y) .nil pass0 (pa_cons (pv 0) (pa_cons (pv 2) pa_nil))) pa_nil))))) pss_nil) (pss_one (ps_ret (pe_tup (pa_cons (pe_ix ix_list (pe_lst (pa_cons pe_str (pa_cons pe_str pa_nil))) (pe_op op_mod (pv 3) pe_int) (fun _ _ => rfl)) (pa_cons (pe_call G_law_of (hr.mono (by first | decide | omega)) (by rfl) Y.g_law_of Y.F_law_of.kp (B_law_of Y) .nil pass0 (pa_cons (pv 0) (pa_cons (pv 1) pa_nil))) (pa_cons (pe_call G_law_number (hr.mono (by first | decide | omega)) (by rfl) Y.g_law_number Y.F_law_number.kp (B_law_number Y) .nil pass0 (pa_cons (pv 0) pa_nil)) pa_nil))))))))), ?_⟩
    walk_at "w"
    refine ⟨d, q, 6, rfl, hD, (small_log (by decide)).1, (small_log (by decide)).2, fun H1 n k1 hD1 a1 b1 => ?_⟩
    have hN1 := hN.kept hD k1
    have hK1 := hK.kept hD k1
    walk_at "w"
    refine go_if (fun y => ?_) (fun y => ?_)
    · walk_at "w"
      rename_i p np
      exact k _ _ .all (k1.new np) (hD1.upd np) (.tup (SqT.of upd_same) (.cons (.str _) .nil)) rfl rfl
    · walk_at "w"
      refine go_if (fun y2 => ?_) (fun y2 => ?_)
      · walk_at "w"
        obtain ⟨ws, hw, hne, hl, hnm⟩ := hK1
        refine ⟨d, q, lk, _, rfl, hD1, hw, by simpa using hne, by rw [List.length_map]; omega, fun H2 i v k2 hD2 hv => ?_⟩
        rw [List.getElem?_map, Option.map_eq_some_iff] at hv
        obtain ⟨s, hs, rfl⟩ := hv
        walk_at "w"
        rename_i p np
        exact k _ _ (.is s) ((k1.trans k2).new np) (hD2.upd np) (.tup (SqT.of upd_same) (.cons (.str _) (.cons (.str _) .nil))) rfl (hnm s (List.mem_of_getElem? hs))
      · walk_at "w"
        rename_i p np
        obtain ⟨z, hz, hz2⟩ : ∃ z, atI [V.str (Str.ofString "less"), V.str (Str.ofString "same")] (n % 2) = some (V.str z) ∧ (z = Str.ofString "less" ∨ z = Str.ofString "same") := by
          have h2 : n % 2 = 0 ∨ n % 2 = 1 := by omega
          rcases h2 with e | e
          · rw [e]; exact ⟨_, rfl, .inl rfl⟩
          · rw [e]; exact ⟨_, rfl, .inr rfl⟩
        refine go_ixL (SqL.of upd_same) hz ?_
        walk_at "w"
        have kp1 := (Kp.refl.new np : Kp (At d) H1 (upd H1 p (.lst [V.str (Str.ofString "less"), V.str (Str.ofString "same")])))
        obtain ⟨ws, hw, hne, hl, hnm⟩ := hN1.kept hD1 kp1
        refine ⟨d, q, ln, _, rfl, hD1.upd np, hw, by simpa using hne, by rw [List.length_map]; omega, fun H2 i v k2 hD2 hv => ?_⟩
        rw [List.getElem?_map, Option.map_eq_some_iff] at hv
        obtain ⟨s, hs, rfl⟩ := hv
        walk_at "w"
        refine ⟨d, q, rfl, hD2, fun H3 m k3 hD3 hm => ?_⟩
        walk_at "w"
        rename_i p2 np2
        have hk := (((k1.trans kp1).trans k2).trans k3).new np2 (o := .tup [V.str z, V.str s, V.int m])
        have hnm2 : (isName s && Zp.inR m) = true := by rw [hnm s (List.mem_of_getElem? hs), hm]; rfl
        rcases hz2 with rfl | rfl
        · exact k _ _ (.less s m) hk (hD3.upd np2) (.tup (SqT.of upd_same) (.cons (.str _) (.cons (.str _) (.cons (.int _) .nil)))) rfl hnm2
        · exact k _ _ (.same s m) hk (hD3.upd np2) (.tup (SqT.of upd_same) (.cons (.str _) (.cons (.str _) (.cons (.int _) .nil)))) rfl hnm2
theorem ok_law_tree (Y : Top K mg w) : ∀ n, FnOk P w K mg base CX0 (n + 5) Y.a_law_tree Y.d_law_tree ["_law_d", "_law_deep_here", "_law_names", "_law_kinds"] (spTree K n)
  | 0 => Y.F_law_tree.ok sc_law_tree (fun vs H Q E ⟨_, _, _, _, _, _, h, _⟩ => absurd h (Nat.not_lt_zero _)) fun cdv A outer s H vs Q E hr ⟨_, _, _, _, _, _, h, _⟩ => absurd h (Nat.not_lt_zero _)
  | n + 1 => by
    have G_law_pick := ok_law_pick (P := P) (base := base) Y
    have G_law_leaf := ok_law_leaf (P := P) (base := base) Y
    have G_law_tree := ok_law_tree Y n
    refine Y.F_law_tree.ok sc_law_tree (fun vs H Q E h => ?_) (fun cdv A outer s H vs Q E hr h => ?_)
    · obtain ⟨d, q, m, ln, lk, rfl, _⟩ := h
      rfl
    · obtain ⟨d, q, m, ln, lk, rfl, hm, hm1, hm5, hD, hN, hK, k⟩ := h
      refine ⟨_, PSs.nox (pss_cons (ps_set (i := 4) sc_law_tree.nd rfl (by first | exact Or.inl rfl | exact Or.inr rfl) (pe_call G_law_pick (hr.mono (by first | decide | omega)) (by rfl) Y.g_law_pick Y.F_law_pick.kp (B_law_pick Y) .nil pass0 (pa_cons (pv 0) (pa_cons pe_int pa_nil)))) (pss_cons (ps_if (PW.pt (pw_or (pt_cmpR op_lt (pv 1) pe_int (nomark _)) (pw_or1 (pt_cmpR op_eq (pv 4) pe_int (nomark _))))) (pss_one (ps_ret (pe_call G_law_leaf (hr.mono (by first | decide | omega)) (by rfl) Y.g_law_leaf Y.F_law_leaf.kp (B_law_leaf Y) .nil pass0 (pa_cons (pv 0) (pa_cons (pv 2) (pa_cons (pv 3) pa_nil)))))) pss_nil) (pss_cons (ps_if (pt_cmpR op_eq (pv 4) pe_int (nomark _)) (pss_one (ps_ret (pe_tup (pa_cons pe_str (pa_cons (pe_call G_law_tree (hr.mono (by first | decide | omega)) (by rfl) Y.g_law_tree Y.F_law_tree.kp (B_law_tree Y) .nil pass0 (pa_cons (pv 0) (pa_cons (pe_op op_sub (pv 1) pe_int) (pa_cons (pv 2) (pa_cons (pv 3) pa_nil))))) pa_nil))))) pss_nil) (pss_cons (ps_set (i := 5) sc_law_tree.nd rfl (by first | exact Or.inl rfl | exact Or.inr rfl) (pe_ix ix_list (pe_lst (pa_cons pe_str (pa_cons pe_str pa_nil))) (pe_op op_mod (pv 4) pe_int) (fun _ _ => rfl))) (pss_one (ps_ret (pe_tup (pa_cons (pv 5) (pa_cons (pe_call G_law_tree (hr.mono (by first | decide | omega)) (by rfl) Y.g_law_tree Y.F_law_tree.kp (B_law_tree Y) .nil pass0 (pa_cons (pv 0) (pa_cons (pe_op op_sub (pv 1) pe_int) (pa_cons (pv 2) (pa_cons (pv 3) pa_nil))))) (pa_cons (pe_call G_law_tree (hr.mono (by first | decide | omega)) (by rfl) Y.g_law_tree Y.F_law_tree.kp (B_law_tree Y) .nil pass0 (pa_cons (pv 0) (pa_cons (pe_op op_sub (pv 1) pe_int) (pa_cons (pv 2) (pa_cons (pv 3) pa_nil))))) pa_nil)))))))))), ?_⟩
      walk_at "w"
      refine ⟨d, q, 5, rfl, hD, (small_log (by decide)).1, (small_log (by decide)).2, fun H1 b k1 hD1 a1 b1 => ?_⟩
      have hN1 := hN.kept hD k1
      have hK1 := hK.kept hD k1
      have two : 2 ≤ 2 ^ m := show 2 ^ 1 ≤ 2 ^ m from Nat.pow_le_pow_right (by decide) hm1
      have leaf : ∀ K' : VK, (∀ H' v (t : Zp.T), Kp (At d) H H' → DrawAt K d q H' → Dp K H' v t.d → t.deep ≤ m → t.parts < 2 ^ m → t.nm = true → K' v H') → spLeaf K [.ref d, .ref ln, .ref lk] H1 K' E0 := by
        intro K' kk
        refine ⟨d, q, ln, lk, rfl, hD1, hN1, hK1, fun H2 v t k2 hD2 hv hl hn => kk H2 v t (k1.trans k2) hD2 hv ?_ ?_ hn⟩
        · have : t.deep = 1 := by cases t <;> first | rfl | cases hl
          omega
        · have : t.parts = 1 := by cases t <;> first | rfl | cases hl
          omega
      walk_at "w"
      refine go_if (fun y => ?_) (fun y => ?_)
      · walk_at "w"
        exact leaf _ k
      · have y := of_decide_eq_false y
        have hm2 : 2 ≤ m := by omega
        have em : ((m : Nat) : Int) - 1 = ((m - 1 : Nat) : Int) := by omega
        have pw : 2 ^ m = 2 * 2 ^ (m - 1) := by
          obtain ⟨j, rfl⟩ : ∃ j, m = j + 1 := ⟨m - 1, by omega⟩
          rw [Nat.pow_succ]
          show 2 ^ j * 2 = 2 * 2 ^ j
          omega
        walk_at "w"
        refine go_if (fun y2 => ?_) (fun y2 => ?_)
        · walk_at "w"
          exact leaf _ k
        · walk_at "w"
          refine go_if (fun y3 => ?_) (fun y3 => ?_)
          · walk_at "w"
            rw [em]
            refine ⟨d, q, m - 1, ln, lk, rfl, by omega, by omega, by omega, hD1, hN1, hK1, fun H2 v t k2 hD2 hv t1 t2 t3 => ?_⟩
            walk_at "w"
            rename_i p np
            exact k _ _ (.nt t) ((k1.trans k2).new np) (hD2.upd np) (.tup (SqT.of upd_same) (.cons (.str _) (.cons ((Kp.refl.new np : Kp No H2 _).dp NoTup.no _ t.tupd hv) .nil))) (by simp only [Zp.T.deep]; omega) (by simp only [Zp.T.parts]; omega) t3
          · walk_at "w"
            rename_i p np
            obtain ⟨z, hz, hz2⟩ : ∃ z, atI [V.str (Str.ofString "and"), V.str (Str.ofString "or")] (b % 2) = some (V.str z) ∧ (z = Str.ofString "and" ∨ z = Str.ofString "or") := by
              have h2 : b % 2 = 0 ∨ b % 2 = 1 := by omega
              rcases h2 with e | e
              · rw [e]; exact ⟨_, rfl, .inl rfl⟩
              · rw [e]; exact ⟨_, rfl, .inr rfl⟩
            refine go_ixL (SqL.of upd_same) hz ?_
            walk_at "w"
            have kp1 := (Kp.refl.new np : Kp (At d) H1 (upd H1 p (.lst [V.str (Str.ofString "and"), V.str (Str.ofString "or")])))
            rw [em]
            refine ⟨d, q, m - 1, ln, lk, rfl, by omega, by omega, by omega, hD1.upd np, hN1.kept hD1 kp1, hK1.kept hD1 kp1, fun H2 v t k2 hD2 hv t1 t2 t3 => ?_⟩
            have hN2 := (hN1.kept hD1 kp1).kept (hD1.upd np) k2
            have hK2 := (hK1.kept hD1 kp1).kept (hD1.upd np) k2
            walk_at "w"
            rw [em]
            refine ⟨d, q, m - 1, ln, lk, rfl, by omega, by omega, by omega, hD2, hN2, hK2, fun H3 v2 u k3 hD3 hv2 u1 u2 u3 => ?_⟩
            walk_at "w"
            rename_i p2 np2
            have hv3 := k3.dp hD2.noTup _ t.tupd hv
            have kp2 : Kp No H3 (upd H3 p2 (.tup [V.str z, v, v2])) := Kp.refl.new np2
            have hk := ((((k1.trans kp1).trans k2).trans k3)).trans kp2.ofNo
            have hnm : (t.nm && u.nm) = true := by rw [t3, u3]; rfl
            have hdd : max t.deep u.deep + 1 ≤ m := by omega
            have hpp : t.parts + u.parts + 1 < 2 ^ m := by omega
            rcases hz2 with rfl | rfl
            · exact k _ _ (.an t u) hk (hD3.upd np2) (.tup (SqT.of upd_same) (.cons (.str _) (.cons (kp2.dp NoTup.no _ t.tupd hv3) (.cons (kp2.dp NoTup.no _ u.tupd hv2) .nil)))) hdd hpp hnm
            · exact k _ _ (.orr t u) hk (hD3.upd np2) (.tup (SqT.of upd_same) (.cons (.str _) (.cons (kp2.dp NoTup.no _ t.tupd hv3) (.cons (kp2.dp NoTup.no _ u.tupd hv2) .nil)))) hdd hpp hnm
end
end Z

namespace Z
open PySem PySem.Spec PyProof.Rows L2 Zg Zp Zd
def spLParts (K : PySem.W.Frag) (n : Nat) : Sp := fun vs H Q _ => ∃ v t, vs = [v] ∧ Dp K H v (T.d t) ∧ t.deep ≤ n ∧ ∀ H', Kp No H H' → Q (.int t.parts) H'
def spLDeep (K : PySem.W.Frag) (n : Nat) : Sp := fun vs H Q _ => ∃ v t, vs = [v] ∧ Dp K H v (T.d t) ∧ t.deep ≤ n ∧ ∀ H', Kp No H H' → Q (.int t.deep) H'
section
variable {P : Program} {w : World} {K : PySem.W.Frag} {mg : Str → Option Value} {base : Heap}
abbrev threeW : List V := [V.str (Str.ofString "not"), V.str (Str.ofString "and"), V.str (Str.ofString "or")]
theorem inV_w (u : Str) : inV (.str u) threeW = decide (u ∈ [((Str.ofString "not"), V.int 1), ((Str.ofString "and"), V.int 2), ((Str.ofString "or"), V.int 2)].map (·.1)) := by
  unfold inV threeW
  simp only [List.any_cons, List.any_nil, List.map_cons, List.map_nil, Bool.or_false]
  rw [Bool.eq_iff_iff]
  simp only [Bool.or_eq_true, decide_eq_true_eq, List.mem_cons, List.not_mem_nil, or_false]
  have e : ∀ a b : Str, eqV (.str a) (.str b) = true ↔ b = a := fun a b => by
    constructor
    · intro h
      have h : decide (a = b) = true := by simpa [eqV] using h
      exact (of_decide_eq_true h).symm
    · intro h
      simp [eqV, h]
  rw [e, e, e]
theorem inV_leaf {u : Str} (h : u ∉ [((Str.ofString "not"), V.int 1), ((Str.ofString "and"), V.int 2), ((Str.ofString "or"), V.int 2)].map (·.1)) : (!inV (.str u) threeW) = true := by
  rw [inV_w, decide_eq_false h]; rfl
theorem inV_tag {t : Zp.T} (h : t.leaf = false) : (!inV (.str t.tag) threeW) = false := by
  rw [inV_w, decide_eq_true (List.mem_map_of_mem (f := fun q : Str × V => q.1) (Zp.T.kids_tag h))]; rfl
theorem parts_kids {t : Zp.T} (h : t.leaf = false) : ((t.parts : Nat) : Int) = 1 + (t.kids.map fun c => ((c.parts : Nat) : Int)).sum := by
  cases t with
  | nt a => simp [Zp.T.parts, Zp.T.kids]; omega
  | an a b => simp [Zp.T.parts, Zp.T.kids]; omega
  | orr a b => simp [Zp.T.parts, Zp.T.kids]; omega
  | _ => cases h
theorem parts_leaf {t : Zp.T} (h : t.leaf = true) : t.parts = 1 ∧ t.deep = 1 := by cases t <;> first | exact ⟨rfl, rfl⟩ | cases h
theorem deep_kids {t : Zp.T} (h : t.leaf = false) {m : Int} (h1 : m ∈ t.kids.map fun c => ((c.deep : Nat) : Int)) (h2 : ∀ y, y ∈ (t.kids.map fun c => ((c.deep : Nat) : Int)) → y ≤ m) : ((t.deep : Nat) : Int) = 1 + m := by
  cases t with
  | nt a =>
    simp only [Zp.T.kids, List.map_cons, List.map_nil, List.mem_cons, List.not_mem_nil, or_false] at h1
    subst h1
    simp only [Zp.T.deep]; omega
  | an a b =>
    simp only [Zp.T.kids, List.map_cons, List.map_nil, List.mem_cons, List.not_mem_nil, or_false, forall_eq_or_imp, forall_eq] at h1 h2
    simp only [Zp.T.deep]
    omega
  | orr a b =>
    simp only [Zp.T.kids, List.map_cons, List.map_nil, List.mem_cons, List.not_mem_nil, or_false, forall_eq_or_imp, forall_eq] at h1 h2
    simp only [Zp.T.deep]
    omega
  | _ => cases h
theorem kids_ne {t : Zp.T} (h : t.leaf = false) : 0 < t.kids.length ∧ t.kids.length ≤ 2 := by
  cases t with
  | nt a => exact ⟨Nat.le_of_ble_eq_true rfl, Nat.le_of_ble_eq_true rfl⟩
  | an a b => exact ⟨Nat.le_of_ble_eq_true rfl, Nat.le_of_ble_eq_true rfl⟩
  | orr a b => exact ⟨Nat.le_of_ble_eq_true rfl, Nat.le_of_ble_eq_true rfl⟩
  | _ => cases h
theorem sc_law_parts : FnScope ["_law_test_here", "_law_part"] ["_law_test_here"] (defScope s_law_parts) := ⟨rfl, rfl, rfl, by decide +kernel, rfl, by decide +kernel, by decide +kernel⟩
theorem sc_law_deep : FnScope ["_law_test_here", "_law_part"] ["_law_test_here"] (defScope s_law_deep) := ⟨rfl, rfl, rfl, by decide +kernel, rfl, by decide +kernel, by decide +kernel⟩
theorem B_law_parts (Y : Top K mg w) : L2.Binds K Y.d_law_parts ["_law_test_here"] [] := Y.F_law_parts.bindsN fun _ _ _ _ _ _ us hl => match us, hl with | [_], _ => rfl
theorem B_law_deep (Y : Top K mg w) : L2.Binds K Y.d_law_deep ["_law_test_here"] [] := Y.F_law_deep.bindsN fun _ _ _ _ _ _ us hl => match us, hl with | [_], _ => rfl
theorem ok_law_parts (Y : Top K mg w) : ∀ n, FnOk P w K mg base CX0 (n + 1) Y.a_law_parts Y.d_law_parts ["_law_test_here"] (spLParts K n)
  | 0 => Y.F_law_parts.ok sc_law_parts (fun vs H Q E ⟨_, t, _, _, h, _⟩ => absurd h (by have := t.deep_pos; omega)) fun cdv A outer s H vs Q E hr ⟨_, t, _, _, h, _⟩ => absurd h (by have := t.deep_pos; omega)
  | n + 1 => by
    have G_law_parts := ok_law_parts Y n
    refine Y.F_law_parts.ok sc_law_parts (fun vs H Q E h => ?_) (fun cdv A outer s H vs Q E hr h => ?_)
    · obtain ⟨v, t, rfl, _⟩ := h
      rfl
    · obtain ⟨v, t, rfl, hv, hd, k⟩ := h
      refine ⟨_, PSs.nox (pss_cons (ps_if (pt_cmpR op_notIn_seq (pe_ix ix_tup (pv 0) pe_int (fun _ _ => rfl)) (pe_tup (pa_cons pe_str (pa_cons pe_str (pa_cons pe_str pa_nil)))) (by with_unfolding_all rfl)) (pss_one (ps_ret pe_int)) pss_nil) (pss_one (ps_ret (pe_op op_add pe_int (pe_callB (cr_sum rfl) (by rfl) Y.b_sum (by decide +kernel) (pa_cons (pe_lc (own := [("_law_part", 1)]) (g := (gName 1)) (tt := tYes) rfl sc_law_parts.nd (pi_tup (pe_slice sl_tupA (pv 0) (po_some pe_int) po_none)) (blkOk_by (N := ["_law_test_here", "_law_part"]) (sc := defScope s_law_parts) (by decide +kernel)) (fun _ _ _ _ _ => (pg_name (i := 1) sc_law_parts.nd rfl (by first | exact Or.inl rfl | exact Or.inr rfl))) (fun _ _ _ _ _ => pts_nil) (fun _ _ _ _ _ => (pe_call G_law_parts (hr.mono (by first | decide | omega)) (by rfl) Y.g_law_parts Y.F_law_parts.kp (B_law_parts Y) .nil pass0 (pa_cons (pv 1) pa_nil)))) pa_nil)))))), ?_⟩
      walk_at "w"
      cases hl : t.leaf with
      | true =>
        obtain ⟨p, xs, u, rfl, hs, hz⟩ := head_leaf hl hv
        have z3 := inV_leaf hz
        walk_at "w"
        refine go_ninT (SqT.of upd_same) rfl rfl ?_
        walk_at "w"
        rw [(parts_leaf hl).1] at k
        exact k _ (by walk_at "kp")
      | false =>
        obtain ⟨p, xs, rfl, hs, ha, hlen⟩ := tv_kids hl hv
        have z3 := inV_tag hl
        walk_at "w"
        refine go_ninT (SqT.of upd_same) rfl rfl ?_
        walk_at "w"
        rename_i q1 nq1 q2 nq2
        have k0 : Kp No H (upd (upd H q1 (.tup threeW)) q2 (.tup xs)) := (Kp.refl.new nq1).new nq2
        refine lc_plain (walk_tup xs) (fun i => .int ((t.kids.getD i .all).parts : Nat)) (fun H' k1 => k1.tup NoTup.no (SqT.of upd_same)) (by rw [hlen]; exact Nat.le_trans (kids_ne hl).2 (by decide)) (fun D i x H' l Q' hi hD e kk hx kont => ?_) (fun D H' hD kk e => ?_)
        · obtain ⟨dx, he, hdx⟩ := dps_get ha hx
          rw [List.getElem?_map, Option.map_eq_some_iff] at he
          obtain ⟨c, hc, rfl⟩ := he
          have kd := kids_deep (List.mem_of_getElem? hc)
          walk_at "w"
          refine ⟨x, c, rfl, (k0.trans kk).dp NoTup.no _ c.tupd hdx, by omega, fun H4 k4 => ?_⟩
          have z := kont H4 k4
          rw [List.getD_eq_getElem?_getD, hc] at z
          exact z
        · walk_at "w"
          have e2 : H' D = some (.lst ((t.kids.map fun c => ((c.parts : Nat) : Int)).map V.int)) := by
            rw [e, hlen, List.map_map]
            refine congrArg (fun l => some (HO.lst l)) (map_range_get fun i a h => ?_)
            rw [List.getD_eq_getElem?_getD, h]
            rfl
          refine go_sumI (SqL.of e2) ?_
          walk_at "w"
          rw [parts_kids hl] at k
          exact k _ (k0.trans kk)
theorem ok_law_deep (Y : Top K mg w) : ∀ n, FnOk P w K mg base CX0 (n + 1) Y.a_law_deep Y.d_law_deep ["_law_test_here"] (spLDeep K n)
  | 0 => Y.F_law_deep.ok sc_law_deep (fun vs H Q E ⟨_, t, _, _, h, _⟩ => absurd h (by have := t.deep_pos; omega)) fun cdv A outer s H vs Q E hr ⟨_, t, _, _, h, _⟩ => absurd h (by have := t.deep_pos; omega)
  | n + 1 => by
    have G_law_deep := ok_law_deep Y n
    refine Y.F_law_deep.ok sc_law_deep (fun vs H Q E h => ?_) (fun cdv A outer s H vs Q E hr h => ?_)
    · obtain ⟨v, t, rfl, _⟩ := h
      rfl
    · obtain ⟨v, t, rfl, hv, hd, k⟩ := h
      refine ⟨_, PSs.nox (pss_cons (ps_if (pt_cmpR op_notIn_seq (pe_ix ix_tup (pv 0) pe_int (fun _ _ => rfl)) (pe_tup (pa_cons pe_str (pa_cons pe_str (pa_cons pe_str pa_nil)))) (by with_unfolding_all rfl)) (pss_one (ps_ret pe_int)) pss_nil) (pss_one (ps_ret (pe_op op_add pe_int (pe_callB (cr_max rfl) (by rfl) Y.b_max (by decide +kernel) (pa_cons (pe_lc (own := [("_law_part", 1)]) (g := (gName 1)) (tt := tYes) rfl sc_law_deep.nd (pi_tup (pe_slice sl_tupA (pv 0) (po_some pe_int) po_none)) (blkOk_by (N := ["_law_test_here", "_law_part"]) (sc := defScope s_law_deep) (by decide +kernel)) (fun _ _ _ _ _ => (pg_name (i := 1) sc_law_deep.nd rfl (by first | exact Or.inl rfl | exact Or.inr rfl))) (fun _ _ _ _ _ => pts_nil) (fun _ _ _ _ _ => (pe_call G_law_deep (hr.mono (by first | decide | omega)) (by rfl) Y.g_law_deep Y.F_law_deep.kp (B_law_deep Y) .nil pass0 (pa_cons (pv 1) pa_nil)))) pa_nil)))))), ?_⟩
      walk_at "w"
      cases hl : t.leaf with
      | true =>
        obtain ⟨p, xs, u, rfl, hs, hz⟩ := head_leaf hl hv
        have z3 := inV_leaf hz
        walk_at "w"
        refine go_ninT (SqT.of upd_same) rfl rfl ?_
        walk_at "w"
        rw [(parts_leaf hl).2] at k
        exact k _ (by walk_at "kp")
      | false =>
        obtain ⟨p, xs, rfl, hs, ha, hlen⟩ := tv_kids hl hv
        have z3 := inV_tag hl
        walk_at "w"
        refine go_ninT (SqT.of upd_same) rfl rfl ?_
        walk_at "w"
        rename_i q1 nq1 q2 nq2
        have k0 : Kp No H (upd (upd H q1 (.tup threeW)) q2 (.tup xs)) := (Kp.refl.new nq1).new nq2
        refine lc_plain (walk_tup xs) (fun i => .int ((t.kids.getD i .all).deep : Nat)) (fun H' k1 => k1.tup NoTup.no (SqT.of upd_same)) (by rw [hlen]; exact Nat.le_trans (kids_ne hl).2 (by decide)) (fun D i x H' l Q' hi hD e kk hx kont => ?_) (fun D H' hD kk e => ?_)
        · obtain ⟨dx, he, hdx⟩ := dps_get ha hx
          rw [List.getElem?_map, Option.map_eq_some_iff] at he
          obtain ⟨c, hc, rfl⟩ := he
          have kd := kids_deep (List.mem_of_getElem? hc)
          walk_at "w"
          refine ⟨x, c, rfl, (k0.trans kk).dp NoTup.no _ c.tupd hdx, by omega, fun H4 k4 => ?_⟩
          have z := kont H4 k4
          rw [List.getD_eq_getElem?_getD, hc] at z
          exact z
        · walk_at "w"
          have e2 : H' D = some (.lst ((t.kids.map fun c => ((c.deep : Nat) : Int)).map V.int)) := by
            rw [e, hlen, List.map_map]
            refine congrArg (fun l => some (HO.lst l)) (map_range_get fun i a h => ?_)
            rw [List.getD_eq_getElem?_getD, h]
            rfl
          refine go_maxI (SqL.of e2) (by rw [List.length_map]; exact (kids_ne hl).1) fun m m1 m2 => ?_
          walk_at "w"
          rw [deep_kids hl m1 m2] at k
          exact k _ (k0.trans kk)
end
end Z

namespace Z
open PySem PySem.Spec PyProof.Rows L2 Zg Zp Zd
def spLTest (K : PySem.W.Frag) : Sp := fun vs H Q _ => ∃ (d : Addr) (q : Addr × List Int) (ln lk : Addr), vs = [.ref d, .ref ln, .ref lk] ∧ DrawAt K d q H ∧ NamesAt K ln H ∧ NamesAt K lk H ∧
  ∀ H' v (t : Zp.T), Kp (At d) H H' → DrawAt K d q H' → Dp K H' v t.d → t.deep ≤ 5 → t.parts ≤ 15 → t.nm = true → Q v H'
def spLLeaves (K : PySem.W.Frag) (n : Nat) : Sp := fun vs H Q _ => ∃ v t, vs = [v] ∧ Dp K H v (T.d t) ∧ t.deep ≤ n ∧ t.parts ≤ 1000 ∧
  ∀ H' p xs, Kp No H H' → H p = none → H' p = some (.lst xs) → DpAll K H' xs (t.leaves.map T.d) → Q (.ref p) H'
section
variable {P : Program} {w : World} {K : PySem.W.Frag} {mg : Str → Option Value} {base : Heap}
theorem sc_law_test : FnScope ["_law_d", "_law_names", "_law_kinds", "_law_test_here"] ["_law_d", "_law_names", "_law_kinds"] (defScope s_law_test) := ⟨rfl, rfl, rfl, by decide +kernel, rfl, by decide +kernel, by decide +kernel⟩
theorem sc_law_leaves : FnScope ["_law_test_here", "_law_found", "_law_part"] ["_law_test_here"] (defScope s_law_leaves) := ⟨rfl, rfl, rfl, by decide +kernel, rfl, by decide +kernel, by decide +kernel⟩
theorem B_law_test (Y : Top K mg w) : L2.Binds K Y.d_law_test ["_law_d", "_law_names", "_law_kinds"] [] := Y.F_law_test.bindsN fun _ _ _ _ _ _ us hl => match us, hl with | [_, _, _], _ => rfl
theorem B_law_leaves (Y : Top K mg w) : L2.Binds K Y.d_law_leaves ["_law_test_here"] [] := Y.F_law_leaves.bindsN fun _ _ _ _ _ _ us hl => match us, hl with | [_], _ => rfl
theorem ok_law_test (Y : Top K mg w) : FnOk P w K mg base CX0 20 Y.a_law_test Y.d_law_test ["_law_d", "_law_names", "_law_kinds"] (spLTest K) := by
  have G_law_pick := ok_law_pick (P := P) (base := base) Y
  have G_law_leaf := ok_law_leaf (P := P) (base := base) Y
  have G_law_tree := ok_law_tree (P := P) (base := base) Y 6
  have G_law_parts := ok_law_parts (P := P) (base := base) Y 5
  refine Y.F_law_test.ok sc_law_test (fun vs H Q E h => ?_) (fun cdv A outer s H vs Q E hr h => ?_)
  · obtain ⟨d, q, ln, lk, rfl, _⟩ := h
    rfl
  · obtain ⟨d, q, ln, lk, rfl, hD, hN, hK, k⟩ := h
    refine ⟨_, PSs.nox (pss_cons (ps_set (i := 3) sc_law_test.nd rfl (by first | exact Or.inl rfl | exact Or.inr rfl) (pe_call G_law_tree (hr.mono (by first | decide | omega)) (by rfl) Y.g_law_tree Y.F_law_tree.kp (B_law_tree Y) .nil pass0 (pa_cons (pv 0) (pa_cons (pe_op op_add pe_int (pe_call G_law_pick (hr.mono (by first | decide | omega)) (by rfl) Y.g_law_pick Y.F_law_pick.kp (B_law_pick Y) .nil pass0 (pa_cons (pv 0) (pa_cons pe_int pa_nil)))) (pa_cons (pv 1) (pa_cons (pv 2) pa_nil)))))) (pss_one (ps_ret (pe_ifExp (pt_cmpR op_lt (pe_call G_law_parts (hr.mono (by first | decide | omega)) (by rfl) Y.g_law_parts Y.F_law_parts.kp (B_law_parts Y) .nil pass0 (pa_cons (pv 3) pa_nil)) pe_int (nomark _)) (pv 3) (pe_tup (pa_cons pe_str (pa_cons (pe_call G_law_leaf (hr.mono (by first | decide | omega)) (by rfl) Y.g_law_leaf Y.F_law_leaf.kp (B_law_leaf Y) .nil pass0 (pa_cons (pv 0) (pa_cons (pv 1) (pa_cons (pv 2) pa_nil)))) pa_nil))))))), ?_⟩
    walk_at "w"
    refine ⟨d, q, 5, rfl, hD, (small_log (by decide)).1, (small_log (by decide)).2, fun H1 n k1 hD1 a1 b1 => ?_⟩
    have hN1 := hN.kept hD k1
    have hK1 := hK.kept hD k1
    walk_at "w"
    obtain ⟨m, rfl⟩ := Int.eq_ofNat_of_zero_le a1
    rw [show 1 + (m : Int) = ((m + 1 : Nat) : Int) by omega]
    refine ⟨d, q, m + 1, ln, lk, rfl, by omega, by omega, by omega, hD1, hN1, hK1, fun H2 v t k2 hD2 hv t1 t2 t3 => ?_⟩
    have hN2 := hN1.kept hD1 k2
    have hK2 := hK1.kept hD1 k2
    walk_at "w"
    refine ⟨v, t, rfl, hv, by omega, fun H3 k3 => ?_⟩
    walk_at "w"
    refine go_if (fun y => ?_) (fun y => ?_)
    · have y := of_decide_eq_true y
      walk_at "w"
      exact k _ v t ((k1.trans k2).trans k3.ofNo) (hD2.kept k3) (k3.dp NoTup.no _ t.tupd hv) (by omega) (by omega) t3
    · walk_at "w"
      refine ⟨d, q, ln, lk, rfl, hD2.kept k3, hN2.kept hD2 k3.ofNo, hK2.kept hD2 k3.ofNo, fun H4 v2 u k4 hD4 hv2 u1 u2 => ?_⟩
      walk_at "w"
      rename_i p np
      obtain ⟨e1, e2⟩ := parts_leaf u1
      exact k _ _ (.nt u) ((((k1.trans k2).trans k3.ofNo).trans k4).new np) (hD4.upd np) (.tup (SqT.of upd_same) (.cons (.str _) (.cons ((Kp.refl.new np : Kp No H4 _).dp NoTup.no _ u.tupd hv2) .nil))) (by simp only [Zp.T.deep]; omega) (by simp only [Zp.T.parts]; omega) u2
theorem ok_law_leaves (Y : Top K mg w) : ∀ n, FnOk P w K mg base CX0 (n + 1) Y.a_law_leaves Y.d_law_leaves ["_law_test_here"] (spLLeaves K n)
  | 0 => Y.F_law_leaves.ok sc_law_leaves (fun vs H Q E ⟨_, t, _, _, h, _⟩ => absurd h (by have := t.deep_pos; omega)) fun cdv A outer s H vs Q E hr ⟨_, t, _, _, h, _⟩ => absurd h (by have := t.deep_pos; omega)
  | n + 1 => by
    have G_law_leaves := ok_law_leaves Y n
    refine Y.F_law_leaves.ok sc_law_leaves (fun vs H Q E h => ?_) (fun cdv A outer s H vs Q E hr h => ?_)
    · obtain ⟨v, t, rfl, _⟩ := h
      rfl
    · obtain ⟨v, t, rfl, hv, hd, hp, k⟩ := h
      refine ⟨_, PSs.nox (pss_cons (ps_if (pt_cmpR op_notIn_seq (pe_ix ix_tup (pv 0) pe_int (fun _ _ => rfl)) (pe_tup (pa_cons pe_str (pa_cons pe_str (pa_cons pe_str pa_nil)))) (by with_unfolding_all rfl)) (pss_one (ps_ret (pe_lst (pa_cons (pv 0) pa_nil)))) pss_nil) (pss_cons (ps_set (i := 1) sc_law_leaves.nd rfl (by first | exact Or.inl rfl | exact Or.inr rfl) (pe_lst pa_nil)) (pss_cons (ps_for PassesOwn.never rfl (pi_tup (pe_slice sl_tupA (pv 0) (po_some pe_int) po_none)) (pg_name (i := 2) sc_law_leaves.nd rfl (by first | exact Or.inl rfl | exact Or.inr rfl)) (pss_one (ps_expr (pe_bm PySem.F.plainAttrs_list PySem.F.slot_list_extend PySem.F.type_list_extend mt_extend (pv 1) (pa_cons (pe_call G_law_leaves (hr.mono (by first | decide | omega)) (by rfl) Y.g_law_leaves Y.F_law_leaves.kp (B_law_leaves Y) .nil pass0 (pa_cons (pv 2) pa_nil)) pa_nil))))) (pss_one (ps_ret (pv 1)))))), ?_⟩
      walk_at "w"
      cases hl : t.leaf with
      | true =>
        obtain ⟨p, xs, u, rfl, hs, hz⟩ := head_leaf hl hv
        have z3 := inV_leaf hz
        walk_at "w"
        refine go_ninT (SqT.of upd_same) rfl rfl ?_
        walk_at "w"
        rename_i q1 nq1 q nq
        have k0 : Kp No H (upd (upd H q1 (.tup threeW)) q (.lst [.ref p])) := (Kp.refl.new nq1).new nq
        rw [leaves_leaf hl] at k
        exact k _ q _ k0 ((Kp.refl.new nq1 : Kp No H _).free nq id) upd_same (.cons (k0.dp NoTup.no _ t.tupd hv) .nil)
      | false =>
        obtain ⟨p, xs, rfl, hs, ha, hlen⟩ := tv_kids hl hv
        have z3 := inV_tag hl
        walk_at "w"
        refine go_ninT (SqT.of upd_same) rfl rfl ?_
        walk_at "w"
        rename_i q1 nq1 l nl q2 nq2
        have n1 : upd H q1 (.tup threeW) l = none := nl
        have k1 : Kp No H (upd (upd (upd H q1 (.tup threeW)) l (.lst [])) q2 (.tup xs)) := ((Kp.refl.new nq1).new nl).new nq2
        have nlH : H l = none := (Kp.refl.new nq1 : Kp No H _).free nl id
        have lq : l ≠ q2 := ne_of_none (show upd (upd H q1 (.tup threeW)) l (.lst []) l = some (.lst []) from upd_same) nq2
        have el : upd (upd (upd H q1 (.tup threeW)) l (.lst [])) q2 (.tup xs) l = some (.lst []) := by rw [upd_ne lq]; exact upd_same
        have nt : NoTup (fun b => b = l) (upd (upd (upd H q1 (.tup threeW)) l (.lst [])) q2 (.tup xs)) := fun b z => ⟨.lst [], by rw [show b = l from z]; exact el, ⟨fun _ y => (by cases y), fun _ _ y => (by cases y)⟩⟩
        have sq2 : SqT K (upd (upd (upd H q1 (.tup threeW)) l (.lst [])) q2 (.tup xs)) q2 xs := SqT.of upd_same
        generalize upd (upd (upd H q1 (.tup threeW)) l (.lst [])) q2 (.tup xs) = H2 at k1 el nt sq2 ⊢
        have take1 : ∀ i c, t.kids[i]? = some c → t.kids.take (i + 1) = t.kids.take i ++ [c] := fun i c e => by rw [List.take_add_one, e]; rfl
        refine for_gen (walk_tup xs) (fun i σ H' => ∃ (acc : List V) (o : Option V), σ = [some (.ref p), some (.ref l), o] ∧ Kp (fun b => b = l) H2 H' ∧ H' l = some (.lst acc) ∧ DpAll K H' acc (((t.kids.take i).flatMap Zp.T.leaves).map Zp.T.d)) ?_ ?_ ?_ ?_
        · exact ⟨[], none, rfl, Kp.refl, el, .nil⟩
        · rintro i σ H' ⟨acc, o, _, kk, _⟩
          exact kk.tup nt sq2
        · rintro i x σ H3 H4 hi ⟨acc, o, rfl, kk, e3, hA⟩ k4 hx
          obtain ⟨dx, he, hdx⟩ := dps_get ha hx
          rw [List.getElem?_map, Option.map_eq_some_iff] at he
          obtain ⟨c, hc, rfl⟩ := he
          have kd := kids_deep (List.mem_of_getElem? hc)
          have kk4 : Kp (fun b => b = l) H2 H4 := kk.trans k4.ofNo
          have e4 : H4 l = some (.lst acc) := k4 _ _ id e3
          walk_at "w"
          refine ⟨x, c, rfl, (kk4.dp nt _ c.tupd (k1.dp NoTup.no _ c.tupd hdx)), by omega, by omega, fun H5 b ys k5 nb eb hb => ?_⟩
          have e5 : H5 l = some (.lst acc) := k5 _ _ id e4
          have k45 : Kp No H3 H5 := k4.trans k5
          have hA5 := k45.dps NoTup.no _ (leaves_tupd _) hA
          have hApp := dps_app hA5 hb
          have hlen2 : (acc ++ ys).length ≤ 1000 := by
            have l1 := dps_len hApp
            rw [l1, List.length_append, List.length_map, List.length_map]
            have l2 := flat_len t.kids Zp.T.leaves (i + 1)
            rw [take1 i c hc, List.flatMap_append, List.length_append, ← leaves_flat hl] at l2
            have l3 := leaves_len t
            have l4 : ([c].flatMap Zp.T.leaves).length = c.leaves.length := by simp
            omega
          rw [List.length_append] at hlen2
          walk_at "w"
          refine go_extend e5 eb (Nat.le_trans hlen2 (by decide)) ?_
          refine ⟨acc ++ ys, some x, rfl, (kk4.trans k5.ofNo).put rfl, upd_same, ?_⟩
          rw [take1 i c hc, List.flatMap_append, List.map_append]
          refine dps_list e5 upd_keep ?_ ?_
          · rw [← List.map_append]; exact leaves_tupd _
          · simpa using hApp
        · rintro σ H' ⟨acc, o, rfl, kk, e, hA⟩
          walk_at "w"
          rw [show (t.kids.take xs.length).flatMap Zp.T.leaves = t.leaves by rw [hlen, List.take_length, leaves_flat hl]] at hA
          refine k H' l acc (fun b o nb e2 => kk b o ?_ (k1 b o nb e2)) nlH e hA
          intro z
          rw [show b = l from z, nlH] at e2
          cases e2
end
end Z

namespace Z
open PySem PySem.Spec PyProof.Rows L2 Zg Zp Zd
mutual
theorem dpN {K : PySem.W.Frag} {H H1 : Hp} (h : Kp No H H1) : ∀ (d : PyData) {v : V}, Dp K H v d → Dp K H1 v d
  | .none, _, .non => .non
  | .bool _, _, .bl b => .bl b
  | .int _, _, .int i => .int i
  | .str _, _, .str s => .str s
  | .list ds, _, .lst e q => .lst (h.sqL (fun _ _ z => z) e) (dpsN h ds q)
  | .tuple ds, _, .tup e q => .tup (h.tup NoTup.no e) (dpsN h ds q)
theorem dpsN {K : PySem.W.Frag} {H H1 : Hp} (h : Kp No H H1) : ∀ (ds : List PyData) {vs : List V}, DpAll K H vs ds → DpAll K H1 vs ds
  | [], _, .nil => .nil
  | d :: ds, _, .cons q qs => .cons (dpN h d q) (dpsN h ds qs)
end
def sdOk : Nat → PyData → Prop
  | _, .int _ => True
  | _, .str _ => True
  | n + 1, .tuple ds => ds.length ≤ 1000 ∧ ∀ d ∈ ds, sdOk n d
  | n + 1, .list ds => ds.length ≤ 1000 ∧ ∀ d ∈ ds, sdOk n d
  | _, _ => False
def spSame (K : PySem.W.Frag) (n : Nat) : Sp := fun vs H Q _ => ∃ (v1 v2 : V) (m : Nat) (d : PyData), vs = [v1, v2] ∧ m < n ∧ sdOk m d ∧ Dp K H v1 d ∧ Dp K H v2 d ∧ ∀ H', Kp No H H' → Q (.bl true) H'
section
variable {P : Program} {w : World} {K : PySem.W.Frag} {mg : Str → Option Value} {base : Heap}
theorem go_ixAL {H : Hp} {Q : VK} {a : Addr} {xs : List V} {i : Int} {v : V} (hs : SqL K H a xs) (e : atI xs i = some v) (h : Q v H) : rIx K (.ref a) (.int i) H Q := .inl (go_ixL hs e h)
theorem go_ixAT {H : Hp} {Q : VK} {a : Addr} {xs : List V} {i : Int} {v : V} (hs : SqT K H a xs) (e : atI xs i = some v) (h : Q v H) : rIx K (.ref a) (.int i) H Q := .inr (.inl (go_ixT hs e h))
theorem ty_nn {v : V} {a : Addr} (h : v = .ref a) : decide (v = .non) = false := by rw [h]; rfl
theorem sc_law_same : FnScope ["_law_found", "_law_due", "_law_k"] ["_law_found", "_law_due"] (defScope s_law_same) := ⟨rfl, rfl, rfl, by decide +kernel, rfl, by decide +kernel, by decide +kernel⟩
theorem B_law_same (Y : Top K mg w) : L2.Binds K Y.d_law_same ["_law_found", "_law_due"] [] := Y.F_law_same.bindsN fun _ _ _ _ _ _ us hl => match us, hl with | [_, _], _ => rfl
theorem ok_law_same (Y : Top K mg w) : ∀ n, FnOk P w K mg base CX0 (n + 1) Y.a_law_same Y.d_law_same ["_law_found", "_law_due"] (spSame K n)
  | 0 => Y.F_law_same.ok sc_law_same (fun vs H Q E ⟨_, _, _, _, _, h, _⟩ => absurd h (Nat.not_lt_zero _)) fun cdv A outer s H vs Q E hr ⟨_, _, _, _, _, h, _⟩ => absurd h (Nat.not_lt_zero _)
  | n + 1 => by
    have G_law_same := ok_law_same Y n
    refine Y.F_law_same.ok sc_law_same (fun vs H Q E h => ?_) (fun cdv A outer s H vs Q E hr h => ?_)
    · obtain ⟨v1, v2, m, d, rfl, _⟩ := h
      rfl
    · obtain ⟨v1, v2, m, d, rfl, hm, hd, hv1, hv2, k⟩ := h
      refine ⟨_, PSs.nox (pss_cons (ps_if (pt_cmpR op_isN (pv 1) pe_non (nomark _)) (pss_one (ps_ret (pe_cmpR op_isN (pv 0) pe_non (nomark _)))) pss_nil) (pss_cons (ps_if (PW.pt (pw_or (pt_truth (pe_callB call_isi (by rfl) Y.b_isinstance (by decide +kernel) (pa_cons (pv 1) (pa_cons (pe_bltn (v := .ty "bool") (by rfl) Y.b_bool (by decide +kernel) rfl) pa_nil))) (fun _ => rfl)) (pw_or1 (pt_truth (pe_callB call_isi (by rfl) Y.b_isinstance (by decide +kernel) (pa_cons (pv 0) (pa_cons (pe_bltn (v := .ty "bool") (by rfl) Y.b_bool (by decide +kernel) rfl) pa_nil))) (fun _ => rfl))))) (pss_one (ps_ret (pe_and (pe_callB call_isi (by rfl) Y.b_isinstance (by decide +kernel) (pa_cons (pv 1) (pa_cons (pe_bltn (v := .ty "bool") (by rfl) Y.b_bool (by decide +kernel) rfl) pa_nil))) (pe_and (pe_callB call_isi (by rfl) Y.b_isinstance (by decide +kernel) (pa_cons (pv 0) (pa_cons (pe_bltn (v := .ty "bool") (by rfl) Y.b_bool (by decide +kernel) rfl) pa_nil))) (pe_one (pe_cmpR op_eq (pv 0) (pv 1) (nomark _))))))) pss_nil) (pss_cons (ps_if (pt_truth (pe_callB call_isiT (by rfl) Y.b_isinstance (by decide +kernel) (pa_cons (pv 1) (pa_cons (pe_tup (pa_cons (pe_bltn (v := .ty "int") (by rfl) Y.b_int (by decide +kernel) rfl) (pa_cons (pe_bltn (v := .ty "str") (by rfl) Y.b_str (by decide +kernel) rfl) pa_nil))) pa_nil))) (fun _ => rfl)) (pss_one (ps_ret (pe_and (pe_callB call_isiT (by rfl) Y.b_isinstance (by decide +kernel) (pa_cons (pv 0) (pa_cons (pe_tup (pa_cons (pe_bltn (v := .ty "int") (by rfl) Y.b_int (by decide +kernel) rfl) (pa_cons (pe_bltn (v := .ty "str") (by rfl) Y.b_str (by decide +kernel) rfl) pa_nil))) pa_nil))) (pe_and (pe_cmpR op_eq (pe_callB call_isi (by rfl) Y.b_isinstance (by decide +kernel) (pa_cons (pv 0) (pa_cons (pe_bltn (v := .ty "int") (by rfl) Y.b_int (by decide +kernel) rfl) pa_nil))) (pe_callB call_isi (by rfl) Y.b_isinstance (by decide +kernel) (pa_cons (pv 1) (pa_cons (pe_bltn (v := .ty "int") (by rfl) Y.b_int (by decide +kernel) rfl) pa_nil))) (nomark _)) (pe_one (pe_cmpR op_eq (pv 0) (pv 1) (nomark _))))))) pss_nil) (pss_cons (ps_if (PW.pt (pw_or (pt_cmpR op_ne (pe_callB call_isi (by rfl) Y.b_isinstance (by decide +kernel) (pa_cons (pv 1) (pa_cons (pe_bltn (v := .ty "list") (by rfl) Y.b_list (by decide +kernel) rfl) pa_nil))) (pe_callB call_isi (by rfl) Y.b_isinstance (by decide +kernel) (pa_cons (pv 0) (pa_cons (pe_bltn (v := .ty "list") (by rfl) Y.b_list (by decide +kernel) rfl) pa_nil))) (nomark _)) (pw_or1 (pt_cmpR op_ne (pe_callB call_isi (by rfl) Y.b_isinstance (by decide +kernel) (pa_cons (pv 1) (pa_cons (pe_bltn (v := .ty "tuple") (by rfl) Y.b_tuple (by decide +kernel) rfl) pa_nil))) (pe_callB call_isi (by rfl) Y.b_isinstance (by decide +kernel) (pa_cons (pv 0) (pa_cons (pe_bltn (v := .ty "tuple") (by rfl) Y.b_tuple (by decide +kernel) rfl) pa_nil))) (nomark _))))) (pss_one (ps_ret pe_bl)) pss_nil) (pss_one (ps_ret (pe_and (pe_cmpR op_eq (pe_callB call_len (by rfl) Y.b_len PySem.boot_len (pa_cons (pv 0) pa_nil)) (pe_callB call_len (by rfl) Y.b_len PySem.boot_len (pa_cons (pv 1) pa_nil)) (nomark _)) (pe_one (pe_callB (cr_all rfl) (by rfl) Y.b_all (by decide +kernel) (pa_cons (pe_lc (own := [("_law_k", 2)]) (g := (gName 2)) (tt := tYes) rfl sc_law_same.nd (pi_range1 (by rfl) Y.b_range (pa_cons (pe_callB call_len (by rfl) Y.b_len PySem.boot_len (pa_cons (pv 1) pa_nil)) pa_nil)) (blkOk_by (N := ["_law_found", "_law_due", "_law_k"]) (sc := defScope s_law_same) (by decide +kernel)) (fun _ _ _ _ _ => (pg_name (i := 2) sc_law_same.nd rfl (by first | exact Or.inl rfl | exact Or.inr rfl))) (fun _ _ _ _ _ => pts_nil) (fun _ _ _ _ _ => (pe_call G_law_same (hr.mono (by first | decide | omega)) (by rfl) Y.g_law_same Y.F_law_same.kp (B_law_same Y) .nil pass0 (pa_cons (pe_ix (Uz.kx_seq (K := K)) (pv 0) (pv 2) (fun _ _ => rfl)) (pa_cons (pe_ix (Uz.kx_seq (K := K)) (pv 1) (pv 2) (fun _ _ => rfl)) pa_nil))))) pa_nil)))))))))), ?_⟩
      cases d with
      | int i =>
        obtain rfl := dp_int hv1
        obtain rfl := dp_int hv2
        walk_at "w"
        have e : decide (V.int i = V.int i) = true := decide_eq_true rfl
        rw [e]
        exact k _ (by walk_at "kp")
      | str s =>
        obtain rfl := dp_str hv1
        obtain rfl := dp_str hv2
        walk_at "w"
        have e : decide (V.str s = V.str s) = true := decide_eq_true rfl
        rw [e]
        exact k _ (by walk_at "kp")
      | tuple ds =>
        obtain ⟨a1, x1, rfl, s1, A1⟩ := dp_tup hv1
        obtain ⟨a2, x2, rfl, s2, A2⟩ := dp_tup hv2
        have l1 := dps_len A1
        have l2 := dps_len A2
        obtain ⟨m, rfl⟩ : ∃ m', m = m' + 1 := by
          cases m with
          | zero => exact hd.elim
          | succ m => exact ⟨m, rfl⟩
        have hd : ds.length ≤ 1000 ∧ ∀ d ∈ ds, sdOk m d := hd
        have e : decide (V.int (x1.length : Nat) = V.int (x2.length : Nat)) = true := by rw [l1, l2]; exact decide_eq_true rfl
        walk_at "w"
        rename_i p np
        have k0 : Kp No H (upd H p (.tup [.ty "int", .ty "str"])) := Kp.refl.new np
        refine ⟨by omega, by omega, ?_⟩
        rw [show ((x2.length : Nat) : Int).toNat = x2.length by omega]
        refine lc_plain (walk_range 0 x2.length) (fun _ => .bl true) (fun _ _ => trivial) (Nat.le_trans (show x2.length ≤ 1000 by omega) (by decide)) (fun D i x H' l Q' hi hD eD kk hx kont => ?_) (fun D H' hD kk eD => ?_)
        · subst hx
          have hk := k0.trans kk
          have h1 : i < x1.length := by omega
          have h2 : i < ds.length := by omega
          have g1 : x1[i]? = some x1[i] := List.getElem?_eq_getElem h1
          have g2 : x2[i]? = some x2[i] := List.getElem?_eq_getElem hi
          have z0 : (0 : Int) + (i : Int) = (i : Nat) := by omega
          obtain ⟨d1, w1, q1⟩ := dps_get A1 g1
          obtain ⟨d2, w2, q2⟩ := dps_get A2 g2
          have w3 : some d1 = some d2 := w1.symm.trans w2
          obtain rfl := Option.some.inj w3
          walk_at "w"
          refine go_ixAT (Kp.tup2 NoTup.no hk s1) (by rw [z0]; exact atI_nat g1) ?_
          walk_at "w"
          refine go_ixAT (Kp.tup2 NoTup.no hk s2) (by rw [z0]; exact atI_nat g2) ?_
          walk_at "w"
          exact ⟨x1[i], x2[i], m, d1, rfl, by omega, hd.2 d1 (List.mem_of_getElem? w1), dpN hk _ q1, dpN hk _ q2, fun H4 k4 => kont H4 k4⟩
        · walk_at "w"
          have e2 : H' D = some (.lst (((List.range x2.length).map fun _ => true).map V.bl)) := by rw [eD, List.map_map]; rfl
          refine go_all (SqL.of e2) ?_
          rw [show ((List.range x2.length).map fun _ => true).all id = true by rw [List.all_map]; exact List.all_eq_true.mpr fun _ _ => rfl]
          exact k _ (k0.trans kk)
      | list ds =>
        obtain ⟨a1, x1, rfl, s1, A1⟩ := dp_lst hv1
        obtain ⟨a2, x2, rfl, s2, A2⟩ := dp_lst hv2
        have l1 := dps_len A1
        have l2 := dps_len A2
        obtain ⟨m, rfl⟩ : ∃ m', m = m' + 1 := by
          cases m with
          | zero => exact hd.elim
          | succ m => exact ⟨m, rfl⟩
        have hd : ds.length ≤ 1000 ∧ ∀ d ∈ ds, sdOk m d := hd
        have e : decide (V.int (x1.length : Nat) = V.int (x2.length : Nat)) = true := by rw [l1, l2]; exact decide_eq_true rfl
        walk_at "w"
        rename_i p np
        have k0 : Kp No H (upd H p (.tup [.ty "int", .ty "str"])) := Kp.refl.new np
        refine ⟨by omega, by omega, ?_⟩
        rw [show ((x2.length : Nat) : Int).toNat = x2.length by omega]
        refine lc_plain (walk_range 0 x2.length) (fun _ => .bl true) (fun _ _ => trivial) (Nat.le_trans (show x2.length ≤ 1000 by omega) (by decide)) (fun D i x H' l Q' hi hD eD kk hx kont => ?_) (fun D H' hD kk eD => ?_)
        · subst hx
          have hk := k0.trans kk
          have h1 : i < x1.length := by omega
          have h2 : i < ds.length := by omega
          have g1 : x1[i]? = some x1[i] := List.getElem?_eq_getElem h1
          have g2 : x2[i]? = some x2[i] := List.getElem?_eq_getElem hi
          have z0 : (0 : Int) + (i : Int) = (i : Nat) := by omega
          obtain ⟨d1, w1, q1⟩ := dps_get A1 g1
          obtain ⟨d2, w2, q2⟩ := dps_get A2 g2
          have w3 : some d1 = some d2 := w1.symm.trans w2
          obtain rfl := Option.some.inj w3
          walk_at "w"
          refine go_ixAL (Kp.sqL2 hk s1) (by rw [z0]; exact atI_nat g1) ?_
          walk_at "w"
          refine go_ixAL (Kp.sqL2 hk s2) (by rw [z0]; exact atI_nat g2) ?_
          walk_at "w"
          exact ⟨x1[i], x2[i], m, d1, rfl, by omega, hd.2 d1 (List.mem_of_getElem? w1), dpN hk _ q1, dpN hk _ q2, fun H4 k4 => kont H4 k4⟩
        · walk_at "w"
          have e2 : H' D = some (.lst (((List.range x2.length).map fun _ => true).map V.bl)) := by rw [eD, List.map_map]; rfl
          refine go_all (SqL.of e2) ?_
          rw [show ((List.range x2.length).map fun _ => true).all id = true by rw [List.all_map]; exact List.all_eq_true.mpr fun _ _ => rfl]
          exact k _ (k0.trans kk)
      | none => cases m <;> exact hd.elim
      | bool b => cases m <;> exact hd.elim
      | dict kvs => cases m <;> exact hd.elim
end
end Z

namespace Z
open PySem PySem.Spec PyProof.Rows L2 Zg Zp Zd
section
variable {P : Program} {w : World} {K : PySem.W.Frag} {mg : Str → Option Value} {base : Heap}
theorem sc_law_ask : FnScope ["_law_ask_here", "_law_told", "_law_word_here", "e"] ["_law_ask_here"] (defScope s_law_ask) := ⟨rfl, rfl, rfl, by decide +kernel, rfl, by decide +kernel, by decide +kernel⟩
theorem B_law_ask (Y : Top K mg w) : L2.Binds K Y.d_law_ask ["_law_ask_here"] [] := Y.F_law_ask.bindsN fun _ _ _ _ _ _ us hl => match us, hl with | [_], _ => rfl
/-- what the clauses of _law_ask wish of what is raised -/
def Wask (Y : Top K mg w) (Q : VK) : XK := fun cls d H' => ∃ (C dd : Addr) (wd : Str), cls = .ref C ∧ d = some dd ∧ H' dd = some (.xd [("word", .str wd)]) ∧ XfC K C ∧ PySem.W.findIn K (.ref C) "word" = some none ∧ PySem.W.exmOne K (.ref C) (.ref Y.a_BadValue) = some false ∧ PySem.W.exmOne K (.ref C) (.ref Y.a_ScribeError) = some true ∧
  ∀ p, H' p = none → Q (.ref p) (upd H' p (.lst [.str wd, .non]))
/-- what _law_ask tells of what the lambda does -/
def TTask (Y : Top K mg w) : (XK → Hp → VK → Prop) → Hp → VK → Prop := fun tl H Q =>
  ∀ K' : VK, (∀ v H', (∀ p, H' p = none → Q (.ref p) (upd H' p (.lst [.str (Str.ofString ""), v]))) → K' v H') → tl (Wask Y Q) H K'
theorem ask_gives (Y : Top K mg w) {X : Cx} (hK : X.K = K) (hmg : X.mg = mg) {cdg : Value} {q : Str} :
    Uz.Gives2 X ["_law_ask_here", "_law_told", "_law_word_here", "e"] "_law_ask" (defScope s_law_ask) Y.a_law_ask cdg (defBody s_law_ask) "_law_ask_here" q (TTask Y) := by
  subst hK hmg
  intro f c' s H Q tl act hc h
  refine ⟨_, pss_cons (ps_set (i := 1) sc_law_ask.nd rfl (by first | exact Or.inl rfl | exact Or.inr rfl) pe_non) (pss_cons (ps_set (i := 2) sc_law_ask.nd rfl (by first | exact Or.inl rfl | exact Or.inr rfl) pe_str)
    (pss_cons (Uz.ps_try_asL (X := (cxOf C8.CX0 X.prog X.w X.K X.mg X.base ["_law_ask_here", "_law_told", "_law_word_here", "e"] "_law_ask" (defScope s_law_ask) Y.a_law_ask cdg X.A X.stack s H C8.E0).nox) (n := "e") (i := 3) (Wout := fun _ _ _ _ => False)
      (l := [(.ref Y.a_BadValue, fun _ _ _ => tNever), (.ref Y.a_ScribeError, fun a cls d => tAsg (Uz.tXfA X.K a cls d "word" (tVar 3)) (gName 2)), (.ref Y.a_Missing, fun _ _ _ => tNever)])
      (tb := fun W D σ H => ∃ Ech : XK, (∀ cls d H', Ech cls d H' → W cls d σ H') ∧ σ[0]? = some (some (.ref f)) ∧ H c' = some (LamX.CodeO c' q) ∧ tl Ech H (fun v H' => D.nx (σ.set 1 (some v)) H'))
      rfl rfl sc_law_ask.nd rfl rfl LamX.takes0 (fun W pn xe tk _ => ?_)
      (.cons ⟨by rfl, by decide, .inl Y.g_BadValue⟩ (fun _ _ _ _ _ _ _ => pss_never) (.cons ⟨by rfl, by decide, .inl Y.g_ScribeError⟩ (fun a oe cls d pn hz hf => pss_one (ps_set (i := 2) sc_law_ask.nd rfl (by first | exact Or.inl rfl | exact Or.inr rfl) (Uz.pe_xfA hz hf (pv 3)))) (.cons ⟨by rfl, by decide, .inl Y.g_Missing⟩ (fun _ _ _ _ _ _ _ => pss_never) .nil))))
      (pss_one (ps_ret (pe_lst (pa_cons (pv 2) (pa_cons (pv 1) pa_nil))))))), ?_⟩
  · refine ⟨fun pins s' σ H' D I h' => ?_⟩
    obtain ⟨Ech, hW, h1, h2, h3⟩ := h'
    exact (pss_one (ps_set (i := 1) sc_law_ask.nd rfl (by first | exact Or.inl rfl | exact Or.inr rfl) (act W pn xe _ _ tk))).run pins s' σ H' D I ⟨Ech, hW, h1, h2, h3⟩
  · walk_at "w"
    refine ⟨Wask Y Q, fun cls d H' hw => ?_, rfl, hc, h _ fun v H' hv => ?_⟩
    · obtain ⟨C, dd, wd, rfl, rfl, e, xf, nw, m1, m2, kq⟩ := hw
      refine ⟨false, m1, (fun z => by cases z), fun _ => ⟨true, m2, (fun _ a na => ?_), (fun z => by cases z)⟩⟩
      walk_at "w"
      refine ⟨.ref a, rfl, rfl, C, dd, [("word", .str wd)], .str wd, rfl, xf, nw, rfl, e, rfl, ?_⟩
      unfold Uz.endsAs
      walk_at "w"
      exact kq _ (by assumption)
    · walk_at "w"
      exact hv _ (by assumption)
end
end Z

namespace Z
open PySem PySem.Spec PyProof.Rows L2 Zg Zp Zd
section
variable {P : Program} {w : World} {K : PySem.W.Frag} {mg : Str → Option Value} {base : Heap}
/-- only d changes, and the tables of code objects -/
theorem tabS_kp {H H' : Hp} {d P0 : Addr} {q : Str} {kvs : List (Key × V)} (e : H d = some (.dK kvs)) (k : Kp (At d) H H') (t : LamX.TabS H P0 q) : LamX.TabS H' P0 q := by
  obtain ⟨ps, h1, h2, h3⟩ := t
  refine ⟨ps, k _ _ (fun z => ?_) h1, h2, fun pos cv hc => ?_⟩
  · rw [show P0 = d from z, e] at h1; cases h1
  · obtain ⟨c, e1, e2⟩ := h3 pos cv hc
    refine ⟨c, e1, k _ _ (fun z => ?_) e2⟩
    rw [show c = d from z, e] at e2
    cases e2
theorem tabs_kp {H H' : Hp} {d : Addr} {T : List (Addr × Str)} {q : Addr × List Int} (hD : DrawAt K d q H) (k : Kp (At d) H H') (t : LamX.Tabs T H) : LamX.Tabs T H' := by
  obtain ⟨a, r, s, e, _⟩ := hD
  exact fun p hp => tabS_kp e k (t p hp)
theorem extN_kp {H H' : Hp} (e : LamX.ExtN H H') : Kp (fun b => ∃ ps, H b = some (.tbl ps)) H H' := fun b o n z => e b o z fun ps y => n ⟨ps, by rw [z, y]⟩
theorem noTup_tbl {H : Hp} : NoTup (fun b => ∃ ps, H b = some (.tbl ps)) H := fun b ⟨ps, z⟩ => ⟨.tbl ps, z, ⟨fun _ y => (by cases y), fun _ _ y => (by cases y)⟩⟩
theorem draw_ext {H H' : Hp} {d : Addr} {q : Addr × List Int} (e : LamX.ExtN H H') (h : DrawAt K d q H) : DrawAt K d q H' := by
  obtain ⟨a, r, s, e1, z, x⟩ := h
  refine ⟨a, r, s, e _ _ e1 (fun ps y => by cases y), ?_, x⟩
  rcases z with (z | ⟨o, z⟩) | z
  · exact .inl (.inl (e _ _ z fun ps y => by cases y))
  · exact .inl (.inr ⟨o, e _ _ z fun ps y => by cases y⟩)
  · exact .inr z
abbrev lamQ (c : Addr) (f : Addr) : Str := (envOfC (Str.ofString "law") (defScope s_law) 0 f (.ref c)).qual ++ Str.ofString "<lambda>"
theorem five_names : ∀ s ∈ [Str.ofString "is", Str.ofString "all", Str.ofString "not", Str.ofString "and", Str.ofString "or"], isName s = true := by
  intro s hs
  simp only [List.mem_cons, List.not_mem_nil, or_false] at hs
  rcases hs with rfl | rfl | rfl | rfl | rfl <;> decide +kernel
theorem sd_t : ∀ (t : Zp.T) (n : Nat), t.deep ≤ n → sdOk n t.d
  | .all, n + 1, _ => ⟨Nat.le_of_ble_eq_true rfl, fun d hd => by simp at hd; subst hd; cases n <;> trivial⟩
  | .is k, n + 1, _ => ⟨Nat.le_of_ble_eq_true rfl, fun d hd => by simp at hd; rcases hd with rfl | rfl <;> cases n <;> trivial⟩
  | .less f m, n + 1, _ => ⟨Nat.le_of_ble_eq_true rfl, fun d hd => by simp at hd; rcases hd with rfl | rfl | rfl <;> cases n <;> trivial⟩
  | .same f m, n + 1, _ => ⟨Nat.le_of_ble_eq_true rfl, fun d hd => by simp at hd; rcases hd with rfl | rfl | rfl <;> cases n <;> trivial⟩
  | .nt a, n + 1, h => ⟨Nat.le_of_ble_eq_true rfl, fun d hd => by
      have h : a.deep + 1 ≤ n + 1 := h
      simp at hd
      rcases hd with rfl | rfl
      · cases n <;> trivial
      · exact sd_t a n (by omega)⟩
  | .an a b, n + 1, h => ⟨Nat.le_of_ble_eq_true rfl, fun d hd => by
      have h : max a.deep b.deep + 1 ≤ n + 1 := h
      simp at hd
      rcases hd with rfl | rfl | rfl
      · cases n <;> trivial
      · exact sd_t a n (by omega)
      · exact sd_t b n (by omega)⟩
  | .orr a b, n + 1, h => ⟨Nat.le_of_ble_eq_true rfl, fun d hd => by
      have h : max a.deep b.deep + 1 ≤ n + 1 := h
      simp at hd
      rcases hd with rfl | rfl | rfl
      · cases n <;> trivial
      · exact sd_t a n (by omega)
      · exact sd_t b n (by omega)⟩
  | t, 0, h => absurd h (by have := t.deep_pos; omega)
theorem sd_l {l : List Zp.T} {n : Nat} (h : ∀ t ∈ l, t.deep ≤ n) (hl : l.length ≤ 1000) : sdOk (n + 1) (.list (l.map Zp.T.d)) :=
  ⟨by rw [List.length_map]; exact hl, fun d hd => by obtain ⟨t, ht, rfl⟩ := List.mem_map.mp hd; exact sd_t t n (h t ht)⟩
theorem leaves_deep : ∀ (t : Zp.T), ∀ c ∈ t.leaves, c.deep ≤ 1
  | .all, c, h => by rw [List.mem_singleton.mp h]; exact Nat.le_refl _
  | .is _, c, h => by rw [List.mem_singleton.mp h]; exact Nat.le_refl _
  | .less _ _, c, h => by rw [List.mem_singleton.mp h]; exact Nat.le_refl _
  | .same _ _, c, h => by rw [List.mem_singleton.mp h]; exact Nat.le_refl _
  | .nt a, c, h => leaves_deep a c h
  | .an a b, c, h => (List.mem_append.mp h).elim (leaves_deep a c) (leaves_deep b c)
  | .orr a b, c, h => (List.mem_append.mp h).elim (leaves_deep a c) (leaves_deep b c)
theorem ltl {n : Nat} (h : n ≤ 1000) : n ≤ sizeLine := Nat.le_trans h (by decide)
theorem leaves_orr (t u : Zp.T) : (Zp.T.orr t u).leaves = t.leaves ++ u.leaves := rfl
theorem parts_orr (t u : Zp.T) : (Zp.T.orr t u).parts = 1 + t.parts + u.parts := by simp only [Zp.T.parts]; omega
theorem len_not : (Str.ofString "not(").length = 4 := by decide +kernel
theorem len_or : (Str.ofString "or(").length = 3 := by decide +kernel
theorem len_co : (Str.ofString ",").length = 1 := by decide +kernel
theorem len_cl : (Str.ofString ")").length = 1 := by decide +kernel
theorem text_nt (t : Zp.T) : Str.ofString "not(" ++ t.text ++ Str.ofString ")" = (Zp.T.nt t).text := by
  refine ext_cs ?_
  rw [cs_app, cs_app]
  exact (tx_nt t).symm
theorem text_orr (t u : Zp.T) : Str.ofString "or(" ++ t.text ++ Str.ofString "," ++ u.text ++ Str.ofString ")" = (Zp.T.orr t u).text := by
  refine ext_cs ?_
  rw [cs_app, cs_app, cs_app, cs_app]
  refine Eq.trans ?_ (tx_orr t u).symm
  rw [show cs (Str.ofString "or(") = [111, 114, 40] from rfl, show cs (Str.ofString ",") = [44] from rfl, show cs (Str.ofString ")") = [41] from rfl]
  simp only [Zp.T.tx, List.append_assoc, List.cons_append, List.nil_append]
theorem nm_orr (t u : Zp.T) : (Zp.T.orr t u).nm = (t.nm && u.nm) := rfl
def spLaw (K : PySem.W.Frag) (P0 : Addr) : Sp := fun vs H Q _ => ∃ (a : Addr) (ns : List Int), vs = [.ref a] ∧ SqL K H a (ns.map V.int) ∧ ns.length ≤ 63 ∧ H P0 = some (.tbl #[]) ∧ ∀ H', Q (.bl true) H'
theorem sc_law : FnScope ["_law_script", "_law_d", "_law_turn", "_law_names", "_law_one", "_law_other", "_law_text", "_law_twice", "_law_both"] ["_law_script"] (defScope s_law) := ⟨rfl, rfl, rfl, by decide +kernel, rfl, by decide +kernel, by decide +kernel⟩
theorem ok_law (Y : Top K mg w) {c P0 : Addr} (hc : Y.d_law.code = .ref c) (TB : LamX.TabB base mg c P0) : FnOk P w K mg base CX0 41 Y.a_law Y.d_law ["_law_script"] (spLaw K P0) := by
  have G_read_test := ok_read_test (P := P) (base := base) Y
  have G_test_text := ok_test_text (P := P) (base := base) Y
  have G_is_test := ok_is_test (P := P) (base := base) Y
  have G_law_same := ok_law_same (P := P) (base := base) Y 10
  have G_leaves := ok_leaves (P := P) (base := base) Y
  have G_law_parts := ok_law_parts (P := P) (base := base) Y 6
  have G_law_deep := ok_law_deep (P := P) (base := base) Y 6
  have G_law_leaves := ok_law_leaves (P := P) (base := base) Y 6
  have G_law_test := ok_law_test (P := P) (base := base) Y
  have G_law_words := ok_law_words (P := P) (base := base) Y
  have G_law_begin := ok_law_begin (P := P) (base := base) Y
  have FL := Y.F_law
  obtain ⟨oc, od, dV, kV, doc, pm, an, cdv, ct, osl, efd, lk, hcd, _, _⟩ := FL.ex
  have ecd : cdv = .ref c := by rw [← hc, efd]
  rw [efd]
  rw [efd] at lk
  subst ecd
  refine fn_of lk hcd sc_law (fun vs H Q E h => ?_) fun A outer s H vs Q E hr h => ?_
  · obtain ⟨a, ns, rfl, _⟩ := h
    rfl
  · obtain ⟨a, ns, rfl, hs, hl, hP, k⟩ := h
    refine ⟨_, PSs.nox (pss_cons (ps_set (i := 1) sc_law.nd rfl (by first | exact Or.inl rfl | exact Or.inr rfl) (pe_call G_law_begin (hr.mono (by first | decide | omega)) (by rfl) Y.g_law_begin Y.F_law_begin.kp (B_law_begin Y) .nil pass0 (pa_cons (pv 0) pa_nil))) (pss_cons (ps_for PassesOwn.never rfl (pi_range1 (by rfl) Y.b_range (pa_cons pe_int pa_nil)) (pg_name (i := 2) sc_law.nd rfl (by first | exact Or.inl rfl | exact Or.inr rfl)) (pss_cons (ps_set (i := 3) sc_law.nd rfl (by first | exact Or.inl rfl | exact Or.inr rfl) (pe_op op_cat (pe_call G_law_words (hr.mono (by first | decide | omega)) (by rfl) Y.g_law_words Y.F_law_words.kp (B_law_words Y) .nil pass0 (pa_cons (pv 1) (pa_cons pe_int pa_nil))) (pe_lst (pa_cons pe_str (pa_cons pe_str (pa_cons pe_str (pa_cons pe_str (pa_cons pe_str pa_nil)))))))) (pss_cons (ps_asg (pe_tup (pa_cons (pe_call G_law_test (hr.mono (by first | decide | omega)) (by rfl) Y.g_law_test Y.F_law_test.kp (B_law_test Y) .nil pass0 (pa_cons (pv 1) (pa_cons (pv 3) (pa_cons (pv 3) pa_nil)))) (pa_cons (pe_call G_law_test (hr.mono (by first | decide | omega)) (by rfl) Y.g_law_test Y.F_law_test.kp (B_law_test Y) .nil pass0 (pa_cons (pv 1) (pa_cons (pv 3) (pa_cons (pv 3) pa_nil)))) pa_nil))) (pg_tup rfl (pgs_cons (pg_name (i := 4) sc_law.nd rfl (by first | exact Or.inl rfl | exact Or.inr rfl)) (pgs_cons (pg_name (i := 5) sc_law.nd rfl (by first | exact Or.inl rfl | exact Or.inr rfl)) pgs_nil)))) (pss_cons (ps_set (i := 6) sc_law.nd rfl (by first | exact Or.inl rfl | exact Or.inr rfl) (pe_call G_test_text (hr.mono (by first | decide | omega)) (by rfl) Y.g_test_text Y.F_test_text.kp (B_test_text Y) .nil pass0 (pa_cons (pv 4) pa_nil))) (pss_cons (ps_if (PW.pt (pw_or (pt_not (pt_truth (pe_call G_law_same (hr.mono (by first | decide | omega)) (by rfl) Y.g_law_same Y.F_law_same.kp (B_law_same Y) .nil pass0 (pa_cons (pe_call G_read_test (hr.mono (by first | decide | omega)) (by rfl) Y.g_read_test Y.F_read_test.kp (B_read_test Y) .nil Uz.passF (pa_cons (pv 6) pa_nil)) (pa_cons (pv 4) pa_nil))) (fun _ => rfl))) (pw_or1 (pt_cmpR op_notBl (pe_call G_is_test (hr.mono (by first | decide | omega)) (by rfl) Y.g_is_test Y.F_is_test.kp (B_is_test Y) .nil pass0 (pa_cons (pv 4) pa_nil)) pe_bl (nomark _))))) (pss_one (ps_ret pe_bl)) pss_nil) (pss_cons (ps_if (pt_cmpR op_ne (pe_cmpR op_eq (pe_call G_test_text (hr.mono (by first | decide | omega)) (by rfl) Y.g_test_text Y.F_test_text.kp (B_test_text Y) .nil pass0 (pa_cons (pv 5) pa_nil)) (pv 6) (nomark _)) (pe_cmpR (op_eqD (Zg.hu64 hr)) (pv 4) (pv 5) (nomark _)) (nomark _)) (pss_one (ps_ret pe_bl)) pss_nil) (pss_cons (ps_if (PW.pt (pw_or (pt_not (pt_truth (pe_call G_law_same (hr.mono (by first | decide | omega)) (by rfl) Y.g_law_same Y.F_law_same.kp (B_law_same Y) .nil pass0 (pa_cons (pe_call G_leaves (hr.mono (by first | decide | omega)) (by rfl) Y.g_leaves Y.F_leaves.kp (B_leaves Y) .nil pass0 (pa_cons (pv 4) pa_nil)) (pa_cons (pe_call G_law_leaves (hr.mono (by first | decide | omega)) (by rfl) Y.g_law_leaves Y.F_law_leaves.kp (B_law_leaves Y) .nil pass0 (pa_cons (pv 4) pa_nil)) pa_nil))) (fun _ => rfl))) (pw_or1 (pt_cmpR op_gt (pe_callB call_len (by rfl) Y.b_len PySem.boot_len (pa_cons (pe_call G_leaves (hr.mono (by first | decide | omega)) (by rfl) Y.g_leaves Y.F_leaves.kp (B_leaves Y) .nil pass0 (pa_cons (pv 4) pa_nil)) pa_nil)) pe_int (nomark _))))) (pss_one (ps_ret pe_bl)) pss_nil) (pss_cons (ps_set (i := 7) sc_law.nd rfl (by first | exact Or.inl rfl | exact Or.inr rfl) (pe_tup (pa_cons pe_str (pa_cons (pv 4) pa_nil)))) (pss_cons (ps_if (pt_cmpR op_ne (pe_call G_is_test (hr.mono (by first | decide | omega)) (by rfl) Y.g_is_test Y.F_is_test.kp (B_is_test Y) .nil pass0 (pa_cons (pv 7) pa_nil)) (pe_and (pe_cmpR op_lt (pe_call G_law_deep (hr.mono (by first | decide | omega)) (by rfl) Y.g_law_deep Y.F_law_deep.kp (B_law_deep Y) .nil pass0 (pa_cons (pv 4) pa_nil)) pe_int (nomark _)) (pe_one (pe_cmpR op_lt (pe_call G_law_parts (hr.mono (by first | decide | omega)) (by rfl) Y.g_law_parts Y.F_law_parts.kp (B_law_parts Y) .nil pass0 (pa_cons (pv 4) pa_nil)) pe_int (nomark _)))) (nomark _)) (pss_one (ps_ret pe_bl)) pss_nil) (pss_cons (ps_if (PW.pt (pw_and (pt_truth (pe_call G_is_test (hr.mono (by first | decide | omega)) (by rfl) Y.g_is_test Y.F_is_test.kp (B_is_test Y) .nil pass0 (pa_cons (pv 7) pa_nil)) (fun _ => rfl)) (pw_and1 (pt_not (pt_truth (pe_call G_law_same (hr.mono (by first | decide | omega)) (by rfl) Y.g_law_same Y.F_law_same.kp (B_law_same Y) .nil pass0 (pa_cons (pe_call G_read_test (hr.mono (by first | decide | omega)) (by rfl) Y.g_read_test Y.F_read_test.kp (B_read_test Y) .nil Uz.passF (pa_cons (pe_op op_add_str (pe_op op_add_str pe_str (pv 6)) pe_str) pa_nil)) (pa_cons (pv 7) pa_nil))) (fun _ => rfl)))))) (pss_one (ps_ret pe_bl)) pss_nil) (pss_cons (ps_set (i := 8) sc_law.nd rfl (by first | exact Or.inl rfl | exact Or.inr rfl) (pe_tup (pa_cons pe_str (pa_cons (pv 4) (pa_cons (pv 5) pa_nil))))) (pss_one (ps_if (pt_truth (pe_call G_is_test (hr.mono (by first | decide | omega)) (by rfl) Y.g_is_test Y.F_is_test.kp (B_is_test Y) .nil pass0 (pa_cons (pv 8) pa_nil)) (fun _ => rfl)) (pss_cons (ps_if (pt_not (pt_truth (pe_call G_law_same (hr.mono (by first | decide | omega)) (by rfl) Y.g_law_same Y.F_law_same.kp (B_law_same Y) .nil pass0 (pa_cons (pe_call G_leaves (hr.mono (by first | decide | omega)) (by rfl) Y.g_leaves Y.F_leaves.kp (B_leaves Y) .nil pass0 (pa_cons (pv 8) pa_nil)) (pa_cons (pe_op op_cat (pe_call G_leaves (hr.mono (by first | decide | omega)) (by rfl) Y.g_leaves Y.F_leaves.kp (B_leaves Y) .nil pass0 (pa_cons (pv 4) pa_nil)) (pe_call G_leaves (hr.mono (by first | decide | omega)) (by rfl) Y.g_leaves Y.F_leaves.kp (B_leaves Y) .nil pass0 (pa_cons (pv 5) pa_nil))) pa_nil))) (fun _ => rfl))) (pss_one (ps_ret pe_bl)) pss_nil) (pss_one (ps_if (pt_not (pt_truth (pe_call G_law_same (hr.mono (by first | decide | omega)) (by rfl) Y.g_law_same Y.F_law_same.kp (B_law_same Y) .nil pass0 (pa_cons (pe_call G_read_test (hr.mono (by first | decide | omega)) (by rfl) Y.g_read_test Y.F_read_test.kp (B_read_test Y) .nil Uz.passF (pa_cons (pe_op op_add_str (pe_op op_add_str (pe_op op_add_str (pe_op op_add_str pe_str (pv 6)) pe_str) (pe_call G_test_text (hr.mono (by first | decide | omega)) (by rfl) Y.g_test_text Y.F_test_text.kp (B_test_text Y) .nil pass0 (pa_cons (pv 5) pa_nil))) pe_str) pa_nil)) (pa_cons (pv 8) pa_nil))) (fun _ => rfl))) (pss_one (ps_ret pe_bl)) pss_nil))) (pss_one (ps_if (pt_cmpR op_ne (pe_ix ix_list (Uz.pe_lamcall2 (k := 12) (by rfl) Y.g_law_ask Y.F_law_ask (B_law_ask Y) sc_law_ask rfl (by first | exact Or.inl rfl | exact Or.inr (Or.inl rfl) | exact Or.inr (Or.inr rfl)) (fun cdv => ask_gives Y rfl rfl) TB rfl (List.mem_singleton.mpr rfl) (fun p hp _ => by rw [List.mem_singleton.mp hp]) (hr.mono (by first | decide | omega)) (show LamX.LamS (defScope s_law) _ from LamX.lamS_by (by decide +kernel)) rfl (fun _ _ _ _ _ => rfl) (fun A outer s H E f c' hr2 => (pe_call G_read_test (hr2.mono (by first | decide | omega)) (by rfl) Y.g_read_test Y.F_read_test.kp (B_read_test Y) .nil (passes_call (takes_of rfl rfl rfl rfl) (fun _ _ _ _ h => h)) (pa_cons (pe_op op_add_str (pe_op op_add_str (pe_op op_add_str (pe_op op_add_str pe_str (pv 6)) pe_str) (pe_call G_test_text (hr2.mono (by first | decide | omega)) (by rfl) Y.g_test_text Y.F_test_text.kp (B_test_text Y) .nil pass0 (pa_cons (pv 5) pa_nil))) pe_str) pa_nil)))) pe_int (fun _ _ => rfl)) pe_str (nomark _)) (pss_one (ps_ret pe_bl)) pss_nil))))))))))))))) (pss_one (ps_ret pe_bl)))), ?_⟩
    walk_at "w"
    refine ⟨a, ns, rfl, hs, hl, fun H1 d q k1 nd hD => ?_⟩
    walk_at "w"
    refine ⟨by decide, by decide, ?_⟩
    have hT0 : LamX.Tabs [(P0, lamQ c Y.a_law)] H1 := fun p hp => by rw [List.mem_singleton.mp hp]; exact .nil (k1 _ _ id hP)
    refine for_gen (walk_range 0 5) (fun i σ H' => ∃ o2 o3 o4 o5 o6 o7 o8 : Option V, σ = [some (.ref a), some (.ref d), o2, o3, o4, o5, o6, o7, o8] ∧ DrawAt K d q H' ∧ LamX.Tabs [(P0, lamQ c Y.a_law)] H') ?_ (fun _ _ _ _ => trivial) ?_ ?_
    · exact ⟨none, none, none, none, none, none, none, rfl, hD, hT0⟩
    · rintro i x σ H2 H3 hi ⟨o2, o3, o4, o5, o6, o7, o8, rfl, hD2, hT2⟩ k3 rfl
      have hD3 := hD2.kept k3
      have hT3 := tabs_kp hD2 k3.ofNo hT2
      walk_at "w"
      refine ⟨d, q, 4, rfl, by omega, hD3, fun H4 l ws k4 hD4 nl el hws hlen => ?_⟩
      have hT4 := tabs_kp hD3 k4 hT3
      walk_at "w"
      rename_i p np
      refine go_cat (xs := ws.map V.str) (ys := [Str.ofString "is", Str.ofString "all", Str.ofString "not", Str.ofString "and", Str.ofString "or"].map V.str) ((Kp.refl.new np : Kp No H4 _) _ _ id el) upd_same (by rw [List.length_map, hlen]; exact Nat.le_of_ble_eq_true rfl) fun p2 np2 => ?_
      have kk5 : Kp No H4 (upd (upd H4 p (.lst ([Str.ofString "is", Str.ofString "all", Str.ofString "not", Str.ofString "and", Str.ofString "or"].map V.str))) p2 (.lst (ws.map V.str ++ [Str.ofString "is", Str.ofString "all", Str.ofString "not", Str.ofString "and", Str.ofString "or"].map V.str))) := (Kp.refl.new np).new np2
      have hN : NamesAt K p2 (upd (upd H4 p (.lst ([Str.ofString "is", Str.ofString "all", Str.ofString "not", Str.ofString "and", Str.ofString "or"].map V.str))) p2 (.lst (ws.map V.str ++ [Str.ofString "is", Str.ofString "all", Str.ofString "not", Str.ofString "and", Str.ofString "or"].map V.str))) := by
        refine ⟨ws ++ [Str.ofString "is", Str.ofString "all", Str.ofString "not", Str.ofString "and", Str.ofString "or"], SqL.of (by rw [List.map_append]; exact upd_same), by simp, by rw [List.length_append, hlen]; exact Nat.le_of_ble_eq_true rfl, fun s hs => ?_⟩
        rcases List.mem_append.mp hs with hs | hs
        · exact hws s hs
        · exact five_names s hs
      have hD5 := hD4.kept kk5
      have hT5 := tabs_kp hD4 kk5.ofNo hT4
      walk_at "w"
      refine ⟨d, q, p2, p2, rfl, hD5, hN, hN, fun H6 v1 t k6 hD6 hv1 t1 t2 t3 => ?_⟩
      have hN6 := hN.kept hD5 k6
      have hT6 := tabs_kp hD5 k6 hT5
      walk_at "w"
      refine ⟨d, q, p2, p2, rfl, hD6, hN6, hN6, fun H7 v2 u k7 hD7 hv2 u1 u2 u3 => ?_⟩
      have hT7 := tabs_kp hD6 k7 hT6
      have hv1 := k7.dp hD6.noTup _ t.tupd hv1
      walk_at "w"
      rename_i p3 np3
      have kk8 : Kp No H7 (upd H7 p3 (.tup [v1, v2])) := Kp.refl.new np3
      have hD8 := hD7.kept kk8
      have hT8 := tabs_kp hD7 kk8.ofNo hT7
      have hv1 := dpN kk8 _ hv1
      have hv2 := dpN kk8 _ hv2
      generalize upd H7 p3 (.tup [v1, v2]) = H8 at kk8 hD8 hT8 hv1 hv2 ⊢
      refine ⟨v1, t, rfl, hv1, t3, t1, t2, fun H9 k9 => ?_⟩
      walk_at "w"
      refine ⟨t, rfl, t3, by omega, fun _ H10 v3 k10 hv3 => ?_, fun z => absurd ⟨t1, t2⟩ z⟩
      have e10 := k9.trans k10
      walk_at "w"
      refine ⟨v3, v1, t.deep, t.d, rfl, by omega, sd_t t _ (Nat.le_refl _), hv3, dpN e10 _ hv1, fun H11 k11 => ?_⟩
      have e11 := e10.trans k11
      walk_at "w"
      refine ⟨v1, t, rfl, dpN e11 _ hv1, t3, fun H12 k12 => ?_⟩
      have e12 := e11.trans k12
      rw [decide_eq_true (⟨t1, t2⟩ : t.deep ≤ 5 ∧ t.parts ≤ 15)]
      walk_at "w"
      refine ⟨v2, u, rfl, dpN e12 _ hv2, u3, u1, u2, fun H13 k13 => ?_⟩
      have e13 := e12.trans k13
      walk_at "w"
      refine go_eqD (dpN e13 _ hv1) (dpN e13 _ hv2) (T.shaped t3 (by omega)) (T.shaped u3 (by omega)) ?_
      rw [text_eqv t3 u3, str_cs, show decide (cs u.text = cs t.text) = decide (u.text = t.text) from decide_eq_decide.mpr ⟨ext_cs, fun e => by rw [e]⟩]
      walk_at "w"
      have eb : (!decide (V.bl (decide (u.text = t.text)) = V.bl (decide (u.text = t.text)))) = false := by rw [decide_eq_true rfl]; rfl
      walk_at "w"
      refine ⟨v1, t, rfl, dpN e13 _ hv1, t3, t1, t2, fun H14 l1 xs1 k14 nl1 el1 hl1 => ?_⟩
      have e14 := e13.trans k14
      walk_at "w"
      refine ⟨v1, t, rfl, dpN e14 _ hv1, by omega, by omega, fun H15 l2 xs2 k15 nl2 el2 hl2 => ?_⟩
      have e15 := e14.trans k15
      have ll := leaves8 t
      walk_at "w"
      refine ⟨.ref l1, .ref l2, 2, .list (t.leaves.map Zp.T.d), rfl, by omega, sd_l (fun c hc => leaves_deep t c hc) (by omega), .lst (SqL.of (k15 _ _ id el1)) (dpsN k15 _ hl1), .lst (SqL.of el2) hl2, fun H16 k16 => ?_⟩
      have e16 := e15.trans k16
      walk_at "w"
      refine ⟨v1, t, rfl, dpN e16 _ hv1, t3, t1, t2, fun H17 l3 xs3 k17 nl3 el3 hl3 => ?_⟩
      have e17 := e16.trans k17
      have tl := Zp.T.text_len t3
      have ul := Zp.T.text_len u3
      have hx3 : xs3.length ≤ 8 := by rw [dps_len hl3, List.length_map]; omega
      have e8 : decide ((8 : Int) < (xs3.length : Nat)) = false := decide_eq_false (by omega)
      walk_at "v"
      with_reducible refine go_seq ?_
      walk_at "v"
      rename_i p4 np4
      have kk18 : Kp No H17 (upd H17 p4 (.tup [V.str (Str.ofString "not"), v1])) := Kp.refl.new np4
      have e18 := e17.trans kk18
      have hv4 : Dp K (upd H17 p4 (.tup [V.str (Str.ofString "not"), v1])) (.ref p4) (Zp.T.nt t).d := .tup (SqT.of upd_same) (.cons (.str _) (.cons (dpN e18 _ hv1) .nil))
      generalize upd H17 p4 (.tup [V.str (Str.ofString "not"), v1]) = H18 at kk18 e18 hv4 ⊢
      with_reducible refine go_seqJ (fun σ' H' => (∃ o2, σ' = [some (.ref a), some (.ref d), o2, some (.ref p2), some v1, some v2, some (.str t.text), some (.ref p4), o8]) ∧ Kp No H18 H') ?_ ?_
      · intro N hN
        walk_at "v"
        refine ⟨.ref p4, .nt t, rfl, hv4, t3, fun H19 k19 => ?_⟩
        walk_at "v"
        refine ⟨v1, t, rfl, dpN (e18.trans k19) _ hv1, by omega, fun H20 k20 => ?_⟩
        walk_at "v"
        refine go_if (fun y => ?_) (fun y => ?_)
        · walk_at "v"
          refine ⟨v1, t, rfl, dpN ((e18.trans k19).trans k20) _ hv1, by omega, fun H21 k21 => ?_⟩
          have y := of_decide_eq_true y
          rw [show decide ((Zp.T.nt t).deep ≤ 5 ∧ (Zp.T.nt t).parts ≤ 15) = decide (((t.parts : Nat) : Int) < 15) from decide_eq_decide.mpr (by simp only [Zp.T.deep, Zp.T.parts]; omega)]
          walk_at "v"
          refine go_ifF (by rw [decide_eq_true rfl]; rfl) ?_
          walk_at "v"
          exact hN _ _ ⟨⟨_, rfl⟩, (k19.trans k20).trans k21⟩
        · have y := of_decide_eq_false y
          rw [show decide ((Zp.T.nt t).deep ≤ 5 ∧ (Zp.T.nt t).parts ≤ 15) = false from decide_eq_false (by simp only [Zp.T.deep, Zp.T.parts]; omega)]
          walk_at "v"
          exact hN _ _ ⟨⟨_, rfl⟩, k19.trans k20⟩
      · rintro _ H19 ⟨⟨o2, rfl⟩, k19⟩
        have e19 := e18.trans k19
        have hv4 := dpN k19 _ hv4
        with_reducible refine go_seqJ (fun σ' H' => (∃ o2, σ' = [some (.ref a), some (.ref d), o2, some (.ref p2), some v1, some v2, some (.str t.text), some (.ref p4), o8]) ∧ Kp No H19 H') ?_ ?_
        · intro N hN
          walk_at "v"
          refine ⟨.ref p4, .nt t, rfl, hv4, t3, fun H20 k20 => ?_⟩
          walk_at "v"
          refine go_if (fun y => ?_) (fun y => ?_)
          · have y := of_decide_eq_true y
            walk_at "v"
            refine go_catS (ltl (by rw [len_not]; omega)) ?_
            walk_at "v"
            refine go_catS (ltl (by rw [len_app, len_not, len_cl]; omega)) ?_
            rw [text_nt t]
            walk_at "v"
            refine ⟨.nt t, rfl, t3, (by have := y.2; omega), fun _ H21 v5 k21 hv5 => ?_, fun z => absurd y z⟩
            walk_at "v"
            refine ⟨v5, .ref p4, (Zp.T.nt t).deep, (Zp.T.nt t).d, rfl, (by have := y.1; omega), sd_t _ _ (Nat.le_refl _), hv5, dpN (k20.trans k21) _ hv4, fun H22 k22 => ?_⟩
            walk_at "v"
            exact hN _ _ ⟨⟨_, rfl⟩, (k20.trans k21).trans k22⟩
          · walk_at "v"
            exact hN _ _ ⟨⟨_, rfl⟩, k20⟩
        · rintro _ H20 ⟨⟨o2, rfl⟩, k20⟩
          have e20 := e19.trans k20
          walk_at "v"
          with_reducible refine go_seq ?_
          walk_at "v"
          rename_i p5 np5
          have kk21 : Kp No H20 (upd H20 p5 (.tup [V.str (Str.ofString "or"), v1, v2])) := Kp.refl.new np5
          have e21 := e20.trans kk21
          have hv5 : Dp K (upd H20 p5 (.tup [V.str (Str.ofString "or"), v1, v2])) (.ref p5) (Zp.T.orr t u).d := .tup (SqT.of upd_same) (.cons (.str _) (.cons (dpN e21 _ hv1) (.cons (dpN e21 _ hv2) .nil)))
          generalize upd H20 p5 (.tup [V.str (Str.ofString "or"), v1, v2]) = H21 at kk21 e21 hv5 ⊢
          refine ⟨.ref p5, .orr t u, rfl, hv5, by rw [nm_orr, t3, u3]; rfl, fun H22 k22 => ?_⟩
          have e22 := e21.trans k22
          walk_at "v"
          refine go_if (fun y => ?_) (fun y => ?_)
          · have y := of_decide_eq_true y
            with_reducible refine go_seq ?_
            walk_at "v"
            refine ⟨.ref p5, .orr t u, rfl, dpN k22 _ hv5, by rw [nm_orr, t3, u3]; rfl, y.1, y.2, fun H23 l4 xs4 k23 nl4 el4 hl4 => ?_⟩
            have e23 := e22.trans k23
            walk_at "v"
            refine ⟨v1, t, rfl, dpN e23 _ hv1, t3, t1, t2, fun H24 l5 xs5 k24 nl5 el5 hl5 => ?_⟩
            have e24 := e23.trans k24
            walk_at "v"
            refine ⟨v2, u, rfl, dpN e24 _ hv2, u3, u1, u2, fun H25 l6 xs6 k25 nl6 el6 hl6 => ?_⟩
            have e25 := e24.trans k25
            walk_at "v"
            have n5 := dps_len hl5
            have n6 := dps_len hl6
            rw [List.length_map] at n5 n6
            have ul8 := leaves8 u
            refine go_cat (k25 _ _ id el5) el6 (ltl (by omega)) fun p6 np6 => ?_
            have k26 := (Kp.refl : Kp No H25 H25).new (o := .lst (xs5 ++ xs6)) np6
            have e26 := e25.trans k26
            have o8 := leaves8 (Zp.T.orr t u)
            have y2 := y.2
            walk_at "v"
            refine ⟨.ref l4, .ref p6, 2, .list ((Zp.T.orr t u).leaves.map Zp.T.d), rfl, by omega, sd_l (fun c hc => leaves_deep _ c hc) (by omega), .lst (SqL.of (((k24.trans k25).trans k26) _ _ id el4)) (dpsN ((k24.trans k25).trans k26) _ hl4), .lst (SqL.of upd_same) (by rw [leaves_orr, List.map_append]; exact dps_app (dpsN (k25.trans k26) _ hl5) (dpsN k26 _ hl6)), fun H27 k27 => ?_⟩
            have e27 := e26.trans k27
            walk_at "v"
            refine go_catS (ltl (by rw [len_or]; omega)) ?_
            walk_at "v"
            refine go_catS (ltl (by rw [len_app, len_or, len_co]; omega)) ?_
            walk_at "v"
            refine ⟨v2, u, rfl, dpN e27 _ hv2, u3, u1, u2, fun H28 k28 => ?_⟩
            have e28 := e27.trans k28
            walk_at "v"
            refine go_catS (ltl (by rw [len_app, len_app, len_or, len_co]; omega)) ?_
            walk_at "v"
            refine go_catS (ltl (by rw [len_app, len_app, len_app, len_or, len_co, len_cl]; omega)) ?_
            rw [text_orr t u]
            walk_at "v"
            refine ⟨.orr t u, rfl, by rw [nm_orr, t3, u3]; rfl, by omega, fun _ H29 v7 k29 hv7 => ?_, fun z => absurd y z⟩
            have e29 := e28.trans k29
            walk_at "v"
            refine ⟨v7, .ref p5, (Zp.T.orr t u).deep, (Zp.T.orr t u).d, rfl, (by have := y.1; omega), sd_t _ _ (Nat.le_refl _), hv7, dpN ((((((k22.trans k23).trans k24).trans k25).trans k26).trans k27).trans (k28.trans k29)) _ hv5, fun H30 k30 => ?_⟩
            have e30 := e29.trans k30
            walk_at "v"
            exact ⟨_, _, _, _, _, _, _, rfl, hD8.kept e30, tabs_kp hD8 e30.ofNo hT8⟩
          · have y := of_decide_eq_false y
            walk_at "v"
            refine ⟨tabs_kp hD8 e22.ofNo hT8, fun H23 x23 hT23 K' hK => ?_⟩
            have hD23 := draw_ext x23 (hD8.kept e22)
            have hu := (extN_kp x23).dp noTup_tbl _ u.tupd (dpN e22 _ hv2)
            have pt := parts_orr t u
            walk_at "v"
            refine go_catS (ltl (by rw [len_or]; omega)) ?_
            walk_at "v"
            refine go_catS (ltl (by rw [len_app, len_or, len_co]; omega)) ?_
            walk_at "v"
            refine ⟨v2, u, rfl, hu, u3, u1, u2, fun H24 k24 => ?_⟩
            walk_at "v"
            refine go_catS (ltl (by rw [len_app, len_app, len_or, len_co]; omega)) ?_
            walk_at "v"
            refine go_catS (ltl (by rw [len_app, len_app, len_app, len_or, len_co, len_cl]; omega)) ?_
            rw [text_orr t u]
            walk_at "v"
            refine ⟨.orr t u, rfl, by rw [nm_orr, t3, u3]; rfl, by omega, fun z => absurd z y, fun _ cls dd H25 he => ?_⟩
            obtain ⟨rfl, dd', rfl, _, k25, ex⟩ := he
            refine ⟨Y.a_BadTest, dd', _, rfl, rfl, ex, Y.x_BadTest.xf, Y.x_BadTest.nw, Y.m_BadTest_BadValue, Y.m_BadTest_ScribeError, fun p9 np9 => ?_⟩
            have k9 := (k24.trans k25).new (o := .lst [.str (Str.ofString "badtest"), .non]) np9
            walk_at "v"
            refine go_ixL (SqL.of upd_same) Zg.atI_zero ?_
            walk_at "v"
            exact ⟨_, _, _, _, _, _, _, rfl, hD23.kept k9, tabs_kp hD23 k9.ofNo hT23⟩
    · rintro σ H2 ⟨o2, o3, o4, o5, o6, o7, o8, rfl, _, _⟩
      walk_at "w"
      exact k _
end
end Z

namespace Uz
open PySem PySem.Spec PyProof.Rows L2
/-! Boolean checks of an own exception class -/
section
variable {K : PySem.W.Frag} {C I : Addr}
def oexB (K : PySem.W.Frag) (C : Addr) : Bool := match K.lookup C with
  | some ⟨.type "type", _, .cls cd, sl⟩ => (match cd.mro, sl.toList with
    | .ref C' :: bm, [_, _, _, _, some (.builtin n), _] => decide (C' = C) && (decide (n = "ValueError.__new__") && (!cd.hasDel && (cd.hasDict && PySem.HandSPX.refsVE bm)))
    | _, _ => false)
  | _ => false
theorem oexB_ok (q : oexB K C = true) : ∃ nm q N bs bm sn sub ab col dd k0 k1 k2 k3 k5, K.lookup C = some (excClassObj nm q C N bs bm true sn sub ab col dd k0 k1 k2 k3 k5 "ValueError.__new__") ∧ PySem.HandSPX.refsVE bm = true := by
  unfold oexB at q
  split at q
  · rename_i dd cd sl ho
    split at q
    · rename_i C' bm k0 k1 k2 k3 n k5 hm hs
      obtain ⟨q1, q⟩ := He.ba q
      obtain ⟨q2, q⟩ := He.ba q
      obtain ⟨q3, q⟩ := He.ba q
      obtain ⟨q4, q5⟩ := He.ba q
      have q1 := of_decide_eq_true q1
      have q2 := of_decide_eq_true q2
      obtain ⟨nm, bs, mro, ns, qn, hd, sn, sub, ab, col, del⟩ := cd
      dsimp only at hm q3 q4
      subst hm q1 q2 q4
      have q3 : del = false := by revert q3; cases del <;> simp
      subst q3
      have hsl : sl = #[k0, k1, k2, k3, some (.builtin "ValueError.__new__"), k5] := by
        obtain ⟨l⟩ := sl
        simp only at hs
        rw [hs]
      subst hsl
      exact ⟨nm, qn, ns, bs, bm, sn, sub, ab, col, dd, k0, k1, k2, k3, k5, ho, q5⟩
    · cases q
  · cases q
def exfB (K : PySem.W.Frag) (C : Addr) : Bool := oexB K C && (He.eqO (PySem.W.findIn K (.ref C) "__setattr__") (some (some (.builtin "object.__setattr__"))) && (decide (PySem.W.subIn K (.ref C) (.type "BaseException") = some true) && (decide (PySem.W.typeIn K (.ref C) = some (.type "type")) &&
  (PySem.W.keepIn K (.ref C) && (xfB K C && (PySem.W.readsIn K C (.type "type") && (He.eqO (PySem.W.specialIn K (.ref C) "__getattribute__") (some (some (.builtin "type.__getattribute__"))) && He.eqO (PySem.W.findIn K (.ref C) "word") (some none))))))))
theorem exfB_ok (h : exfB K C = true) : ExF K C := by
  obtain ⟨h1, h⟩ := He.ba h
  obtain ⟨h2, h⟩ := He.ba h
  obtain ⟨h3, h⟩ := He.ba h
  obtain ⟨h4, h⟩ := He.ba h
  obtain ⟨h5, h⟩ := He.ba h
  obtain ⟨h6, h⟩ := He.ba h
  obtain ⟨h7, h⟩ := He.ba h
  obtain ⟨h8, h9⟩ := He.ba h
  exact ⟨⟨oexB_ok h1, He.eqO_ok h2, of_decide_eq_true h3, of_decide_eq_true h4, h5⟩, xfB_ok h6, ⟨h7, He.eqO_ok h8⟩, He.eqO_ok h9⟩
def fcB (K : PySem.W.Frag) (C I : Addr) : Bool := match PySem.W.findCls K (.ref C) (.type "type") "__init__" with
  | some (.val (.ref a)) => decide (a = I)
  | _ => false
theorem fcB_ok (h : fcB K C I = true) : PySem.W.findCls K (.ref C) (.type "type") "__init__" = some (.val (.ref I)) := by
  unfold fcB at h
  split at h
  · rename_i a e
    rw [e, of_decide_eq_true h]
  · cases h
def veB (K : PySem.W.Frag) : Bool := match PySem.W.findCls K (.type "ValueError") (.type "type") "__init__" with
  | some (.val (.builtin s)) => decide (s = "ValueError.__init__")
  | _ => false
theorem veB_ok (h : veB K = true) : PySem.W.findCls K (.type "ValueError") (.type "type") "__init__" = some (.val (.builtin "ValueError.__init__")) := by
  unfold veB at h
  split at h
  · rename_i a e
    rw [e, of_decide_eq_true h]
  · cases h
def xiB (K : PySem.W.Frag) (C I : Addr) : Bool := He.eqO (PySem.W.findIn K (.ref C) "__init__") (some (some (.ref I))) && (decide (PySem.W.typeIn K (.ref I) = some (.type "function")) && fcB K C I)
theorem xiB_ok (h : xiB K C I = true) : PySem.W.findIn K (.ref C) "__init__" = some (some (.ref I)) ∧ PySem.W.typeIn K (.ref I) = some (.type "function") ∧ PySem.W.findCls K (.ref C) (.type "type") "__init__" = some (.val (.ref I)) := by
  obtain ⟨h1, h⟩ := He.ba h
  obtain ⟨h2, h3⟩ := He.ba h
  exact ⟨He.eqO_ok h1, of_decide_eq_true h2, fcB_ok h3⟩
theorem kd_ok {w : World} {d : Addr} {dl : List (Str × He.Dv)} (h1 : He.dicW K d = some (He.keysIn w.params (dl.map (·.1)))) (h2 : He.valsB K d dl = true) : KD K w d (dl.map fun q => (q.1, q.2.v K)) := by
  refine ⟨by rw [List.map_map]; exact h1, fun q hq => ?_⟩
  obtain ⟨p, hp, rfl⟩ := List.mem_map.mp hq
  exact He.valsB_ok h2 hp
theorem tab_ok {fa : List He.Fa} {fn : List He.DefD} {ts : List He.Tab} {w : World} (c : He.SaysT fa fn ts w K) (i : Nat) {t : He.Tab} (h : ts[i]? = some t) : He.dicW K (t.1 K) = some (He.keysIn w.params t.2) := by
  have z : (ts.map fun t => He.dicW K (t.1 K)) = ts.map fun t => some (He.keysIn w.params t.2) := congrArg Prod.snd c
  have z := congrArg (fun l => l[i]?) z
  simp only [List.getElem?_map, h, Option.map_some, Option.some.injEq] at z
  exact z
end
end Uz

namespace HkY
open PySem PySem.Spec PyProof.Rows L2
/-! what the top's names reach, level by level, each object once or so -/
def subY : Option Obj → List Addr
  | some o => (match o.data with
    | .cls cd => [cd.ns]
    | .func fd => He.refV fd.code ++ (He.refV fd.defaults ++ He.refV fd.kwdefaults)
    | _ => [])
  | none => []
def valY : Option Obj → List Addr
  | some o => (match o.data with
    | .dict es _ => es.toList.flatMap fun e => He.refV e.val
    | .seq its _ => its.toList.flatMap He.refV
    | _ => [])
  | none => []
def asY (g : Addr → Option Obj) : List Addr :=
  let l1 := valY (g mainGlobals)
  let l2 := l1.flatMap fun a => subY (g a)
  let l3 := l2.flatMap fun a => valY (g a)
  let l4 := l3.flatMap fun a => subY (g a)
  mainGlobals :: cStatics :: (l1 ++ (l2 ++ (l3 ++ l4)))
def obsY (fa : List He.Fa) (fn : List He.DefD) (ts : List He.Tab) (tf : List He.Defn) (ex : PySem.W.Frag → Bool) (g : Addr → Option Obj) : He.AlX :=
  let K := He.frT g (asY g)
  (He.obsT fa fn ts K, ex K && He.tabsB g tf K)
section
variable {fa : List He.Fa} {fn : List He.DefD} {ts : List He.Tab} {tf : List He.Defn} {ex : PySem.W.Frag → Bool}
theorem saysY {w : World} {h : Heap} (e : obsY fa fn ts tf ex h.get? = He.valX fn ts w) :
    He.SaysX fa fn ts tf ex w h (He.frT h.get? (asY h.get?)) := by
  have p1 : He.obsT fa fn ts (He.frT h.get? (asY h.get?)) = He.valT fn ts w := congrArg Prod.fst e
  have p2 : (ex (He.frT h.get? (asY h.get?)) && He.tabsB h.get? tf (He.frT h.get? (asY h.get?))) = true := congrArg Prod.snd e
  have q1 := (He.ba p2).1
  have q2 := (He.ba p2).2
  have one : ∀ p ∈ tf, PySem.W.codeHdIn (He.frT h.get? (asY h.get?)) (He.cT (He.frT h.get? (asY h.get?)) p).1 (He.cT (He.frT h.get? (asY h.get?)) p).2 = true ∧
      ∃ o, h.get? (He.cT (He.frT h.get? (asY h.get?)) p).2 = some o ∧ He.emptyTab o = true := by
    intro p hp
    have z := He.ba (List.all_eq_true.mp q2 p hp)
    refine ⟨z.1, ?_⟩
    have z2 := z.2
    revert z2
    cases h.get? (He.cT (He.frT h.get? (asY h.get?)) p).2 with
    | none => intro z2; cases z2
    | some o => intro z2; exact ⟨o, rfl, z2⟩
  refine ⟨p1, q1, fun p hp => (one p hp).1, fun p hp => ?_, fun p hp => ?_⟩
  · obtain ⟨o, a, b⟩ := (one p hp).2
    exact He.frT_none a b
  · obtain ⟨o, a, b⟩ := (one p hp).2
    rw [a, He.emptyTab_eq b]
end
def hookY (fa : List He.Fa) (fn : List He.DefD) (ts : List He.Tab) (tf : List He.Defn) (ex : PySem.W.Frag → Bool) : PySem.W.Hook where
  α := He.AlX
  obs s := obsY fa fn ts tf ex s.heap.get?
  val w := He.valX fn ts w
  says w h := ∃ K : PySem.W.Frag, K.In h ∧ He.SaysX fa fn ts tf ex w h K
  of _ _ e := ⟨_, He.frT_in, saysY e⟩
  keeps := by
    rintro w h h' ⟨K, k1, k2⟩ kp
    exact ⟨K, PySem.W.Frag.In.keeps k1 kp, ⟨k2.t, k2.more, k2.hd, k2.out, fun p hp => kp _ _ (k2.empty p hp)⟩⟩
theorem obsY_eq {fa : List He.Fa} {fn : List He.DefD} {ts : List He.Tab} {tf : List He.Defn} {ex : PySem.W.Frag → Bool} {g : Addr → Option Obj} {s : Shared} (h : ∀ a, g a = s.heap.get? a) :
    obsY fa fn ts tf ex g = (hookY fa fn ts tf ex).obs s := by
  have e : g = s.heap.get? := funext h
  subst e
  rfl
end HkY

namespace Zh
open PySem PySem.Spec PyProof.Rows L2 Z
def kwAt (f : PySem.Str × Option PySem.Str) (x : PySem.Str) (K : PySem.W.Frag) : Addr := match K.lookup (He.fAd K f) with
  | some ⟨_, _, .func fd, _⟩ => (match fd.kwdefaults with
    | .ref D => (match PySem.W.nsIn K D x with
      | some (some (.ref a)) => a
      | _ => 0)
    | _ => 0)
  | _ => 0
def D_ScribeError_init : He.DefD := ⟨("ScribeError", some "__init__"), "__init__", "ScribeError.__init__", defArgs s_ScribeError_init, defBody s_ScribeError_init, defScope s_ScribeError_init, [], []⟩
def D_Missing_init : He.DefD := ⟨("Missing", some "__init__"), "__init__", "Missing.__init__", defArgs s_Missing_init, defBody s_Missing_init, defScope s_Missing_init, [], []⟩
def D_BadTest_init : He.DefD := ⟨("BadTest", some "__init__"), "__init__", "BadTest.__init__", defArgs s_BadTest_init, defBody s_BadTest_init, defScope s_BadTest_init, [], []⟩
def D_BadValue_init : He.DefD := ⟨("BadValue", some "__init__"), "__init__", "BadValue.__init__", defArgs s_BadValue_init, defBody s_BadValue_init, defScope s_BadValue_init, [], []⟩
def D_is_name : He.DefD := ⟨("is_name", none), "is_name", "is_name", defArgs s_is_name, defBody s_is_name, defScope s_is_name, [], []⟩
def D_is_leaf : He.DefD := ⟨("is_leaf", none), "is_leaf", "is_leaf", defArgs s_is_leaf, defBody s_is_leaf, defScope s_is_leaf, [], []⟩
def D_parts_of : He.DefD := ⟨("parts_of", none), "parts_of", "parts_of", defArgs s_parts_of, defBody s_parts_of, defScope s_parts_of, [], []⟩
def D_is_test : He.DefD := ⟨("is_test", none), "is_test", "is_test", defArgs s_is_test, defBody s_is_test, defScope s_is_test, [], []⟩
def D_look_test : He.DefD := ⟨("look_test", none), "look_test", "look_test", defArgs s_look_test, defBody s_look_test, defScope s_look_test, [], []⟩
def D_leaves_in : He.DefD := ⟨("leaves_in", none), "leaves_in", "leaves_in", defArgs s_leaves_in, defBody s_leaves_in, defScope s_leaves_in, [], []⟩
def D_leaves : He.DefD := ⟨("leaves", none), "leaves", "leaves", defArgs s_leaves, defBody s_leaves, defScope s_leaves, [], []⟩
def D_text_of : He.DefD := ⟨("text_of", none), "text_of", "text_of", defArgs s_text_of, defBody s_text_of, defScope s_text_of, [], []⟩
def D_test_text : He.DefD := ⟨("test_text", none), "test_text", "test_text", defArgs s_test_text, defBody s_test_text, defScope s_test_text, [], []⟩
def D_number_in : He.DefD := ⟨("number_in", none), "number_in", "number_in", defArgs s_number_in, defBody s_number_in, defScope s_number_in, [.int 6], []⟩
def D_parted_at : He.DefD := ⟨("parted_at", none), "parted_at", "parted_at", defArgs s_parted_at, defBody s_parted_at, defScope s_parted_at, [], []⟩
def D_leaf_in : He.DefD := ⟨("leaf_in", none), "leaf_in", "leaf_in", defArgs s_leaf_in, defBody s_leaf_in, defScope s_leaf_in, [], []⟩
def D_test_in : He.DefD := ⟨("test_in", none), "test_in", "test_in", defArgs s_test_in, defBody s_test_in, defScope s_test_in, [], []⟩
def D_read_test : He.DefD := ⟨("read_test", none), "read_test", "read_test", defArgs s_read_test, defBody s_read_test, defScope s_read_test, [], []⟩
def D_law_begin : He.DefD := ⟨("_law_begin", none), "_law_begin", "_law_begin", defArgs s_law_begin, defBody s_law_begin, defScope s_law_begin, [], []⟩
def D_law_pick : He.DefD := ⟨("_law_pick", none), "_law_pick", "_law_pick", defArgs s_law_pick, defBody s_law_pick, defScope s_law_pick, [], []⟩
def D_law_of : He.DefD := ⟨("_law_of", none), "_law_of", "_law_of", defArgs s_law_of, defBody s_law_of, defScope s_law_of, [], []⟩
def D_law_same : He.DefD := ⟨("_law_same", none), "_law_same", "_law_same", defArgs s_law_same, defBody s_law_same, defScope s_law_same, [], []⟩
def D_law_word : He.DefD := ⟨("_law_word", none), "_law_word", "_law_word", defArgs s_law_word, defBody s_law_word, defScope s_law_word, [], []⟩
def D_law_words : He.DefD := ⟨("_law_words", none), "_law_words", "_law_words", defArgs s_law_words, defBody s_law_words, defScope s_law_words, [], []⟩
def D_law_ask : He.DefD := ⟨("_law_ask", none), "_law_ask", "_law_ask", defArgs s_law_ask, defBody s_law_ask, defScope s_law_ask, [], []⟩
def D_law_number : He.DefD := ⟨("_law_number", none), "_law_number", "_law_number", defArgs s_law_number, defBody s_law_number, defScope s_law_number, [], []⟩
def D_law_leaf : He.DefD := ⟨("_law_leaf", none), "_law_leaf", "_law_leaf", defArgs s_law_leaf, defBody s_law_leaf, defScope s_law_leaf, [], []⟩
def D_law_tree : He.DefD := ⟨("_law_tree", none), "_law_tree", "_law_tree", defArgs s_law_tree, defBody s_law_tree, defScope s_law_tree, [], []⟩
def D_law_parts : He.DefD := ⟨("_law_parts", none), "_law_parts", "_law_parts", defArgs s_law_parts, defBody s_law_parts, defScope s_law_parts, [], []⟩
def D_law_deep : He.DefD := ⟨("_law_deep", none), "_law_deep", "_law_deep", defArgs s_law_deep, defBody s_law_deep, defScope s_law_deep, [], []⟩
def D_law_test : He.DefD := ⟨("_law_test", none), "_law_test", "_law_test", defArgs s_law_test, defBody s_law_test, defScope s_law_test, [], []⟩
def D_law_leaves : He.DefD := ⟨("_law_leaves", none), "_law_leaves", "_law_leaves", defArgs s_law_leaves, defBody s_law_leaves, defScope s_law_leaves, [], []⟩
def D_law : He.DefD := ⟨("law", none), "law", "law", defArgs s_law, defBody s_law, defScope s_law, [], []⟩
def fn0 : List He.DefD := [D_ScribeError_init, D_Missing_init, D_BadTest_init, D_BadValue_init, D_is_name, D_is_leaf, D_parts_of, D_is_test, D_look_test, D_leaves_in, D_leaves, D_text_of, D_test_text, D_number_in, D_parted_at, D_leaf_in, D_test_in, D_read_test, D_law_begin, D_law_pick]
def fn1 : List He.DefD := [D_law_of, D_law_same, D_law_word, D_law_words, D_law_ask, D_law_number, D_law_leaf, D_law_tree, D_law_parts, D_law_deep, D_law_test, D_law_leaves, D_law]
def fn : List He.DefD := fn0 ++ fn1
def fa0 : List He.Fa := [.glo "is_name", .glo "is_leaf", .glo "parts_of", .glo "is_test", .glo "look_test", .glo "leaves_in", .glo "leaves", .glo "text_of", .glo "test_text", .glo "number_in", .glo "parted_at", .glo "leaf_in", .glo "test_in", .glo "read_test", .glo "_law_begin", .glo "_law_pick", .glo "_law_of", .glo "_law_same", .glo "_law_word", .glo "_law_words", .glo "_law_ask", .glo "_law_number", .glo "_law_leaf", .glo "_law_tree", .glo "_law_parts", .glo "_law_deep", .glo "_law_test", .glo "_law_leaves", .glo "law", .glo "ScribeError"]
def fa1 : List He.Fa := [.glo "Missing", .glo "BadTest", .glo "BadValue", .exm "BadTest" "ScribeError" true, .exm "BadTest" "Missing" false, .exm "BadTest" "BadValue" false, .exm "BadValue" "ScribeError" true, .exm "BadValue" "Missing" false, .exm "BadValue" "BadValue" true, .int "LIMIT" 999999, .int "LONGEST" 8, .str "LETTERS" "abcdefghijklmnopqrstuvwxyz", .int "MOST_PARTS" 15, .int "DEEPEST" 5, .glo "WITHIN", .glo "SIGNS", .str "FIGURES" "0123456789", .int "MOST_FIGURES" 6, .free "LookupError", .free "ValueError", .free "all", .free "bool", .free "enumerate", .free "int", .free "isinstance", .free "len", .free "list", .free "max", .free "range", .free "str"]
def fa2 : List He.Fa := [.free "sum", .free "tuple"]
def fa : List He.Fa := fa0 ++ fa1 ++ fa2
def ts : List He.Tab := [(fun K => He.ga K "WITHIN", ["not", "and", "or"]), (fun K => He.ga K "SIGNS", ["<", "="])]
def ex (K : PySem.W.Frag) : Bool := He.valsB K (He.ga K "WITHIN") [("not", .int 1), ("and", .int 2), ("or", .int 2)] && (He.valsB K (He.ga K "SIGNS") [("<", .str "less"), ("=", .str "same")] && (Uz.veB K && (Uz.exfB K (He.ga K "ScribeError") && (Uz.exfB K (He.ga K "BadTest") && (Uz.exfB K (He.ga K "BadValue") && (Uz.xiB K (He.ga K "ScribeError") (He.fAd K ("ScribeError", some "__init__")) && (Uz.xiB K (He.ga K "BadTest") (He.fAd K ("BadTest", some "__init__")) && (Uz.xiB K (He.ga K "BadValue") (He.fAd K ("BadValue", some "__init__")) && (true)))))))))
def tf : List He.Defn := [("law", none)]
def loose0 : List PySem.Str := ["ScribeError", "Missing", "BadTest", "BadValue", "LIMIT", "LONGEST", "LETTERS", "is_name", "MOST_PARTS", "DEEPEST", "WITHIN", "SIGNS", "FIGURES", "MOST_FIGURES", "is_leaf", "parts_of", "is_test", "look_test", "leaves_in", "leaves", "text_of", "test_text", "number_in", "parted_at", "leaf_in", "test_in", "read_test", "_law_begin", "_law_pick", "_law_of"]
def loose1 : List PySem.Str := ["_law_same", "_law_word", "_law_words", "_law_ask", "_law_number", "_law_leaf", "_law_tree", "_law_parts", "_law_deep", "_law_test", "_law_leaves"]
def loose : List PySem.Str := loose0 ++ loose1
abbrev R : PySem.W.OpenRow := PySem.W.OpenLaw.row PySem.Challenge.rw_lanescribe_k61_whole_tests_there_and_bac
abbrev hk : PySem.W.Hook := HkY.hookY fa fn ts tf ex
def ob (s : PySem.W.SharedT) : He.AlX := HkY.obsY fa fn ts tf ex (HandSHeadRun.getT s)
theorem ob_eq (s : PySem.W.SharedT) : ob s = hk.obs s.abs := HkY.obsY_eq (HandSHeadRun.getT_eq s)
theorem runF (w : World) : HandSHeadRun.RunEq R (PySem.W.view R.prog [45]) hk ob 2100 loose (w.withFollow "special-get-raises" false) := by
  intro os
  kernel_rfl
theorem runT (w : World) : HandSHeadRun.RunEq R (PySem.W.view R.prog [45]) hk ob 2100 loose (w.withFollow "special-get-raises" true) := by
  intro os
  kernel_rfl
theorem run (w : World) : HandSHeadRun.RunEq R (PySem.W.view R.prog [45]) hk ob 2100 loose w := PySem.W.byRow2 "special-get-raises" (P := fun w => HandSHeadRun.RunEq R (PySem.W.view R.prog [45]) hk ob 2100 loose w) runF runT w
end Zh

namespace Zh
open PySem PySem.Spec PyProof.Rows L2 Z
section
variable {w : World} {K : PySem.W.Frag} {mg : Str → Option Value} {h : Heap}
theorem exs (q : ex K = true) : (He.valsB K (He.ga K "WITHIN") [("not", .int 1), ("and", .int 2), ("or", .int 2)]) = true ∧ (He.valsB K (He.ga K "SIGNS") [("<", .str "less"), ("=", .str "same")]) = true ∧ (Uz.veB K) = true ∧ (Uz.exfB K (He.ga K "ScribeError")) = true ∧ (Uz.exfB K (He.ga K "BadTest")) = true ∧ (Uz.exfB K (He.ga K "BadValue")) = true ∧ (Uz.xiB K (He.ga K "ScribeError") (He.fAd K ("ScribeError", some "__init__"))) = true ∧ (Uz.xiB K (He.ga K "BadTest") (He.fAd K ("BadTest", some "__init__"))) = true ∧ (Uz.xiB K (He.ga K "BadValue") (He.fAd K ("BadValue", some "__init__"))) = true := by
  unfold ex at q
  obtain ⟨h0, q⟩ := He.ba q
  obtain ⟨h1, q⟩ := He.ba q
  obtain ⟨h2, q⟩ := He.ba q
  obtain ⟨h3, q⟩ := He.ba q
  obtain ⟨h4, q⟩ := He.ba q
  obtain ⟨h5, q⟩ := He.ba q
  obtain ⟨h6, q⟩ := He.ba q
  obtain ⟨h7, q⟩ := He.ba q
  obtain ⟨h8, q⟩ := He.ba q
  exact ⟨h0, h1, h2, h3, h4, h5, h6, h7, h8⟩
noncomputable def topOf (X : K.In h) (G : h.Ns mainGlobals mg) (c : He.SaysX fa fn ts tf ex w h K) : Top K mg w :=
  have q := exs c.more
  have e_0 := q.1
  have e_1 := q.2.1
  have e_2 := q.2.2.1
  have e_3 := q.2.2.2.1
  have e_4 := q.2.2.2.2.1
  have e_5 := q.2.2.2.2.2.1
  have e_6 := q.2.2.2.2.2.2.1
  have e_7 := q.2.2.2.2.2.2.2.1
  have e_8 := q.2.2.2.2.2.2.2.2
  {
  b_LookupError := He.free_ok X G (c.t.d.fact 48 (f := .free "LookupError") rfl),
  b_ValueError := He.free_ok X G (c.t.d.fact 49 (f := .free "ValueError") rfl),
  b_all := He.free_ok X G (c.t.d.fact 50 (f := .free "all") rfl),
  b_bool := He.free_ok X G (c.t.d.fact 51 (f := .free "bool") rfl),
  b_enumerate := He.free_ok X G (c.t.d.fact 52 (f := .free "enumerate") rfl),
  b_int := He.free_ok X G (c.t.d.fact 53 (f := .free "int") rfl),
  b_isinstance := He.free_ok X G (c.t.d.fact 54 (f := .free "isinstance") rfl),
  b_len := He.free_ok X G (c.t.d.fact 55 (f := .free "len") rfl),
  b_list := He.free_ok X G (c.t.d.fact 56 (f := .free "list") rfl),
  b_max := He.free_ok X G (c.t.d.fact 57 (f := .free "max") rfl),
  b_range := He.free_ok X G (c.t.d.fact 58 (f := .free "range") rfl),
  b_str := He.free_ok X G (c.t.d.fact 59 (f := .free "str") rfl),
  b_sum := He.free_ok X G (c.t.d.fact 60 (f := .free "sum") rfl),
  b_tuple := He.free_ok X G (c.t.d.fact 61 (f := .free "tuple") rfl),
  c_LIMIT := He.int_ok X G (c.t.d.fact 39 (f := .int "LIMIT" 999999) rfl),
  c_LONGEST := He.int_ok X G (c.t.d.fact 40 (f := .int "LONGEST" 8) rfl),
  c_LETTERS := He.str_ok X G (c.t.d.fact 41 (f := .str "LETTERS" "abcdefghijklmnopqrstuvwxyz") rfl),
  c_MOST_PARTS := He.int_ok X G (c.t.d.fact 42 (f := .int "MOST_PARTS" 15) rfl),
  c_DEEPEST := He.int_ok X G (c.t.d.fact 43 (f := .int "DEEPEST" 5) rfl),
  a_WITHIN := He.ga K "WITHIN",
  g_WITHIN := He.glo_ok X G (c.t.d.fact 44 (f := .glo "WITHIN") rfl),
  k_WITHIN := Uz.kd_ok (Uz.tab_ok c.t 0 rfl) e_0,
  a_SIGNS := He.ga K "SIGNS",
  g_SIGNS := He.glo_ok X G (c.t.d.fact 45 (f := .glo "SIGNS") rfl),
  k_SIGNS := Uz.kd_ok (Uz.tab_ok c.t 1 rfl) e_1,
  c_FIGURES := He.str_ok X G (c.t.d.fact 46 (f := .str "FIGURES" "0123456789") rfl),
  c_MOST_FIGURES := He.int_ok X G (c.t.d.fact 47 (f := .int "MOST_FIGURES" 6) rfl),
  a_ScribeError := He.ga K "ScribeError",
  g_ScribeError := He.glo_ok X G (c.t.d.fact 29 (f := .glo "ScribeError") rfl),
  a_Missing := He.ga K "Missing",
  g_Missing := He.glo_ok X G (c.t.d.fact 30 (f := .glo "Missing") rfl),
  a_BadTest := He.ga K "BadTest",
  g_BadTest := He.glo_ok X G (c.t.d.fact 31 (f := .glo "BadTest") rfl),
  a_BadValue := He.ga K "BadValue",
  g_BadValue := He.glo_ok X G (c.t.d.fact 32 (f := .glo "BadValue") rfl),
  v_VE := Uz.veB_ok e_2,
  x_ScribeError := Uz.exfB_ok e_3,
  x_BadTest := Uz.exfB_ok e_4,
  m_BadTest_ScribeError := He.exm_ok (c.t.d.fact 33 (f := .exm "BadTest" "ScribeError" true) rfl),
  m_BadTest_Missing := He.exm_ok (c.t.d.fact 34 (f := .exm "BadTest" "Missing" false) rfl),
  m_BadTest_BadValue := He.exm_ok (c.t.d.fact 35 (f := .exm "BadTest" "BadValue" false) rfl),
  x_BadValue := Uz.exfB_ok e_5,
  m_BadValue_ScribeError := He.exm_ok (c.t.d.fact 36 (f := .exm "BadValue" "ScribeError" true) rfl),
  m_BadValue_Missing := He.exm_ok (c.t.d.fact 37 (f := .exm "BadValue" "Missing" false) rfl),
  m_BadValue_BadValue := He.exm_ok (c.t.d.fact 38 (f := .exm "BadValue" "BadValue" true) rfl),
  a_ScribeError_init := He.fAd K ("ScribeError", some "__init__"),
  d_ScribeError_init := Classical.choose (c.t.d.def_ 0 (d := D_ScribeError_init) rfl),
  F_ScribeError_init := Classical.choose_spec (c.t.d.def_ 0 (d := D_ScribeError_init) rfl),
  i_ScribeError_init := (Uz.xiB_ok e_6).1,
  t_ScribeError_init := (Uz.xiB_ok e_6).2.1,
  l_ScribeError_init := (Uz.xiB_ok e_6).2.2,
  a_Missing_init := He.fAd K ("Missing", some "__init__"),
  d_Missing_init := Classical.choose (c.t.d.def_ 1 (d := D_Missing_init) rfl),
  F_Missing_init := Classical.choose_spec (c.t.d.def_ 1 (d := D_Missing_init) rfl),
  a_BadTest_init := He.fAd K ("BadTest", some "__init__"),
  d_BadTest_init := Classical.choose (c.t.d.def_ 2 (d := D_BadTest_init) rfl),
  F_BadTest_init := Classical.choose_spec (c.t.d.def_ 2 (d := D_BadTest_init) rfl),
  i_BadTest_init := (Uz.xiB_ok e_7).1,
  t_BadTest_init := (Uz.xiB_ok e_7).2.1,
  l_BadTest_init := (Uz.xiB_ok e_7).2.2,
  a_BadValue_init := He.fAd K ("BadValue", some "__init__"),
  d_BadValue_init := Classical.choose (c.t.d.def_ 3 (d := D_BadValue_init) rfl),
  F_BadValue_init := Classical.choose_spec (c.t.d.def_ 3 (d := D_BadValue_init) rfl),
  i_BadValue_init := (Uz.xiB_ok e_8).1,
  t_BadValue_init := (Uz.xiB_ok e_8).2.1,
  l_BadValue_init := (Uz.xiB_ok e_8).2.2,
  a_is_name := He.fAd K ("is_name", none),
  d_is_name := Classical.choose (c.t.d.def_ 4 (d := D_is_name) rfl),
  F_is_name := Classical.choose_spec (c.t.d.def_ 4 (d := D_is_name) rfl),
  g_is_name := He.glo_ok X G (c.t.d.fact 0 (f := .glo "is_name") rfl),
  a_is_leaf := He.fAd K ("is_leaf", none),
  d_is_leaf := Classical.choose (c.t.d.def_ 5 (d := D_is_leaf) rfl),
  F_is_leaf := Classical.choose_spec (c.t.d.def_ 5 (d := D_is_leaf) rfl),
  g_is_leaf := He.glo_ok X G (c.t.d.fact 1 (f := .glo "is_leaf") rfl),
  a_parts_of := He.fAd K ("parts_of", none),
  d_parts_of := Classical.choose (c.t.d.def_ 6 (d := D_parts_of) rfl),
  F_parts_of := Classical.choose_spec (c.t.d.def_ 6 (d := D_parts_of) rfl),
  g_parts_of := He.glo_ok X G (c.t.d.fact 2 (f := .glo "parts_of") rfl),
  a_is_test := He.fAd K ("is_test", none),
  d_is_test := Classical.choose (c.t.d.def_ 7 (d := D_is_test) rfl),
  F_is_test := Classical.choose_spec (c.t.d.def_ 7 (d := D_is_test) rfl),
  g_is_test := He.glo_ok X G (c.t.d.fact 3 (f := .glo "is_test") rfl),
  a_look_test := He.fAd K ("look_test", none),
  d_look_test := Classical.choose (c.t.d.def_ 8 (d := D_look_test) rfl),
  F_look_test := Classical.choose_spec (c.t.d.def_ 8 (d := D_look_test) rfl),
  g_look_test := He.glo_ok X G (c.t.d.fact 4 (f := .glo "look_test") rfl),
  a_leaves_in := He.fAd K ("leaves_in", none),
  d_leaves_in := Classical.choose (c.t.d.def_ 9 (d := D_leaves_in) rfl),
  F_leaves_in := Classical.choose_spec (c.t.d.def_ 9 (d := D_leaves_in) rfl),
  g_leaves_in := He.glo_ok X G (c.t.d.fact 5 (f := .glo "leaves_in") rfl),
  a_leaves := He.fAd K ("leaves", none),
  d_leaves := Classical.choose (c.t.d.def_ 10 (d := D_leaves) rfl),
  F_leaves := Classical.choose_spec (c.t.d.def_ 10 (d := D_leaves) rfl),
  g_leaves := He.glo_ok X G (c.t.d.fact 6 (f := .glo "leaves") rfl),
  a_text_of := He.fAd K ("text_of", none),
  d_text_of := Classical.choose (c.t.d.def_ 11 (d := D_text_of) rfl),
  F_text_of := Classical.choose_spec (c.t.d.def_ 11 (d := D_text_of) rfl),
  g_text_of := He.glo_ok X G (c.t.d.fact 7 (f := .glo "text_of") rfl),
  a_test_text := He.fAd K ("test_text", none),
  d_test_text := Classical.choose (c.t.d.def_ 12 (d := D_test_text) rfl),
  F_test_text := Classical.choose_spec (c.t.d.def_ 12 (d := D_test_text) rfl),
  g_test_text := He.glo_ok X G (c.t.d.fact 8 (f := .glo "test_text") rfl),
  a_number_in := He.fAd K ("number_in", none),
  d_number_in := Classical.choose (c.t.d.def_ 13 (d := D_number_in) rfl),
  F_number_in := Classical.choose_spec (c.t.d.def_ 13 (d := D_number_in) rfl),
  g_number_in := He.glo_ok X G (c.t.d.fact 9 (f := .glo "number_in") rfl),
  a_parted_at := He.fAd K ("parted_at", none),
  d_parted_at := Classical.choose (c.t.d.def_ 14 (d := D_parted_at) rfl),
  F_parted_at := Classical.choose_spec (c.t.d.def_ 14 (d := D_parted_at) rfl),
  g_parted_at := He.glo_ok X G (c.t.d.fact 10 (f := .glo "parted_at") rfl),
  a_leaf_in := He.fAd K ("leaf_in", none),
  d_leaf_in := Classical.choose (c.t.d.def_ 15 (d := D_leaf_in) rfl),
  F_leaf_in := Classical.choose_spec (c.t.d.def_ 15 (d := D_leaf_in) rfl),
  g_leaf_in := He.glo_ok X G (c.t.d.fact 11 (f := .glo "leaf_in") rfl),
  a_test_in := He.fAd K ("test_in", none),
  d_test_in := Classical.choose (c.t.d.def_ 16 (d := D_test_in) rfl),
  F_test_in := Classical.choose_spec (c.t.d.def_ 16 (d := D_test_in) rfl),
  g_test_in := He.glo_ok X G (c.t.d.fact 12 (f := .glo "test_in") rfl),
  a_read_test := He.fAd K ("read_test", none),
  d_read_test := Classical.choose (c.t.d.def_ 17 (d := D_read_test) rfl),
  F_read_test := Classical.choose_spec (c.t.d.def_ 17 (d := D_read_test) rfl),
  g_read_test := He.glo_ok X G (c.t.d.fact 13 (f := .glo "read_test") rfl),
  a_law_begin := He.fAd K ("_law_begin", none),
  d_law_begin := Classical.choose (c.t.d.def_ 18 (d := D_law_begin) rfl),
  F_law_begin := Classical.choose_spec (c.t.d.def_ 18 (d := D_law_begin) rfl),
  g_law_begin := He.glo_ok X G (c.t.d.fact 14 (f := .glo "_law_begin") rfl),
  a_law_pick := He.fAd K ("_law_pick", none),
  d_law_pick := Classical.choose (c.t.d.def_ 19 (d := D_law_pick) rfl),
  F_law_pick := Classical.choose_spec (c.t.d.def_ 19 (d := D_law_pick) rfl),
  g_law_pick := He.glo_ok X G (c.t.d.fact 15 (f := .glo "_law_pick") rfl),
  a_law_of := He.fAd K ("_law_of", none),
  d_law_of := Classical.choose (c.t.d.def_ 20 (d := D_law_of) rfl),
  F_law_of := Classical.choose_spec (c.t.d.def_ 20 (d := D_law_of) rfl),
  g_law_of := He.glo_ok X G (c.t.d.fact 16 (f := .glo "_law_of") rfl),
  a_law_same := He.fAd K ("_law_same", none),
  d_law_same := Classical.choose (c.t.d.def_ 21 (d := D_law_same) rfl),
  F_law_same := Classical.choose_spec (c.t.d.def_ 21 (d := D_law_same) rfl),
  g_law_same := He.glo_ok X G (c.t.d.fact 17 (f := .glo "_law_same") rfl),
  a_law_word := He.fAd K ("_law_word", none),
  d_law_word := Classical.choose (c.t.d.def_ 22 (d := D_law_word) rfl),
  F_law_word := Classical.choose_spec (c.t.d.def_ 22 (d := D_law_word) rfl),
  g_law_word := He.glo_ok X G (c.t.d.fact 18 (f := .glo "_law_word") rfl),
  a_law_words := He.fAd K ("_law_words", none),
  d_law_words := Classical.choose (c.t.d.def_ 23 (d := D_law_words) rfl),
  F_law_words := Classical.choose_spec (c.t.d.def_ 23 (d := D_law_words) rfl),
  g_law_words := He.glo_ok X G (c.t.d.fact 19 (f := .glo "_law_words") rfl),
  a_law_ask := He.fAd K ("_law_ask", none),
  d_law_ask := Classical.choose (c.t.d.def_ 24 (d := D_law_ask) rfl),
  F_law_ask := Classical.choose_spec (c.t.d.def_ 24 (d := D_law_ask) rfl),
  g_law_ask := He.glo_ok X G (c.t.d.fact 20 (f := .glo "_law_ask") rfl),
  a_law_number := He.fAd K ("_law_number", none),
  d_law_number := Classical.choose (c.t.d.def_ 25 (d := D_law_number) rfl),
  F_law_number := Classical.choose_spec (c.t.d.def_ 25 (d := D_law_number) rfl),
  g_law_number := He.glo_ok X G (c.t.d.fact 21 (f := .glo "_law_number") rfl),
  a_law_leaf := He.fAd K ("_law_leaf", none),
  d_law_leaf := Classical.choose (c.t.d.def_ 26 (d := D_law_leaf) rfl),
  F_law_leaf := Classical.choose_spec (c.t.d.def_ 26 (d := D_law_leaf) rfl),
  g_law_leaf := He.glo_ok X G (c.t.d.fact 22 (f := .glo "_law_leaf") rfl),
  a_law_tree := He.fAd K ("_law_tree", none),
  d_law_tree := Classical.choose (c.t.d.def_ 27 (d := D_law_tree) rfl),
  F_law_tree := Classical.choose_spec (c.t.d.def_ 27 (d := D_law_tree) rfl),
  g_law_tree := He.glo_ok X G (c.t.d.fact 23 (f := .glo "_law_tree") rfl),
  a_law_parts := He.fAd K ("_law_parts", none),
  d_law_parts := Classical.choose (c.t.d.def_ 28 (d := D_law_parts) rfl),
  F_law_parts := Classical.choose_spec (c.t.d.def_ 28 (d := D_law_parts) rfl),
  g_law_parts := He.glo_ok X G (c.t.d.fact 24 (f := .glo "_law_parts") rfl),
  a_law_deep := He.fAd K ("_law_deep", none),
  d_law_deep := Classical.choose (c.t.d.def_ 29 (d := D_law_deep) rfl),
  F_law_deep := Classical.choose_spec (c.t.d.def_ 29 (d := D_law_deep) rfl),
  g_law_deep := He.glo_ok X G (c.t.d.fact 25 (f := .glo "_law_deep") rfl),
  a_law_test := He.fAd K ("_law_test", none),
  d_law_test := Classical.choose (c.t.d.def_ 30 (d := D_law_test) rfl),
  F_law_test := Classical.choose_spec (c.t.d.def_ 30 (d := D_law_test) rfl),
  g_law_test := He.glo_ok X G (c.t.d.fact 26 (f := .glo "_law_test") rfl),
  a_law_leaves := He.fAd K ("_law_leaves", none),
  d_law_leaves := Classical.choose (c.t.d.def_ 31 (d := D_law_leaves) rfl),
  F_law_leaves := Classical.choose_spec (c.t.d.def_ 31 (d := D_law_leaves) rfl),
  g_law_leaves := He.glo_ok X G (c.t.d.fact 27 (f := .glo "_law_leaves") rfl),
  a_law := He.fAd K ("law", none),
  d_law := Classical.choose (c.t.d.def_ 32 (d := D_law) rfl),
  F_law := Classical.choose_spec (c.t.d.def_ 32 (d := D_law) rfl),
  g_law := He.glo_ok X G (c.t.d.fact 28 (f := .glo "law") rfl) }
end
end Zh

namespace Zh
open PySem PySem.Spec PyProof.Rows L2 Z Zg Zp Zd
section
variable {w : World} {K : PySem.W.Frag} {mg : Str → Option Value} {h : Heap}
theorem lawAt {f : Addr} (X : K.In h) (G : h.Ns mainGlobals mg) (hmg : mg "law" = some (.ref f)) (c : He.SaysX fa fn ts tf ex w h K) :
    LamX.LawAtS PySem.Challenge.rw_lanescribe_k61_whole_tests_there_and_bac w K CX0 41 63 "_law_script" mg f h := by
  have Y := topOf X G c
  have e := hmg.symm.trans Y.g_law
  cases e
  obtain ⟨oc, od, dV, kV, doc, pm, an, cdv, ct, osl, efd, lk, hcd, hdf, hkw⟩ := Y.F_law.ex
  obtain ⟨c0, rfl⟩ := He.codeIn_ref hcd
  have hcode : Y.d_law.code = .ref c0 := by rw [efd]
  have ea : He.fAd K ("law", none) = Y.a_law := by
    have z := (He.glo_ok X G (c.t.d.fact 28 (f := .glo "law") rfl)).symm.trans Y.g_law
    exact Value.ref.inj (Option.some.inj z)
  have ec : (He.cT K ("law", none)).1 = c0 := He.codeOf_eq (p := ("law", none)) (by rw [ea]; exact lk) hcode
  have b := FunD.bindsA (ps := ["_law_script"]) Y.F_law fun _ _ _ _ _ _ us hl => match us, hl with | [_], _ => rfl
  have mem : (("law", none) : He.Defn) ∈ tf := List.mem_singleton.mpr rfl
  refine ⟨Y.d_law, [He.cT K ("law", none)], spLaw K (He.cT K ("law", none)).2, fun p hp => ?_, fun p hp => ?_, fun p hp => ?_, fun s v => b s [v] rfl, fun H a ns hl _ hcs hS => ⟨a, ns, rfl, hS, hl, hcs _ (List.mem_singleton.mpr rfl), fun _ => rfl⟩, fun base hb hG hT => ?_⟩
  · rw [List.mem_singleton.mp hp]; exact c.empty _ mem
  · rw [List.mem_singleton.mp hp]; exact c.out _ mem
  · rw [List.mem_singleton.mp hp]; exact PySem.W.codeHd_of_K X (c.hd _ mem)
  · have hT0 := hT _ (List.mem_singleton.mpr rfl)
    rw [ec] at hT0
    exact ok_law Y hcode hT0
end
end Zh
open PySem PySem.W PySem.Calls PyProof.Rows
theorem PySem.Challenge.cw_lanescribe_k61_whole_tests_there_and_bac_holds : PySem.Challenge.rw_lanescribe_k61_whole_tests_there_and_bac.Holds := by
  w_on; o_law
  refine HandSHeadRun.head_any (r := OpenLaw.row PySem.Challenge.rw_lanescribe_k61_whole_tests_there_and_bac) (q := view (OpenLaw.row PySem.Challenge.rw_lanescribe_k61_whole_tests_there_and_bac).prog [45]) (H := Zh.hk) (ob := Zh.ob) (M := 2100) (loose := Zh.loose) (d := HandSHeadRun.topDef (OpenLaw.row PySem.Challenge.rw_lanescribe_k61_whole_tests_there_and_bac).prog 45) (kwd := []) Zh.ob_eq
    (by kernel_rfl) (fun s => by kernel_rfl) Zh.run (by kernel_rfl) (by kernel_rfl) (by kernel_rfl) (by rfl) (by first | assumption | decide +kernel) (by decide +kernel) ⟨rfl, rfl, rfl, rfl, rfl, by decide +kernel⟩ ?hw ?hc
  case hw => w_witness2
  case hc =>
    refine LamX.walk_ofTsE (l := PySem.Challenge.rw_lanescribe_k61_whole_tests_there_and_bac) (n := 63) (k := 41) (x := "_law_script") (CX := fun _ => L2.CX0) rfl (by decide) (by kernel_rfl) ⟨rfl, by decide, by decide⟩ ?F (fun _ _ _ _ _ z => z)
    intro w mg fa h Y G hmg0
    obtain ⟨K, KX, c⟩ := Y
    have hmg : mg ("law" : PySem.Str) = some (.ref fa) := by
      have e : (HandSHeadRun.topDef (OpenLaw.row PySem.Challenge.rw_lanescribe_k61_whole_tests_there_and_bac).prog 45).name = ("law" : PySem.Str) := by kernel_rfl
      rw [← e]
      exact hmg0
    exact ⟨K, KX, Zh.lawAt KX G hmg c⟩
