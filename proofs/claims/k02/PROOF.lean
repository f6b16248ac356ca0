import PyProof.Rows.All
import Wide.All
import OpenK.AllK
import Wide.FinOn
import HandS.ForMost
import KE.GoesEnum
import HandS.SortRule
import KE.GoesZip
import KE.GoesMore
import HandS.Zip
import HandS.Wide
import HandS.ForExc
import HandS.TryMany
import HandS.TupAny
import HandS.IsInst
import HandS.SortInts
import HandS.ExcOwn
import HandS.MakeKwOnly
import HandS.Comp
import HandS.Iter
import KE.KExcSuper
import HandS.ExcInit
import HandS.ExcField
import HandS.WordsExc
import HandS.EndBits
import KE.RegKSuper
import KE.KExcLine
import PySem.Challenge.RW_pairfloors_k02_sides_of_parts
set_option Elab.async false
set_option linter.all false
set_option maxRecDepth 100000
/-! enumerate of a tuple, as a rule of the hand layer -/
namespace PySem
set_option maxHeartbeats 1000000 in
theorem meets_enum_newB1 {v : Value} {o : Obj} {H : Heap → Prop} (B : Begins v o H) :
    Meets (Builtin.«enumerate.__new__» ⟨[.type "enumerate", v], []⟩) (fun _ R s => H s.heap ∧
      R (.ok (.ret (.ref (s.heap.push o).objs.size))) { s with heap := (s.heap.push o).push { cls := .type "enumerate", data := .fields #[.none, .bool false, .ref s.heap.objs.size, rawInt 0, .none, .none] } }) :=
  .of_wp fun prog w A R s h => by
    obtain ⟨hp, g, d, tk, os⟩ := s; obtain ⟨h1, h⟩ := h
    have hsub := sub_enumerate
    have q1 : ∀ {A' : Around} {E : Value → Shared → Prop} {Q : Value → Shared → Prop}, Q (.ref hp.objs.size) ⟨hp.push o, g, d, tk, os⟩ → wpAny (model prog w) A' (pyIter v) Q E ⟨hp, g, d, tk, os⟩ :=
      fun q => B.iter prog w _ _ ⟨hp, g, d, tk, os⟩ _ h1 q
    wp_walk using q1
    refine wpAny_stack_any fun st => wpAny_pure ?_
    split
    · rename_i c _ _ _ _ _
      cases (c == Value.type "enumerate")
      · wp_walk using q1
        exact ⟨_, rfl, h⟩
      · wp_walk using q1
        exact ⟨_, rfl, h⟩
    · wp_walk using q1
      exact ⟨_, rfl, h⟩
section
variable {prog : Program} {w : World} {A : Around} {E : Value → Shared → Prop} {s : Shared}
theorem enum_begins1 {v : Value} {o : Obj} {H : Heap → Prop} {Q : Value → Shared → Prop} (B : Begins v o H) (h1 : H s.heap)
    (h : ∀ h', IsEnum h' (s.heap.objs.size + 1) s.heap.objs.size 0 .none → h'.get? s.heap.objs.size = some o → h'.objs.size = s.heap.objs.size + 2 →
      (∀ b o, s.heap.get? b = some o → h'.get? b = some o) → Q (.ref (s.heap.objs.size + 1)) { s with heap := h' }) :
    wpAny (model prog w) A (call (.type "enumerate") [v]) Q E s := by
  refine callType_new F.called_enumerate (by decide) (F.typeCall_enumerate_1 _) (F.newCall_enumerate_1 _) (fun obj => F.args_object_init_2 obj _) F.entry_enumerate_new
    (meets_enum_newB1 B) ⟨h1, ?_⟩
  have hz : (s.heap.push o).objs.size = s.heap.objs.size + 1 := Heap.size_push ..
  show _ ∧ _
  rw [hz]
  have he : IsEnum ((s.heap.push o).push { cls := .type "enumerate", data := .fields #[.none, .bool false, .ref s.heap.objs.size, rawInt 0, .none, .none] }) (s.heap.objs.size + 1) s.heap.objs.size 0 .none := by
    have := Heap.get?_push_size (s.heap.push o) (o := { cls := .type "enumerate", data := .fields #[.none, .bool false, .ref s.heap.objs.size, rawInt 0, .none, .none] }) rfl
    rw [hz] at this; exact this
  refine ⟨⟨_, he, rfl⟩, h _ he (Heap.get?_push_of_some _ (Heap.get?_push_size _ B.free)) (by rw [Heap.size_push, hz]) fun b o x => Heap.get?_push_of_some _ (Heap.get?_push_of_some _ x)⟩
theorem pyNext_enumT_end {e it t : Addr} {i : Nat} {c : Int} {items : Array Value} {old : Value} {Q : Option Value → Shared → Prop} (hh : A.handled = none)
    (he : IsEnum s.heap e it c old) (hit : s.heap.IsTupleIter it t i) (ht : s.heap.IsTuple t items) (hx : items[i]? = none)
    (hQ : ∀ h', Heap.ExtBut it s.heap h' → Q none { s with heap := h' }) : wpAny (model prog w) A (pyNext (.ref e)) Q E s := by
  have hT : s.TypeIs (.ref e) "enumerate" := ⟨_, he, rfl⟩
  unfold pyNext
  refine wpAny_bind (wpAny_attempt (wpAny_callSpecial?_slot (name := Str.ofString "__next__") hT F.slot_enumerate_next
    (wpAny_call_entry F.slot_enumerate_next hT F.entry_enumerate_next ?_ (F.args_enumerate_next_1 _))))
  show wpAny _ _ (field (.ref e) 2 >>= _) _ _ _
  refine wpAny_bind (wpAny_field he rfl (x := .ref it) rfl ?_)
  refine wpAny_bind (wpAny_nextOf_tuple_end (A := A.in1) hh hit ht hx fun h' x he' hx' => ?_)
  obtain ⟨o, ho, hc⟩ := hx'
  refine wpAny_bind (wpAny_isInstance (T := "StopIteration") (b := true) ⟨o, ho, hc⟩ isSubtype_stop ?_)
  exact wpAny_pure (hQ _ he')
end
end PySem
namespace Mv
open PySem L2 PyProof.Rows
/-- the tuple at a, each item in a new pair -/
def IteT (K : PySem.W.Frag) (a : Addr) : It :=
  ⟨fun i H => ∃ (xs : List V) (x : V), SqT K H a xs ∧ xs[i]? = some x, fun i H v H' => ∃ T x, v = .ref T ∧ H T = none ∧ H' = upd H T (.tup [.int (i : Nat), x]) ∧ ∀ xs, SqT K H a xs → xs[i]? = some x, fun i H => ∃ xs : List V, SqT K H a xs ∧ xs.length ≤ i⟩
theorem turn_enumT {P : Program} {w : World} {K : PySem.W.Frag} {elts : List Expr} {kk : Nat} {tpos : Pos} (a e it : Addr) (hea : a ≠ e) (hia : a ≠ it) :
    Turn P w K (.Tuple elts kk tpos) (IteT K a) [e, it] e (fun i h => (∃ old, IsEnum h e it ((i : Nat) : Int) old) ∧ h.IsTupleIter it a i ∧ e ≠ it) where
  mem := by simp
  obj := fun i h st b hb => by
    obtain ⟨⟨old, he⟩, ⟨o, ho, hc, hd⟩, _⟩ := st
    have e' : b = e ∨ b = it := by simpa using hb
    rcases e' with z | z
    · rw [z]; exact ⟨_, he, fun v q => nomatch q⟩
    · rw [z]; exact ⟨o, ho, fun v q => by rw [hd] at q; cases q⟩
  keep := fun i h h' st k => let ⟨⟨old, he⟩, hi, hne⟩ := st; ⟨⟨old, k e (by simp) _ he⟩, hi.at fun o q => k it (by simp) o q, hne⟩
  item := by
    intro X hP hw hK hc i pins s σ H E I hf st hg
    subst hP hw hK
    obtain ⟨⟨old, he⟩, hit, hne⟩ := st
    obtain ⟨xs, x, hq, hx⟩ := hg
    obtain ⟨its, rv, p, hz⟩ := I.tuple hq
    obtain ⟨u, hu, ru⟩ := rv.get hx
    have hel : e < s.heap.objs.size := Heap.lt_size he
    have hil : it < s.heap.objs.size := by obtain ⟨_, q, _⟩ := hit; exact Heap.lt_size q
    have hil' : i < its.toArray.size := by
      have q : its[i]? = some u := by simpa using hu
      simpa using (List.getElem?_eq_some_iff.mp q).1
    refine wpAny_pyNext_enum_itemD (Draws.tuple (A := X.A.in1) (show X.A.in1.handled = none from I.ok.hd hc) it a hia its.toArray) he ⟨hit, show s.heap.IsTuple a its.toArray from p⟩ hil' hne (by simp [hea.symm, hne]) fun x' h' tk hP ho hst hT hsz hk => ?_
    obtain ⟨hit', _⟩ := hst
    have ex : x' = u := by
      have q : its[i]? = some u := by simpa using hu
      have q2 : its[i]? = some x' := by simpa using hP
      rw [q] at q2
      exact (Option.some.inj q2).symm
    subst ex
    refine ⟨_, rfl, wpAny_letOwnedTupleGo_enum (s := { s with heap := h', toks := tk + 1 }) ho fun h'' he' sb => ?_⟩
    have hT2 : h''.get? s.heap.objs.size = some { cls := .type "tuple", data := .seq #[.int i tk, x'] } := (sb.2 _ (Nat.ne_of_gt hel)).trans hT
    have new : ObjOk X.prog X.w (upd H s.heap.objs.size (.tup [.int (i : Nat), x])) h'' s.heap.objs.size (.tup [.int (i : Nat), x]) :=
      ⟨by show 2 ≤ sizeLine; decide, [.int i tk, x'], .cons ⟨_, rfl⟩ (.cons ru .nil), ⟨_, hT2, rfl, _, rfl⟩⟩
    have I1 : Inv X pins σ (upd H s.heap.objs.size (.tup [.int (i : Nat), x])) { s with heap := h'', toks := tk + 1 } :=
      I.turnedNew (ch := [e, it]) (fun b ob hb q => (sb.2 b (fun z => hb (by simp [z]))).trans (hk b ob (fun z => hb (by simp [z])) (fun z => hb (by simp [z])) q)) hf (Nat.le_refl _) new
    refine ⟨.ref s.heap.objs.size, _, I1, rfl, ⟨_, x, rfl, I.hok.fresh (Nat.le_refl _), rfl, fun ys hy => by rw [I.tuple_inj hy hq]; exact hx⟩, ⟨⟨x', ?_⟩, hit'.at fun o q => (sb.2 it (Ne.symm hne)).trans q, hne⟩, fun b hb => ?_⟩
    · have e1 : ((i + 1 : Nat) : Int) = (i : Int) + 1 := by omega
      rw [e1]; exact he'
    · have hb' : b < s.heap.objs.size := by
        have e' : b = e ∨ b = it := by simpa using hb
        rcases e' with z | z
        · rw [z]; exact hel
        · rw [z]; exact hil
      rw [upd_ne (Nat.ne_of_lt hb')]
      exact (hf b hb).1
  done := by
    intro X hP hw hK hc i pins s σ H E I hf st hg
    subst hP hw hK
    obtain ⟨⟨old, he⟩, hit, hne⟩ := st
    obtain ⟨xs, hq, hx⟩ := hg
    obtain ⟨its, rv, p, hz⟩ := I.tuple hq
    obtain ⟨f0, f1, f2, f3, f4, f5⟩ := hf it (by simp)
    have hl := rv.length
    exact pyNext_enumT_end (I.ok.hd hc) he hit (show s.heap.IsTuple a its.toArray from p) (by simp; omega) fun h' eb => ⟨rfl, I.turned (t' := s.toks) (fun b o hb e => eb b o hb e) f0 f1 f3 f4 f5⟩
  self := fun A i s Q E st h => let ⟨⟨_, he⟩, _⟩ := st; wpAny_pyIter_enum he h
/-- enumerate of a list or of a tuple -/
def iEnumLT (K : PySem.W.Frag) (ta : TA) : TI := fun σ H R => ta σ H fun vs H1 => ∃ a, vs = [.ref a] ∧ (((∃ xs, SqL K H1 a xs) ∧ R (Ite K a) H1) ∨ ((∃ xs, SqT K H1 a xs) ∧ R (IteT K a) H1))
theorem pi_enumLT {X : Cx} {e : Expr} {ta : TA} {p pos tpos : Pos} {elts : List Expr} {kk : Nat} (hg : Gl X "enumerate") (hm : X.mg "enumerate" = none) (ha : PA X [e] ta) (hs : starEach [e] X.env = [(false, eval e X.env)] := by rfl) :
    PI X (.Tuple elts kk tpos) (.Call (.Name "enumerate" p) [e] [] pos) (iEnumLT X.K ta) := by
  refine ⟨fun pins s σ H R I h => ?_⟩
  refine Call_ (ld_blt I hg hm boot_enumerate (PyProof.Rows.callWith_type1 (thn (ha.run pos pins s σ H _ I h) fun us s1 ⟨vs, H1, I1, r1, q1⟩ => ?_) hs rfl))
  obtain ⟨a, ex, q1⟩ := q1
  subst ex
  cases r1 with
  | cons r rr =>
    cases rr
    cases r
    rcases q1 with ⟨⟨xs, hq⟩, q⟩ | ⟨⟨xs, hq⟩, q⟩
    · obtain ⟨its, rv, p', hz⟩ := I1.list hq
      refine call_enumerate_list p'.isList fun h' he hit hsz hk => wpAny_pyIter_enum he ?_
      have I2 : Inv X pins σ H1 { s1 with heap := h' } := I1.kept (t' := s1.toks) hk
      refine ⟨s1.heap.objs.size + 1, [s1.heap.objs.size + 1, s1.heap.objs.size], _, _, H1, rfl, I2, turn_enum a (s1.heap.objs.size + 1) s1.heap.objs.size, ⟨⟨.none, he⟩, hit, Nat.succ_ne_self _⟩, fun b hb => ?_, q⟩
      have e' : b = s1.heap.objs.size + 1 ∨ b = s1.heap.objs.size := by simpa using hb
      have hle : s1.heap.objs.size ≤ b := by
        rcases e' with z | z
        · rw [z]; exact Nat.le_add_right _ _
        · rw [z]; exact Nat.le_refl _
      exact I1.fpOk hle (I1.hok.fresh hle)
    · obtain ⟨its, rv, p', hz⟩ := I1.tuple hq
      have p' : s1.heap.IsTuple a its.toArray := p'
      have hal : a < s1.heap.objs.size := by obtain ⟨o, ho, _⟩ := p'; exact Heap.lt_size ho
      refine enum_begins1 (begins_tuple a its.toArray) p' fun h' he hit hsz hk => wpAny_pyIter_enum he ?_
      have I2 : Inv X pins σ H1 { s1 with heap := h' } := I1.kept (t' := s1.toks) hk
      refine ⟨s1.heap.objs.size + 1, [s1.heap.objs.size + 1, s1.heap.objs.size], _, _, H1, rfl, I2, turn_enumT a (s1.heap.objs.size + 1) s1.heap.objs.size (Nat.ne_of_lt (Nat.lt_succ_of_lt hal)) (Nat.ne_of_lt hal), ⟨⟨.none, he⟩, ⟨_, hit, rfl, rfl⟩, Nat.succ_ne_self _⟩, fun b hb => ?_, q⟩
      have e' : b = s1.heap.objs.size + 1 ∨ b = s1.heap.objs.size := by simpa using hb
      have hle : s1.heap.objs.size ≤ b := by
        rcases e' with z | z
        · rw [z]; exact Nat.le_add_right _ _
        · rw [z]; exact Nat.le_refl _
      exact I1.fpOk hle (I1.hok.fresh hle)
/-! ### sorted of pairs that may be frozen -/
def sortP (l : List (Int × Int)) : List (Int × Int) := l.mergeSort (fun a b => !SrtO.lexB b a)
theorem sortP_perm (l : List (Int × Int)) : (sortP l).Perm l := List.mergeSort_perm _ _
theorem sortP_pw (l : List (Int × Int)) : (sortP l).Pairwise fun a b => SrtO.lexB b a = false := by
  have q := List.pairwise_mergeSort (le := fun a b : Int × Int => !SrtO.lexB b a) (fun a b c h1 h2 => by
    have h1 := SrtO.lexB_no.mp (by simpa using h1)
    have h2 := SrtO.lexB_no.mp (by simpa using h2)
    have : SrtO.lexB c a = false := SrtO.lexB_no.mpr (by omega)
    simp [this]) (fun a b => by
    rcases Bool.eq_false_or_eq_true (SrtO.lexB b a) with h | h
    · have h' := SrtO.lexB_iff.mp h
      have : SrtO.lexB a b = false := SrtO.lexB_no.mpr (by omega)
      simp [this]
    · simp [h]) l
  exact q.imp fun h => by simpa using h
theorem sortP_uniq {l m : List (Int × Int)} (h : m.Perm l) (s : m.Pairwise fun a b => SrtO.lexB b a = false) : m = sortP l := by
  refine List.Perm.eq_of_pairwise (le := fun a b => SrtO.lexB b a = false) (fun a b _ _ h1 h2 => ?_) s (sortP_pw l) (h.trans (sortP_perm l).symm)
  have h1 := SrtO.lexB_no.mp h1
  have h2 := SrtO.lexB_no.mp h2
  exact Prod.ext (by omega) (by omega)
/-- sorted(xs), xs a list of tuples of two ints -/
def rSortedPT (K : PySem.W.Frag) : List V → Hp → VK → Prop := fun vs H Q => ∃ (a : Addr) (xs : List V) (zs : List (V × (Int × Int))) (R : V → Int × Int → Prop), vs = [V.ref a] ∧ SqL K H a xs ∧ xs = zs.map Prod.fst ∧ (∀ z ∈ zs, R z.1 z.2) ∧ (∀ x p, R x p → ∃ t, x = V.ref t ∧ SqT K H t [.int p.1, .int p.2]) ∧
  ∀ (ws : List (V × (Int × Int))) (l : Addr), (∀ z ∈ ws, R z.1 z.2) → ws.map Prod.snd = sortP (zs.map Prod.snd) → H l = none → Q (.ref l) (upd H l (.lst (ws.map Prod.fst)))
theorem cr_sortedPT {X : Cx} : CallR X (.builtin "sorted") (rSortedPT X.K) := by
  intro pins s σ H vs us Q I r h
  obtain ⟨a, xs, zs, R, rfl, hs, hx, hz, hR, q⟩ := h
  have inj : ∀ {x p p'}, R x p → R x p' → p = p' := fun {x p p'} g1 g2 => by
    obtain ⟨t, rfl, h1⟩ := hR _ _ g1
    obtain ⟨t', e, h2⟩ := hR _ _ g2
    cases e
    clear g1 g2
    have e := I.tuple_inj h1 h2
    simp only [List.cons.injEq, V.int.injEq, and_true] at e
    exact Prod.ext e.1 e.2
  have _ := Classical.propDecidable
  let k : V → Int × Int := fun x => if h : ∃ p, (x, p) ∈ zs then h.choose else (0, 0)
  have hk : ∀ z ∈ zs, k z.1 = z.2 := fun z m => by
    have h : ∃ p, (z.1, p) ∈ zs := ⟨z.2, m⟩
    have e : k z.1 = h.choose := by show (if h : ∃ p, (z.1, p) ∈ zs then h.choose else (0, 0)) = _; rw [dif_pos h]
    rw [e]
    exact inj (hz _ h.choose_spec) (hz z m)
  have mem : ∀ x ∈ xs, ∃ p, (x, p) ∈ zs := fun x m => by
    rw [hx] at m
    obtain ⟨z, mz, rfl⟩ := List.mem_map.mp m
    exact ⟨z.2, mz⟩
  obtain ⟨its, rv, hl, hlen⟩ := I.list hs
  obtain ⟨u, rfl, ru⟩ := vals1 r
  obtain rfl : u = Value.ref a := ru
  obtain ⟨e1, e2⟩ := refs_back rv fun x m => by
    obtain ⟨p, m⟩ := mem x m
    obtain ⟨t, e, _⟩ := hR _ _ (hz _ m)
    exact ⟨t, e⟩
  refine SrtO.sorted_pairsO (k := fun u => k (backV u)) hl.isList (by rw [← rv.length]; exact hlen) (fun v hv => ?_) fun h' d out h1 h2 kp hd hn => ?_
  · obtain ⟨t, rfl⟩ := e2 v hv
    have hm : V.ref t ∈ xs := by rw [e1]; exact List.mem_map.mpr ⟨_, hv, rfl⟩
    obtain ⟨p, m⟩ := mem _ hm
    obtain ⟨t', e, ht⟩ := hR _ _ (hz _ m)
    cases e
    have ek : k (V.ref t) = p := hk _ m
    obtain ⟨its2, r2, ⟨o, ho, hc, n, hd⟩, _⟩ := I.tuple ht
    obtain ⟨u1, u2, rfl, ri, rj⟩ := vals2 r2
    obtain ⟨t1, rfl⟩ := ri
    obtain ⟨t2, rfl⟩ := rj
    refine ⟨t, o, t1, t2, n, rfl, ho, hc, ?_⟩
    show o.data = .seq #[.int (k (V.ref t)).1 t1, .int (k (V.ref t)).2 t2] n
    rw [ek]
    exact hd
  · have h3 : ∀ u ∈ out, ∃ a, u = Value.ref a := fun u hu => e2 u (h2.perm.mem_iff.mp hu)
    obtain ⟨n, hn⟩ := hn
    have hb : SrtO.Stb (ltP k) (out.map backV) xs := by
      rw [e1]
      exact SrtO.Stb.map (ltP_swo k) backV h2
    have h4 : SrtO.Srtd (ltP k) (out.map backV) := SrtO.srtd_map h1
    have f1 : ((out.map backV).map fun x => (x, k x)).map Prod.fst = out.map backV := by rw [List.map_map]; exact List.map_id _
    have q1 := q ((out.map backV).map fun x => (x, k x)) d (fun z m => by
      obtain ⟨x, mx, rfl⟩ := List.mem_map.mp m
      obtain ⟨p, mp⟩ := mem x (hb.perm.mem_iff.mp mx)
      show R x (k x)
      rw [hk _ mp]
      exact hz _ mp) (by
      have f2 : ((out.map backV).map fun x => (x, k x)).map Prod.snd = (out.map backV).map k := by rw [List.map_map]; rfl
      have f3 : zs.map Prod.snd = xs.map k := by
        rw [hx, List.map_map]
        exact List.map_congr_left fun z m => (hk z m).symm
      rw [f2, f3]
      exact sortP_uniq (hb.perm.map k) (List.pairwise_map.mpr (List.Pairwise.imp (fun h => h) h4))) (I.hok.fresh hd)
    rw [f1] at q1
    refine ⟨.ref d, upd H d (.lst (out.map backV)), I.laid (t' := s.toks) kp hd ⟨?_, out, n, vals_back h3, hn⟩, rfl, q1⟩
    rw [hb.len, hx, List.length_map] 
    rw [hx, List.length_map] at hlen
    exact hlen
end Mv

/-! sorted of a tuple -/
namespace SrtO
open PySem PyProof.Rows Srt
section
variable {prog : Program} {w : World} {A : Around} {E : Value → Shared → Prop} {s : Shared}
theorem collect_tup {l : Addr} {vs : List Value} {Q : List Value → Shared → Prop} (hl : IsTup s.heap l vs.toArray)
    (h : Q vs { s with heap := (s.heap.push (seqObj "list" #[] 0)).update s.heap.objs.size (Obj.mapSeq (· ++ vs.toArray)) }) (hsz : vs.length ≤ sizeLine) :
    wpAny (model prog w) A (collect (.ref l)) Q E s := by
  obtain ⟨o, ho, hc, n, hd⟩ := id hl
  unfold collect
  refine wpAny_bind (wpAny_runValue (codeAny_builtin entry_proto_collect' ?_))
  show wpAny _ _ (do again (.builtin "list.__iadd__" ⟨[← newList [], .ref l], []⟩)) _ _ s
  refine wpAny_bind (wpAny_newList (wpAny_pure ⟨Code.quiet_builtin _ (by decide +kernel), codeAny_builtin entry_list_iadd' ?_⟩))
  show wpAny _ _ (Builtin.List.listExtendWith (.ref s.heap.objs.size) (.ref l) (.ref s.heap.objs.size)) _ _ { s with heap := s.heap.push (seqObj "list" #[] 0) }
  unfold Builtin.List.listExtendWith
  have ho' : (s.heap.push (seqObj "list" #[] 0)).get? l = some o := Heap.get?_push_of_some _ ho
  refine wpAny_bind (wpAny_typeOf (T := "tuple") ⟨o, ho', hc⟩ ?_)
  have ht : (Value.type "tuple" == Value.type "tuple") = true := by rfl
  rw [if_pos (by rw [ht]; simp)]
  refine wpAny_bind (listItems_at ho' hd ?_)
  refine wpAny_bind (listItems_at (xs := #[]) (n := 0) (Heap.get?_push_size _ rfl) rfl ?_)
  rw [if_neg (by simp)]
  refine wpAny_bind (listUpdate_at (xs := #[]) (n := 0) (Heap.get?_push_size _ rfl) rfl ?_ (Nat.zero_le _) (by show (#[] ++ vs.toArray).size ≤ sizeLine + 1; simp only [Array.size_append, List.size_toArray, List.length_nil]; omega))
  refine wpAny_pure ?_
  show wpAny (model prog w) A (do
      let o ← load s.heap.objs.size
      match o.data with
      | .seq xs _ => pure xs.toList
      | _ => unsupported "internal:collect") Q E { s with heap := (s.heap.push (seqObj "list" #[] 0)).update s.heap.objs.size (Obj.mapSeq (· ++ vs.toArray)) }
  refine wpAny_bind (wpAny_load (get?_update_seq (Heap.get?_push_size _ rfl) _) ?_)
  show wpAny _ _ (pure ((#[] : Array Value) ++ vs.toArray).toList) Q E _
  rw [show ((#[] : Array Value) ++ vs.toArray).toList = vs by simp]
  exact wpAny_pure h
theorem sorted_ordT {l : Addr} {vs : List Value} {ltv : Value → Value → Bool} {Q : Value → Shared → Prop} (O : Swo ltv) (hl : IsTup s.heap l vs.toArray) (hz : vs.length ≤ sizeLine)
    (hS : 2 ≤ vs.length → ∀ (h₁ : Heap) (a : Addr), h₁.get? a = some (seqObj "list" vs.toArray 0) → (∀ b o, s.heap.get? b = some o → b ≠ a ∧ h₁.get? b = some o) → SortableO prog w A.in1.in1 { s with heap := h₁ } a vs ltv)
    (h : ∀ out : List Value, Srtd ltv out → Stb ltv out vs → Q (.ref (s.heap.objs.size + 1)) { s with heap := sortedAll s.heap vs out.toArray }) :
    wpAny (model prog w) A (call (.builtin "sorted") [.ref l]) Q E s := by
  refine Calls.call_function_entry kind_sorted plain_sorted entry_sorted (args_sorted1 _) ?_
  unfold Builtin.«sorted»
  refine wpAny_bind (m := checkCount "sorted" 1 1 _) (wpAny_pure ?_)
  refine wpAny_bind (collect_tup hl ?_ hz)
  refine wpAny_bind (wpAny_newList ?_ hz)
  have hsz : ((s.heap.push (seqObj "list" #[] 0)).update s.heap.objs.size (Obj.mapSeq (· ++ vs.toArray))).objs.size = s.heap.objs.size + 1 := by
    rw [Heap.size_update, size_push']
  have hoL : (((s.heap.push (seqObj "list" #[] 0)).update s.heap.objs.size (Obj.mapSeq (· ++ vs.toArray))).push (seqObj "list" vs.toArray 0)).get? (s.heap.objs.size + 1) = some (seqObj "list" vs.toArray 0) := by
    rw [← hsz]; exact Heap.get?_push_size _ rfl
  have keep : ∀ b o, s.heap.get? b = some o → b ≠ s.heap.objs.size + 1 ∧ (((s.heap.push (seqObj "list" #[] 0)).update s.heap.objs.size (Obj.mapSeq (· ++ vs.toArray))).push (seqObj "list" vs.toArray 0)).get? b = some o := fun b o q => by
    have hlt : b < s.heap.objs.size := Heap.lt_size q
    refine ⟨Nat.ne_of_lt (Nat.lt_succ_of_lt hlt), Heap.get?_push_of_some _ ?_⟩
    rw [Heap.get?_update_ne _ _ _ _ (Nat.ne_of_lt hlt)]
    exact Heap.get?_push_of_some _ q
  show wpAny _ _ _ _ _ { s with heap := ((s.heap.push (seqObj "list" #[] 0)).update s.heap.objs.size (Obj.mapSeq (· ++ vs.toArray))).push (seqObj "list" vs.toArray 0) }
  rw [hsz]
  refine wpAny_bind (wpAny_holding (wpAny_call_entry slot_list_sort ⟨_, hoL, rfl⟩ entry_list_sort (list_sort_ord O hoL hz (fun h2 => hS h2 _ _ hoL keep) fun out hs hb => ⟨_, rfl, ?_⟩) (args_list_sort _)))
  exact wpAny_pure ⟨_, rfl, h out hs hb⟩
theorem sorted_pairsOT {l : Addr} {vs : List Value} {k : Value → Int × Int} {Q : Value → Shared → Prop} (hl : IsTup s.heap l vs.toArray) (hz : vs.length ≤ sizeLine) (hp : ∀ v ∈ vs, IsPair s.heap v (k v).1 (k v).2)
    (h : ∀ (h' : Heap) (d : Addr) (out : List Value), Srtd (fun v u => lexB (k v) (k u)) out → Stb (fun v u => lexB (k v) (k u)) out vs → (∀ b o, s.heap.get? b = some o → h'.get? b = some o) → s.heap.objs.size ≤ d → (∃ n, h'.get? d = some (seqObj "list" out.toArray n)) → Q (.ref d) { s with heap := h' }) :
    wpAny (model prog w) A (call (.builtin "sorted") [.ref l]) Q E s := by
  refine sorted_ordT (swo_lex k) hl hz (fun h2 h₁ a ha kk => ?_) fun out hs hb => ?_
  · refine pairs_sortableO (s := { s with heap := h₁ }) (by omega) (fun v hm => (hp v hm).keeps fun b o e _ => (kk b o e).2) fun o e => ?_
    have e' : some o = some (seqObj "list" vs.toArray 0) := e.symm.trans ha
    cases e'
    intro c
    exact absurd (Value.type.inj c) (by decide)
  · exact h _ _ out hs hb (fun b o e => sortedAll_old e) (Nat.le_succ _) (sortedAll_at s.heap vs out.toArray)
end
end SrtO
namespace Mv
open PySem L2
/-- sorted(xs), xs a tuple of tuples of two ints -/
def rSortedPU (K : PySem.W.Frag) : List V → Hp → VK → Prop := fun vs H Q => ∃ (a : Addr) (xs : List V) (zs : List (V × (Int × Int))) (R : V → Int × Int → Prop), vs = [V.ref a] ∧ SqT K H a xs ∧ xs = zs.map Prod.fst ∧ (∀ z ∈ zs, R z.1 z.2) ∧ (∀ x p, R x p → ∃ t, x = V.ref t ∧ SqT K H t [.int p.1, .int p.2]) ∧
  ∀ (ws : List (V × (Int × Int))) (l : Addr), (∀ z ∈ ws, R z.1 z.2) → ws.map Prod.snd = sortP (zs.map Prod.snd) → H l = none → Q (.ref l) (upd H l (.lst (ws.map Prod.fst)))
theorem cr_sortedPU {X : Cx} : CallR X (.builtin "sorted") (rSortedPU X.K) := by
  intro pins s σ H vs us Q I r h
  obtain ⟨a, xs, zs, R, rfl, hs, hx, hz, hR, q⟩ := h
  have inj : ∀ {x p p'}, R x p → R x p' → p = p' := fun {x p p'} g1 g2 => by
    obtain ⟨t, rfl, h1⟩ := hR _ _ g1
    obtain ⟨t', e, h2⟩ := hR _ _ g2
    cases e
    clear g1 g2
    have e := I.tuple_inj h1 h2
    simp only [List.cons.injEq, V.int.injEq, and_true] at e
    exact Prod.ext e.1 e.2
  have _ := Classical.propDecidable
  let k : V → Int × Int := fun x => if h : ∃ p, (x, p) ∈ zs then h.choose else (0, 0)
  have hk : ∀ z ∈ zs, k z.1 = z.2 := fun z m => by
    have h : ∃ p, (z.1, p) ∈ zs := ⟨z.2, m⟩
    have e : k z.1 = h.choose := by show (if h : ∃ p, (z.1, p) ∈ zs then h.choose else (0, 0)) = _; rw [dif_pos h]
    rw [e]
    exact inj (hz _ h.choose_spec) (hz z m)
  have mem : ∀ x ∈ xs, ∃ p, (x, p) ∈ zs := fun x m => by
    rw [hx] at m
    obtain ⟨z, mz, rfl⟩ := List.mem_map.mp m
    exact ⟨z.2, mz⟩
  obtain ⟨its, rv, hl, hlen⟩ := I.tuple hs
  obtain ⟨u, rfl, ru⟩ := vals1 r
  obtain rfl : u = Value.ref a := ru
  obtain ⟨e1, e2⟩ := refs_back rv fun x m => by
    obtain ⟨p, m⟩ := mem x m
    obtain ⟨t, e, _⟩ := hR _ _ (hz _ m)
    exact ⟨t, e⟩
  refine SrtO.sorted_pairsOT (k := fun u => k (backV u)) hl (by rw [← rv.length]; exact hlen) (fun v hv => ?_) fun h' d out h1 h2 kp hd hn => ?_
  · obtain ⟨t, rfl⟩ := e2 v hv
    have hm : V.ref t ∈ xs := by rw [e1]; exact List.mem_map.mpr ⟨_, hv, rfl⟩
    obtain ⟨p, m⟩ := mem _ hm
    obtain ⟨t', e, ht⟩ := hR _ _ (hz _ m)
    cases e
    have ek : k (V.ref t) = p := hk _ m
    obtain ⟨its2, r2, ⟨o, ho, hc, n, hd⟩, _⟩ := I.tuple ht
    obtain ⟨u1, u2, rfl, ri, rj⟩ := vals2 r2
    obtain ⟨t1, rfl⟩ := ri
    obtain ⟨t2, rfl⟩ := rj
    refine ⟨t, o, t1, t2, n, rfl, ho, hc, ?_⟩
    show o.data = .seq #[.int (k (V.ref t)).1 t1, .int (k (V.ref t)).2 t2] n
    rw [ek]
    exact hd
  · have h3 : ∀ u ∈ out, ∃ a, u = Value.ref a := fun u hu => e2 u (h2.perm.mem_iff.mp hu)
    obtain ⟨n, hn⟩ := hn
    have hb : SrtO.Stb (ltP k) (out.map backV) xs := by
      rw [e1]
      exact SrtO.Stb.map (ltP_swo k) backV h2
    have h4 : SrtO.Srtd (ltP k) (out.map backV) := SrtO.srtd_map h1
    have f1 : ((out.map backV).map fun x => (x, k x)).map Prod.fst = out.map backV := by rw [List.map_map]; exact List.map_id _
    have q1 := q ((out.map backV).map fun x => (x, k x)) d (fun z m => by
      obtain ⟨x, mx, rfl⟩ := List.mem_map.mp m
      obtain ⟨p, mp⟩ := mem x (hb.perm.mem_iff.mp mx)
      show R x (k x)
      rw [hk _ mp]
      exact hz _ mp) (by
      have f2 : ((out.map backV).map fun x => (x, k x)).map Prod.snd = (out.map backV).map k := by rw [List.map_map]; rfl
      have f3 : zs.map Prod.snd = xs.map k := by
        rw [hx, List.map_map]
        exact List.map_congr_left fun z m => (hk z m).symm
      rw [f2, f3]
      exact sortP_uniq (hb.perm.map k) (List.pairwise_map.mpr (List.Pairwise.imp (fun h => h) h4))) (I.hok.fresh hd)
    rw [f1] at q1
    refine ⟨.ref d, upd H d (.lst (out.map backV)), I.laid (t' := s.toks) kp hd ⟨?_, out, n, vals_back h3, hn⟩, rfl, q1⟩
    rw [hb.len, hx, List.length_map] 
    rw [hx, List.length_map] at hlen
    exact hlen
end Mv

/-! zip of two sequences, each a list or a tuple -/
namespace Mv
open PySem L2 PyProof.Rows
/-- the sequence at a: a tuple or a list -/
def SqK (K : PySem.W.Frag) (t : Bool) (H : Hp) (a : Addr) (xs : List V) : Prop := if t then SqT K H a xs else SqL K H a xs
def itK (t : Bool) (h : Heap) (it l : Addr) (i : Nat) : Prop := if t then h.IsTupleIter it l i else h.IsListIter it l i
def sqK (t : Bool) (h : Heap) (l : Addr) (items : Array Value) : Prop := if t then h.IsTuple l items else h.IsList l items
def itKo (t : Bool) (l : Addr) : Obj := if t then { cls := .type "tuple_iterator", data := .fields #[.ref l, .int 0 0] } else { cls := .type "list_iterator", data := .fields #[.ref l, .int 0 0] }
theorem itK_at {t : Bool} {h h' : Heap} {it l : Addr} {i : Nat} (x : itK t h it l i) (k : ∀ o, h.get? it = some o → h'.get? it = some o) : itK t h' it l i := by
  cases t with
  | true => exact Heap.IsTupleIter.at (show h.IsTupleIter it l i from x) k
  | false => exact Heap.IsListIter.at (show h.IsListIter it l i from x) k
theorem sqK_at {t : Bool} {h h' : Heap} {l : Addr} {items : Array Value} (x : sqK t h l items) (k : ∀ o, h.get? l = some o → h'.get? l = some o) : sqK t h' l items := by
  cases t with
  | true => exact Heap.IsTuple.at (show h.IsTuple l items from x) k
  | false => exact Heap.IsList.at (show h.IsList l items from x) k
theorem itK_obj {t : Bool} {h : Heap} {it l : Addr} {i : Nat} (x : itK t h it l i) : ∃ o vs, h.get? it = some o ∧ o.data = .fields vs := by
  cases t with
  | true => obtain ⟨o, e, _, d⟩ := (show h.IsTupleIter it l i from x); exact ⟨o, _, e, d⟩
  | false => obtain ⟨o, e, _, d⟩ := (show h.IsListIter it l i from x); exact ⟨o, _, e, d⟩
theorem sqK_lt {t : Bool} {h : Heap} {l : Addr} {items : Array Value} (x : sqK t h l items) : l < h.objs.size := by
  cases t with
  | true => obtain ⟨o, ho, _⟩ := (show h.IsTuple l items from x); exact Heap.lt_size ho
  | false => obtain ⟨o, ho, _⟩ := (show h.IsList l items from x); exact Heap.lt_size ho
theorem drawsK {t : Bool} {prog : Program} {w : World} {A : Around} (hh : A.handled = none) (it l : Addr) (hne : l ≠ it) (items : Array Value) :
    Draws prog w A it [it, l] items.size (fun i v => items[i]? = some v) (fun i h => itK t h it l i ∧ sqK t h l items) := by
  cases t with
  | true => exact Draws.tuple hh it l hne items
  | false => exact Draws.list hh it l hne items
theorem drawsE {t : Bool} {prog : Program} {w : World} {A : Around} (hh : A.handled = none) (it l : Addr) (hne : l ≠ it) (items : Array Value) {i : Nat} (hi : items.size ≤ i) :
    Draws prog w A it [it, l] i (fun _ _ => False) (fun k h => k = i ∧ itK t h it l i ∧ sqK t h l items) := by
  have hx : items[i]? = none := by simp; omega
  cases t with
  | true =>
    exact { live := fun _ _ st => let ⟨o, _, ho, _⟩ := itK_obj st.2.1; ⟨o, ho⟩
            frame := fun _ _ _ st hk => ⟨st.1, itK_at st.2.1 fun o e => hk it (by simp) o e, sqK_at st.2.2 fun o e => hk l (by simp) o e⟩
            item := fun k s Q E hk st _ => absurd st.1 (by omega)
            done := fun s Q E st hE => wpAny_nextOf_tuple_end hh st.2.1 st.2.2 hx hE }
  | false =>
    exact { live := fun _ _ st => let ⟨o, _, ho, _⟩ := itK_obj st.2.1; ⟨o, ho⟩
            frame := fun _ _ _ st hk => ⟨st.1, itK_at st.2.1 fun o e => hk it (by simp) o e, sqK_at st.2.2 fun o e => hk l (by simp) o e⟩
            item := fun k s Q E hk st _ => absurd st.1 (by omega)
            done := fun s Q E st hE => wpAny_nextOf_list_end hh st.2.1 st.2.2 hx hE }
theorem drawsA {t : Bool} {prog : Program} {w : World} {A : Around} (hh : A.handled = none) {it l : Addr} (hne : l ≠ it) {items : Array Value} {i : Nat} {h : Heap} (h1 : itK t h it l i) (h2 : sqK t h l items) :
    ∃ n Pq St, Draws prog w A it [it, l] n Pq St ∧ i ≤ n ∧ St i h ∧ (items.size ≤ i → i = n) := by
  by_cases c : items.size ≤ i
  · exact ⟨i, _, _, drawsE (t := t) hh it l hne items c, Nat.le_refl _, ⟨rfl, h1, h2⟩, fun _ => rfl⟩
  · exact ⟨_, _, _, drawsK (t := t) hh it l hne items, by omega, ⟨h1, h2⟩, fun h => absurd h c⟩
theorem beginsK (t : Bool) (l : Addr) (items : Array Value) : Begins (.ref l) (itKo t l) fun h => sqK t h l items := by
  cases t with
  | true => exact begins_tuple l items
  | false => exact begins_list l items
theorem itK_new {t : Bool} {h : Heap} {it l : Addr} (x : h.get? it = some (itKo t l)) : itK t h it l 0 := by
  cases t with
  | true => exact ⟨_, x, rfl, rfl⟩
  | false => exact ⟨_, x, rfl, rfl⟩
/-- the sequences at a and b as they stand at each turn, the items in new pairs -/
def ItzG (K : PySem.W.Frag) (t u : Bool) (a b : Addr) : It :=
  ⟨fun i H => ∃ (xs ys : List V) (x y : V), SqK K t H a xs ∧ SqK K u H b ys ∧ xs[i]? = some x ∧ ys[i]? = some y,
    fun i H v H' => ∃ T x y, v = .ref T ∧ H T = none ∧ H' = upd H T (.tup [x, y]) ∧ (∀ xs, SqK K t H a xs → xs[i]? = some x) ∧ ∀ ys, SqK K u H b ys → ys[i]? = some y,
    fun i H => ∃ xs ys : List V, SqK K t H a xs ∧ SqK K u H b ys ∧ (xs.length ≤ i ∨ ys.length ≤ i)⟩
end Mv
namespace L2
open PySem Mv
theorem Inv.seqK {X : Cx} {pins : List (Addr × Obj)} {σ : L2.St} {H : Hp} {s : Shared} {t : Bool} {a : Addr} {xs : List V} (I : Inv X pins σ H s) (h : SqK X.K t H a xs) : ∃ its : List Value, Vals xs its ∧ sqK t s.heap a its.toArray := by
  cases t with
  | true => obtain ⟨its, rv, p, _⟩ := I.tuple (show SqT X.K H a xs from h); exact ⟨its, rv, p⟩
  | false => obtain ⟨its, rv, p, _⟩ := I.list (show SqL X.K H a xs from h); exact ⟨its, rv, p.isList⟩
theorem Inv.seqK_inj {X : Cx} {pins : List (Addr × Obj)} {σ : L2.St} {H : Hp} {s : Shared} {t : Bool} {a : Addr} {xs ys : List V} (I : Inv X pins σ H s) (h : SqK X.K t H a xs) (h2 : SqK X.K t H a ys) : xs = ys := by
  cases t with
  | true => exact I.tuple_inj (show SqT X.K H a xs from h) h2
  | false => exact I.list_inj (show SqL X.K H a xs from h) h2
end L2
namespace Mv
open PySem L2 PyProof.Rows
theorem zip_sepG {z TI TO i1 i2 a b : Addr} (D : ZipApart z TI TO i1 i2 a b) : ZipSep2 z TI TO i1 i2 [i1, a] [i2, b] :=
  { TIz := D.TIz, TOz := D.TOz, TITO := D.TITO, TIi1 := D.TIi1, mem1 := by simp, zf1 := by simp [D.i1z.symm, D.l1z.symm], Tf1 := by simp [D.TOi1, D.l1TO.symm],
    TIi2 := D.TIi2, mem2 := by simp, zf2 := by simp [D.i2z.symm, D.l2z.symm], Tf2 := by simp [D.TOi2, D.l2TO.symm], sep1_2 := by simp [D.i12, D.l2i1.symm], sep2_1 := by simp [D.i12.symm, D.l1i2.symm] }
theorem turn_zipG {P : Program} {w : World} {K : PySem.W.Frag} {t u : Bool} {elts : List Expr} {kk : Nat} {tpos : Pos} {a b z TI TO i1 i2 : Addr} (D : ZipApart z TI TO i1 i2 a b) :
    Turn P w K (.Tuple elts kk tpos) (ItzG K t u a b) [z, TI, TO, i1, i2] z (fun i h => IsZip h z TI TO .none ∧ IsPair h TI (.ref i1) (.ref i2) ∧ (∃ x y, IsPair h TO x y) ∧ itK t h i1 a i ∧ itK u h i2 b i) where
  mem := by simp
  obj := fun i h st c hc => by
    obtain ⟨hz, hTI, ⟨x, y, hTO⟩, h1, h2⟩ := st
    obtain ⟨o1, v1, e1, d1⟩ := itK_obj h1
    obtain ⟨o2, v2, e2, d2⟩ := itK_obj h2
    have e' : c = z ∨ c = TI ∨ c = TO ∨ c = i1 ∨ c = i2 := by simpa using hc
    rcases e' with q | q | q | q | q
    · rw [q]; exact ⟨_, hz, fun v q => nomatch q⟩
    · rw [q]; exact ⟨_, hTI, fun v q => nomatch q⟩
    · rw [q]; exact ⟨_, hTO, fun v q => nomatch q⟩
    · rw [q]; exact ⟨o1, e1, fun v q => by rw [d1] at q; cases q⟩
    · rw [q]; exact ⟨o2, e2, fun v q => by rw [d2] at q; cases q⟩
  keep := fun i h h' st k => by
    obtain ⟨hz, hTI, ⟨x, y, hTO⟩, h1, h2⟩ := st
    exact ⟨k z (by simp) _ hz, k TI (by simp) _ hTI, ⟨x, y, k TO (by simp) _ hTO⟩, itK_at h1 fun o q => k i1 (by simp) o q, itK_at h2 fun o q => k i2 (by simp) o q⟩
  item := by
    intro X hP hw hK hc i pins s σ H E I hf st hg
    subst hP hw hK
    obtain ⟨hz, hTI, ⟨x0, y0, hTO⟩, h1, h2⟩ := st
    obtain ⟨xs, ys, x, y, hqx, hqy, hx, hy⟩ := hg
    obtain ⟨its, rv, p⟩ := I.seqK hqx
    obtain ⟨its2, rv2, p2⟩ := I.seqK hqy
    obtain ⟨v1, hv1, rv1⟩ := rv.get hx
    obtain ⟨v2, hv2, rv2'⟩ := rv2.get hy
    have hzl : z < s.heap.objs.size := Heap.lt_size hz
    have hh : X.A.in1.handled = none := show X.A.in1.handled = none from I.ok.hd hc
    have lt1 : i < its.toArray.size := by simpa using (List.getElem?_eq_some_iff.mp hv1).1
    have lt2 : i < its2.toArray.size := by simpa using (List.getElem?_eq_some_iff.mp hv2).1
    refine wpAny_pyNext_zipD2_item (zip_sepG D) (drawsK hh i1 a D.l1i1 its.toArray) (drawsK hh i2 b D.l2i2 its2.toArray) hz hTI hTO ⟨h1, p⟩ ⟨h2, p2⟩ lt1 lt2 fun w1 w2 h' tk hw1 hw2 z' TO' st1 st2 hT hsz hk => ?_
    obtain ⟨h1', _⟩ := st1
    obtain ⟨h2', _⟩ := st2
    have ew1 : w1 = v1 := by
      have q2 : its[i]? = some w1 := by simpa using hw1
      rw [hv1] at q2; exact (Option.some.inj q2).symm
    have ew2 : w2 = v2 := by
      have q2 : its2[i]? = some w2 := by simpa using hw2
      rw [hv2] at q2; exact (Option.some.inj q2).symm
    subst ew1 ew2
    refine ⟨_, rfl, wpAny_letOwnedTupleGo_zip (s := { s with heap := h', toks := tk }) z' fun h'' z'' sb => ?_⟩
    have hT2 : h''.get? s.heap.objs.size = some { cls := .type "tuple", data := .seq #[w1, w2] } := (sb.2 _ (Nat.ne_of_gt hzl)).trans hT
    have new : ObjOk X.prog X.w (upd H s.heap.objs.size (.tup [x, y])) h'' s.heap.objs.size (.tup [x, y]) :=
      ⟨by show 2 ≤ sizeLine; decide, [w1, w2], .cons rv1 (.cons rv2' .nil), ⟨_, hT2, rfl, _, rfl⟩⟩
    have I1 : Inv X pins σ (upd H s.heap.objs.size (.tup [x, y])) { s with heap := h'', toks := tk } :=
      I.turnedNew (t' := tk) (ch := [z, TI, TO, i1, i2]) (fun c o hb q => (sb.2 c (fun q' => hb (by simp [q']))).trans (hk c o (fun q' => hb (by simp [q'])) (fun q' => hb (by simp [q'])) (fun q' => hb (by simp [q'])) (fun q' => hb (by simp [q'])) q)) hf (Nat.le_refl _) new
    refine ⟨.ref s.heap.objs.size, _, I1, rfl, ⟨_, x, y, rfl, I.hok.fresh (Nat.le_refl _), rfl, fun l hl => by rw [I.seqK_inj hl hqx]; exact hx, fun l hl => by rw [I.seqK_inj hl hqy]; exact hy⟩, ⟨z'', ?_, ⟨w1, w2, ?_⟩, ?_, ?_⟩, fun c hcm => ?_⟩
    · exact (sb.2 _ D.TIz).trans (hk _ _ D.TIz D.TITO D.TIi1 D.TIi2 hTI)
    · exact (sb.2 _ D.TOz).trans TO'
    · exact itK_at h1' fun o q => (sb.2 _ D.i1z).trans q
    · exact itK_at h2' fun o q => (sb.2 _ D.i2z).trans q
    · obtain ⟨o1, d1, e1, _⟩ := itK_obj h1
      obtain ⟨o2, d2, e2, _⟩ := itK_obj h2
      have hlt : c < s.heap.objs.size := by
        have e' : c = z ∨ c = TI ∨ c = TO ∨ c = i1 ∨ c = i2 := by simpa using hcm
        rcases e' with q | q | q | q | q
        · rw [q]; exact hzl
        · rw [q]; exact Heap.lt_size hTI
        · rw [q]; exact Heap.lt_size hTO
        · rw [q]; exact Heap.lt_size e1
        · rw [q]; exact Heap.lt_size e2
      rw [upd_ne (Nat.ne_of_lt hlt)]
      exact (hf c hcm).1
  done := by
    intro X hP hw hK hc i pins s σ H E I hf st hg
    subst hP hw hK
    obtain ⟨hz, hTI, ⟨x0, y0, hTO⟩, h1, h2⟩ := st
    obtain ⟨xs, ys, hqx, hqy, hend⟩ := hg
    obtain ⟨its, rv, p⟩ := I.seqK hqx
    obtain ⟨its2, rv2, p2⟩ := I.seqK hqy
    have l1 := rv.length
    have l2 := rv2.length
    have hh : X.A.in1.handled = none := show X.A.in1.handled = none from I.ok.hd hc
    obtain ⟨n1, P1, St1, D1, le1, st1, e1⟩ := drawsA (prog := X.prog) (w := X.w) hh D.l1i1 h1 p
    obtain ⟨n2, P2, St2, D2, le2, st2, e2⟩ := drawsA (prog := X.prog) (w := X.w) hh D.l2i2 h2 p2
    refine wpAny_pyNext_zipD2_end (zip_sepG D) D1 D2 hz hTI hTO st1 st2 le1 le2 ?_ fun h' tk hk => ⟨rfl, I.turnedL (t' := tk) (ch := [z, TI, TO, i1, i2]) (fun c o hb q =>
      hk c o (fun q' => hb (by simp [q'])) (fun q' => hb (by simp [q'])) (fun q' => hb (by simp [q'])) (fun q' => hb (by simp [q'])) q) hf⟩
    rcases hend with q | q
    · exact .inl (e1 (by simp; omega))
    · exact .inr (e2 (by simp; omega))
  self := fun A i s Q E st h => wpAny_pyIter_zip st.1 h
def iZipG (K : PySem.W.Frag) (ta : TA) : TI := fun σ H R => ta σ H fun vs H1 => ∃ t u a b xs ys, vs = [.ref a, .ref b] ∧ SqK K t H1 a xs ∧ SqK K u H1 b ys ∧ R (ItzG K t u a b) H1
theorem pi_zipG {X : Cx} {e e2 : Expr} {ta : TA} {p pos tpos : Pos} {elts : List Expr} {kk : Nat} (hg : Gl X "zip") (hm : X.mg "zip" = none) (ha : PA X [e, e2] ta)
    (hs : starEach [e, e2] X.env = (false, eval e X.env) :: starEach [e2] X.env := by rfl) (hpl : (backTo pos (starEach [e2] X.env)).any (·.1) = false := by rfl) :
    PI X (.Tuple elts kk tpos) (.Call (.Name "zip" p) [e, e2] [] pos) (iZipG X.K ta) := by
  refine ⟨fun pins s σ H R I h => ?_⟩
  refine Call_ (ld_blt I hg hm PyProof.Rows.boot_zip (PyProof.Rows.callWith_type1 (thn (ha.run pos pins s σ H _ I h) fun us s1 ⟨vs, H1, I1, r1, q1⟩ => ?_) hs hpl))
  obtain ⟨t, u, a, b, xs, ys, ex, hqx, hqy, q⟩ := q1
  subst ex
  cases r1 with
  | cons r rr =>
    cases rr with
    | cons r' rr =>
      cases rr
      cases r
      cases r'
      have fresh5 : ∀ c, c ∈ [s1.heap.objs.size + 4, s1.heap.objs.size + 2, s1.heap.objs.size + 3, s1.heap.objs.size, s1.heap.objs.size + 1] → FpOk X pins H1 c := fun c hcm => by
        have e' : c = s1.heap.objs.size + 4 ∨ c = s1.heap.objs.size + 2 ∨ c = s1.heap.objs.size + 3 ∨ c = s1.heap.objs.size ∨ c = s1.heap.objs.size + 1 := by simpa using hcm
        have hle : s1.heap.objs.size ≤ c := by
          rcases e' with z | z | z | z | z
          · rw [z]; exact Nat.le_add_right _ _
          · rw [z]; exact Nat.le_add_right _ _
          · rw [z]; exact Nat.le_add_right _ _
          · rw [z]; exact Nat.le_refl _
          · rw [z]; exact Nat.le_add_right _ _
        exact I1.fpOk hle (I1.hok.fresh hle)
      obtain ⟨its, rv, p1⟩ := I1.seqK hqx
      obtain ⟨its2, rv2, p2⟩ := I1.seqK hqy
      refine zip_begins2 (beginsK t a its.toArray) (beginsK u b its2.toArray) p1 p2 fun h' hz hTI hTO h1 h2 hsz hk => wpAny_pyIter_zip hz ?_
      have I2 : Inv X pins σ H1 { s1 with heap := h' } := I1.kept (t' := s1.toks) hk
      exact ⟨s1.heap.objs.size + 4, [s1.heap.objs.size + 4, s1.heap.objs.size + 2, s1.heap.objs.size + 3, s1.heap.objs.size, s1.heap.objs.size + 1], _, _, H1, rfl, I2, turn_zipG (PySem.W.ktu_apart s1.heap.objs.size a b (sqK_lt p1) (sqK_lt p2)), ⟨hz, hTI, ⟨_, _, hTO⟩, itK_new h1, itK_new h2⟩, fresh5, q⟩
end Mv

/-! A small machine of values: no heap; lists that are owned or shared. -/
namespace Mv
open PySem

inductive Kd where
  | own | shr | giv
  deriving DecidableEq, Inhabited

inductive D where
  | non
  | bl (b : Bool)
  | int (i : Int)
  | str (s : Str)
  | tup (ds : List D)
  | lst (k : Kd) (ds : List D)
  | obj (k : Kd) (c : Nat) (ks : List Nat) (ds : List D)
  | exn (c : Nat) (w : D)
  deriving Inhabited

mutual
def D.eq : D → D → Bool
  | .non, .non => true
  | .bl a, .bl b => a == b
  | .int a, .int b => a == b
  | .str a, .str b => a == b
  | .tup a, .tup b => D.eqs a b
  | .lst o a, .lst p b => o == p && D.eqs a b
  | .obj o c k a, .obj p d l b => o == p && c == d && k == l && D.eqs a b
  | .exn c a, .exn d b => c == d && D.eq a b
  | _, _ => false
def D.eqs : List D → List D → Bool
  | [], [] => true
  | a :: r, b :: s => D.eq a b && D.eqs r s
  | _, _ => false
end
mutual
theorem D.eq_of : ∀ (a b : D), D.eq a b = true → a = b
  | .non, b, h => by cases b <;> first | rfl | cases h
  | .bl _, b, h => by cases b <;> first | (simp only [D.eq, beq_iff_eq] at h; rw [h]) | cases h
  | .int _, b, h => by cases b <;> first | (simp only [D.eq, beq_iff_eq] at h; rw [h]) | cases h
  | .str _, b, h => by cases b <;> first | (simp only [D.eq, beq_iff_eq] at h; rw [h]) | cases h
  | .tup xs, b, h => by cases b <;> first | (simp only [D.eq] at h; rw [D.eqs_of xs _ h]) | cases h
  | .lst _ xs, b, h => by cases b <;> first | (simp only [D.eq, Bool.and_eq_true, beq_iff_eq] at h; rw [D.eqs_of xs _ h.2, h.1]) | cases h
  | .obj _ _ _ xs, b, h => by cases b <;> first | (simp only [D.eq, Bool.and_eq_true, beq_iff_eq] at h; rw [D.eqs_of xs _ h.2, h.1.1.1, h.1.1.2, h.1.2]) | cases h
  | .exn _ x, b, h => by cases b <;> first | (simp only [D.eq, Bool.and_eq_true, beq_iff_eq] at h; rw [D.eq_of x _ h.2, h.1]) | cases h
theorem D.eqs_of : ∀ (a b : List D), D.eqs a b = true → a = b
  | [], b, h => by cases b <;> first | rfl | cases h
  | x :: r, b, h => by cases b <;> first | (simp only [D.eqs, Bool.and_eq_true] at h; rw [D.eq_of x _ h.1, D.eqs_of r _ h.2]) | cases h
end
mutual
theorem D.eq_refl : ∀ a : D, D.eq a a = true
  | .non => rfl
  | .bl _ => by simp [D.eq]
  | .int _ => by simp [D.eq]
  | .str _ => by simp [D.eq]
  | .tup xs => by simp [D.eq, D.eqs_refl xs]
  | .lst _ xs => by simp [D.eq, D.eqs_refl xs]
  | .obj _ _ _ xs => by simp [D.eq, D.eqs_refl xs]
  | .exn _ x => by simp [D.eq, D.eq_refl x]
theorem D.eqs_refl : ∀ a : List D, D.eqs a a = true
  | [] => rfl
  | x :: r => by simp [D.eqs, D.eq_refl x, D.eqs_refl r]
end
instance : DecidableEq D := fun a b => if h : D.eq a b = true then .isTrue (D.eq_of a b h) else .isFalse fun e => h (e ▸ D.eq_refl a)

-- shared from here on
def Kd.frz : Kd → Kd
  | .own => .shr
  | k => k
@[simp] theorem Kd.frz_own : Kd.frz .own = .shr := rfl
@[simp] theorem Kd.frz_shr : Kd.frz .shr = .shr := rfl
@[simp] theorem Kd.frz_giv : Kd.frz .giv = .giv := rfl
mutual
def D.frz : D → D
  | .lst k ds => .lst k.frz (D.frzs ds)
  | .obj k c ks ds => .obj k.frz c ks (D.frzs ds)
  | d => d
def D.frzs : List D → List D
  | [] => []
  | d :: r => D.frz d :: D.frzs r
end
@[simp] theorem D.frz_non : D.frz .non = .non := rfl
@[simp] theorem D.frz_bl (b : Bool) : D.frz (.bl b) = .bl b := rfl
@[simp] theorem D.frz_int (i : Int) : D.frz (.int i) = .int i := rfl
@[simp] theorem D.frz_str (i : Str) : D.frz (.str i) = .str i := rfl
@[simp] theorem D.frz_tup (ds : List D) : D.frz (.tup ds) = .tup ds := rfl
@[simp] theorem D.frz_lst (o : Kd) (ds : List D) : D.frz (.lst o ds) = .lst o.frz (D.frzs ds) := rfl
@[simp] theorem D.frz_obj (o : Kd) (c : Nat) (ks : List Nat) (ds : List D) : D.frz (.obj o c ks ds) = .obj o.frz c ks (D.frzs ds) := rfl
@[simp] theorem D.frzs_nil : D.frzs [] = [] := rfl
@[simp] theorem D.frzs_cons (d : D) (r : List D) : D.frzs (d :: r) = D.frz d :: D.frzs r := rfl
theorem D.frzs_map : ∀ ds : List D, D.frzs ds = ds.map D.frz
  | [] => rfl
  | d :: r => by rw [D.frzs_cons, D.frzs_map r]; rfl
@[simp] theorem D.frzs_app (a b : List D) : D.frzs (a ++ b) = D.frzs a ++ D.frzs b := by simp [D.frzs_map]

def D.owned : D → Bool
  | .lst .own _ => true
  | .obj .own _ _ _ => true
  | _ => false
/-- no owned thing among them -/
def noOwn (ds : List D) : Bool := ds.all fun d => !d.owned

abbrev En := List (Option D)
inductive Out (α : Type) where
  | ok (a : α) (r : En)
  | exc (c : Nat) (w : D) (r : En)
  | bad
def Out.bind {α β : Type} (x : Out α) (f : α → En → Out β) : Out β := match x with
  | .ok a r => f a r
  | .exc c w r => .exc c w r
  | .bad => .bad
@[simp] theorem Out.bind_ok {α β : Type} (a : α) (r : En) (f : α → En → Out β) : (Out.ok a r).bind f = f a r := rfl
@[simp] theorem Out.bind_exc {α β : Type} (c : Nat) (w : D) (r : En) (f : α → En → Out β) : (Out.exc c w r).bind f = .exc c w r := rfl
@[simp] theorem Out.bind_bad {α β : Type} (f : α → En → Out β) : (Out.bad : Out α).bind f = .bad := rfl
/-- a value if there is one -/
def Out.of {α : Type} (x : Option α) (r : En) : Out α := match x with
  | some a => .ok a r
  | none => .bad
@[simp] theorem Out.of_some {α : Type} (a : α) (r : En) : Out.of (some a) r = .ok a r := rfl
@[simp] theorem Out.of_none {α : Type} (r : En) : (Out.of (none : Option α) r) = .bad := rfl

/-- what a call gives: the value, the parameters behind it -/
inductive FOut where
  | ok (d : D) (ps : En)
  | exc (c : Nat) (w : D) (ps : En)
  | bad

inductive Tg where
  | nm (i : Nat)
  | tp (ts : List Tg)
inductive ItK where
  | val | rng | enm | zp | rev
  deriving DecidableEq
inductive Bt where
  | len | int | bool | tuple | list | sum | max | min | sorted | abs | str | all | any
  deriving DecidableEq
inductive Lm where
  | append | pop | extend | index | count | insert | remove | reverse | sort
  deriving DecidableEq
inductive Ty where
  | int | bool | str | tuple | list | none
  deriving DecidableEq

inductive E where
  | int (i : Int)
  | bl (b : Bool)
  | str (s : Str)
  | non
  | var (i : Nat)
  | bin (op : Operator) (a b : E)
  | neg (a : E)
  | notE (a : E)
  | andE (es : List E)
  | orE (es : List E)
  | ite (c a b : E)
  | cmp (a : E) (ops : List CmpOp) (es : List E)
  | tup (es : List E)
  | lst (es : List E)
  | idx (a i : E)
  | slc (a : E) (lo hi : Option E)
  | attr (a : E) (f : Nat)
  | what (i : Nat)
  | call (f : Nat) (es : List E)
  | callk (f : Nat) (perm : List Nat) (es : List E)
  | mk (c : Nat) (es : List E)
  | mkk (c : Nat) (perm : List Nat) (es : List E)
  | meth (m : Nat) (a : E) (es : List E)
  | blt (b : Bt) (es : List E)
  | lm (m : Lm) (a : E) (es : List E)
  | isi (a : E) (t : Ty)
  | comp (elt : E) (tg : Tg) (k : ItK) (src : List E) (ifs : List E) (own : List Nat)

mutual
inductive S where
  | pass
  | brk
  | cont
  | expr (e : E)
  | asg (t : Tg) (e : E)
  | par (ts : List Tg) (es : List E)
  | setI (a i e : E)
  | setA (i f : Nat) (e : E)
  | aug (i : Nat) (op : Operator) (e : E)
  | augI (a i : E) (op : Operator) (e : E)
  | ret (e : E)
  | retV (i : Nat)
  | ifS (c : E) (a b : List S)
  | whl (c : E) (b : List S)
  | forS (tg : Tg) (k : ItK) (src : List E) (b : List S)
  | raise (c : Nat) (e : E)
  | tryS (b : List S) (hs : List Hd)
  | nev
inductive Hd where
  | mk (c : Nat) (i : Option Nat) (b : List S)
end

-- slots stored to
mutual
def stS : S → List Nat
  | .asg t _ => stT t
  | .par ts _ => stTs ts
  | .aug i _ _ => [i]
  | .ifS _ a b => stB a ++ stB b
  | .whl _ b => stB b
  | .forS t _ _ b => stT t ++ stB b
  | .tryS b hs => stB b ++ stHs hs
  | _ => []
def stB : List S → List Nat
  | [] => []
  | s :: ss => stS s ++ stB ss
def stHs : List Hd → List Nat
  | [] => []
  | .mk _ i b :: hs => i.toList ++ stB b ++ stHs hs
def stT : Tg → List Nat
  | .nm i => [i]
  | .tp ts => stTs ts
def stTs : List Tg → List Nat
  | [] => []
  | t :: ts => stT t ++ stTs ts
end
structure Fn where
  np : Nat
  nl : Nat
  body : List S
  /-- parameters that are stored to -/
  asg : List Nat
structure Cl where
  init : Nat
  /-- method name, def -/
  ms : List (Nat × Nat)
  /-- itself and the classes above it -/
  up : List Nat
structure Pg where
  fns : List Fn
  cls : List Cl

/-! ### operations on values -/
def ixN (n : Nat) (i : Int) : Option Nat := if 0 ≤ i then (if i < n then some i.toNat else none) else if -(n : Int) ≤ i then some (i + n).toNat else none
def line : Nat := 16777216
def fits (ds : List D) : Bool := decide (ds.length ≤ 16777216)
def mulOk (i j : Int) : Bool := decide (-(2 ^ 64) < i ∧ i < 2 ^ 64) || decide (-(2 ^ 64) < j ∧ j < 2 ^ 64) || decide (i.natAbs.log2 + j.natAbs.log2 < 1000000)

def intOp : Operator → Int → Int → Option Int
  | .Add, i, j => some (i + j)
  | .Sub, i, j => some (i - j)
  | .Mult, i, j => if mulOk i j then some (i * j) else none
  | .FloorDiv, i, j => if 0 < j ∧ j.natAbs.log2 < 9000 then some (i / j) else none
  | .Mod, i, j => if 0 < j then some (i % j) else none
  | .Pow, i, j => if 0 ≤ j ∧ j ≤ 1000000 ∧ i.natAbs < 2 ^ 64 then some (i ^ j.toNat) else none
  | _, _, _ => none
/-- of an augmented assignment -/
def augOp : Operator → Int → Int → Option Int
  | .Add, i, j => some (i + j)
  | .Sub, i, j => some (i - j)
  | _, _, _ => none
def binD (op : Operator) : D → D → Option D
  | .int i, .int j => (intOp op i j).map D.int
  | .int i, .bl k => match op with
    | .Add => some (.int (i + if k then 1 else 0))
    | _ => none
  | .str a, .str b => match op with
    | .Add => if a.length + b.length ≤ 16777216 then some (.str (a ++ b)) else none
    | _ => none
  | .lst k a, .lst l b => match op with
    | .Add => if k != .giv && l != .giv && noOwn a && noOwn b && decide (a.length + b.length ≤ 16777216) then some (.lst .own (a ++ b)) else none
    | _ => none
  | .lst l a, .int k => match op with
    | .Mult => if l != .giv && noOwn a && decide (-(2 ^ 63) ≤ k ∧ k < 2 ^ 63) && decide (a.length * k.toNat ≤ 16777216) then some (.lst .own (List.replicate k.toNat a).flatten) else none
    | _ => none
  | .tup a, .tup b => match op with
    | .Add => if decide (a.length + b.length ≤ 16777216) then some (.tup (a ++ b)) else none
    | _ => none
  | _, _ => none
-- what is compared by content
mutual
def D.py : D → Option PyData
  | .non => some .none
  | .bl b => some (.bool b)
  | .int i => some (.int i)
  | .str s => some (.str s)
  | .tup ds => (D.pys ds).map .tuple
  | .lst _ ds => (D.pys ds).map .list
  | _ => none
def D.pys : List D → Option (List PyData)
  | [] => some []
  | d :: r => match D.py d, D.pys r with
    | some a, some b => some (a :: b)
    | _, _ => none
end
def eqD (a b : D) : Option Bool := match a.py, b.py with
  | some x, some y => if SeqAt.shaped x && SeqAt.shaped y then some (PyData.eqv x y) else none
  | _, _ => none
def prD (p : Int × Int) : D := .tup [.int p.1, .int p.2]
def prsOf : List D → Option (List (Int × Int))
  | [] => some []
  | .tup [.int i, .int j] :: r => (prsOf r).map fun x => (i, j) :: x
  | _ => none
def intsOf : List D → Option (List Int)
  | [] => some []
  | .int i :: r => (intsOf r).map fun x => i :: x
  | _ => none
def inD (a b : D) : Option Bool := match a.py, b.py with
  | some x, some y => match y with
    | .list ys => if SeqAt.shaped x && SeqAt.shaped y then some (ys.any fun z => PyData.eqv z x) else none
    | .tuple ys => if SeqAt.shaped x && SeqAt.shaped y then some (ys.any fun z => PyData.eqv z x) else none
    | _ => none
  | _, _ => none
def cmpD (op : CmpOp) (a b : D) : Option Bool := match op with
  | .Eq => eqD a b
  | .NotEq => (eqD a b).map (!·)
  | .In => inD a b
  | .NotIn => (inD a b).map (!·)
  | .Lt => match a, b with
    | .int i, .int j => some (decide (i < j))
    | .tup x, .tup y => match intsOf x, intsOf y with
      | some u, some v => some (HT.lexLt u v)
      | _, _ => none
    | _, _ => none
  | .LtE => match a, b with
    | .int i, .int j => some (decide (i ≤ j))
    | _, _ => none
  | .Gt => match a, b with
    | .int i, .int j => some (decide (j < i))
    | _, _ => none
  | .GtE => match a, b with
    | .int i, .int j => some (decide (j ≤ i))
    | _, _ => none
  | .Is => match b with
    | .non => match a with
      | .non => some true
      | .exn _ _ => none
      | _ => some false
    | _ => none
  | .IsNot => match b with
    | .non => match a with
      | .non => some false
      | .exn _ _ => none
      | _ => some true
    | _ => none
def truD : D → Option Bool
  | .non => some false
  | .bl b => some b
  | .int i => some (i != 0)
  | .str s => if s.length ≤ 16777216 then some ((s.length : Int) != 0) else none
  | .tup ds => some (!ds.isEmpty)
  | .lst _ ds => some (!ds.isEmpty)
  | _ => none
/-- a[i] -/
def itemD : D → D → Option D
  | .lst _ ds, .int i => (ixN ds.length i).bind fun j => ds[j]?
  | .tup ds, .int i => (ixN ds.length i).bind fun j => ds[j]?
  | _, _ => none
def fldD : D → Nat → Option D
  | .obj _ _ ks ds, f => (ks.zip ds).lookup f
  | _, _ => none

/-! ### places: a slot and a way into it -/
inductive St1 where
  | ix (i : Int)
  | fl (f : Nat)
def getS : D → St1 → Option D
  | d, .ix i => itemD d (.int i)
  | d, .fl f => fldD d f
def getP : D → List St1 → Option D
  | d, [] => some d
  | d, s :: p => (getS d s).bind fun e => getP e p
def idxOf (f : Nat) : List Nat → Option Nat
  | [] => none
  | k :: r => if k = f then some 0 else (idxOf f r).map (· + 1)
/-- change the thing at the end of an owned way -/
def updP (g : D → Option D) : D → List St1 → Option D
  | d, [] => g d
  | .lst .own ds, .ix i :: p => (ixN ds.length i).bind fun j => (ds[j]?).bind fun e => (updP g e p).map fun e' => .lst .own (ds.set j e')
  | .obj .own c ks ds, .fl f :: p => (idxOf f ks).bind fun j => (ds[j]?).bind fun e => (updP g e p).map fun e' => .obj .own c ks (ds.set j e')
  | _, _ => none
def slot (r : En) (i : Nat) : Option D := (r[i]?).bind id
/-- look at a place -/
def peekP (r : En) (i : Nat) (p : List St1) : Option D := (slot r i).bind fun d => getP d p
mutual
/-- an int without a call -/
def evI : E → En → Option Int
  | .int i, _ => some i
  | .var i, r => match slot r i with
    | some (.int n) => some n
    | _ => none
  | .bin .Add a b, r => (evI a r).bind fun x => (evI b r).map fun y => x + y
  | .bin .Sub a b, r => (evI a r).bind fun x => (evI b r).map fun y => x - y
  | .neg a, r => (evI a r).map fun x => -x
  | .idx a i, r => (path a r).bind fun p => (evI i r).bind fun n => match peekP r p.1 (p.2 ++ [.ix n]) with
    | some (.int m) => some m
    | _ => none
  | _, _ => none
def path : E → En → Option (Nat × List St1)
  | .var i, _ => some (i, [])
  | .idx a i, r => (path a r).bind fun p => (evI i r).map fun n => (p.1, p.2 ++ [.ix n])
  | .attr a f, r => (path a r).map fun p => (p.1, p.2 ++ [.fl f])
  | _, _ => none
end
/-- read a place: an owned thing is shared from then on -/
def readP (r : En) (i : Nat) (p : List St1) : Out D := match slot r i with
  | some d => match getP d p with
    | some (.exn _ _) => .bad
    | some e => if e.owned then (match updP (fun x => some x.frz) d p with
        | some d' => .ok e.frz (r.set i (some d'))
        | none => .bad) else .ok e r
    | none => .bad
  | none => .bad
end Mv

namespace Mv
open PySem

/-- an argument: a value, or a name of the frame -/
inductive Ar where
  | v (d : D)
  | r (i : Nat)
def Ar.peek (r : En) : Ar → Option D
  | .v d => some d
  | .r i => match slot r i with
    | some (.exn _ _) => none
    | x => x
def peekA (r : En) : List Ar → Option (List D)
  | [] => some []
  | a :: as => (a.peek r).bind fun d => (peekA r as).map fun ds => d :: ds
/-- owned things of the frame are lent: their slots are empty meanwhile -/
def lend : List Ar → En → Option (List D × En)
  | [], r => some ([], r)
  | .v d :: as, r => (lend as r).map fun x => (d :: x.1, x.2)
  | .r i :: as, r => ((Ar.r i).peek r).bind fun d =>
      if d.owned then (lend as (r.set i none)).map fun x => (d :: x.1, x.2) else (lend as r).map fun x => (d :: x.1, x.2)
/-- .. and come back -/
def back : List Ar → List D → En → En → Option En
  | [], [], _, r => some r
  | .v _ :: as, _ :: ds, _ :: ps, r => back as ds ps r
  | .r i :: as, d :: ds, p :: ps, r => if d.owned then p.bind fun p' => back as ds ps (r.set i (some p')) else back as ds ps r
  | _, _, _, _ => none
def has (r : En) (i : Nat) : Bool := ((Ar.r i).peek r).isSome
def FOut.out : FOut → Out D
  | .ok d ps => .ok d ps
  | .exc c w ps => .exc c w ps
  | .bad => .bad
/-- the lent things come back -/
def backO (as : List Ar) (ds : List D) (r : En) (o : Out D) : Out D := match o with
  | .ok d ps => match back as ds ps r with
    | some r2 => .ok d r2
    | none => .bad
  | .exc c w ps => match back as ds ps r with
    | some r2 => .exc c w r2
    | none => .bad
  | .bad => .bad
def callA (F : Nat → List D → FOut) (f : Nat) (as : List Ar) (r : En) : Out D := match lend as r with
  | some (ds, r1) => backO as ds r1 (F f ds).out
  | none => .bad
def methOf (P : Pg) (m c : Nat) : Option Nat := (P.cls[c]?).bind fun cl => cl.ms.lookup m
/-- a new instance, shared once it is made: its __init__'s end -/
def made (o : Out D) : Out D := match o with
  | .ok .non (some o :: ps) => .ok o.frz ps
  | .exc e w (_ :: ps) => .exc e w ps
  | _ => .bad
def callC (P : Pg) (F : Nat → List D → FOut) (c : Nat) (as : List Ar) (r : En) : Out D := match P.cls[c]? with
  | some cl => match lend as r with
    | some (ds, r1) => backO as ds r1 (made (F cl.init (.obj .own c [] [] :: ds)).out)
    | none => .bad
  | none => .bad

def isTy : D → Ty → Option Bool
  | .non, t => some (t == .none)
  | .bl _, t => some (t == .bool || t == .int)
  | .int _, t => some (t == .int)
  | .str _, t => some (t == .str)
  | .tup _, t => some (t == .tuple)
  | .lst _ _, t => some (t == .list)
  | _, _ => none
def blsOf : List D → Option (List Bool)
  | [] => some []
  | .bl i :: r => (blsOf r).map fun x => i :: x
  | _ => none
def sortI (l : List Int) : List Int := l.mergeSort (fun a b => decide (a ≤ b))
def bltD : Bt → List D → Option D
  | .len, [.lst _ ds] => some (.int ds.length)
  | .len, [.tup ds] => some (.int ds.length)
  | .len, [.str s] => if s.length ≤ 16777216 then some (.int s.length) else none
  | .int, [.int i] => some (.int i)
  | .int, [.bl k] => some (.int (if k then 1 else 0))
  | .bool, [.int i] => some (.bl (i != 0))
  | .bool, [.bl k] => some (.bl k)
  | .tuple, [.lst _ ds] => if noOwn ds then some (.tup ds) else none
  | .tuple, [.tup ds] => some (.tup ds)
  | .list, [.lst _ ds] => if noOwn ds then some (.lst .own ds) else none
  | .list, [.tup ds] => some (.lst .own ds)
  | .sum, [.lst _ ds] => (intsOf ds).map fun l => .int l.sum
  | .sum, [.tup ds] => (intsOf ds).map fun l => .int l.sum
  | .max, [.int i, .int j] => some (.int (if j > i then j else i))
  | .min, [.int i, .int j] => some (.int (if j < i then j else i))
  | .abs, [.int i] => some (.int (if i < 0 then -i else i))
  | .all, [.lst _ ds] => (blsOf ds).map fun l => .bl (l.all id)
  | .any, [.lst _ ds] => (blsOf ds).map fun l => .bl (l.any id)
  | .sorted, [.lst _ ds] => match intsOf ds with
    | some l => some (.lst .own ((sortI l).map .int))
    | none => (prsOf ds).map fun l => .lst .own ((sortP l).map prD)
  | .sorted, [.tup ds] => (prsOf ds).map fun l => .lst .own ((sortP l).map prD)
  | _, _ => none
/-- a list method at an owned list: the value, the list behind it -/
def lmD : Lm → List D → List D → Option (D × List D)
  | .append, ds, [d] => if ds.length < 16777216 then some (.non, ds ++ [d]) else none
  | .pop, ds, [] => (ds[ds.length - 1]?).map fun d => (d, ds.dropLast)
  | .pop, ds, [.int i] => if noOwn ds && decide (-(2 ^ 63) ≤ i ∧ i < 2 ^ 63) then (ixN ds.length i).bind fun j => (ds[j]?).map fun d => (d, ds.eraseIdx j) else none
  | .extend, ds, [.lst k es] => if k != .giv && noOwn es && decide (ds.length + es.length ≤ 16777216) then some (.non, ds ++ es) else none
  | .reverse, ds, [] => if noOwn ds then some (.non, ds.reverse) else none
  | _, _, _ => none
/-- .. of what was slot x's, the slot is empty -/
def lmP (m : Lm) (o : Option D) (r : En) (x : Nat) (p : List St1) (ds : List D) : Out D := match o with
  | some d => match getP d p with
    | some (.lst .own xs) => match lmD m xs ds with
      | some (v, ys) => match updP (fun _ => some (.lst .own ys)) d p with
        | some d' => if x < r.length then .ok v (r.set x (some d')) else .bad
        | none => .bad
      | none => .bad
    | _ => .bad
  | none => .bad

def asgT : Tg → D → En → Option En
  | .nm i, d, r => if i < r.length then some (r.set i (some d)) else none
  | .tp ts, d, r => match d with
    | .tup ds => asgs ts ds r
    | _ => none
where asgs : List Tg → List D → En → Option En
  | [], [], r => some r
  | t :: ts, d :: ds, r => (asgT t d r).bind fun r' => asgs ts ds r'
  | _, _, _ => none

/-- what a list or a tuple holds -/
def seqOf : D → Option (List D)
  | .lst _ ds => if noOwn ds then some ds else none
  | .tup ds => some ds
  | _ => none
def itemsOf : ItK → List D → Option (List D)
  | .val, [.lst _ ds] => if noOwn ds then some ds else none
  | .val, [.tup ds] => some ds
  | .rng, [.int j] => if -(2 ^ 62) ≤ j ∧ j < 2 ^ 62 then some ((List.range j.toNat).map fun (k : Nat) => D.int k) else none
  | .rng, [.int i, .int j] => if -(2 ^ 62) ≤ i ∧ i < 2 ^ 62 ∧ -(2 ^ 62) ≤ j ∧ j < 2 ^ 62 then some ((List.range (j - i).toNat).map fun (k : Nat) => D.int (i + k)) else none
  | .rng, [.int i, .int j, .int c] => if c = -1 ∧ -(2 ^ 62) ≤ i ∧ i < 2 ^ 62 ∧ -(2 ^ 62) ≤ j ∧ j < 2 ^ 62 then some ((List.range (i - j).toNat).map fun (k : Nat) => D.int (i + k * c)) else
      if c ≠ 0 ∧ c.natAbs < 1073741824 ∧ Builtin.Range.small i j c = true ∧ 0 ≤ Builtin.Range.rangeSize i j c then some ((List.range (Builtin.Range.rangeSize i j c).toNat).map fun (k : Nat) => D.int (i + k * c)) else none
  | .enm, [.lst _ ds] => if noOwn ds then some (ds.mapIdx fun k d => .tup [.int k, d]) else none
  | .enm, [.tup ds] => some (ds.mapIdx fun k d => .tup [.int k, d])
  | .zp, [d, e] => (seqOf d).bind fun ds => (seqOf e).map fun es => (ds.zip es).map fun x => .tup [x.1, x.2]
  | .rev, [.lst _ ds] => if noOwn ds then some ds.reverse else none
  | _, _ => none
def itemsN (k : ItK) (n : Nat) (ds : List D) : Option (List D) := if ds.length = n then itemsOf k ds else none
/-- the items of what a loop walks are shared -/
def prep : List Ar → En → Option (List Ar × En)
  | [], r => some ([], r)
  | .v d :: as, r => (prep as r).map fun x => (.v d.frz :: x.1, x.2)
  | .r i :: as, r => match slot r i with
    | some (.lst .own ds) => (prep as (r.set i (some (.lst .own (D.frzs ds))))).map fun x => (.r i :: x.1, x.2)
    | some (.exn _ _) => none
    | some _ => (prep as r).map fun x => (.r i :: x.1, x.2)
    | none => none
/-- what must stand as it stood -/
def chks : List Ar → En → List (Nat × Option D)
  | [], _ => []
  | .v _ :: as, r => chks as r
  | .r i :: as, r => (i, slot r i) :: chks as r
def still (r : En) (l : List (Nat × Option D)) : Bool := l.all fun x => decide (slot r x.1 = x.2)

inductive Fl where
  | next | brk | cont
  | ret (d : D)

def forL (chk : List (Nat × Option D)) (tg : Tg) (b : En → Out Fl) : List D → En → Out Fl
  | [], r => if still r chk then .ok .next r else .bad
  | d :: ds, r => if still r chk then (match asgT tg d r with
      | some r1 => match b r1 with
        | .ok .next r2 => forL chk tg b ds r2
        | .ok .cont r2 => forL chk tg b ds r2
        | .ok .brk r2 => .ok .next r2
        | .ok (.ret v) r2 => .ok (.ret v) r2
        | .exc c w r2 => .exc c w r2
        | .bad => .bad
      | none => .bad) else .bad
def whlL (t : En → Out Bool) (b : En → Out Fl) : Nat → En → Out Fl
  | 0, _ => .bad
  | n + 1, r => (t r).bind fun k r1 => if k then (match b r1 with
      | .ok .next r2 => whlL t b n r2
      | .ok .cont r2 => whlL t b n r2
      | .ok .brk r2 => .ok .next r2
      | .ok (.ret v) r2 => .ok (.ret v) r2
      | .exc c w r2 => .exc c w r2
      | .bad => .bad) else .ok .next r1
def wipeE (r : En) : List Nat → En
  | [] => r
  | v :: vs => (wipeE r vs).set v none
/-- a comprehension's turns: own slots are forgotten behind each turn -/
def compL (chk : List (Nat × Option D)) (own : List Nat) (tg : Tg) (t : En → Out Bool) (e : En → Out D) : List D → List D → En → Out (List D)
  | [], acc, r => if still r chk then .ok acc r else .bad
  | d :: ds, acc, r => if still r chk then (match asgT tg d r with
      | some r1 => match t r1 with
        | .ok true r2 => match e r2 with
          | .ok v r3 => if acc.length < 16777216 then compL chk own tg t e ds (acc ++ [v]) (wipeE r3 own) else .bad
          | _ => .bad
        | .ok false r2 => compL chk own tg t e ds acc (wipeE r2 own)
        | _ => .bad
      | none => .bad) else .bad

/-- what an expression does: as a value, as a test, as an argument -/
structure Ev where
  v : En → Out D
  t : En → Out Bool
  a : En → Out Ar
def Ev.mk1 (v : En → Out D) : Ev := ⟨v, fun r => (v r).bind fun d r => .of (truD d) r, fun r => (v r).bind fun d r => .ok (.v d) r⟩
def evTAnd : List Ev → En → Out Bool
  | [], r => .ok true r
  | e :: es, r => (e.t r).bind fun k r => if k then evTAnd es r else .ok false r
def evTOr : List Ev → En → Out Bool
  | [], r => .ok false r
  | e :: es, r => (e.t r).bind fun k r => if k then .ok true r else evTOr es r
def evAnd : List Ev → En → Out D
  | [], _ => .bad
  | [e], r => e.v r
  | e :: es, r => (e.v r).bind fun d r => match d with
      | .bl true => evAnd es r
      | .bl false => .ok (.bl false) r
      | _ => .bad
def evOr : List Ev → En → Out D
  | [], _ => .bad
  | [e], r => e.v r
  | e :: es, r => (e.v r).bind fun d r => match d with
      | .bl true => .ok (.bl true) r
      | .bl false => evOr es r
      | _ => .bad
def evEs : List Ev → En → Out (List D)
  | [], r => .ok [] r
  | e :: es, r => (e.v r).bind fun d r => (evEs es r).bind fun ds r => .ok (d :: ds) r
def evAs : List Ev → En → Out (List Ar)
  | [], r => .ok [] r
  | e :: es, r => (e.a r).bind fun a r => (evAs es r).bind fun as r => .ok (a :: as) r
def cmpA (op : CmpOp) (x y : Ar) (r : En) : Option Bool := (x.peek r).bind fun d => (y.peek r).bind fun e => cmpD op d e
def evC : Ar → List CmpOp → List Ev → En → Out Bool
  | x, [op], [e], r => (e.a r).bind fun y r => .of (cmpA op x y r) r
  | x, op :: ops, e :: es, r => (e.a r).bind fun y r => match cmpA op x y r with
    | some b => if b then evC y ops es r else .ok false r
    | none => .bad
  | _, _, _, _ => .bad

/-- arguments in the parameters' order; what lies behind the last is None -/
def pick {α : Type} (non : α) (perm : List Nat) (ds : List α) : List α := perm.filterMap fun i => (ds ++ [non])[i]?
section
variable (P : Pg) (F : Nat → List D → FOut)
mutual
def ev : E → Ev
  | .int i => .mk1 fun r => .ok (.int i) r
  | .bl b => .mk1 fun r => .ok (.bl b) r
  | .str s => .mk1 fun r => .ok (.str s) r
  | .non => .mk1 fun r => .ok .non r
  | .var i => ⟨fun r => readP r i [], fun r => .of ((slot r i).bind truD) r, fun r => if has r i then .ok (.r i) r else .bad⟩
  | .bin op a b => .mk1 fun r => ((ev a).v r).bind fun x r => ((ev b).v r).bind fun y r => .of (binD op x y) r
  | .neg a => .mk1 fun r => ((ev a).v r).bind fun x r => match x with
    | .int i => .ok (.int (-i)) r
    | _ => .bad
  | .notE a => { Ev.mk1 (fun r => ((ev a).v r).bind fun x r => match x with
    | .bl b => .ok (.bl (!b)) r
    | _ => .bad) with t := fun r => ((ev a).t r).bind fun k r => .ok (!k) r }
  | .andE es => { Ev.mk1 (evAnd (evs es)) with t := evTAnd (evs es) }
  | .orE es => { Ev.mk1 (evOr (evs es)) with t := evTOr (evs es) }
  | .ite c a b => { Ev.mk1 (fun r => ((ev c).t r).bind fun k r => if k then (ev a).v r else (ev b).v r) with t := fun r => ((ev c).t r).bind fun k r => if k then (ev a).t r else (ev b).t r }
  | .cmp a ops es => { Ev.mk1 (fun r => ((ev a).a r).bind fun x r => (evC x ops (evs es) r).bind fun b r => .ok (.bl b) r) with t := fun r => ((ev a).a r).bind fun x r => evC x ops (evs es) r }
  | .tup es => .mk1 fun r => (evEs (evs es) r).bind fun ds r => if fits ds then .ok (.tup (D.frzs ds)) r else .bad
  | .lst es => .mk1 fun r => (evEs (evs es) r).bind fun ds r => if fits ds then .ok (.lst .own ds) r else .bad
  | .idx a i => .mk1 fun r => match a with
    | .var x => if has r x then (((ev i).v r).bind fun k r => match k with
      | .int n => readP r x [.ix n]
      | _ => .bad) else .bad
    | a' => match path (.idx a' i) r with
      | some (x, p) => readP r x p
      | none => ((ev a).v r).bind fun d r => ((ev i).v r).bind fun k r => .of ((itemD d k).map D.frz) r
  | .slc _ _ _ => .mk1 fun _ => .bad
  | .attr a f => .mk1 fun r => match path (.attr a f) r with
    | some (x, p) => readP r x p
    | none => ((ev a).v r).bind fun d r => .of ((fldD d f).map D.frz) r
  | .what i => .mk1 fun r => match slot r i with
    | some (.exn _ w) => .ok w r
    | _ => .bad
  | .call f es => .mk1 fun r => (evAs (evs es) r).bind fun as r => callA F f as r
  | .callk f perm es => .mk1 fun r => (evEs (evs es) r).bind fun ds r => if noOwn ds then callA F f ((pick .non perm ds).map .v) r else .bad
  | .mkk c perm es => .mk1 fun r => (evEs (evs es) r).bind fun ds r => if noOwn ds then callC P F c ((pick .non perm ds).map .v) r else .bad
  | .mk c es => .mk1 fun r => (evAs (evs es) r).bind fun as r => callC P F c as r
  | .meth m a es => .mk1 fun r => ((ev a).a r).bind fun x r => match x.peek r with
    | some (.obj _ c _ _) => match methOf P m c with
      | some f => (evAs (evs es) r).bind fun as r => callA F f (x :: as) r
      | none => .bad
    | _ => .bad
  | .blt b es => .mk1 fun r => (evAs (evs es) r).bind fun as r => .of ((peekA r as).bind fun ds => bltD b ds) r
  | .lm m a es => .mk1 fun r => match a with
    | .var x => match slot r x with
      | some (.lst _ _) => (evEs (evs es) r).bind fun ds r => lmP m (slot r x) (r.set x none) x [] ds
      | _ => .bad
    | a' => match path a' r with
      | some (x, p) => match peekP r x p with
        | some (.lst _ _) => (evEs (evs es) (r.set x none)).bind fun ds r2 => if slot r2 x = none then lmP m (slot r x) r2 x p ds else .bad
        | _ => .bad
      | none => .bad
  | .isi a t => .mk1 fun r => ((ev a).a r).bind fun x r => .of (((x.peek r).bind fun d => isTy d t).map D.bl) r
  | .comp elt tg k src ifs own => .mk1 fun r => (evAs (evs src) r).bind fun as r => match prep as r with
    | some (as1, r1) => match (peekA r1 as1).bind (itemsN k src.length) with
      | some ds => if (stT tg).all own.contains then (match compL (chks as1 r1) own tg (evTAnd (evs ifs)) (ev elt).v ds [] (wipeE r1 own) with
        | .ok acc r2 => .ok (.lst .own acc) r2
        | _ => .bad) else .bad
      | none => .bad
    | none => .bad
def evs : List E → List Ev
  | [] => []
  | e :: es => ev e :: evs es
end
end

/-- no exception is held -/
def clean (r : En) : Bool := r.all fun x => match x with
  | some (.exn _ _) => false
  | _ => true
def LF : Nat := 1000000
def upOf (P : Pg) (c d : Nat) : Bool := match P.cls[c]? with
  | some cl => cl.up.contains d
  | none => false
mutual
def evS (P : Pg) (F : Nat → List D → FOut) : S → En → Out Fl
  | .pass, r => .ok .next r
  | .brk, r => .ok .brk r
  | .cont, r => .ok .cont r
  | .expr e, r => ((ev P F e).v r).bind fun _ r => .ok .next r
  | .asg t e, r => ((ev P F e).v r).bind fun d r => match asgT t d r with
    | some r1 => .ok .next r1
    | none => .bad
  | .par ts es, r => (evEs (evs P F es) r).bind fun ds r => match asgT.asgs ts ds r with
    | some r1 => .ok .next r1
    | none => .bad
  | .setI a i e, r => ((ev P F e).v r).bind fun d r => match a with
    | .var x => if has r x then (((ev P F i).v r).bind fun k r => match k with
      | .int n => match (slot r x).bind (updP (fun _ => some d) · [.ix n]) with
        | some d' => .ok .next (r.set x (some d'))
        | none => .bad
      | _ => .bad) else .bad
    | _ => match path (.idx a i) r with
      | some (x, p) => match (slot r x).bind (updP (fun _ => some d) · p) with
        | some d' => .ok .next (r.set x (some d'))
        | none => .bad
      | none => .bad
  | .setA i f e, r => ((ev P F e).v r).bind fun d r => match slot r i with
    | some (.obj .own c ks ds) => if decide (ks.length < 1000) && decide (ks.length = ds.length) then (match idxOf f ks with
      | some j => .ok .next (r.set i (some (.obj .own c ks (ds.set j d))))
      | none => .ok .next (r.set i (some (.obj .own c (ks ++ [f]) (ds ++ [d]))))) else .bad
    | _ => .bad
  | .aug i op e, r => match slot r i with
    | some _ => ((ev P F e).v r).bind fun y r => match slot r i with
      | some x => match x, y with
        | .int a, .int b => match augOp op a b with
          | some z => .ok .next (r.set i (some (.int z)))
          | none => .bad
        | _, _ => .bad
      | none => .bad
    | none => .bad
  | .augI a i op e, r => match path (.idx a i) r with
    | some (x, p) => match peekP r x p with
      | some (.int old) => match (slot r x).bind (updP some · p) with
        | some _ => ((ev P F e).v (r.set x none)).bind fun y r2 => match y with
          | .int b => match augOp op old b with
            | some z => match (slot r x).bind (updP (fun _ => some (.int z)) · p) with
              | some d' => if slot r2 x = none ∧ x < r2.length then .ok .next (r2.set x (some d')) else .bad
              | none => .bad
            | none => .bad
          | _ => .bad
        | none => .bad
      | _ => .bad
    | none => .bad
  | .nev, _ => .bad
  | .ret e, r => ((ev P F e).v r).bind fun d r => .ok (.ret d) r
  | .retV i, r => match slot r i with
    | some (.exn _ _) => .bad
    | some d => .ok (.ret d) (r.set i none)
    | none => .bad
  | .ifS c a b, r => ((ev P F c).t r).bind fun k r => if k then evB P F a r else evB P F b r
  | .whl c b, r => whlL (ev P F c).t (fun r => evB P F b r) LF r
  | .forS tg k src b, r => (evAs (evs P F src) r).bind fun as r => match prep as r with
    | some (as1, r1) => match (peekA r1 as1).bind (itemsN k src.length) with
      | some ds => if (chks as1 r1).all fun x => !(stT tg ++ stB b).contains x.1 then forL (chks as1 r1) tg (fun r => evB P F b r) ds r1 else .bad
      | none => .bad
    | none => .bad
  | .raise c e, r => ((ev P F e).v r).bind fun w r => .exc c w.frz r
  | .tryS b hs, r => match evB P F b r with
    | .ok f r1 => .ok f r1
    | .exc c w r1 => if upOf P c c then evH P F c w hs r1 else .bad
    | .bad => .bad
def evB (P : Pg) (F : Nat → List D → FOut) : List S → En → Out Fl
  | [], r => .ok .next r
  | s :: ss, r => match evS P F s r with
    | .ok .next r1 => evB P F ss r1
    | x => x
def evH (P : Pg) (F : Nat → List D → FOut) (c : Nat) (w : D) : List Hd → En → Out Fl
  | [], r => .exc c w r
  | h :: hs, r => match evH1 P F c w h r with
    | some o => o
    | none => evH P F c w hs r
/-- the suite of a clause that fits -/
def evH1 (P : Pg) (F : Nat → List D → FOut) (c : Nat) (w : D) : Hd → En → Option (Out Fl)
  | .mk d i b, r => if upOf P c d then some (match i with
      | none => (match evB P F b r with
        | .ok f r1 => if clean r1 then .ok f r1 else .bad
        | _ => .bad)
      | some j => if j < r.length then (match evB P F b (r.set j (some (.exn c w))) with
        | .ok f r1 => if clean (r1.set j none) then .ok f (r1.set j none) else .bad
        | _ => .bad) else .bad) else none
end

/-- a def's parameters behind it: none where it has stored to one -/
def parsOf (asg : List Nat) (np : Nat) (r : En) : En := ((r ++ List.replicate np none).take np).mapIdx fun i x => if asg.contains i then none else x
def run (P : Pg) : Nat → Nat → List D → FOut
  | 0, _, _ => .bad
  | k + 1, f, ds => match P.fns[f]? with
    | some fn => if ds.length = fn.np then (match evB P (run P k) fn.body (ds.map some ++ List.replicate (fn.nl - fn.np) none) with
      | .ok .next r => .ok .non (parsOf fn.asg fn.np r)
      | .ok (.ret d) r => .ok d (parsOf fn.asg fn.np r)
      | .exc c w r => .exc c w (parsOf fn.asg fn.np r)
      | _ => .bad) else .bad
    | none => .bad
end Mv

namespace Mv
open PySem

/-- what a translation knows -/
structure Tc where
  sc : Scope
  N : List Str
  np : Nat
  fns : List Str
  cls : List Str
  /-- the ordinary classes -/
  oc : List Nat
  cons : List (Str × Int)
  att : List Str
  mts : List Str
  /-- built-in names that the module leaves as they are -/
  blt : List Str
  /-- whether what is raised is caught -/
  exc : Bool
  /-- the error classes -/
  ec : List Nat := []
  /-- how calls with keywords bind: the callee, the number of other values, the keywords, the parameters' order -/
  kw : List (Str × Nat × List Str × List Nat) := []
  /-- classes that are made by keywords, or with defaults -/
  okw : List Nat := []
  /-- defs that take keywords or defaults always -/
  nb : List Nat := []
  /-- defs that are methods: no name of the module's -/
  mth : List Nat := []

def ixOf (x : Str) : List Str → Option Nat
  | [] => none
  | y :: r => if y = x then some 0 else (ixOf x r).map (· + 1)
def vis (sc : Scope) (x : Str) : Bool := match sc.names.lookup x with
  | some .local => true
  | some .cell => true
  | some .free => true
  | _ => false
def loc (sc : Scope) (x : Str) : Bool := match sc.names.lookup x with
  | some .local => true
  | some .cell => true
  | _ => false
def glo (sc : Scope) (x : Str) : Bool := match sc.names.lookup x with
  | some .globalImplicit => true
  | _ => false
def okName (x : Str) : Bool := decide (x ≠ "__debug__") && decide (x ≠ "__classdict__") && decide (x ≠ "__name__")
def kwOf (T : Tc) (f : Str) (n : Nat) (ks : List Str) : Option (List Nat) := T.kw.findSome? fun q => if q.1 = f ∧ q.2.1 = n ∧ q.2.2.1 = ks then some q.2.2.2 else none
/-- a built-in that no name of the module's hides -/
def isB (T : Tc) (x : Str) : Bool := glo T.sc x && okName x && T.blt.contains x
def btTab : List (Str × Bt) := [(PySem.Str.ofString "len", .len), (PySem.Str.ofString "int", .int), (PySem.Str.ofString "bool", .bool), (PySem.Str.ofString "tuple", .tuple), (PySem.Str.ofString "list", .list), (PySem.Str.ofString "sum", .sum), (PySem.Str.ofString "max", .max), (PySem.Str.ofString "min", .min), (PySem.Str.ofString "sorted", .sorted), (PySem.Str.ofString "abs", .abs), (PySem.Str.ofString "all", .all), (PySem.Str.ofString "any", .any)]
def btOf (x : Str) : Option Bt := btTab.lookup x
def tyTab : List (Str × Ty) := [(PySem.Str.ofString "int", .int), (PySem.Str.ofString "bool", .bool), (PySem.Str.ofString "str", .str), (PySem.Str.ofString "tuple", .tuple), (PySem.Str.ofString "list", .list)]
def tyOf (x : Str) : Option Ty := tyTab.lookup x
def lmTab : List (Str × Lm) := [(PySem.Str.ofString "append", .append), (PySem.Str.ofString "pop", .pop), (PySem.Str.ofString "extend", .extend), (PySem.Str.ofString "reverse", .reverse)]
def lmOf (x : Str) : Option Lm := lmTab.lookup x
def itTab : List (Str × ItK) := [(PySem.Str.ofString "range", .rng), (PySem.Str.ofString "enumerate", .enm), (PySem.Str.ofString "zip", .zp), (PySem.Str.ofString "reversed", .rev)]
def itOf (x : Str) : Option ItK := itTab.lookup x
def notSup : Expr → Bool
  | .Call (.Name _ _) [] [] _ => false
  | _ => true
/-- the places of a comprehension's own names -/
def ownOf (N : List Str) : List (Str × NameKind) → List (Str × Nat)
  | [] => []
  | (x, k) :: r => if k = .local ∨ k = .cell then (match ixOf x N with
    | some i => (x, i) :: ownOf N r
    | none => ownOf N r) else ownOf N r
mutual
def trTg : Nat → Tc → Expr → Option Tg
  | 0, _, _ => none
  | n + 1, T, e => match e with
    | .Name x _ => if loc T.sc x then (ixOf x T.N).map .nm else none
    | .Tuple es _ _ => (trTgs n T es).map .tp
    | _ => none
def trTgs : Nat → Tc → List Expr → Option (List Tg)
  | 0, _, _ => none
  | _ + 1, _, [] => some []
  | n + 1, T, e :: es => (trTg n T e).bind fun a => (trTgs n T es).map fun as => a :: as
end
def isTupE : Expr → Bool
  | .Tuple _ _ _ => true
  | _ => false
def itC (k : ItK) (tg : Expr) (n : Nat) : Bool := match k with
  | .rng => decide (1 ≤ n ∧ n ≤ 3)
  | .enm => decide (n = 1) && isTupE tg
  | .zp => decide (n = 2) && isTupE tg
  | .rev => decide (n = 1)
  | .val => false
mutual
def trE : Nat → Tc → Expr → Option E
  | 0, _, _ => none
  | n + 1, T, e => match e with
    | .Constant c _ _ => match c with
      | .int i => some (.int i)
      | .bool b => some (.bl b)
      | .none => some .non
      | .str s => some (.str s)
      | _ => none
    | .Name x _ => if okName x then (if vis T.sc x then (ixOf x T.N).map .var else if glo T.sc x then (T.cons.lookup x).map .int else none) else none
    | .BinOp a op b _ => (trE n T a).bind fun a => (trE n T b).map fun b => .bin op a b
    | .UnaryOp .USub a _ => (trE n T a).map .neg
    | .UnaryOp .Not a _ => (trE n T a).map .notE
    | .BoolOp .And es _ => if es.isEmpty then none else (trEs n T es).map .andE
    | .BoolOp .Or es _ => if es.isEmpty then none else (trEs n T es).map .orE
    | .IfExp c a b _ => (trE n T c).bind fun c => (trE n T a).bind fun a => (trE n T b).map fun b => .ite c a b
    | .Compare a ops es _ => if es.isEmpty || ops.length != es.length then none else (trE n T a).bind fun a => (trEs n T es).map fun es => .cmp a ops es
    | .Tuple es _ _ => (trEs n T es).map .tup
    | .List es _ => (trEs n T es).map .lst
    | .Subscript a i _ => (trE n T a).bind fun a => (trE n T i).map fun i => .idx a i
    | .Attribute a f _ => if notSup a then (ixOf f T.att).bind fun f => (trE n T a).map fun a => .attr a f else none
    | .Call (.Name f _) es [] _ => if glo T.sc f && okName f then trC n T f es else none
    | .Call (.Name f _) es (kw :: kws) _ => if glo T.sc f && okName f then (trEs n T es).bind fun as => (trKs n T (kw :: kws)).bind fun kb => (kwOf T f es.length kb.1).bind fun perm => match ixOf f T.fns with
        | some j => if T.mth.contains j then none else some (.callk j perm (as ++ kb.2))
        | none => (ixOf f T.cls).bind fun j => if T.okw.contains j then some (.mkk j perm (as ++ kb.2)) else none
      else none
    | .Call (.Attribute a m ap) es [] cp => if notSup a && ap.endLine == cp.line && decide (es.length < 29) then
        (match ixOf m T.mts with
        | some j => (trE n T a).bind fun a => (trEs n T es).map fun es => .meth j a es
        | none => (lmOf m).bind fun l => (trE n T a).bind fun a => (trEs n T es).map fun es => .lm l a es) else none
    | .ListComp elt [⟨tg, iter, ifs, 0⟩] scope _ => trLc n T elt tg iter ifs scope
    | _ => none
/-- a call of a name -/
def trC : Nat → Tc → Str → List Expr → Option E
  | 0, _, _, _ => none
  | n + 1, T, f, es => match ixOf f T.fns with
    | some j => if T.mth.contains j || T.nb.contains j then none else (trEs n T es).map fun es => .call j es
    | none => match ixOf f T.cls with
      | some j => if T.oc.contains j then (trEs n T es).map fun es => .mk j es else if T.okw.contains j then (kwOf T f es.length []).bind fun perm => (trEs n T es).map fun as => .mkk j perm as else none
      | none => if !T.blt.contains f then none else if f = "isinstance" then (match es with
          | [a, .Name t _] => if isB T t then (tyOf t).bind fun t => (trE n T a).map fun a => .isi a t else none
          | _ => none) else if es.isEmpty then none else (btOf f).bind fun b => (trEs n T es).map fun es => .blt b es
def trEs : Nat → Tc → List Expr → Option (List E)
  | 0, _, _ => none
  | _ + 1, _, [] => some []
  | n + 1, T, e :: es => (trE n T e).bind fun a => (trEs n T es).map fun as => a :: as
def trKs : Nat → Tc → List Keyword → Option (List Str × List E)
  | 0, _, _ => none
  | _ + 1, _, [] => some ([], [])
  | n + 1, T, ⟨some nm, e, _⟩ :: kws => (trE n T e).bind fun a => (trKs n T kws).map fun x => (nm :: x.1, a :: x.2)
  | _ + 1, _, _ => none
def trIt : Nat → Tc → Expr → Expr → Option (ItK × List E)
  | 0, _, _, _ => none
  | n + 1, T, tg, e => match e with
    | .Call (.Name f _) es [] _ => (match (if isB T f then itOf f else none) with
        | some k => if itC k tg es.length then (trEs n T es).map fun es => (k, es) else none
        | none => (trE n T e).map fun a => (.val, [a]))
    | _ => (trE n T e).map fun a => (.val, [a])
def trLc : Nat → Tc → Expr → Expr → Expr → List Expr → Scope → Option E
  | 0, _, _, _, _, _, _ => none
  | n + 1, T, elt, tg, iter, ifs, scope => if L2.blkC T.N T.sc scope (ownOf T.N scope.names) && decide (ifs.length ≤ 1) then
      (trIt n T tg iter).bind fun ki => (trTg n { T with sc := scope } tg).bind fun t =>
        if (stT t).all fun i => ((ownOf T.N scope.names).map (·.2)).contains i then
          (trE n { T with sc := L2.relS scope T.sc } elt).bind fun elt => (trEs n { T with sc := L2.relS scope T.sc } ifs).map fun ifs => .comp elt t ki.1 ki.2 ifs ((ownOf T.N scope.names).map (·.2))
        else none
    else none
end
/-- the value is no comprehension -/
def ncm : Expr → Bool
  | .ListComp _ _ _ _ => false
  | .SetComp _ _ _ _ => false
  | .DictComp _ _ _ _ _ => false
  | _ => true
/-- names that are stored from the right -/
def parC (T : Tc) : List Expr → List Expr → Bool
  | [.Name x p, .Name y q], [a, b] => (match T.sc.kind with | .function => true | _ => false) && decide (T.sc.names.lookup x = some .local) && decide (T.sc.names.lookup y = some .local) && (q.line == p.line) && decide (x ≠ y) && !([a, b].all (foldedForSure 8)) && !([a, b].all (constantsAlone 8))
  | [.Name x p, .Name y q, .Name z o], [a, b, c] => (match T.sc.kind with | .function => true | _ => false) && decide (T.sc.names.lookup x = some .local) && decide (T.sc.names.lookup y = some .local) && decide (T.sc.names.lookup z = some .local) && (q.line == p.line) && (o.line == p.line) && decide (x ≠ y) && decide (x ≠ z) && decide (y ≠ z) && !([a, b, c].all (foldedForSure 8)) && !([a, b, c].all (constantsAlone 8))
  | _, _ => false
/-- .. by places -/
def parT (T : Tc) : List Expr → Option (List Tg)
  | [] => some []
  | .Name x _ :: r => (ixOf x T.N).bind fun i => (parT T r).map fun ts => .nm i :: ts
  | _ :: _ => none
def isTup2 : Expr → Bool
  | .Tuple _ _ _ => true
  | _ => false
/-- an error class -/
def ecOf (T : Tc) (x : Str) : Option Nat := if glo T.sc x && okName x then (ixOf x T.cls).bind fun c => if T.ec.contains c then some c else none else none
mutual
/-- what an except suite says: displays of constants and of the error's what -/
def trX : Nat → Tc → Option (Str × Nat) → Expr → Option E
  | 0, _, _, _ => none
  | n + 1, T, q, e => match e with
    | .Constant c _ _ => match c with
      | .int i => some (.int i)
      | .bool b => some (.bl b)
      | .none => some .non
      | .str s => some (.str s)
      | _ => none
    | .UnaryOp .USub (.Constant (.int i) _ _) _ => some (.neg (.int i))
    | .Attribute (.Name x _) f _ => match q with
      | some (y, i) => if decide (x = y) && vis T.sc x && okName x && decide (f = "what") then some (.what i) else none
      | none => none
    | .Tuple es _ _ => (trXs n T q es).map .tup
    | .List es _ => (trXs n T q es).map .lst
    | _ => none
def trXs : Nat → Tc → Option (Str × Nat) → List Expr → Option (List E)
  | 0, _, _, _ => none
  | _ + 1, _, _, [] => some []
  | n + 1, T, q, e :: es => (trX n T q e).bind fun a => (trXs n T q es).map fun as => a :: as
end
def trXS (n : Nat) (T : Tc) (q : Option (Str × Nat)) : Stmt → Option S
  | .Return none _ => some (.ret .non)
  | .Return (some e) _ => (trX n T q e).map .ret
  | .Assign [.Name y _] e _ => if ncm e && loc T.sc y then (ixOf y T.N).bind fun i => (trX n T q e).map fun a => .asg (.nm i) a else none
  | .Pass _ => some .pass
  | _ => none
def trXB (n : Nat) (T : Tc) (q : Option (Str × Nat)) : List Stmt → Option (List S)
  | [] => some []
  | s :: ss => (trXS n T q s).bind fun a => (trXB n T q ss).map fun as => a :: as
def trH (n : Nat) (T : Tc) : ExceptHandler → Option Hd
  | .ExceptHandler (some (.Name x _)) none (b :: bs) _ => (ecOf T x).bind fun c => (trXB n T none (b :: bs)).map fun as => .mk c none as
  | .ExceptHandler (some (.Name x _)) (some y) (b :: bs) _ => if T.sc.names.lookup y = some .local then (ecOf T x).bind fun c => (ixOf y T.N).bind fun i => (trXB n T (some (y, i)) (b :: bs)).map fun as => .mk c (some i) as else none
  | _ => none
def trHs (n : Nat) (T : Tc) : List ExceptHandler → Option (List Hd)
  | [] => some []
  | h :: hs => (trH n T h).bind fun a => (trHs n T hs).map fun as => a :: as
mutual
def trS : Nat → Tc → Stmt → Option S
  | 0, _, _ => none
  | n + 1, T, st => match st with
    | .Pass _ => some .pass
    | .Break _ => some .brk
    | .Continue _ => some .cont
    | .Expr e _ => match e with
      | .Constant (.str _) _ _ => some .pass
      | e => if ncm e then (trE n T e).map .expr else none
    | .Return none _ => some (.ret .non)
    | .Return (some e) _ => match e with
      | .Name x p => (trE n T (.Name x p)).map fun e => match e with
        | .var i => if T.np ≤ i && vis T.sc x && decide (ixOf x T.N = some i) then .retV i else .ret (.var i)
        | e => .ret e
      | e => (trE n T e).map .ret
    | .Assign [tg] e _ => match tg with
      | .Name y _ => match e with
        | .ListComp _ _ _ _ => if T.sc.names.lookup y = some .local then (trTg n T tg).bind fun t => (trE n T e).map fun e => .asg t e else none
        | e => if ncm e then (trTg n T tg).bind fun t => (trE n T e).map fun e => .asg t e else none
      | .Tuple ts _ _ => match e with
        | .Tuple vs _ _ => if parC T ts vs then (parT T ts).bind fun t => (trEs n T vs).map fun as => .par t as else none
        | e => if isTup2 e then none else if ncm e then (trTg n T tg).bind fun t => (trE n T e).map fun e => .asg t e else none
      | .Subscript a i _ => (trE n T a).bind fun a => (trE n T i).bind fun i => (trE n T e).map fun e => .setI a i e
      | .Attribute (.Name x p) f _ => if okName x && vis T.sc x then (ixOf f T.att).bind fun f => (ixOf x T.N).bind fun i => (trE n T e).map fun e => .setA i f e else none
      | _ => none
    | .AugAssign (.Name x _) op e _ => if loc T.sc x then (ixOf x T.N).bind fun i => (trE n T e).map fun e => .aug i op e else none
    | .AugAssign (.Subscript a i _) op e _ => (trE n T a).bind fun a => (trE n T i).bind fun i => (trE n T e).map fun e => .augI a i op e
    | .If c a b _ => (trE n T c).bind fun c => (trB n T a).bind fun a => (trB n T b).map fun b => .ifS c a b
    | .While c b [] _ => (trE n T c).bind fun c => (trB n T b).map fun b => .whl c b
    | .For tg it b [] _ => (trTg n T tg).bind fun t => (trIt n T tg it).bind fun ki => (trB n T b).map fun b => .forS t ki.1 ki.2 b
    | .Raise (some (.Call (.Name x _) [a] [] _)) none _ => if T.exc then (ecOf T x).bind fun c => (trE n T a).map fun a => .raise c a else some .nev
    | .Raise _ _ _ => if T.exc then none else some .nev
    | .Try b (h :: hs) [] [] _ => if T.exc then (trB n T b).bind fun b => (trHs n T (h :: hs)).map fun hs => .tryS b hs else none
    | _ => none
def trB : Nat → Tc → List Stmt → Option (List S)
  | 0, _, _ => none
  | _ + 1, _, [] => some []
  | n + 1, T, s :: ss => (trS n T s).bind fun a => (trB n T ss).map fun as => a :: as
end
end Mv

namespace Mv
open PySem L2

/-- what is fixed for the whole text -/
structure Kc where
  K : PySem.W.Frag
  cA : Nat → Addr
  aN : Nat → Str
  n : Nat
  inj : ∀ a b, a < n → b < n → aN a = aN b → a = b
  /-- the ordinary classes -/
  oc : Nat → Prop
  cls : ∀ c, oc c → Cls K (cA c) ∧ ∀ f, f < n → NoAttr K (cA c) (aN f)
variable {k : Kc} {Z Z' Z1 Z2 : Addr → Prop} {H H' H1 H2 : Hp}

def SL (k : Kc) (Z : Addr → Prop) (H : Hp) (a : Addr) (xs : List V) : Prop := (Z a ∧ Rd H a (.lst xs)) ∨
    ∃ (o : Obj) (its : Array Value) (n : Nat), k.K.lookup a = some o ∧ o.cls = .type "list" ∧ o.dict = none ∧ o.data = .seq its n ∧ its.size ≤ sizeLine ∧ Vals xs its.toList
def ST (k : Kc) (Z : Addr → Prop) (H : Hp) (a : Addr) (xs : List V) : Prop := (Z a ∧ Rd H a (.tup xs)) ∨
    ∃ (o : Obj) (its : Array Value) (n : Nat), k.K.lookup a = some o ∧ o.cls = .type "tuple" ∧ o.data = .seq its n ∧ its.size ≤ sizeLine ∧ Vals xs its.toList
theorem SL.sq {a : Addr} {xs : List V} (h : SL k Z H a xs) : SqL k.K H a xs := h.imp And.right id
theorem ST.sq {a : Addr} {xs : List V} (h : ST k Z H a xs) : SqT k.K H a xs := h.imp And.right id

mutual
/-- d lies at v; the owned lists and instances of it are at the addresses listed -/
inductive RD (k : Kc) (Z : Addr → Prop) (H : Hp) : D → V → List Addr → Prop
  | non : RD k Z H .non .non []
  | bl (b : Bool) : RD k Z H (.bl b) (.bl b) []
  | int (i : Int) : RD k Z H (.int i) (.int i) []
  | str (s : Str) : RD k Z H (.str s) (.str s) []
  | tup {a : Addr} {vs : List V} {ds : List D} : ST k Z H a vs → RDs k Z H ds vs [] → RD k Z H (.tup ds) (.ref a) []
  | own {a : Addr} {vs : List V} {ds : List D} {os : List Addr} : H a = some (.lst vs) → RDs k Z H ds vs os → RD k Z H (.lst .own ds) (.ref a) (a :: os)
  | shr {a : Addr} {vs : List V} {ds : List D} : Z a → H a = some (.lst vs) → RDs k Z H ds vs [] → RD k Z H (.lst .shr ds) (.ref a) []
  | giv {a : Addr} {vs : List V} {ds : List D} : SL k Z H a vs → RDs k Z H ds vs [] → RD k Z H (.lst .giv ds) (.ref a) []
  | oown {a dx : Addr} {c : Nat} {fs : List (Str × V)} {ks : List Nat} {ds : List D} {os : List Addr} : H a = some (.ins (k.cA c) dx fs) → (fs.map (·.1) = ks.map k.aN ∧ ∀ x ∈ ks, x < k.n) ∧ k.oc c → RDs k Z H ds (fs.map (·.2)) os → RD k Z H (.obj .own c ks ds) (.ref a) (a :: os)
  | oshr {a dx : Addr} {c : Nat} {fs : List (Str × V)} {ks : List Nat} {ds : List D} : Z a → H a = some (.ins (k.cA c) dx fs) → (fs.map (·.1) = ks.map k.aN ∧ ∀ x ∈ ks, x < k.n) ∧ k.oc c → RDs k Z H ds (fs.map (·.2)) [] → RD k Z H (.obj .shr c ks ds) (.ref a) []
inductive RDs (k : Kc) (Z : Addr → Prop) (H : Hp) : List D → List V → List Addr → Prop
  | nil : RDs k Z H [] [] []
  | cons {d : D} {ds : List D} {v : V} {vs : List V} {o os : List Addr} : RD k Z H d v o → RDs k Z H ds vs os → RDs k Z H (d :: ds) (v :: vs) (o ++ os)
end

theorem SL.mono {a : Addr} {xs : List V} (hH : ∀ a o, H a = some o → Z a → H' a = some o) (hZ : ∀ a, Z a → Z' a) (h : SL k Z H a xs) : SL k Z' H' a xs := by
  rcases h with ⟨z, h⟩ | h
  · refine .inl ⟨hZ a z, ?_⟩
    rcases h with h | ⟨o, h⟩
    · exact .inl (hH _ _ h z)
    · exact .inr ⟨o, hH _ _ h z⟩
  · exact .inr h
theorem ST.mono {a : Addr} {xs : List V} (hH : ∀ a o, H a = some o → Z a → H' a = some o) (hZ : ∀ a, Z a → Z' a) (h : ST k Z H a xs) : ST k Z' H' a xs := by
  rcases h with ⟨z, h⟩ | h
  · refine .inl ⟨hZ a z, ?_⟩
    rcases h with h | ⟨o, h⟩
    · exact .inl (hH _ _ h z)
    · exact .inr ⟨o, hH _ _ h z⟩
  · exact .inr h
mutual
theorem RD.mono (hZ : ∀ a, Z a → Z' a) : ∀ (d : D) (v : V) (os : List Addr), (∀ a o, H a = some o → (Z a ∨ a ∈ os) → H' a = some o) → RD k Z H d v os → RD k Z' H' d v os
  | .non, _, _, _, h => by cases h; exact .non
  | .bl _, _, _, _, h => by cases h; exact .bl _
  | .int _, _, _, _, h => by cases h; exact .int _
  | .str _, _, _, _, h => by cases h; exact .str _
  | .tup ds, _, _, hH, h => by
    cases h with
    | tup h1 h2 => exact .tup (h1.mono (fun a o e z => hH a o e (.inl z)) hZ) (RDs.mono hZ ds _ _ (fun a o e z => hH a o e (z.elim .inl fun m => by cases m)) h2)
  | .lst _ ds, _, _, hH, h => by
    cases h with
    | own h1 h2 => exact .own (hH _ _ h1 (.inr List.mem_cons_self)) (RDs.mono hZ ds _ _ (fun a o e z => hH a o e (z.imp id (List.mem_cons_of_mem _))) h2)
    | shr z h1 h2 => exact .shr (hZ _ z) (hH _ _ h1 (.inl z)) (RDs.mono hZ ds _ _ (fun a o e z => hH a o e (z.elim .inl fun m => by cases m)) h2)
    | giv h1 h2 => exact .giv (h1.mono (fun a o e z => hH a o e (.inl z)) hZ) (RDs.mono hZ ds _ _ (fun a o e z => hH a o e (z.elim .inl fun m => by cases m)) h2)
  | .obj _ _ _ ds, _, _, hH, h => by
    cases h with
    | oown h1 e h2 => exact .oown (hH _ _ h1 (.inr List.mem_cons_self)) e (RDs.mono hZ ds _ _ (fun a o e z => hH a o e (z.imp id (List.mem_cons_of_mem _))) h2)
    | oshr z h1 e h2 => exact .oshr (hZ _ z) (hH _ _ h1 (.inl z)) e (RDs.mono hZ ds _ _ (fun a o e z => hH a o e (z.elim .inl fun m => by cases m)) h2)
  | .exn _ _, _, _, _, h => by cases h
theorem RDs.mono (hZ : ∀ a, Z a → Z' a) : ∀ (ds : List D) (vs : List V) (os : List Addr), (∀ a o, H a = some o → (Z a ∨ a ∈ os) → H' a = some o) → RDs k Z H ds vs os → RDs k Z' H' ds vs os
  | [], _, _, _, h => by cases h; exact .nil
  | d :: ds, _, _, hH, h => by
    cases h with
    | cons h1 h2 => exact .cons (RD.mono hZ d _ _ (fun a o e z => hH a o e (z.imp id (List.mem_append_left _))) h1) (RDs.mono hZ ds _ _ (fun a o e z => hH a o e (z.imp id (List.mem_append_right _))) h2)
end
mutual
theorem RD.dom : ∀ (d : D) (v : V) (os : List Addr), RD k Z H d v os → ∀ a ∈ os, ∃ o, H a = some o
  | .lst _ ds, _, _, h, a, ha => by
    cases h with
    | own h1 h2 => exact (List.mem_cons.mp ha).elim (fun e => ⟨_, e ▸ h1⟩) fun m => RDs.dom ds _ _ h2 a m
    | shr _ _ _ => cases ha
    | giv _ _ => cases ha
  | .obj _ _ _ ds, _, _, h, a, ha => by
    cases h with
    | oown h1 e h2 => exact (List.mem_cons.mp ha).elim (fun e => ⟨_, e ▸ h1⟩) fun m => RDs.dom ds _ _ h2 a m
    | oshr _ _ _ _ => cases ha
  | .non, _, _, h, _, ha => by cases h; cases ha
  | .bl _, _, _, h, _, ha => by cases h; cases ha
  | .int _, _, _, h, _, ha => by cases h; cases ha
  | .str _, _, _, h, _, ha => by cases h; cases ha
  | .tup _, _, _, h, _, ha => by cases h; cases ha
  | .exn _ _, _, _, h, _, _ => by cases h
theorem RDs.dom : ∀ (ds : List D) (vs : List V) (os : List Addr), RDs k Z H ds vs os → ∀ a ∈ os, ∃ o, H a = some o
  | [], _, _, h, a, ha => by cases h; cases ha
  | d :: ds, _, _, h, a, ha => by
    cases h with
    | cons h1 h2 => exact (List.mem_append.mp ha).elim (RD.dom d _ _ h1 a) (RDs.dom ds _ _ h2 a)
end
theorem RDs.length {ds : List D} {vs : List V} {os : List Addr} (h : RDs k Z H ds vs os) : vs.length = ds.length := by
  induction ds generalizing vs os with
  | nil => cases h; rfl
  | cons d ds ih =>
    cases h with
    | cons _ h2 => simp [ih h2]
theorem RD.noOwn {d : D} {v : V} {os : List Addr} (h : RD k Z H d v os) (n : d.owned = false) : os = [] := by
  cases h <;> first | rfl | cases n
theorem RDs.noOwn {ds : List D} {vs : List V} {os : List Addr} (h : RDs k Z H ds vs os) (n : Mv.noOwn ds = true) : os = [] := by
  induction ds generalizing vs os with
  | nil => cases h; rfl
  | cons d ds ih =>
    cases h with
    | cons h1 h2 =>
      simp only [Mv.noOwn, List.all_cons, Bool.and_eq_true, Bool.not_eq_true'] at n
      rw [h1.noOwn n.1, ih h2 n.2]
      rfl
/-- the item in the j-th place -/
theorem RDs.get {ds : List D} {vs : List V} {os : List Addr} {j : Nat} {d : D} (h : RDs k Z H ds vs os) (e : ds[j]? = some d) :
    ∃ v A o B, vs[j]? = some v ∧ os = A ++ (o ++ B) ∧ RD k Z H d v o ∧ ∀ d' v' o', RD k Z H d' v' o' → RDs k Z H (ds.set j d') (vs.set j v') (A ++ (o' ++ B)) := by
  induction ds generalizing vs os j with
  | nil => simp at e
  | cons x ds ih =>
    cases h with
    | @cons _ _ v vs o os h1 h2 =>
      cases j with
      | zero =>
        have e : x = d := Option.some.inj e
        subst e
        exact ⟨v, [], o, os, rfl, rfl, h1, fun d' v' o' r => show RDs k Z H (d' :: ds) (v' :: vs) (o' ++ os) from .cons r h2⟩
      | succ j =>
        obtain ⟨v', A, o', B, e1, e2, e3, e4⟩ := ih h2 e
        subst e2
        exact ⟨v', o ++ A, o', B, e1, by rw [List.append_assoc], e3, fun d' w o2 r => by rw [List.append_assoc]; exact .cons h1 (e4 d' w o2 r)⟩
theorem RDs.app {ds es : List D} {vs us : List V} {os ps : List Addr} (h : RDs k Z H ds vs os) (g : RDs k Z H es us ps) : RDs k Z H (ds ++ es) (vs ++ us) (os ++ ps) := by
  induction ds generalizing vs os with
  | nil => cases h; exact g
  | cons d ds ih =>
    cases h with
    | cons h1 h2 => rw [List.append_assoc]; exact .cons h1 (ih h2)
theorem RDs.split {ds es : List D} {us : List V} {os : List Addr} (h : RDs k Z H (ds ++ es) us os) : ∃ u1 u2 o1 o2, us = u1 ++ u2 ∧ os = o1 ++ o2 ∧ RDs k Z H ds u1 o1 ∧ RDs k Z H es u2 o2 := by
  induction ds generalizing us os with
  | nil => exact ⟨[], us, [], os, rfl, rfl, .nil, h⟩
  | cons d ds ih =>
    cases h with
    | cons h1 h2 =>
      obtain ⟨u1, u2, o1, o2, rfl, rfl, g1, g2⟩ := ih h2
      exact ⟨_ :: u1, u2, _ ++ o1, o2, rfl, by rw [List.append_assoc], .cons h1 g1, g2⟩

-- sharing: the owned places join Z
mutual
theorem RD.frz (hZ : ∀ a, Z a → Z' a) : ∀ (d : D) (v : V) (os : List Addr), (∀ a ∈ os, Z' a) → RD k Z H d v os → RD k Z' H d.frz v []
  | .non, _, _, _, h => by cases h; exact .non
  | .bl _, _, _, _, h => by cases h; exact .bl _
  | .int _, _, _, _, h => by cases h; exact .int _
  | .str _, _, _, _, h => by cases h; exact .str _
  | .tup ds, _, _, _, h => by
    cases h with
    | tup h1 h2 => exact .tup (h1.mono (fun _ _ e _ => e) hZ) (RDs.mono hZ ds _ _ (fun _ _ e _ => e) h2)
  | .lst _ ds, _, _, hm, h => by
    cases h with
    | own h1 h2 => exact .shr (hm _ List.mem_cons_self) h1 (RDs.frz hZ ds _ _ (fun a m => hm a (List.mem_cons_of_mem _ m)) h2)
    | shr z h1 h2 => exact .shr (hZ _ z) h1 (RDs.frz hZ ds _ _ hm h2)
    | giv h1 h2 => exact .giv (h1.mono (fun _ _ e _ => e) hZ) (RDs.frz hZ ds _ _ hm h2)
  | .obj _ _ _ ds, _, _, hm, h => by
    cases h with
    | oown h1 e h2 => exact .oshr (hm _ List.mem_cons_self) h1 e (RDs.frz hZ ds _ _ (fun a m => hm a (List.mem_cons_of_mem _ m)) h2)
    | oshr z h1 e h2 => exact .oshr (hZ _ z) h1 e (RDs.frz hZ ds _ _ hm h2)
  | .exn _ _, _, _, _, h => by cases h
theorem RDs.frz (hZ : ∀ a, Z a → Z' a) : ∀ (ds : List D) (vs : List V) (os : List Addr), (∀ a ∈ os, Z' a) → RDs k Z H ds vs os → RDs k Z' H (D.frzs ds) vs []
  | [], _, _, _, h => by cases h; exact .nil
  | d :: ds, _, _, hm, h => by
    cases h with
    | cons h1 h2 => exact .cons (o := []) (RD.frz hZ d _ _ (fun a m => hm a (List.mem_append_left _ m)) h1) (RDs.frz hZ ds _ _ (fun a m => hm a (List.mem_append_right _ m)) h2)
end

mutual
theorem RD.frz_id : ∀ (d : D) (v : V), RD k Z H d v [] → d.frz = d
  | .non, _, _ => rfl
  | .bl _, _, _ => rfl
  | .int _, _, _ => rfl
  | .str _, _, _ => rfl
  | .tup _, _, _ => rfl
  | .lst _ ds, _, h => by
    cases h with
    | shr _ _ h2 => rw [D.frz_lst, RDs.frz_id ds _ h2]; rfl
    | giv _ h2 => rw [D.frz_lst, RDs.frz_id ds _ h2]; rfl
  | .obj _ _ _ ds, _, h => by
    cases h with
    | oshr _ _ _ h2 => rw [D.frz_obj, RDs.frz_id ds _ h2]; rfl
  | .exn _ _, _, h => by cases h
theorem RDs.frz_id : ∀ (ds : List D) (vs : List V), RDs k Z H ds vs [] → D.frzs ds = ds
  | [], _, _ => rfl
  | d :: ds, vs, h => by
    obtain ⟨v, us, os, o, e1, e2, h1, h2⟩ : ∃ v us os o, vs = v :: us ∧ [] = o ++ os ∧ RD k Z H d v o ∧ RDs k Z H ds us os := by
      generalize hz : ([] : List Addr) = z at h
      cases h with
      | cons h1 h2 => exact ⟨_, _, _, _, rfl, rfl, h1, h2⟩
    obtain ⟨rfl, rfl⟩ := List.append_eq_nil_iff.mp e2.symm
    rw [D.frzs_cons, RD.frz_id d _ h1, RDs.frz_id ds _ h2]
end

/-! ### the frame's slots -/
/-- sx: the exception of the suite that runs: its object, its dict -/
inductive RS (k : Kc) (sx : Option (Addr × Addr)) (Z : Addr → Prop) (H : Hp) : En → St → List Addr → Prop
  | nil : RS k sx Z H [] [] []
  | emp {x : Option V} {r : En} {s : St} {os : List Addr} : RS k sx Z H r s os → RS k sx Z H (none :: r) (x :: s) os
  | val {d : D} {v : V} {r : En} {s : St} {o os : List Addr} : RD k Z H d v o → RS k sx Z H r s os → RS k sx Z H (some d :: r) (some v :: s) (o ++ os)
  | ex {c : Nat} {w : D} {a d : Addr} {v : V} {r : En} {s : St} {os : List Addr} : sx = some (a, d) → Z d → H d = some (.xd [("what", v)]) → RD k Z H w v [] → RS k sx Z H r s os → RS k sx Z H (some (.exn c w) :: r) (some (.ref a) :: s) os
variable {sx : Option (Addr × Addr)}
theorem RS.mono (hZ : ∀ a, Z a → Z' a) {r : En} {s : St} {os : List Addr} (hH : ∀ a o, H a = some o → (Z a ∨ a ∈ os) → H' a = some o) (h : RS k sx Z H r s os) : RS k sx Z' H' r s os := by
  induction h with
  | nil => exact .nil
  | emp _ ih => exact .emp (ih hH)
  | val h1 _ ih => exact .val (RD.mono hZ _ _ _ (fun a o e z => hH a o e (z.imp id (List.mem_append_left _))) h1) (ih fun a o e z => hH a o e (z.imp id (List.mem_append_right _)))
  | ex e z hd h1 _ ih => exact .ex e (hZ _ z) (hH _ _ hd (.inl z)) (RD.mono hZ _ _ _ (fun a o e z => hH a o e (z.elim .inl fun m => by cases m)) h1) (ih hH)
theorem RS.dom {r : En} {s : St} {os : List Addr} (h : RS k sx Z H r s os) : ∀ a ∈ os, ∃ o, H a = some o := by
  induction h with
  | nil => intro a ha; cases ha
  | emp _ ih => exact ih
  | val h1 _ ih => exact fun a ha => (List.mem_append.mp ha).elim (RD.dom _ _ _ h1 a) (ih a)
  | ex _ _ _ _ _ ih => exact ih
theorem RS.length {r : En} {s : St} {os : List Addr} (h : RS k sx Z H r s os) : s.length = r.length := by
  induction h with
  | nil => rfl
  | emp _ ih => simp [ih]
  | val _ _ ih => simp [ih]
  | ex _ _ _ _ _ ih => simp [ih]
/-- a slot that holds a value -/
theorem RS.get {r : En} {s : St} {os : List Addr} {i : Nat} {d : D} (h : RS k sx Z H r s os) (e : slot r i = some d) (ne : ∀ c w, d ≠ .exn c w) :
    ∃ v A o B, s[i]? = some (some v) ∧ os = A ++ (o ++ B) ∧ RD k Z H d v o ∧ (∀ x, RS k sx Z H (r.set i none) (s.set i x) (A ++ B)) ∧ ∀ d' v' o', RD k Z H d' v' o' → RS k sx Z H (r.set i (some d')) (s.set i (some v')) (A ++ (o' ++ B)) := by
  induction h generalizing i with
  | nil => simp [slot] at e
  | @emp x r s os h ih =>
    cases i with
    | zero => simp [slot] at e
    | succ i =>
      obtain ⟨v, A, o, B, e1, e2, e3, e4, e5⟩ := ih (i := i) e
      exact ⟨v, A, o, B, e1, e2, e3, fun x => .emp (e4 x), fun d' v' o' q => .emp (e5 d' v' o' q)⟩
  | @val d0 v0 r s o0 os h1 h ih =>
    cases i with
    | zero =>
      have e : d0 = d := by simpa [slot] using e
      subst e
      exact ⟨v0, [], o0, os, rfl, rfl, h1, fun x => .emp h, fun d' v' o' q => show RS k sx Z H (some d' :: r) (some v' :: s) (o' ++ os) from .val q h⟩
    | succ i =>
      obtain ⟨v, A, o, B, e1, e2, e3, e4, e5⟩ := ih (i := i) e
      subst e2
      exact ⟨v, o0 ++ A, o, B, e1, by rw [List.append_assoc], e3, fun x => by rw [List.append_assoc]; exact .val h1 (e4 x), fun d' v' o' q => by rw [List.append_assoc]; exact .val h1 (e5 d' v' o' q)⟩
  | @ex c w a dd v0 r s os ex z hd h1 h ih =>
    cases i with
    | zero =>
      have e : D.exn c w = d := by simpa [slot] using e
      exact absurd e.symm (ne c w)
    | succ i =>
      obtain ⟨v, A, o, B, e1, e2, e3, e4, e5⟩ := ih (i := i) e
      exact ⟨v, A, o, B, e1, e2, e3, fun x => .ex ex z hd h1 (e4 x), fun d' v' o' q => .ex ex z hd h1 (e5 d' v' o' q)⟩
/-- any slot is set -/
theorem RS.put {r : En} {s : St} {os : List Addr} {i : Nat} (h : RS k sx Z H r s os) (hi : i < r.length) :
    ∃ A o B, os = A ++ (o ++ B) ∧ (∀ x, RS k sx Z H (r.set i none) (s.set i x) (A ++ B)) ∧ ∀ d' v' o', RD k Z H d' v' o' → RS k sx Z H (r.set i (some d')) (s.set i (some v')) (A ++ (o' ++ B)) := by
  induction h generalizing i with
  | nil => simp at hi
  | @emp x r s os h ih =>
    cases i with
    | zero => exact ⟨[], [], os, rfl, fun x => .emp h, fun d' v' o' q => show RS k sx Z H (some d' :: r) (some v' :: s) (o' ++ os) from .val q h⟩
    | succ i =>
      obtain ⟨A, o, B, e2, e4, e5⟩ := ih (i := i) (by simpa using hi)
      exact ⟨A, o, B, e2, fun x => .emp (e4 x), fun d' v' o' q => .emp (e5 d' v' o' q)⟩
  | @val d0 v0 r s o0 os h1 h ih =>
    cases i with
    | zero => exact ⟨[], o0, os, rfl, fun x => .emp h, fun d' v' o' q => show RS k sx Z H (some d' :: r) (some v' :: s) (o' ++ os) from .val q h⟩
    | succ i =>
      obtain ⟨A, o, B, e2, e4, e5⟩ := ih (i := i) (by simpa using hi)
      subst e2
      exact ⟨o0 ++ A, o, B, by rw [List.append_assoc], fun x => by rw [List.append_assoc]; exact .val h1 (e4 x), fun d' v' o' q => by rw [List.append_assoc]; exact .val h1 (e5 d' v' o' q)⟩
  | @ex c w a dd v0 r s os ex z hd h1 h ih =>
    cases i with
    | zero => exact ⟨[], [], os, rfl, fun x => .emp h, fun d' v' o' q => show RS k sx Z H (some d' :: r) (some v' :: s) (o' ++ os) from .val q h⟩
    | succ i =>
      obtain ⟨A, o, B, e2, e4, e5⟩ := ih (i := i) (by simpa using hi)
      exact ⟨A, o, B, e2, fun x => .ex ex z hd h1 (e4 x), fun d' v' o' q => .ex ex z hd h1 (e5 d' v' o' q)⟩

structure Rel (k : Kc) (sx : Option (Addr × Addr)) (Z : Addr → Prop) (r : En) (s : St) (H : Hp) (os : List Addr) : Prop where
  rs : RS k sx Z H r s os
  nd : os.Nodup
  nz : ∀ a ∈ os, ¬ Z a
  zd : ∀ a, Z a → ∃ o, H a = some o
/-- what a step may do -/
structure Step (Z Z' : Addr → Prop) (H H' : Hp) (os os' : List Addr) : Prop where
  keep : ∀ a o, H a = some o → a ∉ os → H' a = some o
  zs : ∀ a, Z a → Z' a
  zn : ∀ a, Z' a → Z a ∨ a ∈ os ∨ H a = none
  on : ∀ a ∈ os', a ∈ os ∨ H a = none
theorem Step.refl {os : List Addr} : Step Z Z H H os os := ⟨fun _ _ h _ => h, fun _ h => h, fun _ h => .inl h, fun _ h => .inl h⟩
theorem Step.trans {o0 o1 o2 : List Addr} (a : Step Z Z1 H H1 o0 o1) (b : Step Z1 Z2 H1 H2 o1 o2) : Step Z Z2 H H2 o0 o2 where
  keep := fun x o h n => b.keep x o (a.keep x o h n) fun m => (a.on x m).elim n fun e => by rw [h] at e; cases e
  zs := fun x h => b.zs x (a.zs x h)
  zn := fun x h => by
    rcases b.zn x h with h | h | h
    · exact a.zn x h
    · exact .inr (a.on x h)
    · cases q : H x with
      | none => exact .inr (.inr rfl)
      | some o =>
        by_cases m : x ∈ o0
        · exact .inr (.inl m)
        · rw [a.keep x o q m] at h; cases h
  on := fun x h => by
    rcases b.on x h with h | h
    · exact a.on x h
    · cases q : H x with
      | none => exact .inr rfl
      | some o =>
        by_cases m : x ∈ o0
        · exact .inl m
        · rw [a.keep x o q m] at h; cases h
theorem Step.less {o0 o1 o2 : List Addr} (a : Step Z Z' H H' o0 o1) (h : ∀ x ∈ o2, x ∈ o1) : Step Z Z' H H' o0 o2 := ⟨a.keep, a.zs, a.zn, fun x m => a.on x (h x m)⟩
theorem Step.more {o0 o1 o2 : List Addr} (a : Step Z Z' H H' o0 o1) (h : ∀ x ∈ o0, x ∈ o2) : Step Z Z' H H' o2 o1 := ⟨fun x o e n => a.keep x o e fun m => n (h x m), a.zs, fun x m => (a.zn x m).imp id (Or.imp (h x) id), fun x m => (a.on x m).imp (h x) id⟩
/-- values that are held meanwhile -/
structure Tmp (k : Kc) (Z : Addr → Prop) (H : Hp) (ds : List D) (vs : List V) (od os : List Addr) : Prop where
  rd : RDs k Z H ds vs od
  nd : (od ++ os).Nodup
  nz : ∀ a ∈ od, ¬ Z a
theorem Tmp.carry {ds : List D} {vs : List V} {od os os' : List Addr} (T : Tmp k Z H ds vs od os) (hz : ∀ a ∈ os, ¬ Z a) (S : Step Z Z' H H' os os') (nd : os'.Nodup) : Tmp k Z' H' ds vs od os' := by
  obtain ⟨h1, h2, h3⟩ := List.nodup_append.mp T.nd
  have out : ∀ a ∈ od, a ∉ os := fun a m n => h3 a m a n rfl
  have dm := RDs.dom _ _ _ T.rd
  refine ⟨RDs.mono S.zs _ _ _ (fun a o e z => S.keep a o e ?_) T.rd, List.nodup_append.mpr ⟨h1, nd, fun a m b n e => ?_⟩, fun a m z => ?_⟩
  · rcases z with z | z
    · exact fun m => hz a m z
    · exact out a z
  · subst e
    obtain ⟨o, q⟩ := dm a m
    rcases S.on a n with x | x
    · exact out a m x
    · rw [q] at x; cases x
  · obtain ⟨o, q⟩ := dm a m
    rcases S.zn a z with x | x | x
    · exact T.nz a m x
    · exact out a m x
    · rw [q] at x; cases x
end Mv

namespace Mv
open PySem L2

section
variable {k : Kc} {sx : Option (Addr × Addr)} {W : WX} {Z Z' Z1 Z2 : Addr → Prop} {H H' H1 H2 : Hp} {σ : St} {r r1 r2 : En} {os os' os1 os2 od : List Addr}

theorem Step.wide (t : List Addr) (a : Step Z Z' H H' os os') : Step Z Z' H H' (t ++ os) (t ++ os') := ⟨fun x o e n => a.keep x o e fun m => n (List.mem_append_right _ m), a.zs, fun x m => (a.zn x m).imp id (Or.imp (List.mem_append_right _) id), fun x m => by
  rcases List.mem_append.mp m with m | m
  · exact .inl (List.mem_append_left _ m)
  · exact (a.on x m).imp (List.mem_append_right _) id⟩

/-- an exception as it flies -/
structure ExV (k : Kc) (Z : Addr → Prop) (H : Hp) (c : Nat) (w : D) (cls : Value) (d : Option Addr) : Prop where
  cl : cls = .ref (k.cA c)
  ex : ∃ a v, d = some a ∧ H a = some (.xd [("what", v)]) ∧ Z a ∧ RD k Z H w v []
def PostX (k : Kc) (sx : Option (Addr × Addr)) (W : WX) (Z : Addr → Prop) (H : Hp) (os : List Addr) (σ : St) (c : Nat) (w : D) (r : En) : Prop :=
  ∀ cls d H' Z' os', Rel k sx Z' r σ H' os' → ExV k Z' H' c w cls d → Step Z Z' H H' os os' → W cls d σ H'
def Sat (k : Kc) (sx : Option (Addr × Addr)) (W : WX) (Z : Addr → Prop) (H : Hp) (os : List Addr) (σ : St) {α : Type} (o : Out α) (ok : α → En → Prop) : Prop := match o with
  | .ok a r => ok a r
  | .exc c w r => PostX k sx W Z H os σ c w r
  | .bad => False
theorem Sat.bind {α β : Type} {x : Out α} {f : α → En → Out β} {ok : β → En → Prop} : Sat k sx W Z H os σ (x.bind f) ok ↔ Sat k sx W Z H os σ x fun a r => Sat k sx W Z H os σ (f a r) ok := by
  cases x <;> exact Iff.rfl
theorem PostX.base {c : Nat} {w : D} (h : PostX k sx W Z H os σ c w r) (S : Step Z Z1 H H1 os (od ++ os1)) : PostX k sx W Z1 H1 os1 σ c w r :=
  fun cls d H' Z' os' R e T => h cls d H' Z' os' R e ((S.trans (T.wide od)).less fun x m => List.mem_append_right _ m)
theorem Sat.base {α : Type} {x : Out α} {ok : α → En → Prop} (h : Sat k sx W Z H os σ x ok) (S : Step Z Z1 H H1 os (od ++ os1)) : Sat k sx W Z1 H1 os1 σ x ok := by
  cases x with
  | ok a r => exact h
  | exc c w r => exact PostX.base h S
  | bad => exact h
theorem Sat.imp {α : Type} {x : Out α} {ok ok' : α → En → Prop} (h : Sat k sx W Z H os σ x ok) (f : ∀ a r, ok a r → ok' a r) : Sat k sx W Z H os σ x ok' := by
  cases x with
  | ok a r => exact f a r h
  | exc c w r => exact h
  | bad => exact h
theorem Sat.of {α : Type} {x : Option α} {ok : α → En → Prop} (h : Sat k sx W Z H os σ (Out.of x r) ok) : ∃ a, x = some a ∧ ok a r := by
  cases x with
  | none => exact h.elim
  | some a => exact ⟨a, rfl, h⟩

def PostV (k : Kc) (sx : Option (Addr × Addr)) (Z : Addr → Prop) (H : Hp) (os : List Addr) (σ : St) (Q : VK) (d : D) (r : En) : Prop :=
  ∀ v H' Z' od os', Rel k sx Z' r σ H' os' → RD k Z' H' d v od → (od ++ os').Nodup → (∀ a ∈ od, ¬ Z' a) → Step Z Z' H H' os (od ++ os') → Q v H'
def PostT (k : Kc) (sx : Option (Addr × Addr)) (Z : Addr → Prop) (H : Hp) (os : List Addr) (σ : St) (Q : Bool → Hp → Prop) (b : Bool) (r : En) : Prop :=
  ∀ H' Z' os', Rel k sx Z' r σ H' os' → Step Z Z' H H' os os' → Q b H'
def PostL (k : Kc) (sx : Option (Addr × Addr)) (Z : Addr → Prop) (H : Hp) (os : List Addr) (σ : St) (Q : List V → Hp → Prop) (ds : List D) (r : En) : Prop :=
  ∀ vs H' Z' od os', Rel k sx Z' r σ H' os' → RDs k Z' H' ds vs od → (od ++ os').Nodup → (∀ a ∈ od, ¬ Z' a) → Step Z Z' H H' os (od ++ os') → Q vs H'
/-- an expression's reading -/
def tV (k : Kc) (sx : Option (Addr × Addr)) (W : WX) (e : En → Out D) : TE := fun σ H Q => ∃ Z r os, Rel k sx Z r σ H os ∧ Sat k sx W Z H os σ (e r) (PostV k sx Z H os σ Q)
def tT (k : Kc) (sx : Option (Addr × Addr)) (W : WX) (e : En → Out Bool) : TT := fun σ H Q => ∃ Z r os, Rel k sx Z r σ H os ∧ Sat k sx W Z H os σ (e r) (PostT k sx Z H os σ Q)
def tL (k : Kc) (sx : Option (Addr × Addr)) (W : WX) (e : En → Out (List D)) : TA := fun σ H Q => ∃ Z r os, Rel k sx Z r σ H os ∧ Sat k sx W Z H os σ (e r) (PostL k sx Z H os σ Q)

theorem tV_then {β : Type} {e : En → Out D} {f : D → En → Out β} {OK : β → En → Prop} {Q : VK} (R : Rel k sx Z r σ H os) (h : Sat k sx W Z H os σ ((e r).bind f) OK)
    (next : ∀ d r1 v H1 Z1 od os1, Rel k sx Z1 r1 σ H1 os1 → RD k Z1 H1 d v od → (od ++ os1).Nodup → (∀ a ∈ od, ¬ Z1 a) → Step Z Z1 H H1 os (od ++ os1) → Sat k sx W Z H os σ (f d r1) OK → Q v H1) : tV k sx W e σ H Q :=
  ⟨Z, r, os, R, (Sat.bind.mp h).imp fun d r1 q v H1 Z1 od os1 R1 rd nd nz S => next d r1 v H1 Z1 od os1 R1 rd nd nz S q⟩
theorem tT_then {β : Type} {e : En → Out Bool} {f : Bool → En → Out β} {OK : β → En → Prop} {Q : Bool → Hp → Prop} (R : Rel k sx Z r σ H os) (h : Sat k sx W Z H os σ ((e r).bind f) OK)
    (next : ∀ b r1 H1 Z1 os1, Rel k sx Z1 r1 σ H1 os1 → Step Z Z1 H H1 os os1 → Sat k sx W Z H os σ (f b r1) OK → Q b H1) : tT k sx W e σ H Q :=
  ⟨Z, r, os, R, (Sat.bind.mp h).imp fun b r1 q H1 Z1 os1 R1 S => next b r1 H1 Z1 os1 R1 S q⟩
theorem tL_then {β : Type} {e : En → Out (List D)} {f : List D → En → Out β} {OK : β → En → Prop} {Q : List V → Hp → Prop} (R : Rel k sx Z r σ H os) (h : Sat k sx W Z H os σ ((e r).bind f) OK)
    (next : ∀ ds r1 vs H1 Z1 od os1, Rel k sx Z1 r1 σ H1 os1 → RDs k Z1 H1 ds vs od → (od ++ os1).Nodup → (∀ a ∈ od, ¬ Z1 a) → Step Z Z1 H H1 os (od ++ os1) → Sat k sx W Z H os σ (f ds r1) OK → Q vs H1) : tL k sx W e σ H Q :=
  ⟨Z, r, os, R, (Sat.bind.mp h).imp fun d r1 q v H1 Z1 od os1 R1 rd nd nz S => next d r1 v H1 Z1 od os1 R1 rd nd nz S q⟩

/-- a value that is held meanwhile -/
theorem RD.carry {d : D} {v : V} (h : RD k Z H d v od) (nd : (od ++ os).Nodup) (nz : ∀ a ∈ od, ¬ Z a) (R : Rel k sx Z r σ H os) (S : Step Z Z' H H' os os') (nd' : os'.Nodup) :
    RD k Z' H' d v od ∧ (od ++ os').Nodup ∧ ∀ a ∈ od, ¬ Z' a := by
  have T : Tmp k Z H [d] [v] od os := ⟨by have q := RDs.cons h .nil; rwa [List.append_nil] at q, nd, nz⟩
  have T' := T.carry R.nz S nd'
  refine ⟨?_, T'.nd, T'.nz⟩
  cases T'.rd with
  | cons h1 h2 =>
    cases h2
    rwa [List.append_nil]
theorem RDs.carry {ds : List D} {vs : List V} (h : RDs k Z H ds vs od) (nd : (od ++ os).Nodup) (nz : ∀ a ∈ od, ¬ Z a) (R : Rel k sx Z r σ H os) (S : Step Z Z' H H' os os') (nd' : os'.Nodup) :
    RDs k Z' H' ds vs od ∧ (od ++ os').Nodup ∧ ∀ a ∈ od, ¬ Z' a :=
  have T' := (Tmp.mk h nd nz).carry R.nz S nd'
  ⟨T'.rd, T'.nd, T'.nz⟩
theorem RDs.one {d : D} {v : V} (h : RD k Z H d v od) : RDs k Z H [d] [v] od := by have q := RDs.cons h .nil; rwa [List.append_nil] at q
theorem RDs.of1 {d : D} {vs : List V} (h : RDs k Z H [d] vs od) : ∃ v, vs = [v] ∧ RD k Z H d v od := by
  cases h with
  | cons h1 h2 =>
    cases h2
    exact ⟨_, rfl, by rwa [List.append_nil]⟩

/-- a new list at p -/
theorem new_lst {ds : List D} {vs : List V} {p : Addr} (R : Rel k sx Z r σ H os) (T : RDs k Z H ds vs od) (nd : (od ++ os).Nodup) (nz : ∀ a ∈ od, ¬ Z a) (hp : H p = none) :
    Rel k sx Z r σ (upd H p (.lst vs)) os ∧ RD k Z (upd H p (.lst vs)) (.lst .own ds) (.ref p) (p :: od) ∧ ((p :: od) ++ os).Nodup ∧ (∀ a ∈ p :: od, ¬ Z a) ∧ Step Z Z H (upd H p (.lst vs)) (od ++ os) ((p :: od) ++ os) := by
  have kp : ∀ a o, H a = some o → upd H p (.lst vs) a = some o := fun a o e => by rw [upd_ne (ne_of_none e hp)]; exact e
  have zp : ¬ Z p := fun z => by obtain ⟨o, e⟩ := R.zd p z; rw [hp] at e; cases e
  have np : p ∉ od ++ os := fun m => by
    rcases List.mem_append.mp m with m | m
    · obtain ⟨o, e⟩ := RDs.dom _ _ _ T p m; rw [hp] at e; cases e
    · obtain ⟨o, e⟩ := R.rs.dom p m; rw [hp] at e; cases e
  refine ⟨⟨R.rs.mono (fun _ z => z) fun a o e _ => kp a o e, R.nd, R.nz, fun a z => ?_⟩, .own upd_same (RDs.mono (fun _ z => z) _ _ _ (fun a o e _ => kp a o e) T), List.nodup_cons.mpr ⟨np, nd⟩, fun a m => ?_, fun a o e _ => kp a o e, fun _ z => z, fun _ z => .inl z, fun a m => ?_⟩
  · obtain ⟨o, e⟩ := R.zd a z
    exact ⟨o, kp a o e⟩
  · rcases List.mem_cons.mp m with m | m
    · rw [m]; exact zp
    · exact nz a m
  · rcases List.mem_cons.mp (show a ∈ p :: (od ++ os) from m) with m | m
    · rw [m]; exact .inr hp
    · exact .inl m
/-- things are shared -/
theorem Rel.share (R : Rel k sx Z r σ H os) (nd : (od ++ os).Nodup) (dm : ∀ a ∈ od, ∃ o, H a = some o) : Rel k sx (fun a => Z a ∨ a ∈ od) r σ H os ∧ Step Z (fun a => Z a ∨ a ∈ od) H H (od ++ os) os := by
  obtain ⟨h1, h2, h3⟩ := List.nodup_append.mp nd
  refine ⟨⟨R.rs.mono (fun _ z => .inl z) fun a o e _ => e, R.nd, fun a m z => ?_, fun a z => ?_⟩, fun a o e _ => e, fun _ z => .inl z, fun a z => ?_, fun a m => .inl (List.mem_append_right _ m)⟩
  · rcases z with z | z
    · exact R.nz a m z
    · exact h3 a z a m rfl
  · rcases z with z | z
    · exact R.zd a z
    · exact dm a z
  · rcases z with z | z
    · exact .inl z
    · exact .inr (.inl (List.mem_append_left _ z))
/-- a new tuple at p -/
theorem new_tup {ds : List D} {vs : List V} {p : Addr} (R : Rel k sx Z r σ H os) (T : RDs k Z H ds vs od) (nd : (od ++ os).Nodup) (hp : H p = none) :
    ∃ Z', Rel k sx Z' r σ (upd H p (.tup vs)) os ∧ RD k Z' (upd H p (.tup vs)) (.tup (D.frzs ds)) (.ref p) [] ∧ Step Z Z' H (upd H p (.tup vs)) (od ++ os) ([] ++ os) := by
  have kp : ∀ a o, H a = some o → upd H p (.tup vs) a = some o := fun a o e => by rw [upd_ne (ne_of_none e hp)]; exact e
  obtain ⟨h1, h2, h3⟩ := List.nodup_append.mp nd
  have dm := RDs.dom _ _ _ T
  refine ⟨fun a => Z a ∨ a ∈ od ∨ a = p, ⟨R.rs.mono (fun _ z => .inl z) fun a o e _ => kp a o e, R.nd, fun a m z => ?_, fun a z => ?_⟩, .tup (vs := vs) (.inl ⟨.inr (.inr rfl), .inl upd_same⟩) ?_, fun a o e _ => kp a o e, fun _ z => .inl z, fun a z => ?_, fun a m => .inl (List.mem_append_right _ m)⟩
  · rcases z with z | z | z
    · exact R.nz a m z
    · exact h3 a z a m rfl
    · obtain ⟨o, e⟩ := R.rs.dom a m
      rw [z, hp] at e; cases e
  · rcases z with z | z | z
    · obtain ⟨o, e⟩ := R.zd a z
      exact ⟨o, kp a o e⟩
    · obtain ⟨o, e⟩ := dm a z
      exact ⟨o, kp a o e⟩
    · rw [z]; exact ⟨_, upd_same⟩
  · have q := RDs.frz (Z' := fun a => Z a ∨ a ∈ od ∨ a = p) (fun a z => .inl z) ds vs od (fun a m => .inr (.inl m)) T
    exact RDs.mono (fun _ z => z) _ _ _ (fun a o e _ => kp a o e) q
  · rcases z with z | z | z
    · exact .inl z
    · exact .inr (.inl (List.mem_append_left _ z))
    · rw [z]; exact .inr (.inr hp)
end

theorem _root_.L2.PE.weak {X : Cx} {e : Expr} {t t' : TE} (h : PE X e t) (w : ∀ σ H Q, t' σ H Q → t σ H Q) : PE X e t' := ⟨fun pins s σ H Q I hq => h.run pins s σ H Q I (w σ H Q hq)⟩
theorem _root_.L2.PT.weak {X : Cx} {e : Expr} {t t' : TT} (h : PT X e t) (w : ∀ σ H Q, t' σ H Q → t σ H Q) : PT X e t' := ⟨fun pins s σ H Q I hq => h.run pins s σ H Q I (w σ H Q hq)⟩
theorem _root_.L2.PW.weak {X : Cx} {e : Expr} {t t' : TT} (h : PW X e t) (w : ∀ σ H Q, t' σ H Q → t σ H Q) : PW X e t' := ⟨fun wh pins s σ H Q I hq => h.run wh pins s σ H Q I (w σ H Q hq)⟩
theorem _root_.L2.PA.weak {X : Cx} {es : List Expr} {t t' : TA} (h : PA X es t) (w : ∀ σ H Q, t' σ H Q → t σ H Q) : PA X es t' := ⟨fun p pins s σ H Q I hq => h.run p pins s σ H Q I (w σ H Q hq)⟩
theorem _root_.L2.PS.weak {X : Cx} {e : Stmt} {t t' : TS} (h : PS X e t) (w : ∀ D σ H, t' D σ H → t D σ H) : PS X e t' := ⟨fun pins s σ H Q I hq => h.run pins s σ H Q I (w Q σ H hq)⟩
theorem _root_.L2.PSs.weak {X : Cx} {e : List Stmt} {t t' : TS} (h : PSs X e t) (w : ∀ D σ H, t' D σ H → t D σ H) : PSs X e t' := ⟨fun pins s σ H Q I hq => h.run pins s σ H Q I (w Q σ H hq)⟩
theorem _root_.L2.OpR.no {X : Cx} {f : Value → Value → Sem Value} : OpR X f (fun _ _ _ _ => False) := fun _ _ _ _ _ _ _ _ _ _ _ _ q => q.elim

section
variable {X : Cx} {k : Kc} {sx : Option (Addr × Addr)} {W : WX} {pos : Pos}
theorem sv_tC {c : V} {d : D} {e : Expr} (h : PE X e (tC c)) (rd : ∀ Z H, RD k Z H d c []) : PE X e (tV k sx W fun r => .ok d r) := by
  refine h.weak fun σ H Q ⟨Z, r, os, R, q⟩ => ?_
  exact q c H Z [] os R (rd Z H) R.nd (fun _ m => by cases m) Step.refl

/-- what an operator wants, whatever the values are -/
def rBin (K : PySem.W.Frag) (op : Operator) : R2 := match op with
  | .Add => fun x y H Q => (rI0 (fun i j => .int (i + j)) x y H Q ∨ (∃ i k, x = .int i ∧ y = .bl k ∧ Q (.int (i + PyProof.Rows.b2i k)) H)) ∨ (∃ i j, x = .str i ∧ y = .str j ∧ i.length + j.length ≤ sizeLine ∧ Q (.str (i ++ j)) H) ∨ rCat x y H Q ∨ rCatA K x y H Q
  | .Sub => rI0 fun i j => .int (i - j)
  | .Mult => fun x y H Q => rI CMul (fun i j => .int (i * j)) x y H Q ∨ rI CMulW (fun i j => .int (i * j)) x y H Q ∨ rRep x y H Q
  | .FloorDiv => rI CDivW fun i j => .int (i / j)
  | .Mod => rI (fun _ j => 0 < j) fun i j => .int (i % j)
  | .Pow => rI CPow fun i j => .int (i ^ j.toNat)
  | _ => fun _ _ _ _ => False
theorem opr_bin (op : Operator) : OpR X (binaryOp op) (rBin X.K op) := by
  cases op <;> first
    | exact OpR.no
    | exact op_sub
    | exact op_fdivW
    | exact op_mod
    | exact op_pow
    | exact op_mul.or (op_mulW.or op_rep)
    | exact (op_add.or op_add_ib).or (op_add_str.or (op_cat.or op_catA))

theorem log_ok {i j : Int} (h : mulOk i j = true) : CMul i j ∨ CMulW i j := by
  unfold mulOk at h
  simp only [Bool.or_eq_true, decide_eq_true_eq] at h
  rcases h with (h | h) | h
  · exact .inl (.inl h)
  · exact .inl (.inr h)
  · exact .inr h
variable {Z Z1 : Addr → Prop} {H H1 : Hp} {σ : St} {r r1 : En} {os os1 oa ob : List Addr} {K : PySem.W.Frag}
/-- what is wanted of a value that comes next, after a step -/
theorem PostV.at {Q : VK} {d : D} {v : V} {od : List Addr} (h : PostV k sx Z H os σ Q d r) (S : Step Z Z1 H H1 os os1) {Z2 : Addr → Prop} {H2 : Hp} {os2 : List Addr} (S2 : Step Z1 Z2 H1 H2 os1 (od ++ os2)) (R : Rel k sx Z2 r σ H2 os2) (rd : RD k Z2 H2 d v od) (nd : (od ++ os2).Nodup) (nz : ∀ a ∈ od, ¬ Z2 a) : Q v H2 :=
  h v H2 Z2 od os2 R rd nd nz (S.trans S2)
theorem PostV.atom {Q : VK} {d : D} {v : V} (h : PostV k sx Z H os σ Q d r) {t : List Addr} (S : Step Z Z1 H H1 os (t ++ os1)) (R : Rel k sx Z1 r σ H1 os1) (rd : RD k Z1 H1 d v []) : Q v H1 :=
  h v H1 Z1 [] os1 R rd R.nd (fun _ m => by cases m) (S.less fun x m => List.mem_append_right _ m)
theorem slE : (sizeLine : Nat) = 16777216 := sizeLine_eq
theorem lst_at {kd : Kd} {ds : List D} {v : V} {od : List Addr} (h : RD k Z H (.lst kd ds) v od) (ng : kd ≠ .giv) : ∃ a vs o2, v = .ref a ∧ H a = some (.lst vs) ∧ RDs k Z H ds vs o2 ∧ ∀ x ∈ o2, x ∈ od := by
  cases h with
  | own h1 h2 => exact ⟨_, _, _, rfl, h1, h2, fun x m => List.mem_cons_of_mem _ m⟩
  | shr _ h1 h2 => exact ⟨_, _, _, rfl, h1, h2, fun x m => m⟩
  | giv _ _ => exact absurd rfl ng
theorem binD_ok {op : Operator} {da db d : D} {x y : V} {Q : VK} (e : binD op da db = some d) (R : Rel k sx Z1 r σ H1 os1) (ra : RD k Z1 H1 da x oa) (rb : RD k Z1 H1 db y ob)
    (nd : (oa ++ (ob ++ os1)).Nodup) (S : Step Z Z1 H H1 os (oa ++ (ob ++ os1))) (h : PostV k sx Z H os σ Q d r) : rBin k.K op x y H1 Q := by
  have S' : Step Z Z1 H H1 os ((oa ++ ob) ++ os1) := by rw [List.append_assoc]; exact S
  have fin : ∀ {v : V} {d : D}, PostV k sx Z H os σ Q d r → RD k Z1 H1 d v [] → Q v H1 := fun h rd => h.atom S' R rd
  have fresh : ∀ {ds : List D} {vs : List V} {p : Addr}, PostV k sx Z H os σ Q (.lst .own ds) r → RDs k Z1 H1 ds vs [] → H1 p = none → Q (.ref p) (upd H1 p (.lst vs)) := fun {ds vs p} h t hp => by
    obtain ⟨R2, rd, n2, z2, S2⟩ := new_lst (od := []) R t R.nd (fun _ m => by cases m) hp
    exact h _ _ _ _ _ R2 rd n2 z2 ((S'.less fun x m => List.mem_append_right _ m).trans S2)
  unfold binD at e
  split at e
  · -- ints
    rename_i i j
    cases ra
    cases rb
    cases q : intOp op i j with
    | none => rw [q] at e; cases e
    | some n =>
      rw [q] at e
      cases e
      have g := fin h (.int _)
      unfold intOp at q
      split at q
      · cases q; exact .inl (.inl ⟨i, j, rfl, rfl, g⟩)
      · cases q; exact ⟨i, j, rfl, rfl, g⟩
      · split at q
        · cases q
          rename_i hm
          rcases log_ok hm with hm | hm
          · exact .inl ⟨i, j, rfl, rfl, hm, g⟩
          · exact .inr (.inl ⟨i, j, rfl, rfl, hm, g⟩)
        · cases q
      · split at q
        · cases q; exact ⟨i, j, rfl, rfl, by assumption, g⟩
        · cases q
      · split at q
        · cases q; exact ⟨i, j, rfl, rfl, by assumption, g⟩
        · cases q
      · split at q
        · cases q; exact ⟨i, j, rfl, rfl, by assumption, g⟩
        · cases q
      · cases q
  · rename_i i b
    cases ra
    cases rb
    split at e
    · cases e
      refine .inl (.inr ⟨i, b, rfl, rfl, ?_⟩)
      have g := fin h (.int _)
      cases b <;> exact g
    · cases e
  · rename_i a b
    cases ra
    cases rb
    split at e
    · split at e
      · cases e
        exact .inr (.inl ⟨a, b, rfl, rfl, by rw [slE]; assumption, fin h (.str _)⟩)
      · cases e
    · cases e
  · rename_i k1 a k2 b
    split at e
    · split at e
      · rename_i c
        cases e
        simp only [Bool.and_eq_true, bne_iff_ne, decide_eq_true_eq] at c
        obtain ⟨⟨⟨⟨c1, c2⟩, c3⟩, c4⟩, c5⟩ := c
        obtain ⟨p, vs, o1, rfl, e1, t1, _⟩ := lst_at ra c1
        obtain ⟨q, us, o2, rfl, e2, t2, _⟩ := lst_at rb c2
        have z1 := t1.noOwn c3
        have z2 := t2.noOwn c4
        subst z1 z2
        refine .inr (.inr (.inl ⟨p, q, vs, us, rfl, rfl, e1, e2, by rw [slE, t1.length, t2.length]; exact c5, fun l hl => ?_⟩))
        exact fresh h (t1.app t2) hl
      · cases e
    · cases e
  · rename_i k1 a n
    split at e
    · split at e
      · rename_i c
        cases e
        simp only [Bool.and_eq_true, bne_iff_ne, decide_eq_true_eq] at c
        obtain ⟨⟨⟨c1, c2⟩, c3, c4⟩, c5⟩ := c
        obtain ⟨p, vs, o1, rfl, e1, t1, _⟩ := lst_at ra c1
        have z1 := t1.noOwn c2
        subst z1
        cases rb
        refine .inr (.inr ⟨p, n, vs, rfl, rfl, e1, c3, c4, by rw [slE, t1.length]; exact c5, fun l hl => ?_⟩)
        have rep : ∀ m : Nat, RDs k Z1 H1 (List.replicate m a).flatten (List.replicate m vs).flatten [] := by
          intro m
          induction m with
          | zero => exact .nil
          | succ m ih => rw [List.replicate_succ, List.replicate_succ, List.flatten_cons, List.flatten_cons]; exact t1.app ih
        exact fresh h (rep _) hl
      · cases e
    · cases e
  · rename_i a b
    split at e
    · split at e
      · rename_i c
        cases e
        cases ra with
        | @tup p vs _ h1 t1 =>
          cases rb with
          | @tup q us _ h2 t2 =>
            have c' := of_decide_eq_true c
            refine .inr (.inr (.inr ⟨p, q, vs, us, rfl, rfl, h1.sq, h2.sq, by rw [slE, t1.length, t2.length]; exact c', ?_⟩))
            refine ⟨fun z => ?_, fun _ z => ?_, fun _ _ p hp => ?_⟩
            · subst z
              cases t1
              exact fin h (.tup h2 t2)
            · subst z
              cases t2
              rw [List.append_nil] at h
              exact fin h (.tup h1 t1)
            · obtain ⟨Z2, R2, rd, S2⟩ := new_tup (od := []) R (t1.app t2) R.nd hp
              rw [RDs.frz_id _ _ (t1.app t2)] at rd
              exact h _ _ _ _ _ R2 rd R2.nd (fun _ m => by cases m) ((S'.less fun x m => List.mem_append_right _ m).trans S2)
      · cases e
    · cases e
  · cases e
end
end Mv

namespace Mv
open PySem L2

section
variable {k : Kc} {sx : Option (Addr × Addr)} {W : WX} {Z Z' Z1 Z2 : Addr → Prop} {H H' H1 H2 : Hp} {σ : St} {r r1 r2 : En} {os os' os1 os2 od : List Addr}

/-! ### places -/
inductive CP (k : Kc) (H : Hp) : V → List St1 → V → Prop
  | nil {v : V} : CP k H v [] v
  | ixl {a : Addr} {vs : List V} {i : Int} {j : Nat} {u w : V} {p : List St1} : SqL k.K H a vs → ixN vs.length i = some j → vs[j]? = some u → CP k H u p w → CP k H (.ref a) (.ix i :: p) w
  | ixt {a : Addr} {vs : List V} {i : Int} {j : Nat} {u w : V} {p : List St1} : SqT k.K H a vs → ixN vs.length i = some j → vs[j]? = some u → CP k H u p w → CP k H (.ref a) (.ix i :: p) w
  | fl {a dx : Addr} {c f : Nat} {fs : List (Str × V)} {u w : V} {p : List St1} : H a = some (.ins (k.cA c) dx fs) → k.oc c ∧ f < k.n → fs.lookup (k.aN f) = some u → CP k H u p w → CP k H (.ref a) (.fl f :: p) w

theorem RDs.focus {ds : List D} {vs : List V} {j : Nat} {d : D} (h : RDs k Z H ds vs os) (e : ds[j]? = some d) :
    ∃ v A o B, vs[j]? = some v ∧ os = A ++ (o ++ B) ∧ RD k Z H d v o ∧ ∀ Z' H', (∀ a, Z a → Z' a) → (∀ a o, H a = some o → (Z a ∨ a ∈ A ∨ a ∈ B) → H' a = some o) → ∀ d' o', RD k Z' H' d' v o' → RDs k Z' H' (ds.set j d') vs (A ++ (o' ++ B)) := by
  induction ds generalizing vs os j with
  | nil => simp at e
  | cons x ds ih =>
    cases h with
    | @cons _ _ v vs o os h1 h2 =>
      cases j with
      | zero =>
        have e : x = d := Option.some.inj e
        subst e
        exact ⟨v, [], o, os, rfl, rfl, h1, fun Z' H' hZ hH d' o' q => show RDs k Z' H' (d' :: ds) (v :: vs) (o' ++ os) from .cons q (RDs.mono hZ _ _ _ (fun a o e z => hH a o e (z.imp id .inr)) h2)⟩
      | succ j =>
        obtain ⟨v', A, o', B, e1, e2, e3, e4⟩ := ih h2 e
        subst e2
        refine ⟨v', o ++ A, o', B, e1, by rw [List.append_assoc], e3, fun Z' H' hZ hH d' o2 q => ?_⟩
        rw [List.append_assoc]
        exact .cons (RD.mono hZ _ _ _ (fun a o e z => hH a o e (z.imp id fun m => .inl (List.mem_append_left _ m))) h1) (e4 Z' H' hZ (fun a o e z => hH a o e (z.imp id (Or.imp (List.mem_append_right _) id))) d' o2 q)
theorem RS.focusN {i : Nat} {d : D} (h : RS k sx Z H r σ os) (e : slot r i = some d) (ne : ∀ c w, d ≠ .exn c w) :
    ∃ v A o B, σ[i]? = some (some v) ∧ os = A ++ (o ++ B) ∧ RD k Z H d v o ∧ RS k sx Z H (r.set i none) σ (A ++ B) ∧ ∀ Z' H', (∀ a, Z a → Z' a) → (∀ a o, H a = some o → (Z a ∨ a ∈ A ∨ a ∈ B) → H' a = some o) → ∀ d' o', RD k Z' H' d' v o' → RS k sx Z' H' (r.set i (some d')) σ (A ++ (o' ++ B)) := by
  induction h generalizing i with
  | nil => simp [slot] at e
  | @emp x r s os h ih =>
    cases i with
    | zero => simp [slot] at e
    | succ i =>
      obtain ⟨v, A, o, B, e1, e2, e3, e0, e4⟩ := ih (i := i) e
      exact ⟨v, A, o, B, e1, e2, e3, .emp e0, fun Z' H' hZ hH d' o' q => .emp (e4 Z' H' hZ hH d' o' q)⟩
  | @val d0 v0 r s o0 os h1 h ih =>
    cases i with
    | zero =>
      have e : d0 = d := by simpa [slot] using e
      subst e
      exact ⟨v0, [], o0, os, rfl, rfl, h1, .emp h, fun Z' H' hZ hH d' o' q => show RS k sx Z' H' (some d' :: r) (some v0 :: s) (o' ++ os) from .val q (h.mono hZ fun a o e z => hH a o e (z.imp id .inr))⟩
    | succ i =>
      obtain ⟨v, A, o, B, e1, e2, e3, e0, e4⟩ := ih (i := i) e
      subst e2
      refine ⟨v, o0 ++ A, o, B, e1, by rw [List.append_assoc], e3, by rw [List.append_assoc]; exact .val h1 e0, fun Z' H' hZ hH d' o' q => ?_⟩
      rw [List.append_assoc]
      exact .val (RD.mono hZ _ _ _ (fun a o e z => hH a o e (z.imp id fun m => .inl (List.mem_append_left _ m))) h1) (e4 Z' H' hZ (fun a o e z => hH a o e (z.imp id (Or.imp (List.mem_append_right _) id))) d' o' q)
  | @ex c w a dd v0 r s os ex z hd h1 h ih =>
    cases i with
    | zero =>
      have e : D.exn c w = d := by simpa [slot] using e
      exact absurd e.symm (ne c w)
    | succ i =>
      obtain ⟨v, A, o, B, e1, e2, e3, e0, e4⟩ := ih (i := i) e
      exact ⟨v, A, o, B, e1, e2, e3, .ex ex z hd h1 e0, fun Z' H' hZ hH d' o' q => .ex ex (hZ _ z) (hH _ _ hd (.inl z)) (RD.mono hZ _ _ _ (fun a o e z => hH a o e (z.elim .inl fun m => by cases m)) h1) (e4 Z' H' hZ hH d' o' q)⟩

theorem RS.focus {i : Nat} {d : D} (h : RS k sx Z H r σ os) (e : slot r i = some d) (ne : ∀ c w, d ≠ .exn c w) :
    ∃ v A o B, σ[i]? = some (some v) ∧ os = A ++ (o ++ B) ∧ RD k Z H d v o ∧ ∀ Z' H', (∀ a, Z a → Z' a) → (∀ a o, H a = some o → (Z a ∨ a ∈ A ∨ a ∈ B) → H' a = some o) → ∀ d' o', RD k Z' H' d' v o' → RS k sx Z' H' (r.set i (some d')) σ (A ++ (o' ++ B)) := by
  obtain ⟨v, A, o, B, e1, e2, e3, _, e4⟩ := h.focusN e ne
  exact ⟨v, A, o, B, e1, e2, e3, e4⟩

theorem lookup_zip : ∀ {os : List Addr} {ks : List Nat} {ds : List D} {fs : List (Str × V)} {f : Nat} {d : D}, RDs k Z H ds (fs.map (·.2)) os → fs.map (·.1) = ks.map k.aN ∧ (∀ x ∈ ks, x < k.n) → (ks.zip ds).lookup f = some d →
    ∃ (j : Nat) (v : V), ds[j]? = some d ∧ (fs.map (·.2))[j]? = some v ∧ fs.lookup (k.aN f) = some v ∧ idxOf f ks = some j ∧ f < k.n := by
  intro os ks
  induction ks generalizing os with
  | nil => intro ds fs f d _ _ h; simp at h
  | cons x ks ih =>
    intro ds fs f d T e h
    obtain ⟨e, lt⟩ := e
    cases fs with
    | nil => simp at e
    | cons fv fs =>
      obtain ⟨n, v⟩ := fv
      cases ds with
      | nil => simp at h
      | cons d0 ds =>
        cases T with
        | cons h1 h2 =>
          simp only [List.map_cons, List.cons.injEq] at e
          by_cases c : x = f
          · subst c
            have h' : d0 = d := by simpa using h
            subst h'
            refine ⟨0, v, rfl, rfl, ?_, by simp [idxOf], lt _ List.mem_cons_self⟩
            rw [e.1]
            simp
          · have c1 : (f == x) = false := by simpa using fun z => c z.symm
            have h' : (ks.zip ds).lookup f = some d := by simpa [List.lookup_cons, c1] using h
            obtain ⟨j, w, q1, q2, q3, q4, q5⟩ := ih h2 ⟨e.2, fun a m => lt a (List.mem_cons_of_mem _ m)⟩ h'
            refine ⟨j + 1, w, q1, q2, ?_, by simp [idxOf, c, q4], q5⟩
            have c2 : (k.aN f == n) = false := by
              rw [e.1]
              simpa using fun z : k.aN f = k.aN x => c (k.inj x f (lt _ List.mem_cons_self) q5 z.symm)
            rw [List.lookup_cons, c2]
            exact q3

theorem itemD_int {d d1 : D} {i : Int} (q : itemD d (.int i) = some d1) : (∃ kd ds j, d = .lst kd ds ∧ ixN ds.length i = some j ∧ ds[j]? = some d1) ∨ ∃ ds j, d = .tup ds ∧ ixN ds.length i = some j ∧ ds[j]? = some d1 := by
  cases d with
  | lst kd ds =>
    obtain ⟨j, q3, q4⟩ := Option.bind_eq_some_iff.mp (show (ixN ds.length i).bind (fun j => ds[j]?) = some d1 from q)
    exact .inl ⟨kd, ds, j, rfl, q3, q4⟩
  | tup ds =>
    obtain ⟨j, q3, q4⟩ := Option.bind_eq_some_iff.mp (show (ixN ds.length i).bind (fun j => ds[j]?) = some d1 from q)
    exact .inr ⟨ds, j, rfl, q3, q4⟩
  | _ => cases q
theorem fldD_of {d d1 : D} {f : Nat} (q : fldD d f = some d1) : ∃ kd c ks ds, d = .obj kd c ks ds ∧ (ks.zip ds).lookup f = some d1 := by
  cases d with
  | obj kd c ks ds => exact ⟨kd, c, ks, ds, rfl, q⟩
  | _ => cases q
/-- the thing at the end of a way -/
theorem RD.way : ∀ (p : List St1) (d : D) (v : V) (os : List Addr) (e : D), RD k Z H d v os → getP d p = some e →
    ∃ w A o B, CP k H v p w ∧ os = A ++ (o ++ B) ∧ RD k Z H e w o ∧
      ∀ (g : D → Option D) (d' : D), updP g d p = some d' → ∃ e', g e = some e' ∧
        ∀ Z' H', (∀ a, Z a → Z' a) → (∀ a o, H a = some o → (Z a ∨ a ∈ A ∨ a ∈ B) → H' a = some o) → ∀ o', RD k Z' H' e' w o' → RD k Z' H' d' v (A ++ (o' ++ B)) := by
  intro p
  induction p with
  | nil =>
    intro d v os e h q
    cases q
    exact ⟨v, [], os, [], .nil, by simp, h, fun g d' q => ⟨d', q, fun Z' H' _ _ o' r => by simpa using r⟩⟩
  | cons s p ih =>
    intro d v os e h q
    have q : (getS d s).bind (fun e => getP e p) = some e := q
    obtain ⟨d1, q1, q2⟩ := Option.bind_eq_some_iff.mp q
    cases s with
    | ix i =>
      have q1 : itemD d (.int i) = some d1 := q1
      rcases itemD_int q1 with ⟨kd, ds, j, rfl, q3, q4⟩ | ⟨ds, j, rfl, q3, q4⟩
      · have key : ∀ {a : Addr} {vs : List V} {os : List Addr}, SqL k.K H a vs → RDs k Z H ds vs os → ∃ w A o B, CP k H (.ref a) (.ix i :: p) w ∧ os = A ++ (o ++ B) ∧ RD k Z H e w o ∧
            ∀ (g : D → Option D) (d1' : D), updP g d1 p = some d1' → ∃ e', g e = some e' ∧
              ∀ Z' H', (∀ a, Z a → Z' a) → (∀ a o, H a = some o → (Z a ∨ a ∈ A ∨ a ∈ B) → H' a = some o) → ∀ o', RD k Z' H' e' w o' → RDs k Z' H' (ds.set j d1') vs (A ++ (o' ++ B)) := by
          intro a vs os hs T
          obtain ⟨u, A1, o1, B1, f1, f2, f3, f4⟩ := T.focus q4
          obtain ⟨w, A2, o2, B2, g1, g2, g3, g4⟩ := ih d1 u o1 e f3 q2
          subst f2
          subst g2
          refine ⟨w, A1 ++ A2, o2, B2 ++ B1, .ixl hs (by rw [T.length]; exact q3) f1 g1, by simp [List.append_assoc], g3, fun g d1' qq => ?_⟩
          obtain ⟨e', he, hr⟩ := g4 g d1' qq
          refine ⟨e', he, fun Z' H' hZ hH o' rd => ?_⟩
          have r1 := hr Z' H' hZ (fun a o e z => hH a o e (z.imp id (Or.imp (List.mem_append_right _) (List.mem_append_left _)))) o' rd
          have r2 := f4 Z' H' hZ (fun a o e z => hH a o e (z.imp id (Or.imp (List.mem_append_left _) (List.mem_append_right _)))) d1' _ r1
          simpa [List.append_assoc] using r2
        cases h with
        | @own a vs _ os h1 T =>
          obtain ⟨w, A, o, B, c1, c2, c3, c4⟩ := key (SqL.of h1) T
          subst c2
          refine ⟨w, a :: A, o, B, c1, rfl, c3, fun g d' qq => ?_⟩
          have qq : ((ixN ds.length i).bind fun j => (ds[j]?).bind fun e => (updP g e p).map fun e' => D.lst .own (ds.set j e')) = some d' := qq
          rw [q3] at qq
          simp only [Option.bind_some, q4, Option.map_eq_some_iff] at qq
          obtain ⟨d1', z1, rfl⟩ := qq
          obtain ⟨e', he, hr⟩ := c4 g d1' z1
          exact ⟨e', he, fun Z' H' hZ hH o' rd => .own (hH _ _ h1 (.inr (.inl List.mem_cons_self))) (hr Z' H' hZ (fun b o e z => hH b o e (z.imp id (Or.imp (List.mem_cons_of_mem _) id))) o' rd)⟩
        | @shr a vs _ z h1 T =>
          obtain ⟨w, A, o, B, c1, c2, c3, c4⟩ := key (SqL.of h1) T
          exact ⟨w, A, o, B, c1, c2, c3, fun g d' qq => nomatch qq⟩
        | @giv a vs _ h1 T =>
          obtain ⟨w, A, o, B, c1, c2, c3, c4⟩ := key h1.sq T
          exact ⟨w, A, o, B, c1, c2, c3, fun g d' qq => nomatch qq⟩
      · cases h with
        | @tup a vs _ h1 T =>
          obtain ⟨u, A1, o1, B1, f1, f2, f3, f4⟩ := T.focus q4
          obtain ⟨w, A2, o2, B2, g1, g2, g3, g4⟩ := ih d1 u o1 e f3 q2
          subst g2
          exact ⟨w, A1 ++ A2, o2, B2 ++ B1, .ixt h1.sq (by rw [T.length]; exact q3) f1 g1, by simpa [List.append_assoc] using f2, g3, fun g d' qq => nomatch qq⟩
    | fl f =>
      have q1 : fldD d f = some d1 := q1
      obtain ⟨kd, c, ks, ds, rfl, q1⟩ := fldD_of q1
      · cases h with
        | @oown a dx _ fs _ _ os h1 en T =>
          obtain ⟨j, u0, l1, l2, l3, l4, l5⟩ := lookup_zip T en.1 q1
          obtain ⟨u, A1, o1, B1, f1, f2, f3, f4⟩ := T.focus l1
          rw [l2] at f1
          have eu : u = u0 := (Option.some.inj f1).symm
          subst eu
          obtain ⟨w, A2, o2, B2, g1, g2, g3, g4⟩ := ih d1 u o1 e f3 q2
          subst f2
          subst g2
          refine ⟨w, a :: (A1 ++ A2), o2, B2 ++ B1, .fl h1 ⟨en.2, l5⟩ l3 g1, by simp [List.append_assoc], g3, fun g d' qq => ?_⟩
          have qq : ((idxOf f ks).bind fun j => (ds[j]?).bind fun e => (updP g e p).map fun e' => D.obj .own c ks (ds.set j e')) = some d' := qq
          rw [l4] at qq
          simp only [Option.bind_some, l1, Option.map_eq_some_iff] at qq
          obtain ⟨d1', z1, rfl⟩ := qq
          obtain ⟨e', he, hr⟩ := g4 g d1' z1
          refine ⟨e', he, fun Z' H' hZ hH o' rd => ?_⟩
          have r1 := hr Z' H' hZ (fun a o e z => hH a o e (z.imp id (Or.imp (fun m => List.mem_cons_of_mem _ (List.mem_append_right _ m)) (List.mem_append_left _)))) o' rd
          have r2 := f4 Z' H' hZ (fun a o e z => hH a o e (z.imp id (Or.imp (fun m => List.mem_cons_of_mem _ (List.mem_append_left _ m)) (List.mem_append_right _)))) d1' _ r1
          have r3 := RD.oown (hH _ _ h1 (.inr (.inl List.mem_cons_self))) en r2
          simpa [List.append_assoc] using r3
        | @oshr a dx _ fs _ _ z h1 en T =>
          obtain ⟨j, u0, l1, l2, l3, l4, l5⟩ := lookup_zip T en.1 q1
          obtain ⟨u, A1, o1, B1, f1, f2, f3, f4⟩ := T.focus l1
          rw [l2] at f1
          have eu : u = u0 := (Option.some.inj f1).symm
          subst eu
          obtain ⟨w, A2, o2, B2, g1, g2, g3, g4⟩ := ih d1 u o1 e f3 q2
          subst g2
          exact ⟨w, A1 ++ A2, o2, B2 ++ B1, .fl h1 ⟨en.2, l5⟩ l3 g1, by simpa [List.append_assoc] using f2, g3, fun g d' qq => nomatch qq⟩
end
end Mv

namespace Mv
open PySem L2

section
variable {k : Kc} {sx : Option (Addr × Addr)} {W : WX} {Z Z' Z0 Z1 Z2 : Addr → Prop} {H H' H0 H1 H2 : Hp} {σ : St} {r r1 r2 : En} {os os' os0 os1 os2 od : List Addr}

theorem getP_snoc : ∀ (p : List St1) (d : D) (s : St1), getP d (p ++ [s]) = (getP d p).bind fun e => getS e s
  | [], d, s => by show (getS d s).bind (fun e => some e) = getS d s; cases getS d s <;> rfl
  | t :: p, d, s => by
    show (getS d t).bind (fun e => getP e (p ++ [s])) = ((getS d t).bind fun e => getP e p).bind fun e => getS e s
    cases getS d t with
    | none => rfl
    | some e => exact getP_snoc p e s
theorem updP_snoc (g : D → Option D) (s : St1) : ∀ (p : List St1) (d : D), updP g d (p ++ [s]) = updP (fun e => updP g e [s]) d p
  | [], d => rfl
  | t :: p, d => by
    cases d with
    | lst kd ds => cases kd <;> cases t <;> first | rfl | simp only [List.cons_append, updP, updP_snoc g s p]
    | obj kd c ks ds => cases kd <;> cases t <;> first | rfl | simp only [List.cons_append, updP, updP_snoc g s p]
    | _ => simp [updP]

/-- a place of the frame, as it lies: the thing e there, at w; what a change there does -/
structure WayAt (k : Kc) (sx : Option (Addr × Addr)) (Z : Addr → Prop) (r : En) (σ : St) (H : Hp) (os : List Addr) (x : Nat) (p : List St1) (e : D) (w : V) : Prop where
  inn : ∃ d v A0 B0 A o B, slot r x = some d ∧ (∀ c w, d ≠ .exn c w) ∧ σ[x]? = some (some v) ∧ getP d p = some e ∧ os = A0 ++ ((A ++ (o ++ B)) ++ B0) ∧ RD k Z H d v (A ++ (o ++ B)) ∧ RD k Z H e w o ∧
    (∀ g d', updP g d p = some d' → ∃ e', g e = some e' ∧
      ∀ Z' H', (∀ a, Z a → Z' a) → (∀ a o, H a = some o → (Z a ∨ a ∈ A ∨ a ∈ B) → H' a = some o) → ∀ o', RD k Z' H' e' w o' → RD k Z' H' d' v (A ++ (o' ++ B))) ∧
    (∀ Z' H', (∀ a, Z a → Z' a) → (∀ a o, H a = some o → (Z a ∨ a ∈ A0 ∨ a ∈ B0) → H' a = some o) → ∀ d' o', RD k Z' H' d' v o' → RS k sx Z' H' (r.set x (some d')) σ (A0 ++ (o' ++ B0))) ∧
    RS k sx Z H (r.set x none) σ (A0 ++ B0)
theorem WayAt.ex {x : Nat} {p : List St1} {e : D} {w : V} (h : WayAt k sx Z r σ H os x p e w) :
    ∃ d A o B, slot r x = some d ∧ (∀ c w, d ≠ .exn c w) ∧ getP d p = some e ∧ os = A ++ (o ++ B) ∧ RD k Z H e w o ∧ ∀ g d', updP g d p = some d' → ∃ e', g e = some e' ∧
      ∀ Z' H', (∀ a, Z a → Z' a) → (∀ a o, H a = some o → (Z a ∨ a ∈ A ∨ a ∈ B) → H' a = some o) → ∀ o', RD k Z' H' e' w o' → RS k sx Z' H' (r.set x (some d')) σ (A ++ (o' ++ B)) := by
  obtain ⟨d, v, A0, B0, A, o, B, e1, ne, e2, e3, e4, e5, e6, e7, e8, _⟩ := h.inn
  subst e4
  refine ⟨d, A0 ++ A, o, B ++ B0, e1, ne, e3, by simp [List.append_assoc], e6, fun g d' q => ?_⟩
  obtain ⟨e', z1, z2⟩ := e7 g d' q
  refine ⟨e', z1, fun Z' H' hZ hH o' rd => ?_⟩
  have r1 := z2 Z' H' hZ (fun a o e z => hH a o e (z.imp id (Or.imp (List.mem_append_right _) (List.mem_append_left _)))) o' rd
  have r2 := e8 Z' H' hZ (fun a o e z => hH a o e (z.imp id (Or.imp (List.mem_append_left _) (List.mem_append_right _)))) d' _ r1
  simpa [List.append_assoc] using r2
theorem WayAt.nil {x : Nat} {d : D} (h : RS k sx Z H r σ os) (e : slot r x = some d) (ne : ∀ c w, d ≠ .exn c w) : ∃ v, σ[x]? = some (some v) ∧ WayAt k sx Z r σ H os x [] d v := by
  obtain ⟨v, A, o, B, e1, e2, e3, e0, e4⟩ := h.focusN e ne
  exact ⟨v, e1, ⟨d, v, A, B, [], o, [], e, ne, e1, rfl, by simpa using e2, by simpa using e3, e3, fun g d' q => ⟨d', q, fun Z' H' _ _ o' rd => by simpa using rd⟩, e4, e0⟩⟩
theorem WayAt.snoc {x : Nat} {p : List St1} {s : St1} {e e' : D} {u : V} (h : WayAt k sx Z r σ H os x p e u) (q : getS e s = some e') : ∃ w, CP k H u [s] w ∧ WayAt k sx Z r σ H os x (p ++ [s]) e' w := by
  obtain ⟨d, v, A0, B0, A, o, B, e1, ne, e2, e3, e4, e5, e6, e7, e8, e9⟩ := h.inn
  have gs : getP e [s] = some e' := by show (getS e s).bind (fun e => some e) = some e'; rw [q]; rfl
  obtain ⟨w, A2, o2, B2, c1, c2, c3, c4⟩ := RD.way [s] e u o e' e6 gs
  subst c2
  subst e4
  refine ⟨w, c1, ⟨d, v, A0, B0, A ++ A2, o2, B2 ++ B, e1, ne, e2, by rw [getP_snoc, e3]; exact q, by simp [List.append_assoc], by simpa [List.append_assoc] using e5, c3, fun g d' z => ?_, e8, e9⟩⟩
  rw [updP_snoc] at z
  obtain ⟨e1', z1, z2⟩ := e7 _ d' z
  obtain ⟨e2', y1, y2⟩ := c4 g e1' z1
  refine ⟨e2', y1, fun Z' H' hZ hH o' rd => ?_⟩
  have r1 := y2 Z' H' hZ (fun a o e z => hH a o e (z.imp id (Or.imp (List.mem_append_right _) (List.mem_append_left _)))) o' rd
  have r2 := z2 Z' H' hZ (fun a o e z => hH a o e (z.imp id (Or.imp (List.mem_append_left _) (List.mem_append_right _)))) _ r1
  simpa [List.append_assoc] using r2
theorem nodup_mid {A o B : List Addr} (h : (A ++ (o ++ B)).Nodup) : (A ++ B).Nodup ∧ o.Nodup ∧ (∀ a ∈ o, a ∉ A ∧ a ∉ B) := by
  obtain ⟨h1, h2, h3⟩ := List.nodup_append.mp h
  obtain ⟨h4, h5, h6⟩ := List.nodup_append.mp h2
  exact ⟨List.nodup_append.mpr ⟨h1, h5, fun a m b n => h3 a m b (List.mem_append_right _ n)⟩, h4, fun a m => ⟨fun n => h3 a n a (List.mem_append_left _ m) rfl, fun n => h6 a m a n rfl⟩⟩
/-- a place is read -/
theorem readP_ok {Zb : Addr → Prop} {Hb : Hp} {osb : List Addr} {x : Nat} {p : List St1} {e : D} {w : V} {Q : VK} (R : Rel k sx Z r σ H os) (wy : WayAt k sx Z r σ H os x p e w) (h : Sat k sx W Zb Hb osb σ (readP r x p) (PostV k sx Z0 H0 os0 σ Q)) {t : List Addr} (S : Step Z0 Z H0 H os0 (t ++ os)) : Q w H := by
  obtain ⟨d, A, o, B, e1, ne, e2, e3, e4, e5⟩ := wy.ex
  unfold readP at h
  rw [e1] at h
  simp only [e2] at h
  have nx : ∀ c w, e ≠ .exn c w := fun c w z => by rw [z] at e4; cases e4
  have h : Sat k sx W Zb Hb osb σ (if e.owned then (match updP (fun x => some x.frz) d p with
        | some d' => .ok e.frz (r.set x (some d'))
        | none => .bad) else .ok e r) (PostV k sx Z0 H0 os0 σ Q) := by
    cases e <;> first | exact h | exact absurd rfl (nx _ _)
  have S0 : Step Z0 Z H0 H os0 os := S.less fun x m => List.mem_append_right _ m
  split at h
  · rename_i ow
    split at h
    · rename_i d' q
      obtain ⟨e', z1, z2⟩ := e5 _ d' q
      cases z1
      subst e3
      obtain ⟨n1, n2, n3⟩ := nodup_mid R.nd
      have dm := RD.dom _ _ _ e4
      have rd : RD k (fun a => Z a ∨ a ∈ o) H e.frz w [] := RD.frz (fun a z => .inl z) e w o (fun a m => .inr m) e4
      have rs := z2 (fun a => Z a ∨ a ∈ o) H (fun a z => .inl z) (fun a o e _ => e) [] rd
      refine h w H (fun a => Z a ∨ a ∈ o) [] (A ++ B) ⟨rs, n1, fun a m z => ?_, fun a z => ?_⟩ rd n1 (fun _ m => by cases m) (S0.trans ⟨fun a o e _ => e, fun a z => .inl z, fun a z => ?_, fun a m => .inl ?_⟩)
      · rcases z with z | z
        · exact R.nz a (by rcases List.mem_append.mp m with m | m <;> simp [m]) z
        · rcases List.mem_append.mp m with m | m
          · exact (n3 a z).1 m
          · exact (n3 a z).2 m
      · rcases z with z | z
        · exact R.zd a z
        · exact dm a z
      · rcases z with z | z
        · exact .inl z
        · exact .inr (.inl (by simp [z]))
      · rcases List.mem_append.mp (show a ∈ A ++ B from m) with m | m <;> simp [m]
    · exact h.elim
  · rename_i ow
    have z : o = [] := e4.noOwn (by simpa using ow)
    subst z
    exact h w H Z [] os R e4 R.nd (fun _ m => by cases m) S0
end
end Mv

namespace Mv
open PySem L2

section
variable {k : Kc} {sx : Option (Addr × Addr)} {W : WX} {Z Z' Z0 Z1 Z2 : Addr → Prop} {H H' H0 H1 H2 : Hp} {σ : St} {r r1 r2 : En} {os os' os0 os1 os2 od : List Addr}

/-- arguments as they lie -/
inductive ArV (k : Kc) (Z : Addr → Prop) (H : Hp) (σ : St) : Ar → V → List Addr → Prop
  | v {d : D} {v : V} {o : List Addr} : RD k Z H d v o → ArV k Z H σ (.v d) v o
  | r {i : Nat} {v : V} : σ[i]? = some (some v) → ArV k Z H σ (.r i) v []
inductive ArVs (k : Kc) (Z : Addr → Prop) (H : Hp) (σ : St) : List Ar → List V → List Addr → Prop
  | nil : ArVs k Z H σ [] [] []
  | cons {a : Ar} {as : List Ar} {v : V} {vs : List V} {o os : List Addr} : ArV k Z H σ a v o → ArVs k Z H σ as vs os → ArVs k Z H σ (a :: as) (v :: vs) (o ++ os)
def PostA (k : Kc) (sx : Option (Addr × Addr)) (Z : Addr → Prop) (H : Hp) (os : List Addr) (σ : St) (Q : VK) (a : Ar) (r : En) : Prop :=
  ∀ v H' Z' od os', Rel k sx Z' r σ H' os' → ArV k Z' H' σ a v od → (od ++ os').Nodup → (∀ a ∈ od, ¬ Z' a) → Step Z Z' H H' os (od ++ os') → Q v H'
def PostAs (k : Kc) (sx : Option (Addr × Addr)) (Z : Addr → Prop) (H : Hp) (os : List Addr) (σ : St) (Q : List V → Hp → Prop) (as : List Ar) (r : En) : Prop :=
  ∀ vs H' Z' od os', Rel k sx Z' r σ H' os' → ArVs k Z' H' σ as vs od → (od ++ os').Nodup → (∀ a ∈ od, ¬ Z' a) → Step Z Z' H H' os (od ++ os') → Q vs H'
def tAr (k : Kc) (sx : Option (Addr × Addr)) (W : WX) (e : En → Out Ar) : TE := fun σ H Q => ∃ Z r os, Rel k sx Z r σ H os ∧ Sat k sx W Z H os σ (e r) (PostA k sx Z H os σ Q)
def tAs (k : Kc) (sx : Option (Addr × Addr)) (W : WX) (e : En → Out (List Ar)) : TA := fun σ H Q => ∃ Z r os, Rel k sx Z r σ H os ∧ Sat k sx W Z H os σ (e r) (PostAs k sx Z H os σ Q)
/-- a place, looked up alone -/
def tPl (k : Kc) (sx : Option (Addr × Addr)) (a : E) : TE := fun σ H Q => ∃ Z r os x p e, Rel k sx Z r σ H os ∧ path a r = some (x, p) ∧ peekP r x p = some e ∧ (∀ c w, slot r x ≠ some (.exn c w)) ∧ ∀ w, WayAt k sx Z r σ H os x p e w → Q w H
def tI (k : Kc) (sx : Option (Addr × Addr)) (a : E) : TE := fun σ H Q => ∃ Z r os n, Rel k sx Z r σ H os ∧ evI a r = some n ∧ Q (.int n) H

theorem ArV.carry {a : Ar} {v : V} (h : ArV k Z H σ a v od) (nd : (od ++ os).Nodup) (nz : ∀ a ∈ od, ¬ Z a) (R : Rel k sx Z r σ H os) (S : Step Z Z' H H' os os') (nd' : os'.Nodup) :
    ArV k Z' H' σ a v od ∧ (od ++ os').Nodup ∧ ∀ a ∈ od, ¬ Z' a := by
  cases h with
  | v h => obtain ⟨a, b, c⟩ := h.carry nd nz R S nd'; exact ⟨.v a, b, c⟩
  | r h => exact ⟨.r h, nd', fun _ m => by cases m⟩
theorem nodup3 {a b c : List Addr} (h : (a ++ (b ++ c)).Nodup) : ((a ++ b) ++ c).Nodup := by rwa [List.append_assoc]

theorem tAr_then {β : Type} {e : En → Out Ar} {f : Ar → En → Out β} {OK : β → En → Prop} {Q : VK} (R : Rel k sx Z r σ H os) (h : Sat k sx W Z H os σ ((e r).bind f) OK)
    (next : ∀ d r1 v H1 Z1 od os1, Rel k sx Z1 r1 σ H1 os1 → ArV k Z1 H1 σ d v od → (od ++ os1).Nodup → (∀ a ∈ od, ¬ Z1 a) → Step Z Z1 H H1 os (od ++ os1) → Sat k sx W Z H os σ (f d r1) OK → Q v H1) : tAr k sx W e σ H Q :=
  ⟨Z, r, os, R, (Sat.bind.mp h).imp fun d r1 q v H1 Z1 od os1 R1 rd nd nz S => next d r1 v H1 Z1 od os1 R1 rd nd nz S q⟩
theorem tAs_then {β : Type} {e : En → Out (List Ar)} {f : List Ar → En → Out β} {OK : β → En → Prop} {Q : List V → Hp → Prop} (R : Rel k sx Z r σ H os) (h : Sat k sx W Z H os σ ((e r).bind f) OK)
    (next : ∀ d r1 v H1 Z1 od os1, Rel k sx Z1 r1 σ H1 os1 → ArVs k Z1 H1 σ d v od → (od ++ os1).Nodup → (∀ a ∈ od, ¬ Z1 a) → Step Z Z1 H H1 os (od ++ os1) → Sat k sx W Z H os σ (f d r1) OK → Q v H1) : tAs k sx W e σ H Q :=
  ⟨Z, r, os, R, (Sat.bind.mp h).imp fun d r1 q v H1 Z1 od os1 R1 rd nd nz S => next d r1 v H1 Z1 od os1 R1 rd nd nz S q⟩
end

theorem truD_ok {k : Kc} {Z : Addr → Prop} {H : Hp} {d : D} {v : V} {od : List Addr} {b : Bool} (e : truD d = some b) (h : RD k Z H d v od) : TruV k.K v H b := by
  unfold truD at e
  cases h with
  | non => cases e; rfl
  | bl _ => cases e; rfl
  | int _ => cases e; rfl
  | str s =>
    simp only at e
    split at e
    · rename_i c
      cases e
      exact ⟨by rw [slE]; exact c, rfl⟩
    · cases e
  | tup h1 T =>
    cases e
    refine .inr (.inl ⟨_, h1.sq, ?_⟩)
    have := T.length
    rw [Bool.eq_iff_iff]
    simp only [Bool.not_eq_true', List.isEmpty_eq_false_iff, ← List.length_pos_iff]
    omega
  | own h1 T =>
    cases e
    refine .inl ⟨_, SqL.of h1, ?_⟩
    have := T.length
    rw [Bool.eq_iff_iff]
    simp only [Bool.not_eq_true', List.isEmpty_eq_false_iff, ← List.length_pos_iff]
    omega
  | shr _ h1 T =>
    cases e
    refine .inl ⟨_, SqL.of h1, ?_⟩
    have := T.length
    rw [Bool.eq_iff_iff]
    simp only [Bool.not_eq_true', List.isEmpty_eq_false_iff, ← List.length_pos_iff]
    omega
  | giv h1 T =>
    cases e
    refine .inl ⟨_, h1.sq, ?_⟩
    have := T.length
    rw [Bool.eq_iff_iff]
    simp only [Bool.not_eq_true', List.isEmpty_eq_false_iff, ← List.length_pos_iff]
    omega
  | oown _ _ _ => cases e
  | oshr _ _ _ _ => cases e

/-- all that is shown of an expression -/
structure Snd (X : Cx) (k : Kc) (sx : Option (Addr × Addr)) (W : WX) (P : Pg) (F : Nat → List D → FOut) (e : Expr) (a : E) : Prop where
  v : PE X e (tV k sx W (ev P F a).v)
  t : PT X e (tT k sx W (ev P F a).t)
  ar : PE X e (tAr k sx W (ev P F a).a)
  pl : PE X e (tPl k sx a)
  it : PE X e (tI k sx a)

section
variable {X : Cx} {k : Kc} {sx : Option (Addr × Addr)} {W : WX} {P : Pg} {F : Nat → List D → FOut} {pos : Pos} {e : Expr} {a : E}
theorem pe_no {t : TE} (h : ∀ σ H Q, ¬ t σ H Q) : PE X e t := ⟨fun _ _ σ H Q _ q => absurd q (h σ H Q)⟩
theorem pl_no (h : ∀ r, path a r = none) : PE X e (tPl k sx a) := pe_no fun σ H Q ⟨Z, r, os, x, p, d, _, q, _⟩ => by rw [h] at q; cases q
theorem it_no (h : ∀ r, evI a r = none) : PE X e (tI k sx a) := pe_no fun σ H Q ⟨Z, r, os, n, _, q, _⟩ => by rw [h] at q; cases q
/-- an expression whose test is its value's truth -/
theorem tst {f : En → Out D} (hK : X.K = k.K) (h : PE X e (tV k sx W f)) (he : ∀ whole, isTrue e X.env whole = (do let v ← whole; standAt e.pos; holding [v] (truthy v))) : PT X e (tT k sx W fun r => (f r).bind fun d r => .of (truD d) r) := by
  refine (pt_truth h he).weak fun σ H Q ⟨Z, r, os, R, q⟩ => ?_
  refine tV_then R q fun d r1 v H1 Z1 od os1 R1 rd nd nz S1 q1 => ?_
  obtain ⟨b, e1, q2⟩ := q1.of
  exact ⟨b, by rw [hK]; exact truD_ok e1 rd, q2 H1 Z1 os1 R1 (S1.less fun x m => List.mem_append_right _ m)⟩
theorem arg {f : En → Out D} (h : PE X e (tV k sx W f)) : PE X e (tAr k sx W fun r => (f r).bind fun d r => .ok (.v d) r) := by
  refine h.weak fun σ H Q ⟨Z, r, os, R, q⟩ => ?_
  exact tV_then R q fun d r1 v H1 Z1 od os1 R1 rd nd nz S1 q1 => q1 v H1 Z1 od os1 R1 (.v rd) nd nz S1
theorem snd1 {f : En → Out D} (hK : X.K = k.K) (h : PE X e (tV k sx W f)) (he : ∀ whole, isTrue e X.env whole = (do let v ← whole; standAt e.pos; holding [v] (truthy v))) (ha : ev P F a = .mk1 f) (hp : PE X e (tPl k sx a)) (hi : PE X e (tI k sx a)) : Snd X k sx W P F e a :=
  ⟨by rw [ha]; exact h, by rw [ha]; exact tst hK h he, by rw [ha]; exact arg h, hp, hi⟩

/-! ### the forms -/
theorem s_int {i : Int} {j : Nat} (hK : X.K = k.K) : Snd X k sx W P F (.Constant (.int i) j pos) (.int i) :=
  snd1 hK (sv_tC pe_int fun _ _ => .int _) (fun _ => rfl) rfl (pl_no fun _ => rfl) (pe_int.weak fun σ H Q ⟨Z, r, os, n, _, q, h⟩ => by cases q; exact h)
theorem s_bl {b : Bool} {j : Nat} (hK : X.K = k.K) : Snd X k sx W P F (.Constant (.bool b) j pos) (.bl b) := snd1 hK (sv_tC pe_bl fun _ _ => .bl _) (fun _ => rfl) rfl (pl_no fun _ => rfl) (it_no fun _ => rfl)
theorem s_str {b : Str} {j : Nat} (hK : X.K = k.K) : Snd X k sx W P F (.Constant (.str b) j pos) (.str b) := snd1 hK (sv_tC pe_str fun _ _ => .str _) (fun _ => rfl) rfl (pl_no fun _ => rfl) (it_no fun _ => rfl)
theorem s_non {j : Nat} (hK : X.K = k.K) : Snd X k sx W P F (.Constant .none j pos) .non := snd1 hK (sv_tC pe_non fun _ _ => .non) (fun _ => rfl) rfl (pl_no fun _ => rfl) (it_no fun _ => rfl)
theorem s_glob {x : Str} {i : Int} {u : Value} (hK : X.K = k.K) (hg : Gl X x) (hm : X.mg x = some u) (hr : RelV (.int i) u) (hd : (x == ("__debug__" : Str)) = false) : Snd X k sx W P F (.Name x pos) (.int i) :=
  snd1 hK (sv_tC (pe_glob hg hm hr hd) fun _ _ => .int _) (fun _ => rfl) rfl (pl_no fun _ => rfl) ((pe_glob hg hm hr hd).weak fun σ H Q ⟨Z, r, os, n, _, q, h⟩ => by cases q; exact h)

theorem has_of {r : En} {i : Nat} (h : has r i = true) : ∃ d, slot r i = some d ∧ ∀ c w, d ≠ .exn c w := by
  unfold has Ar.peek at h
  cases q : slot r i with
  | none => simp [q] at h
  | some d =>
    refine ⟨d, rfl, fun c w z => ?_⟩
    subst z
    simp [q] at h
theorem s_var {x : Str} {i : Nat} (hK : X.K = k.K) (hN : X.N[i]? = some x) (hv : Vis X.env.scope x) (hd : (x == ("__debug__" : Str)) = false) (hcd : (x == ("__classdict__" : Str)) = false) : Snd X k sx W P F (.Name x pos) (.var i) := by
  have h := pe_var (pos := pos) hN hv hd hcd
  refine ⟨h.weak fun σ H Q ⟨Z, r, os, R, q⟩ => ?_, (pt_truth h fun _ => rfl).weak fun σ H Q ⟨Z, r, os, R, q⟩ => ?_, h.weak fun σ H Q ⟨Z, r, os, R, q⟩ => ?_, h.weak fun σ H Q ⟨Z, r, os, y, p, d, R, q, pk, ne, g⟩ => ?_, h.weak fun σ H Q ⟨Z, r, os, n, R, q, g⟩ => ?_⟩
  · have q : Sat k sx W Z H os σ (readP r i []) (PostV k sx Z H os σ Q) := q
    cases s : slot r i with
    | none => simp only [readP, s] at q; exact q.elim
    | some d =>
      have ne : ∀ c w, d ≠ .exn c w := fun c w z => by subst z; simp only [readP, s, getP] at q; exact q.elim
      obtain ⟨v, e1, wy⟩ := WayAt.nil R.rs s ne
      exact ⟨v, e1, readP_ok R wy q (t := []) Step.refl⟩
  · have q : Sat k sx W Z H os σ (Out.of ((slot r i).bind truD) r) (PostT k sx Z H os σ Q) := q
    obtain ⟨b, e1, q2⟩ := q.of
    obtain ⟨d, s, e2⟩ := Option.bind_eq_some_iff.mp e1
    have ne : ∀ c w, d ≠ .exn c w := fun c w z => by subst z; cases e2
    obtain ⟨v, A, o, B, e3, e4, rd, _⟩ := R.rs.focus s ne
    exact ⟨v, e3, b, by rw [hK]; exact truD_ok e2 rd, q2 H Z os R Step.refl⟩
  · have q : Sat k sx W Z H os σ (if has r i then .ok (.r i) r else .bad) (PostA k sx Z H os σ Q) := q
    split at q
    · rename_i c
      obtain ⟨d, s, ne⟩ := has_of c
      obtain ⟨v, A, o, B, e3, e4, rd, _⟩ := R.rs.focus s ne
      exact ⟨v, e3, q v H Z [] os R (.r e3) R.nd (fun _ m => by cases m) Step.refl⟩
    · exact q.elim
  · cases q
    have pk : (slot r i).bind (fun d => getP d []) = some d := pk
    obtain ⟨d', s, e2⟩ := Option.bind_eq_some_iff.mp pk
    cases e2
    obtain ⟨v, e1, wy⟩ := WayAt.nil R.rs s (fun c w z => ne c w (by rw [s, z]))
    exact ⟨v, e1, g v wy⟩
  · have q : (match slot r i with | some (.int n) => some n | _ => none) = some n := q
    split at q
    · rename_i m s
      cases q
      obtain ⟨v, A, o, B, e3, e4, rd, _⟩ := R.rs.focus s (fun c w z => by cases z)
      cases rd
      exact ⟨_, e3, g⟩
    · cases q
theorem s_bin {op : Operator} {e1 e2 : Expr} {a1 a2 : E} (hK : X.K = k.K) (h1 : Snd X k sx W P F e1 a1) (h2 : Snd X k sx W P F e2 a2) : Snd X k sx W P F (.BinOp e1 op e2 pos) (.bin op a1 a2) := by
  refine snd1 (f := fun r => ((ev P F a1).v r).bind fun x r => ((ev P F a2).v r).bind fun y r => .of (binD op x y) r) hK ((pe_op (opr_bin op) h1.v h2.v).weak fun σ H Q ⟨Z, r, os, R, q⟩ => ?_) (fun _ => rfl) rfl (pl_no fun _ => rfl) ?_
  · refine tV_then R q fun d1 r1 v1 H1 Z1 o1 os1 R1 rd1 nd1 nz1 S1 q1 => ?_
    refine tV_then R1 (q1.base S1) fun d2 r2 v2 H2 Z2 o2 os2 R2 rd2 nd2 nz2 S2 q2 => ?_
    obtain ⟨d, e1, q3⟩ := q2.of
    obtain ⟨rd1', nd1', _⟩ := rd1.carry nd1 nz1 R1 S2 nd2
    rw [hK]
    exact binD_ok e1 R2 rd1' rd2 nd1' (S1.trans (S2.wide o1)) q3
  · cases op <;> first
      | (refine (pe_add h1.it h2.it).weak fun σ H Q ⟨Z, r, os, n, R, q, g⟩ => ?_
         obtain ⟨x, x1, x2⟩ := Option.bind_eq_some_iff.mp (show ((evI a1 r).bind fun x => (evI a2 r).map fun y => x + y) = some n from q)
         obtain ⟨y, y1, rfl⟩ := Option.map_eq_some_iff.mp x2
         exact (show t2I (tI k sx a1) (tI k sx a2) (fun i j H2 => Q (.int (i + j)) H2) σ H from ⟨Z, r, os, x, R, x1, Z, r, os, y, R, y1, x, y, rfl, rfl, g⟩))
      | (refine (pe_sub h1.it h2.it).weak fun σ H Q ⟨Z, r, os, n, R, q, g⟩ => ?_
         obtain ⟨x, x1, x2⟩ := Option.bind_eq_some_iff.mp (show ((evI a1 r).bind fun x => (evI a2 r).map fun y => x - y) = some n from q)
         obtain ⟨y, y1, rfl⟩ := Option.map_eq_some_iff.mp x2
         exact (show t2I (tI k sx a1) (tI k sx a2) (fun i j H2 => Q (.int (i - j)) H2) σ H from ⟨Z, r, os, x, R, x1, Z, r, os, y, R, y1, x, y, rfl, rfl, g⟩))
      | exact it_no fun _ => by simp [evI]
theorem s_neg {e1 : Expr} {a1 : E} (hK : X.K = k.K) (h1 : Snd X k sx W P F e1 a1) : Snd X k sx W P F (.UnaryOp .USub e1 pos) (.neg a1) := by
  refine snd1 (f := fun r => ((ev P F a1).v r).bind fun x r => match x with
    | .int i => .ok (.int (-i)) r
    | _ => .bad) hK ((pe_un un_neg h1.v).weak fun σ H Q ⟨Z, r, os, R, q⟩ => ?_) (fun _ => rfl) rfl (pl_no fun _ => rfl) ?_
  · refine tV_then R q fun d1 r1 v1 H1 Z1 o1 os1 R1 rd1 nd1 nz1 S1 q1 => ?_
    show ∃ i, v1 = .int i ∧ Q (.int (-i)) H1
    cases rd1 <;> first
      | exact ⟨_, rfl, PostV.atom q1 S1 R1 (.int _)⟩
      | exact q1.elim
  · refine (pe_un un_neg h1.it).weak fun σ H Q ⟨Z, r, os, n, R, q, g⟩ => ?_
    obtain ⟨x, x1, rfl⟩ := Option.map_eq_some_iff.mp (show (evI a1 r).map (fun x => -x) = some n from q)
    exact ⟨Z, r, os, x, R, x1, x, rfl, g⟩
theorem s_not {e1 : Expr} {a1 : E} (hK : X.K = k.K) (h1 : Snd X k sx W P F e1 a1) : Snd X k sx W P F (.UnaryOp .Not e1 pos) (.notE a1) := by
  have hv : PE X (.UnaryOp .Not e1 pos) (tV k sx W fun r => ((ev P F a1).v r).bind fun x r => match x with
    | .bl b => .ok (.bl (!b)) r
    | _ => .bad) := by
    refine (pe_not h1.v).weak fun σ H Q ⟨Z, r, os, R, q⟩ => ?_
    refine tV_then R q fun d1 r1 v1 H1 Z1 o1 os1 R1 rd1 nd1 nz1 S1 q1 => ?_
    show ∃ c, v1 = .bl c ∧ Q (.bl (!c)) H1
    cases rd1 <;> first
      | exact ⟨_, rfl, PostV.atom q1 S1 R1 (.bl _)⟩
      | exact q1.elim
  refine ⟨hv, (pt_not h1.t).weak fun σ H Q ⟨Z, r, os, R, q⟩ => ?_, arg hv, pl_no fun _ => rfl, it_no fun _ => rfl⟩
  exact tT_then R q fun b r1 H1 Z1 os1 R1 S1 q1 => q1 H1 Z1 os1 R1 S1
theorem s_ite {c e1 e2 : Expr} {b a1 a2 : E} (hK : X.K = k.K) (h0 : Snd X k sx W P F c b) (h1 : Snd X k sx W P F e1 a1) (h2 : Snd X k sx W P F e2 a2) : Snd X k sx W P F (.IfExp c e1 e2 pos) (.ite b a1 a2) := by
  have hv : PE X (.IfExp c e1 e2 pos) (tV k sx W fun r => ((ev P F b).t r).bind fun k r => if k then (ev P F a1).v r else (ev P F a2).v r) := by
    refine (pe_ifExp h0.t h1.v h2.v).weak fun σ H Q ⟨Z, r, os, R, q⟩ => ?_
    refine tT_then R q fun b r1 H1 Z1 os1 R1 S1 q1 => ?_
    have q1' : Sat k sx W Z1 H1 os1 σ _ _ := q1.base (od := []) S1
    cases b with
    | true => exact iteT ⟨Z1, r1, os1, R1, q1'.imp fun d r2 g v H2 Z2 od os2 R2 rd nd nz S2 => g v H2 Z2 od os2 R2 rd nd nz (S1.trans S2)⟩
    | false => exact iteF ⟨Z1, r1, os1, R1, q1'.imp fun d r2 g v H2 Z2 od os2 R2 rd nd nz S2 => g v H2 Z2 od os2 R2 rd nd nz (S1.trans S2)⟩
  refine ⟨hv, ⟨fun pins s σ H Q I ⟨Z, r, os, R, q⟩ => ?_⟩, arg hv, pl_no fun _ => rfl, it_no fun _ => rfl⟩
  have g : tT k sx W (ev P F b).t σ H fun c H1 => if c = true then tT k sx W (ev P F a1).t σ H1 Q else tT k sx W (ev P F a2).t σ H1 Q := by
    refine tT_then R q fun b r1 H1 Z1 os1 R1 S1 q1 => ?_
    have q1' : Sat k sx W Z1 H1 os1 σ _ _ := q1.base (od := []) S1
    cases b with
    | true => exact iteT ⟨Z1, r1, os1, R1, q1'.imp fun d r2 g H2 Z2 os2 R2 S2 => g H2 Z2 os2 R2 (S1.trans S2)⟩
    | false => exact iteF ⟨Z1, r1, os1, R1, q1'.imp fun d r2 g H2 Z2 os2 R2 S2 => g H2 Z2 os2 R2 (S1.trans S2)⟩
  show wpAny _ _ (do if ← isTrue c X.env (eval c X.env) then isTrue e1 X.env (eval e1 X.env) else isTrue e2 X.env (eval e2 X.env)) _ _ _
  refine wpAny_bind (thn (h0.t.run pins s σ H _ I g) fun d s1 ⟨H1, I1, q1⟩ => ?_)
  cases d with
  | true => exact h1.t.run pins s1 σ H1 Q I1 q1
  | false => exact h2.t.run pins s1 σ H1 Q I1 q1
end
end Mv

namespace Mv
open PySem L2

/-! ### data -/
section
variable {k : Kc} {Z : Addr → Prop} {H : Hp}
mutual
theorem RD.dp : ∀ (d : D) (v : V) (os : List Addr) (x : PyData), RD k Z H d v os → d.py = some x → Dp k.K H v x
  | .non, _, _, _, h, e => by cases h; cases e; exact .non
  | .bl _, _, _, _, h, e => by cases h; cases e; exact .bl _
  | .int _, _, _, _, h, e => by cases h; cases e; exact .int _
  | .str _, _, _, _, h, e => by cases h; cases e; exact .str _
  | .tup ds, _, _, x, h, e => by
    obtain ⟨xs, e1, rfl⟩ := Option.map_eq_some_iff.mp (show (D.pys ds).map PyData.tuple = some x from e)
    cases h with
    | tup h1 T => exact .tup h1.sq (RDs.dp ds _ _ xs T e1)
  | .lst _ ds, _, _, x, h, e => by
    obtain ⟨xs, e1, rfl⟩ := Option.map_eq_some_iff.mp (show (D.pys ds).map PyData.list = some x from e)
    cases h with
    | own h1 T => exact .lst (SqL.of h1) (RDs.dp ds _ _ xs T e1)
    | shr _ h1 T => exact .lst (SqL.of h1) (RDs.dp ds _ _ xs T e1)
    | giv h1 T => exact .lst h1.sq (RDs.dp ds _ _ xs T e1)
  | .obj _ _ _ _, _, _, _, _, e => by cases e
  | .exn _ _, _, _, _, _, e => by cases e
theorem RDs.dp : ∀ (ds : List D) (vs : List V) (os : List Addr) (xs : List PyData), RDs k Z H ds vs os → D.pys ds = some xs → DpAll k.K H vs xs
  | [], _, _, _, h, e => by cases h; cases e; exact .nil
  | d :: ds, _, _, xs, h, e => by
    unfold D.pys at e
    cases e1 : D.py d with
    | none => rw [e1] at e; cases e
    | some x =>
      cases e2 : D.pys ds with
      | none => rw [e1, e2] at e; cases e
      | some ys =>
        rw [e1, e2] at e
        cases e
        cases h with
        | cons h1 h2 => exact .cons (RD.dp d _ _ x h1 e1) (RDs.dp ds _ _ ys h2 e2)
end
theorem intsOf_vs : ∀ {ds : List D} {vs : List V} {os : List Addr} {ns : List Int}, RDs k Z H ds vs os → intsOf ds = some ns → vs = ns.map V.int ∧ ds = ns.map D.int
  | [], _, _, _, h, e => by cases h; cases e; exact ⟨rfl, rfl⟩
  | d :: ds, _, _, ns, h, e => by
    cases d with
    | int i =>
      obtain ⟨ms, e1, rfl⟩ := Option.map_eq_some_iff.mp (show (intsOf ds).map (fun x => i :: x) = some ns from e)
      cases h with
      | cons h1 h2 =>
        cases h1
        obtain ⟨q1, q2⟩ := intsOf_vs h2 e1
        subst q1
        exact ⟨rfl, by rw [List.map_cons, ← q2]⟩
    | _ => cases e
end

section
variable {X : Cx}
/-- x in a list or tuple of data -/
def rInG (K : PySem.W.Frag) (f : Bool → Bool) : R2 := fun x y H Q => ∃ d ds, Dp K H x d ∧ ((Dp K H y (.list ds) ∧ SeqAt.shaped (.list ds) = true) ∨ (Dp K H y (.tuple ds) ∧ SeqAt.shaped (.tuple ds) = true)) ∧ SeqAt.shaped d = true ∧ Q (.bl (f (ds.any fun z => PyData.eqv z d))) H
theorem op_inG (hu : X.A.units + 65 < cLine) : OpR X (compareOp .In) (rInG X.K id) := by
  intro pins s σ H x y v u Q I rx ry h
  obtain ⟨d, ds, hd, he, sd, q⟩ := h
  obtain ⟨as, r1⟩ := Dp.reads I d x v hd rx
  rcases he with ⟨he, se⟩ | ⟨he, se⟩
  · obtain ⟨bs, r2⟩ := Dp.reads I (.list ds) y u he ry
    exact SeqAt.in_list_reads r2 r1 (SeqAt.canLay_of_shaped se) (SeqAt.canLay_of_shaped sd) (PyProof.Rows.room_in_shaped sd hu) ⟨.bl _, H, I, rfl, q⟩
  · obtain ⟨bs, r2⟩ := Dp.reads I (.tuple ds) y u he ry
    exact SeqAt.in_tuple_reads r2 r1 (SeqAt.canLay_of_shaped se) (SeqAt.canLay_of_shaped sd) (PyProof.Rows.room_in_shaped sd hu) ⟨.bl _, H, I, rfl, q⟩
theorem op_notInG (hu : X.A.units + 65 < cLine) : OpR X (compareOp .NotIn) (rInG X.K (!·)) := by
  intro pins s σ H x y v u Q I rx ry h
  obtain ⟨d, ds, hd, he, sd, q⟩ := h
  obtain ⟨as, r1⟩ := Dp.reads I d x v hd rx
  rcases he with ⟨he, se⟩ | ⟨he, se⟩
  · obtain ⟨bs, r2⟩ := Dp.reads I (.list ds) y u he ry
    exact SeqAt.notIn_list_reads r2 r1 (SeqAt.canLay_of_shaped se) (SeqAt.canLay_of_shaped sd) (PyProof.Rows.room_in_shaped sd hu) ⟨.bl _, H, I, rfl, q⟩
  · obtain ⟨bs, r2⟩ := Dp.reads I (.tuple ds) y u he ry
    exact SeqAt.notIn_tuple_reads r2 r1 (SeqAt.canLay_of_shaped se) (SeqAt.canLay_of_shaped sd) (PyProof.Rows.room_in_shaped sd hu) ⟨.bl _, H, I, rfl, q⟩
def rCmp (K : PySem.W.Frag) (op : CmpOp) : R2 := match op with
  | .Eq => rEqD K
  | .NotEq => rNeD K
  | .Lt => fun x y H Q => rI0 (fun i j => .bl (decide (i < j))) x y H Q ∨ rLtT K x y H Q
  | .LtE => rI0 fun i j => .bl (decide (i ≤ j))
  | .Gt => rI0 fun i j => .bl (decide (j < i))
  | .GtE => rI0 fun i j => .bl (decide (j ≤ i))
  | .Is => fun x y H Q => y = .non ∧ Q (.bl (decide (x = .non))) H
  | .IsNot => fun x y H Q => y = .non ∧ Q (.bl (!decide (x = .non))) H
  | .In => rInG K id
  | .NotIn => rInG K (!·)
theorem opr_cmp (op : CmpOp) (hu : X.A.units + 100 < cLine) : OpR X (compareOp op) (rCmp X.K op) := by
  have h1 : X.A.units + 64 < cLine := by omega
  have h2 : X.A.units + 65 < cLine := by omega
  have h3 : X.A.units < cLine := by omega
  cases op <;> first
    | exact op_eqD h1
    | exact op_neD h1
    | exact op_lt.or (op_ltT h3)
    | exact op_le
    | exact op_gt
    | exact op_ge
    | exact op_isN
    | exact op_notN
    | exact op_inG h2
    | exact op_notInG h2
theorem inD_ok {k : Kc} {Z : Addr → Prop} {H : Hp} {da db : D} {x y : V} {oa ob : List Addr} {b : Bool} {f : Bool → Bool} {Q : VK} (e : inD da db = some b) (ra : RD k Z H da x oa) (rb : RD k Z H db y ob) (h : Q (.bl (f b)) H) : rInG k.K f x y H Q := by
  unfold inD at e
  split at e
  · rename_i u w e1 e2
    split at e
    · split at e
      · rename_i c
        cases e
        obtain ⟨c1, c2⟩ := Bool.and_eq_true_iff.mp c
        exact ⟨u, _, RD.dp _ _ _ _ ra e1, .inl ⟨RD.dp _ _ _ _ rb e2, c2⟩, c1, h⟩
      · cases e
    · split at e
      · rename_i c
        cases e
        obtain ⟨c1, c2⟩ := Bool.and_eq_true_iff.mp c
        exact ⟨u, _, RD.dp _ _ _ _ ra e1, .inr ⟨RD.dp _ _ _ _ rb e2, c2⟩, c1, h⟩
      · cases e
    · cases e
  · cases e
theorem eqD_ok {k : Kc} {Z : Addr → Prop} {H : Hp} {da db : D} {x y : V} {oa ob : List Addr} {b : Bool} (e : eqD da db = some b) (ra : RD k Z H da x oa) (rb : RD k Z H db y ob) :
    ∃ d e, Dp k.K H x d ∧ Dp k.K H y e ∧ SeqAt.shaped d = true ∧ SeqAt.shaped e = true ∧ PyData.eqv d e = b := by
  unfold eqD at e
  split at e
  · rename_i u w e1 e2
    split at e
    · rename_i c
      cases e
      obtain ⟨c1, c2⟩ := Bool.and_eq_true_iff.mp c
      exact ⟨u, w, RD.dp _ _ _ _ ra e1, RD.dp _ _ _ _ rb e2, c1, c2, rfl⟩
    · cases e
  · cases e
theorem RD.non_iff {k : Kc} {Z : Addr → Prop} {H : Hp} {d : D} {v : V} {os : List Addr} (h : RD k Z H d v os) : decide (v = .non) = match d with | .non => true | _ => false := by
  cases h <;> simp
theorem cmpD_ok {k : Kc} {Z : Addr → Prop} {H : Hp} {op : CmpOp} {da db : D} {x y : V} {oa ob : List Addr} {b : Bool} {Q : VK} (e : cmpD op da db = some b) (ra : RD k Z H da x oa) (rb : RD k Z H db y ob) (h : Q (.bl b) H) : rCmp k.K op x y H Q := by
  cases op with
  | Eq =>
    obtain ⟨u, w, h1, h2, h3, h4, rfl⟩ := eqD_ok e ra rb
    exact ⟨u, w, h1, h2, h3, h4, h⟩
  | NotEq =>
    obtain ⟨c, e1, rfl⟩ := Option.map_eq_some_iff.mp (show (eqD da db).map (!·) = some b from e)
    obtain ⟨u, w, h1, h2, h3, h4, rfl⟩ := eqD_ok e1 ra rb
    exact ⟨u, w, h1, h2, h3, h4, h⟩
  | In => exact inD_ok (f := id) e ra rb h
  | NotIn =>
    obtain ⟨c, e1, rfl⟩ := Option.map_eq_some_iff.mp (show (inD da db).map (!·) = some b from e)
    exact inD_ok (f := (!·)) e1 ra rb h
  | Is =>
    cases rb <;> first
      | (refine ⟨rfl, ?_⟩
         rw [ra.non_iff]
         cases da <;> first | (cases e; exact h) | cases e)
      | (cases da <;> cases e)
  | IsNot =>
    cases rb <;> first
      | (refine ⟨rfl, ?_⟩
         rw [ra.non_iff]
         cases da <;> first | (cases e; exact h) | cases e)
      | (cases da <;> cases e)
  | Lt =>
    cases ra <;> first
      | (cases rb <;> first
          | (cases e; exact .inl ⟨_, _, rfl, rfl, h⟩)
          | (cases e; done)
          | (rename_i a vs ds h1 T a2 vs2 ds2 h2 T2
             have e : (match intsOf ds, intsOf ds2 with | some u, some v => some (HT.lexLt u v) | _, _ => none) = some b := e
             split at e
             · rename_i u w e1 e2
               cases e
               obtain ⟨q1, _⟩ := intsOf_vs T e1
               obtain ⟨q2, _⟩ := intsOf_vs T2 e2
               subst q1 q2
               exact .inr ⟨_, _, _, _, rfl, rfl, h1.sq, h2.sq, h⟩
             · cases e))
      | (cases e; done)
  | LtE => cases ra <;> first
      | (cases rb <;> first
          | (cases e; exact ⟨_, _, rfl, rfl, h⟩)
          | (cases e; done))
      | (cases e; done)
  | Gt => cases ra <;> first
      | (cases rb <;> first
          | (cases e; exact ⟨_, _, rfl, rfl, h⟩)
          | (cases e; done))
      | (cases e; done)
  | GtE => cases ra <;> first
      | (cases rb <;> first
          | (cases e; exact ⟨_, _, rfl, rfl, h⟩)
          | (cases e; done))
      | (cases e; done)
end
end Mv

namespace Mv
open PySem L2

def nst : Expr → Bool
  | .Starred _ _ => false
  | _ => true
theorem star_cons {e : Expr} (h : nst e = true) (es : List Expr) (env : Env) : starEach (e :: es) env = (false, eval e env) :: starEach es env := by
  cases e <;> first | rfl | cases h
inductive SndL (X : Cx) (k : Kc) (sx : Option (Addr × Addr)) (W : WX) (P : Pg) (F : Nat → List D → FOut) : List Expr → List E → Prop
  | nil : SndL X k sx W P F [] []
  | cons {e : Expr} {a : E} {es : List Expr} {as : List E} : nst e = true → Snd X k sx W P F e a → SndL X k sx W P F es as → SndL X k sx W P F (e :: es) (a :: as)

section
variable {X : Cx} {k : Kc} {sx : Option (Addr × Addr)} {W : WX} {P : Pg} {F : Nat → List D → FOut} {pos : Pos} {es : List Expr} {as : List E}
theorem SndL.plain (h : SndL X k sx W P F es as) (pos : Pos) : (backTo pos (starEach es X.env)).any (·.1) = false := by
  induction h with
  | nil => rfl
  | cons n _ _ ih =>
    rw [star_cons n]
    show (false || (backTo pos _).any (·.1)) = false
    rw [ih]; rfl
theorem SndL.plainA (h : SndL X k sx W P F es as) (pos : Pos) : (backTo pos (starEach es X.env)).all (fun x => !x.1) = true := by
  induction h with
  | nil => rfl
  | cons n _ _ ih =>
    rw [star_cons n]
    show (true && (backTo pos _).all (fun x => !x.1)) = true
    rw [ih]; rfl
theorem SndL.length (h : SndL X k sx W P F es as) : as.length = es.length := by
  induction h with
  | nil => rfl
  | cons _ _ _ ih => simp [ih]
theorem pa_es (h : SndL X k sx W P F es as) : PA X es (tL k sx W (evEs (evs P F as))) := by
  induction h with
  | nil => exact pa_nil.weak fun σ H Q ⟨Z, r, os, R, q⟩ => q [] H Z [] os R .nil R.nd (fun _ m => by cases m) Step.refl
  | cons n h1 _ ih =>
    refine (pa_cons h1.v ih (star_cons n _ _)).weak fun σ H Q ⟨Z, r, os, R, q⟩ => ?_
    refine tV_then R q fun d r1 v H1 Z1 o1 os1 R1 rd nd nz S1 q1 => ?_
    refine tL_then R1 (q1.base S1) fun ds r2 vs H2 Z2 o2 os2 R2 T nd2 nz2 S2 q2 => ?_
    obtain ⟨rd', nd', nz'⟩ := rd.carry nd nz R1 S2 nd2
    exact q2 (v :: vs) H2 Z2 (o1 ++ o2) os2 R2 (.cons rd' T) (nodup3 nd') (fun a m => (List.mem_append.mp m).elim (nz' a) (nz2 a)) (by rw [List.append_assoc]; exact S1.trans (S2.wide o1))
theorem pa_as (h : SndL X k sx W P F es as) : PA X es (tAs k sx W (evAs (evs P F as))) := by
  induction h with
  | nil => exact pa_nil.weak fun σ H Q ⟨Z, r, os, R, q⟩ => q [] H Z [] os R .nil R.nd (fun _ m => by cases m) Step.refl
  | cons n h1 _ ih =>
    refine (pa_cons h1.ar ih (star_cons n _ _)).weak fun σ H Q ⟨Z, r, os, R, q⟩ => ?_
    refine tAr_then R q fun d r1 v H1 Z1 o1 os1 R1 rd nd nz S1 q1 => ?_
    refine tAs_then R1 (q1.base S1) fun ds r2 vs H2 Z2 o2 os2 R2 T nd2 nz2 S2 q2 => ?_
    obtain ⟨rd', nd', nz'⟩ := rd.carry nd nz R1 S2 nd2
    exact q2 (v :: vs) H2 Z2 (o1 ++ o2) os2 R2 (.cons rd' T) (nodup3 nd') (fun a m => (List.mem_append.mp m).elim (nz' a) (nz2 a)) (by rw [List.append_assoc]; exact S1.trans (S2.wide o1))

/-! ### and, or -/
theorem pv_and (h : SndL X k sx W P F es as) (ne : es ≠ []) : PE X (.BoolOp .And es pos) (tV k sx W (evAnd (evs P F as))) := by
  induction h with
  | nil => exact absurd rfl ne
  | @cons e a es as n h1 h2 ih =>
    cases h2 with
    | nil => exact pe_one h1.v
    | @cons e' a' es as n' h1' h2' =>
      refine (pe_and h1.v (ih (by simp))).weak fun σ H Q ⟨Z, r, os, R, q⟩ => ?_
      refine tV_then R q fun d r1 v H1 Z1 o1 os1 R1 rd nd nz S1 q1 => ?_
      cases rd with
      | bl b =>
        refine ⟨b, rfl, ?_⟩
        cases b with
        | true => exact iteT ⟨Z1, r1, os1, R1, (Sat.base q1 S1).imp fun d r2 g v H2 Z2 od os2 R2 rd nd nz S2 => g v H2 Z2 od os2 R2 rd nd nz (S1.trans S2)⟩
        | false => exact iteF (PostV.atom q1 S1 R1 (.bl _))
      | _ => exact q1.elim
theorem pv_or (h : SndL X k sx W P F es as) (ne : es ≠ []) : PE X (.BoolOp .Or es pos) (tV k sx W (evOr (evs P F as))) := by
  induction h with
  | nil => exact absurd rfl ne
  | @cons e a es as n h1 h2 ih =>
    cases h2 with
    | nil => exact pe_one h1.v
    | @cons e' a' es as n' h1' h2' =>
      refine (pe_or h1.v (ih (by simp))).weak fun σ H Q ⟨Z, r, os, R, q⟩ => ?_
      refine tV_then R q fun d r1 v H1 Z1 o1 os1 R1 rd nd nz S1 q1 => ?_
      cases rd with
      | bl b =>
        refine ⟨b, rfl, ?_⟩
        cases b with
        | true => exact iteT (PostV.atom q1 S1 R1 (.bl _))
        | false => exact iteF ⟨Z1, r1, os1, R1, (Sat.base q1 S1).imp fun d r2 g v H2 Z2 od os2 R2 rd nd nz S2 => g v H2 Z2 od os2 R2 rd nd nz (S1.trans S2)⟩
      | _ => exact q1.elim
theorem pw_and' (h : SndL X k sx W P F es as) (ne : es ≠ []) : PW X (.BoolOp .And es pos) (tT k sx W (evTAnd (evs P F as))) := by
  induction h with
  | nil => exact absurd rfl ne
  | @cons e a es as n h1 h2 ih =>
    cases h2 with
    | nil =>
      refine (pw_and1 h1.t).weak fun σ H Q ⟨Z, r, os, R, q⟩ => ?_
      exact tT_then R q fun b r1 H1 Z1 os1 R1 S1 q1 => by cases b <;> exact q1 H1 Z1 os1 R1 S1
    | @cons e' a' es as n' h1' h2' =>
      refine (pw_and h1.t (ih (by simp))).weak fun σ H Q ⟨Z, r, os, R, q⟩ => ?_
      refine tT_then R q fun b r1 H1 Z1 os1 R1 S1 q1 => ?_
      cases b with
      | true => exact iteT ⟨Z1, r1, os1, R1, (Sat.base (od := []) q1 S1).imp fun d r2 g H2 Z2 os2 R2 S2 => g H2 Z2 os2 R2 (S1.trans S2)⟩
      | false => exact iteF (q1 H1 Z1 os1 R1 S1)
theorem pw_or' (h : SndL X k sx W P F es as) (ne : es ≠ []) : PW X (.BoolOp .Or es pos) (tT k sx W (evTOr (evs P F as))) := by
  induction h with
  | nil => exact absurd rfl ne
  | @cons e a es as n h1 h2 ih =>
    cases h2 with
    | nil =>
      refine (pw_or1 h1.t).weak fun σ H Q ⟨Z, r, os, R, q⟩ => ?_
      exact tT_then R q fun b r1 H1 Z1 os1 R1 S1 q1 => by cases b <;> exact q1 H1 Z1 os1 R1 S1
    | @cons e' a' es as n' h1' h2' =>
      refine (pw_or h1.t (ih (by simp))).weak fun σ H Q ⟨Z, r, os, R, q⟩ => ?_
      refine tT_then R q fun b r1 H1 Z1 os1 R1 S1 q1 => ?_
      cases b with
      | true => exact iteT (q1 H1 Z1 os1 R1 S1)
      | false => exact iteF ⟨Z1, r1, os1, R1, (Sat.base (od := []) q1 S1).imp fun d r2 g H2 Z2 os2 R2 S2 => g H2 Z2 os2 R2 (S1.trans S2)⟩
theorem s_and (h : SndL X k sx W P F es as) (ne : es ≠ []) : Snd X k sx W P F (.BoolOp .And es pos) (.andE as) :=
  ⟨pv_and h ne, (pw_and' h ne).pt, arg (pv_and h ne), pl_no fun _ => rfl, it_no fun _ => rfl⟩
theorem s_or (h : SndL X k sx W P F es as) (ne : es ≠ []) : Snd X k sx W P F (.BoolOp .Or es pos) (.orE as) :=
  ⟨pv_or h ne, (pw_or' h ne).pt, arg (pv_or h ne), pl_no fun _ => rfl, it_no fun _ => rfl⟩

/-! ### comparisons -/
theorem peek_ok {Z : Addr → Prop} {H : Hp} {σ : St} {r : En} {os : List Addr} {a : Ar} {d : D} {v : V} {o : List Addr} (R : Rel k sx Z r σ H os) (h : ArV k Z H σ a v o) (e : a.peek r = some d) : ∃ o', RD k Z H d v o' := by
  cases h with
  | v h => cases e; exact ⟨_, h⟩
  | @r i v h =>
    unfold Ar.peek at e
    simp only at e
    have e' : slot r i = some d ∧ ∀ c w, d ≠ .exn c w := by
      split at e
      · cases e
      · rename_i n
        exact ⟨e, fun c w z => n c w (by rw [e, z])⟩
    obtain ⟨v', A, o, B, q1, q2, q3, _⟩ := R.rs.focus e'.1 e'.2
    rw [h] at q1
    cases q1
    exact ⟨o, q3⟩
def nset : Expr → Bool
  | .Set _ _ _ => false
  | _ => true
theorem mark_no {op : CmpOp} {e : Expr} (h : nset e = true) : behindInMarks op e = false := by cases e <;> first | rfl | cases h
theorem lastMarks_no : ∀ (ops : List CmpOp) (es : List Expr), (∀ e ∈ es, nset e = true) → lastMarks ops es = false
  | [], _, _ => by cases ‹List Expr› <;> rfl
  | [_], [], _ => rfl
  | [_], [e], h => mark_no (h e (by simp))
  | [_], _ :: e :: es, h => by unfold lastMarks; rfl
  | _ :: o :: ops, [], _ => rfl
  | _ :: o :: ops, e :: es, h => by
    unfold lastMarks
    exact lastMarks_no (o :: ops) es fun e m => h e (List.mem_cons_of_mem _ m)
theorem chainV (hu : X.A.units + 100 < cLine) (hK : X.K = k.K) (h : SndL X k sx W P F es as) : ∀ {ops : List CmpOp} {x : Ar} {u : V} {v : Value} {pins : List (Addr × Obj)} {s : Shared} {σ : St} {H : Hp} {Z : Addr → Prop} {r : En} {os ox : List Addr} {Q : VK}, ops.length = es.length → es ≠ [] →
    Inv X pins σ H s → RelV u v → Rel k sx Z r σ H os → ArV k Z H σ x u ox → (ox ++ os).Nodup → (∀ a ∈ ox, ¬ Z a) → Sat k sx W Z H os σ (evC x ops (evs P F as) r) (fun b r1 => ∀ H1 Z1 os1, Rel k sx Z1 r1 σ H1 os1 → Step Z Z1 H H1 os os1 → Q (.bl b) H1) →
    wpAny (model X.prog X.w) X.A (compareChain pos v ops (evalEach es X.env)) (EP X pins σ Q) X.xe s := by
  induction h with
  | nil => intro _ _ _ _ _ _ _ _ _ _ _ _ _ _ ne; exact absurd rfl ne
  | @cons e a es as n h1 h2 ih =>
    intro ops x u v pins s σ H Z r os ox Q hl ne I ru R rx nd nz q
    obtain ⟨op, ops, rfl⟩ : ∃ op o, ops = op :: o := by cases ops with | nil => simp at hl | cons a b => exact ⟨a, b, rfl⟩
    cases h2 with
    | nil =>
      have hl : ops = [] := by simpa using hl
      subst hl
      refine PyProof.Rows.chain_last (thn (h1.ar.run pins s σ H (fun y H1 => rCmp X.K op u y H1 Q) I ?_) fun w s1 ⟨y, H1, I1, r1, q1⟩ => opr_cmp op hu pins s1 σ H1 u y v w Q I1 ru r1 q1)
      have q : Sat k sx W Z H os σ (((ev P F a).a r).bind fun y r => .of (cmpA op x y r) r) _ := q
      refine tAr_then R q fun y r1 w H1 Z1 oy os1 R1 ry nd1 nz1 S1 q1 => ?_
      obtain ⟨b, e1, q2⟩ := q1.of
      obtain ⟨dx, p1, e2⟩ := Option.bind_eq_some_iff.mp e1
      obtain ⟨dy, p2, e3⟩ := Option.bind_eq_some_iff.mp e2
      obtain ⟨rx', _, _⟩ := rx.carry nd nz R S1 nd1
      obtain ⟨o1, d1⟩ := peek_ok R1 rx' p1
      obtain ⟨o2, d2⟩ := peek_ok R1 ry p2
      rw [hK]
      exact cmpD_ok e3 d1 d2 (q2 H1 Z1 os1 R1 (S1.less fun x m => List.mem_append_right _ m))
    | @cons e' a' es as n' h1' h2' =>
      obtain ⟨op', ops, rfl⟩ : ∃ op o, ops = op :: o := by cases ops with | nil => simp at hl | cons a b => exact ⟨a, b, rfl⟩
      refine PyProof.Rows.chain_link (thn (h1.ar.run pins s σ H (fun y H1 => ∃ Z1 r1 os1 oy yr b, Rel k sx Z1 r1 σ H1 os1 ∧ ArV k Z1 H1 σ yr y oy ∧ (oy ++ os1).Nodup ∧ (∀ a ∈ oy, ¬ Z1 a) ∧ Step Z Z1 H H1 os (oy ++ os1) ∧ rCmp X.K op u y H1 (fun z H2 => z = .bl b ∧ H2 = H1) ∧
          Sat k sx W Z H os σ (if b then evC yr (op' :: ops) (evs P F (a' :: as)) r1 else .ok false r1) (fun b r1 => ∀ H1 Z1 os1, Rel k sx Z1 r1 σ H1 os1 → Step Z Z1 H H1 os os1 → Q (.bl b) H1)) I ?_) fun w s1 ⟨y, H1, I1, ry, Z1, r1, os1, oy, yr, b, R1, ay, nd1, nz1, S1, cm, q1⟩ => ?_)
      · have q : Sat k sx W Z H os σ (((ev P F a).a r).bind fun y r => match cmpA op x y r with
          | some b => if b then evC y (op' :: ops) (evs P F (a' :: as)) r else .ok false r
          | none => .bad) _ := q
        refine tAr_then R q fun y r1 w H1 Z1 oy os1 R1 ry nd1 nz1 S1 q1 => ?_
        cases e1 : cmpA op x y r1 with
        | none => rw [e1] at q1; exact q1.elim
        | some b =>
          rw [e1] at q1
          obtain ⟨dx, p1, e2⟩ := Option.bind_eq_some_iff.mp e1
          obtain ⟨dy, p2, e3⟩ := Option.bind_eq_some_iff.mp e2
          obtain ⟨rx', _, _⟩ := rx.carry nd nz R S1 nd1
          obtain ⟨o1, d1⟩ := peek_ok R1 rx' p1
          obtain ⟨o2, d2⟩ := peek_ok R1 ry p2
          exact ⟨Z1, r1, os1, oy, y, b, R1, ry, nd1, nz1, S1, by rw [hK]; exact cmpD_ok e3 d1 d2 ⟨rfl, rfl⟩, q1⟩
      · refine thn (opr_cmp op hu pins s1 σ H1 u y v w _ I1 ru ry cm) fun c s2 ⟨z, H2, I2, rz, ez, eh⟩ => ?_
        subst ez eh
        cases rz
        refine wpAny_truthy_bool ?_
        cases b with
        | false => exact PyProof.Rows.ite_ff ⟨.bl false, H2, I2, rfl, q1 H2 Z1 os1 R1 (S1.less fun x m => List.mem_append_right _ m)⟩
        | true =>
          refine PyProof.Rows.ite_tt ?_
          have q1 : Sat k sx W Z H os σ (evC yr (op' :: ops) (evs P F (a' :: as)) r1) _ := q1
          exact ih (by simpa using hl) (by simp) I2 ry R1 ay nd1 nz1 ((q1.base S1).imp fun b r2 g H3 Z3 os3 R3 S3 => g H3 Z3 os3 R3 ((S1.trans (S3.wide oy)).less fun x m => List.mem_append_right _ m))
theorem chainT (hu : X.A.units + 100 < cLine) (hK : X.K = k.K) (h : SndL X k sx W P F es as) : ∀ {ops : List CmpOp} {x : Ar} {u : V} {v : Value} {pins : List (Addr × Obj)} {s : Shared} {σ : St} {H : Hp} {Z : Addr → Prop} {r : En} {os ox : List Addr} {Q : Bool → Hp → Prop}, ops.length = es.length → es ≠ [] →
    Inv X pins σ H s → RelV u v → Rel k sx Z r σ H os → ArV k Z H σ x u ox → (ox ++ os).Nodup → (∀ a ∈ ox, ¬ Z a) → Sat k sx W Z H os σ (evC x ops (evs P F as) r) (fun b r1 => ∀ H1 Z1 os1, Rel k sx Z1 r1 σ H1 os1 → Step Z Z1 H H1 os os1 → Q b H1) →
    wpAny (model X.prog X.w) X.A (testChain pos v ops (evalEach es X.env)) (TP X pins σ Q) X.xe s := by
  induction h with
  | nil => intro _ _ _ _ _ _ _ _ _ _ _ _ _ _ ne; exact absurd rfl ne
  | @cons e a es as n h1 h2 ih =>
    intro ops x u v pins s σ H Z r os ox Q hl ne I ru R rx nd nz q
    obtain ⟨op, ops, rfl⟩ : ∃ op o, ops = op :: o := by cases ops with | nil => simp at hl | cons a b => exact ⟨a, b, rfl⟩
    cases h2 with
    | nil =>
      have hl : ops = [] := by simpa using hl
      subst hl
      refine PyProof.Rows.test_last (thn (h1.ar.run pins s σ H (fun y H1 => rCmp X.K op u y H1 fun z H2 => ∃ b, z = .bl b ∧ Q b H2) I ?_) fun w s1 ⟨y, H1, I1, r1, q1⟩ => thn (opr_cmp op hu pins s1 σ H1 u y v w _ I1 ru r1 q1) fun c s2 ⟨z, H2, I2, rz, b, ez, g⟩ => ?_)
      · have q : Sat k sx W Z H os σ (((ev P F a).a r).bind fun y r => .of (cmpA op x y r) r) _ := q
        refine tAr_then R q fun y r1 w H1 Z1 oy os1 R1 ry nd1 nz1 S1 q1 => ?_
        obtain ⟨b, e1, q2⟩ := q1.of
        obtain ⟨dx, p1, e2⟩ := Option.bind_eq_some_iff.mp e1
        obtain ⟨dy, p2, e3⟩ := Option.bind_eq_some_iff.mp e2
        obtain ⟨rx', _, _⟩ := rx.carry nd nz R S1 nd1
        obtain ⟨o1, d1⟩ := peek_ok R1 rx' p1
        obtain ⟨o2, d2⟩ := peek_ok R1 ry p2
        rw [hK]
        exact cmpD_ok e3 d1 d2 ⟨b, rfl, q2 H1 Z1 os1 R1 (S1.less fun x m => List.mem_append_right _ m)⟩
      · subst ez
        cases rz
        exact wpAny_truthy_bool ⟨H2, I2, g⟩
    | @cons e' a' es as n' h1' h2' =>
      obtain ⟨op', ops, rfl⟩ : ∃ op o, ops = op :: o := by cases ops with | nil => simp at hl | cons a b => exact ⟨a, b, rfl⟩
      refine PyProof.Rows.test_link (thn (h1.ar.run pins s σ H (fun y H1 => ∃ Z1 r1 os1 oy yr b, Rel k sx Z1 r1 σ H1 os1 ∧ ArV k Z1 H1 σ yr y oy ∧ (oy ++ os1).Nodup ∧ (∀ a ∈ oy, ¬ Z1 a) ∧ Step Z Z1 H H1 os (oy ++ os1) ∧ rCmp X.K op u y H1 (fun z H2 => z = .bl b ∧ H2 = H1) ∧
          Sat k sx W Z H os σ (if b then evC yr (op' :: ops) (evs P F (a' :: as)) r1 else .ok false r1) (fun b r1 => ∀ H1 Z1 os1, Rel k sx Z1 r1 σ H1 os1 → Step Z Z1 H H1 os os1 → Q b H1)) I ?_) fun w s1 ⟨y, H1, I1, ry, Z1, r1, os1, oy, yr, b, R1, ay, nd1, nz1, S1, cm, q1⟩ => ?_)
      · have q : Sat k sx W Z H os σ (((ev P F a).a r).bind fun y r => match cmpA op x y r with
          | some b => if b then evC y (op' :: ops) (evs P F (a' :: as)) r else .ok false r
          | none => .bad) _ := q
        refine tAr_then R q fun y r1 w H1 Z1 oy os1 R1 ry nd1 nz1 S1 q1 => ?_
        cases e1 : cmpA op x y r1 with
        | none => rw [e1] at q1; exact q1.elim
        | some b =>
          rw [e1] at q1
          obtain ⟨dx, p1, e2⟩ := Option.bind_eq_some_iff.mp e1
          obtain ⟨dy, p2, e3⟩ := Option.bind_eq_some_iff.mp e2
          obtain ⟨rx', _, _⟩ := rx.carry nd nz R S1 nd1
          obtain ⟨o1, d1⟩ := peek_ok R1 rx' p1
          obtain ⟨o2, d2⟩ := peek_ok R1 ry p2
          exact ⟨Z1, r1, os1, oy, y, b, R1, ry, nd1, nz1, S1, by rw [hK]; exact cmpD_ok e3 d1 d2 ⟨rfl, rfl⟩, q1⟩
      · refine thn (opr_cmp op hu pins s1 σ H1 u y v w _ I1 ru ry cm) fun c s2 ⟨z, H2, I2, rz, ez, eh⟩ => ?_
        subst ez eh
        cases rz
        refine wpAny_truthy_bool ?_
        cases b with
        | false => exact PyProof.Rows.ite_ff ⟨H2, I2, q1 H2 Z1 os1 R1 (S1.less fun x m => List.mem_append_right _ m)⟩
        | true =>
          refine PyProof.Rows.ite_tt ?_
          have q1 : Sat k sx W Z H os σ (evC yr (op' :: ops) (evs P F (a' :: as)) r1) _ := q1
          exact ih (by simpa using hl) (by simp) I2 ry R1 ay nd1 nz1 ((q1.base S1).imp fun b r2 g H3 Z3 os3 R3 S3 => g H3 Z3 os3 R3 ((S1.trans (S3.wide oy)).less fun x m => List.mem_append_right _ m))
theorem s_cmp {e : Expr} {a : E} {ops : List CmpOp} (hu : X.A.units + 100 < cLine) (hK : X.K = k.K) (h0 : Snd X k sx W P F e a) (h : SndL X k sx W P F es as) (hl : ops.length = es.length) (ne : es ≠ []) (ns : ∀ e ∈ es, nset e = true) : Snd X k sx W P F (.Compare e ops es pos) (.cmp a ops as) := by
  have lm := lastMarks_no ops es ns
  have hv : PE X (.Compare e ops es pos) (tV k sx W fun r => ((ev P F a).a r).bind fun x r => (evC x ops (evs P F as) r).bind fun b r => .ok (.bl b) r) := by
    refine ⟨fun pins s σ H Q I ⟨Z, r, os, R, q⟩ => ?_⟩
    show wpAny _ _ (do compareChain pos (← eval e X.env) ops (markedEach ops es (evalEach es X.env))) _ _ _
    rw [PyProof.Rows.markedEach_of_false _ _ _ lm]
    refine wpAny_bind (thn (h0.ar.run pins s σ H (fun u H1 => ∃ Z1 r1 os1 ox x, Rel k sx Z1 r1 σ H1 os1 ∧ ArV k Z1 H1 σ x u ox ∧ (ox ++ os1).Nodup ∧ (∀ a ∈ ox, ¬ Z1 a) ∧ Step Z Z1 H H1 os (ox ++ os1) ∧
      Sat k sx W Z H os σ ((evC x ops (evs P F as) r1).bind fun b r => .ok (.bl b) r) (PostV k sx Z H os σ Q)) I ?_) fun v s1 ⟨u, H1, I1, ru, Z1, r1, os1, ox, x, R1, ax, nd1, nz1, S1, q1⟩ => ?_)
    · exact tAr_then R q fun y r1 w H1 Z1 oy os1 R1 ry nd1 nz1 S1 q1 => ⟨Z1, r1, os1, oy, y, R1, ry, nd1, nz1, S1, q1⟩
    · exact chainV hu hK h hl ne I1 ru R1 ax nd1 nz1 (((Sat.bind.mp q1).base S1).imp fun b r2 g H2 Z2 os2 R2 S2 => PostV.atom g (t := ox) (S1.trans (S2.wide ox)) R2 (.bl _))
  refine ⟨hv, ⟨fun pins s σ H Q I ⟨Z, r, os, R, q⟩ => ?_⟩, arg hv, pl_no fun _ => rfl, it_no fun _ => rfl⟩
  show wpAny _ _ (do testChain pos (← eval e X.env) ops (markedEach ops es (evalEach es X.env))) _ _ _
  rw [PyProof.Rows.markedEach_of_false _ _ _ lm]
  refine wpAny_bind (thn (h0.ar.run pins s σ H (fun u H1 => ∃ Z1 r1 os1 ox x, Rel k sx Z1 r1 σ H1 os1 ∧ ArV k Z1 H1 σ x u ox ∧ (ox ++ os1).Nodup ∧ (∀ a ∈ ox, ¬ Z1 a) ∧ Step Z Z1 H H1 os (ox ++ os1) ∧
    Sat k sx W Z H os σ (evC x ops (evs P F as) r1) (PostT k sx Z H os σ Q)) I ?_) fun v s1 ⟨u, H1, I1, ru, Z1, r1, os1, ox, x, R1, ax, nd1, nz1, S1, q1⟩ => ?_)
  · exact tAr_then R q fun y r1 w H1 Z1 oy os1 R1 ry nd1 nz1 S1 q1 => ⟨Z1, r1, os1, oy, y, R1, ry, nd1, nz1, S1, q1⟩
  · exact chainT hu hK h hl ne I1 ru R1 ax nd1 nz1 ((Sat.base q1 S1).imp fun b r2 g H2 Z2 os2 R2 S2 => g H2 Z2 os2 R2 ((S1.trans (S2.wide ox)).less fun x m => List.mem_append_right _ m))
end
end Mv

namespace Mv
open PySem L2

theorem pe_or {X : Cx} {e : Expr} {t u : TE} (h : PE X e t) (g : PE X e u) : PE X e (fun σ H Q => t σ H Q ∨ u σ H Q) := ⟨fun pins s σ H Q I q => q.elim (h.run pins s σ H Q I) (g.run pins s σ H Q I)⟩

section
variable {X : Cx} {k : Kc} {sx : Option (Addr × Addr)} {W : WX} {P : Pg} {F : Nat → List D → FOut} {pos : Pos} {es : List Expr} {as : List E}
theorem s_tup {n : Nat} (hK : X.K = k.K) (h : SndL X k sx W P F es as) : Snd X k sx W P F (.Tuple es n pos) (.tup as) := by
  refine snd1 (f := fun r => (evEs (evs P F as) r).bind fun ds r => if fits ds then .ok (.tup (D.frzs ds)) r else .bad) hK ((pe_tup (pa_es h)).weak fun σ H Q ⟨Z, r, os, R, q⟩ => ?_) (fun _ => rfl) rfl (pl_no fun _ => rfl) (it_no fun _ => rfl)
  refine tL_then R q fun ds r1 vs H1 Z1 od os1 R1 T nd nz S1 q1 => ?_
  show vs.length ≤ sizeLine ∧ ∀ p, H1 p = none → Q (.ref p) (upd H1 p (.tup vs))
  split at q1
  · rename_i c
    refine ⟨by rw [slE, T.length]; exact of_decide_eq_true c, fun p hp => ?_⟩
    obtain ⟨Z2, R2, rd, S2⟩ := new_tup R1 T nd hp
    exact q1 _ _ Z2 [] os1 R2 rd R2.nd (fun _ m => by cases m) (S1.trans S2)
  · exact q1.elim
theorem s_lst (hK : X.K = k.K) (h : SndL X k sx W P F es as) : Snd X k sx W P F (.List es pos) (.lst as) := by
  refine snd1 (f := fun r => (evEs (evs P F as) r).bind fun ds r => if fits ds then .ok (.lst .own ds) r else .bad) hK ((pe_lst (pa_es h)).weak fun σ H Q ⟨Z, r, os, R, q⟩ => ?_) (fun _ => rfl) rfl (pl_no fun _ => rfl) (it_no fun _ => rfl)
  refine tL_then R q fun ds r1 vs H1 Z1 od os1 R1 T nd nz S1 q1 => ?_
  show vs.length ≤ sizeLine ∧ ∀ p, H1 p = none → Q (.ref p) (upd H1 p (.lst vs))
  split at q1
  · rename_i c
    refine ⟨by rw [slE, T.length]; exact of_decide_eq_true c, fun p hp => ?_⟩
    obtain ⟨R2, rd, n2, z2, S2⟩ := new_lst R1 T nd nz hp
    exact q1 _ _ Z1 (p :: od) os1 R2 rd n2 z2 (S1.trans S2)
  · exact q1.elim

/-! ### a[i] -/
theorem atI_of {α : Type} {xs : List α} {i : Int} {j : Nat} {v : α} (h : Mv.ixN xs.length i = some j) (e : xs[j]? = some v) : atI xs i = some v := by
  have h : L2.ixN xs.length i = some j := h
  unfold atI
  rw [h]
  exact e
theorem cp_ix {K : PySem.W.Frag} {H : Hp} {u w : V} {n : Int} {Q : VK} (h : CP k H u [.ix n] w) (hK : K = k.K) (q : Q w H) : rIx K u (.int n) H Q := by
  subst hK
  cases h with
  | ixl h1 h2 h3 h4 => cases h4; exact .inl ⟨_, _, n, _, rfl, rfl, h1, atI_of h2 h3, q⟩
  | ixt h1 h2 h3 h4 => cases h4; exact .inr (.inl ⟨_, _, n, _, rfl, rfl, h1, atI_of h2 h3, q⟩)
theorem plain_ix {b : Expr} (h : ∀ l u s p, b ≠ .Slice l u s p) : PlainIx b := by
  intro o i
  cases b <;> first | rfl | exact absurd rfl (h _ _ _ _)
theorem readP_some {Z : Addr → Prop} {H : Hp} {os : List Addr} {σ : St} {r : En} {x : Nat} {p : List St1} {Q : D → En → Prop} (h : Sat k sx W Z H os σ (readP r x p) Q) : ∃ d e, slot r x = some d ∧ getP d p = some e ∧ ∀ c w, e ≠ .exn c w := by
  unfold readP at h
  cases s : slot r x with
  | none => rw [s] at h; exact h.elim
  | some d =>
    rw [s] at h
    cases g : getP d p with
    | none => simp only [g] at h; exact h.elim
    | some e =>
      refine ⟨d, e, rfl, g, fun c w z => ?_⟩
      subst z
      simp only [g] at h
      exact h
theorem getP_exn {c : Nat} {w e : D} {s : St1} {p : List St1} : getP (.exn c w) (s :: p) ≠ some e := by
  intro h
  cases s <;> cases h
theorem way_of {Z : Addr → Prop} {H : Hp} {os : List Addr} {σ : St} {r : En} {x : Nat} {d : D} (R : Rel k sx Z r σ H os) (s : slot r x = some d) : ∀ (p : List St1) (e : D), getP d p = some e → (∀ c w, d ≠ .exn c w) → ∃ w, WayAt k sx Z r σ H os x p e w := by
  intro p
  induction hp : p.length generalizing p with
  | zero =>
    intro e g ne
    cases p with
    | nil =>
      cases g
      obtain ⟨v, _, wy⟩ := WayAt.nil R.rs s ne
      exact ⟨v, wy⟩
    | cons _ _ => simp at hp
  | succ n ih =>
    intro e g ne
    obtain ⟨q, t, rfl⟩ : ∃ q t, p = q ++ [t] := ⟨p.dropLast, p.getLast (by intro z; subst z; simp at hp), (List.dropLast_concat_getLast _).symm⟩
    rw [getP_snoc] at g
    obtain ⟨e1, g1, g2⟩ := Option.bind_eq_some_iff.mp g
    obtain ⟨w, wy⟩ := ih q (by simpa using hp) e1 g1 ne
    obtain ⟨w', _, wy'⟩ := wy.snoc g2
    exact ⟨w', wy'⟩
/-- a place with one more index -/
theorem pl_idx {e1 e2 : Expr} {a1 a2 : E} (hK : X.K = k.K) (h1 : PE X e1 (tPl k sx a1)) (h2 : PE X e2 (tI k sx a2)) (hi : PlainIx e2) : PE X (.Subscript e1 e2 pos) (tPl k sx (.idx a1 a2)) := by
  refine (pe_ix ix_seq h1 h2 hi).weak fun σ H Q ⟨Z, r, os, x, p, e, R, q, pk, ne, g⟩ => ?_
  obtain ⟨⟨x1, p1⟩, q1, q2⟩ := Option.bind_eq_some_iff.mp (show ((path a1 r).bind fun p => (evI a2 r).map fun n => (p.1, p.2 ++ [.ix n])) = some (x, p) from q)
  obtain ⟨n, q3, q4⟩ := Option.map_eq_some_iff.mp q2
  cases q4
  obtain ⟨d, s, pk⟩ := Option.bind_eq_some_iff.mp (show (slot r x1).bind (fun d => getP d (p1 ++ [.ix n])) = some e from pk)
  rw [getP_snoc] at pk
  obtain ⟨e1', g1, g2⟩ := Option.bind_eq_some_iff.mp pk
  refine ⟨Z, r, os, x1, p1, e1', R, q1, by show (slot r x1).bind (fun d => getP d p1) = some e1'; rw [s]; exact g1, ne, fun u wy => ⟨Z, r, os, n, R, q3, ?_⟩⟩
  obtain ⟨w, c, wy'⟩ := wy.snoc g2
  exact cp_ix c hK (g w wy')
theorem it_idx {e1 e2 : Expr} {a1 a2 : E} (hp : PE X (.Subscript e1 e2 pos) (tPl k sx (.idx a1 a2))) : PE X (.Subscript e1 e2 pos) (tI k sx (.idx a1 a2)) := by
  refine hp.weak fun σ H Q ⟨Z, r, os, n, R, q, g⟩ => ?_
  obtain ⟨⟨x1, p1⟩, q1, q2⟩ := Option.bind_eq_some_iff.mp (show ((path a1 r).bind fun p => (evI a2 r).bind fun n => match peekP r p.1 (p.2 ++ [.ix n]) with
    | some (.int m) => some m
    | _ => none) = some n from q)
  obtain ⟨m, q3, q4⟩ := Option.bind_eq_some_iff.mp q2
  dsimp only at q4
  split at q4
  · rename_i j pk
    cases q4
    refine ⟨Z, r, os, x1, p1 ++ [.ix m], .int n, R, ?_, pk, fun c w z => ?_, fun w wy => ?_⟩
    · show ((path a1 r).bind fun p => (evI a2 r).map fun n => (p.1, p.2 ++ [.ix n])) = _
      rw [q1]
      show (evI a2 r).map (fun n => (x1, p1 ++ [.ix n])) = _
      rw [q3]
      rfl
    · obtain ⟨d, s, pk⟩ := Option.bind_eq_some_iff.mp (show (slot r x1).bind (fun d => getP d (p1 ++ [.ix m])) = _ from pk)
      rw [z] at s
      cases s
      cases p1 with
      | nil => exact getP_exn pk
      | cons _ _ => exact getP_exn pk
    · obtain ⟨d, A, o, B, _, _, _, _, rd, _⟩ := wy.ex
      cases rd
      exact g
  · cases q4
theorem RD.item {Z : Addr → Prop} {H : Hp} {d e : D} {v : V} {od : List Addr} {n : Int} (h : RD k Z H d v od) (q : itemD d (.int n) = some e) : ∃ w o, CP k H v [.ix n] w ∧ RD k Z H e w o ∧ ∀ a ∈ o, a ∈ od := by
  obtain ⟨w, A, o, B, c1, c2, c3, _⟩ := RD.way [.ix n] d v od e h (by show (itemD d (.int n)).bind (fun e => some e) = some e; rw [q]; rfl)
  subst c2
  exact ⟨w, o, c1, c3, fun a m => by simp [m]⟩
/-- a thing out of a value that is dropped: shared -/
theorem give_frz {Z Z1 : Addr → Prop} {H H1 : Hp} {σ : St} {r : En} {os os1 t o : List Addr} {Q : VK} {e : D} {w : V} (R : Rel k sx Z1 r σ H1 os1) (nd : (t ++ os1).Nodup) (dm : ∀ a ∈ t, ∃ x, H1 a = some x) (rd : RD k Z1 H1 e w o) (sub : ∀ a ∈ o, a ∈ t) (S : Step Z Z1 H H1 os (t ++ os1)) (h : PostV k sx Z H os σ Q e.frz r) : Q w H1 := by
  obtain ⟨R2, S2⟩ := R.share nd dm
  exact h w H1 _ [] os1 R2 (RD.frz (fun a z => .inl z) e w o (fun a m => .inr (sub a m)) rd) R2.nd (fun _ m => by cases m) (S.trans S2)
theorem s_idx {e1 e2 : Expr} {a1 a2 : E} (hK : X.K = k.K) (h1 : Snd X k sx W P F e1 a1) (h2 : Snd X k sx W P F e2 a2) (hi : PlainIx e2) : Snd X k sx W P F (.Subscript e1 e2 pos) (.idx a1 a2) := by
  have hp := pl_idx (pos := pos) hK h1.pl h2.it hi
  -- by the value
  have val : PE X (.Subscript e1 e2 pos) (tV k sx W fun r => ((ev P F a1).v r).bind fun d r => ((ev P F a2).v r).bind fun k r => .of ((itemD d k).map D.frz) r) := by
    refine (pe_ix ix_seq h1.v h2.v hi).weak fun σ H Q ⟨Z, r, os, R, q⟩ => ?_
    refine tV_then R q fun d1 r1 v1 H1 Z1 o1 os1 R1 rd1 nd1 nz1 S1 q1 => ?_
    refine tV_then R1 (q1.base S1) fun d2 r2 v2 H2 Z2 o2 os2 R2 rd2 nd2 nz2 S2 q2 => ?_
    obtain ⟨e, e1, q3⟩ := q2.of
    obtain ⟨e, e2, rfl⟩ := Option.map_eq_some_iff.mp e1
    obtain ⟨rd1', nd1', _⟩ := rd1.carry nd1 nz1 R1 S2 nd2
    cases d2 with
    | int n =>
      cases rd2
      obtain ⟨w, o, c1, c2, c3⟩ := RD.item rd1' e2
      exact cp_ix c1 hK (give_frz R2 nd1' (RD.dom _ _ _ rd1') c2 c3 (S1.trans (S2.wide o1)) q3)
    | _ => cases d1 <;> cases e2
  -- by the place
  have plc : PE X (.Subscript e1 e2 pos) (tV k sx W fun r => match path (.idx a1 a2) r with
      | some (x, p) => readP r x p
      | none => .bad) := by
    refine hp.weak fun σ H Q ⟨Z, r, os, R, q⟩ => ?_
    cases z : path (.idx a1 a2) r with
    | none => simp only [z] at q; exact q.elim
    | some xp =>
      obtain ⟨x, p⟩ := xp
      simp only [z] at q
      obtain ⟨d, e, s, g, ne⟩ := readP_some q
      have pe : p ≠ [] := by
        obtain ⟨⟨x1, p1⟩, q1, q2⟩ := Option.bind_eq_some_iff.mp (show ((path a1 r).bind fun p => (evI a2 r).map fun n => (p.1, p.2 ++ [.ix n])) = some (x, p) from z)
        obtain ⟨n, q3, q4⟩ := Option.map_eq_some_iff.mp q2
        cases q4
        simp
      refine ⟨Z, r, os, x, p, e, R, z, by show (slot r x).bind (fun d => getP d p) = some e; rw [s]; exact g, fun c w y => ?_, fun w wy => readP_ok R wy q (t := []) Step.refl⟩
      rw [s] at y
      cases y
      cases p with
      | nil => exact pe rfl
      | cons _ _ => exact getP_exn g
  have both : PE X (.Subscript e1 e2 pos) (tV k sx W fun r => match path (.idx a1 a2) r with
      | some (x, p) => readP r x p
      | none => ((ev P F a1).v r).bind fun d r => ((ev P F a2).v r).bind fun k r => .of ((itemD d k).map D.frz) r) := by
    refine (pe_or plc val).weak fun σ H Q ⟨Z, r, os, R, q⟩ => ?_
    cases z : path (.idx a1 a2) r with
    | none => simp only [z] at q; exact .inr ⟨Z, r, os, R, q⟩
    | some xp => simp only [z] at q; exact .inl ⟨Z, r, os, R, by simp only [z]; exact q⟩
  by_cases hv : ∃ x, a1 = .var x
  · obtain ⟨x, rfl⟩ := hv
    refine snd1 (f := fun r => if has r x then (((ev P F a2).v r).bind fun k r => match k with
      | .int n => readP r x [.ix n]
      | _ => .bad) else .bad) hK ((pe_ix ix_seq h1.ar h2.v hi).weak fun σ H Q ⟨Z, r, os, R, q⟩ => ?_) (fun _ => rfl) rfl hp (it_idx hp)
    dsimp only at q
    split at q
    · rename_i c
      refine ⟨Z, r, os, R, ?_⟩
      show Sat k sx W Z H os σ (if has r x = true then Out.ok (Ar.r x) r else Out.bad) (PostA k sx Z H os σ _)
      rw [if_pos c]
      intro v H1 Z1 od os1 R1 av nd nz S1
      cases av with
      | r hv =>
        refine tV_then R1 (q.base S1) fun d2 r2 v2 H2 Z2 o2 os2 R2 rd2 nd2 nz2 S2 q2 => ?_
        cases d2 with
        | int n =>
          cases rd2
          obtain ⟨d, e, s, g, ne⟩ := readP_some q2
          obtain ⟨e', g1, g2⟩ := Option.bind_eq_some_iff.mp (show (itemD d (.int n)).bind (fun e => some e) = some e from g)
          cases g2
          obtain ⟨v', hv', wy⟩ := WayAt.nil R2.rs s (fun c w z => by subst z; cases g1)
          rw [hv] at hv'
          cases hv'
          obtain ⟨w, c1, wy'⟩ := wy.snoc (s := .ix n) g1
          exact cp_ix c1 hK (readP_ok R2 wy' q2 (t := []) ((S1.trans (S2.wide [])).less fun x m => List.mem_append_right _ m))
        | _ => exact q2.elim
    · exact q.elim
  · refine snd1 hK both (fun _ => rfl) ?_ hp (it_idx hp)
    cases a1 <;> first | rfl | exact absurd ⟨_, rfl⟩ hv
/-! ### fields -/
theorem cp_fl {H : Hp} {u w : V} {f : Nat} {Q : VK} {te : TE} (h : CP k H u [.fl f] w) (q : Q w H) : ∃ a C dx fs v, u = .ref a ∧ H a = some (.ins C dx fs) ∧ Cls k.K C ∧ NoAttr k.K C (k.aN f) ∧ fs.lookup (k.aN f) = some v ∧ Q v H := by
  cases h with
  | fl h1 h2 h3 h4 =>
    cases h4
    obtain ⟨c1, c2⟩ := k.cls _ h2.1
    exact ⟨_, _, _, _, _, rfl, h1, c1, c2 _ h2.2, h3, q⟩
theorem s_attr {e1 : Expr} {a1 : E} {f : Nat} {x : Str} (hK : X.K = k.K) (h1 : Snd X k sx W P F e1 a1) (hf : k.aN f = x) (hb : attributeBase e1 x X.env (eval e1 X.env) = eval e1 X.env) : Snd X k sx W P F (.Attribute e1 x pos) (.attr a1 f) := by
  subst hf
  have hp : PE X (.Attribute e1 (k.aN f) pos) (tPl k sx (.attr a1 f)) := by
    refine (pe_fld h1.pl hb).weak fun σ H Q ⟨Z, r, os, x, p, e, R, q, pk, ne, g⟩ => ?_
    obtain ⟨⟨x1, p1⟩, q1, q4⟩ := Option.map_eq_some_iff.mp (show ((path a1 r).map fun p => (p.1, p.2 ++ [.fl f])) = some (x, p) from q)
    cases q4
    obtain ⟨d, s, pk⟩ := Option.bind_eq_some_iff.mp (show (slot r x1).bind (fun d => getP d (p1 ++ [.fl f])) = some e from pk)
    rw [getP_snoc] at pk
    obtain ⟨e1', g1, g2⟩ := Option.bind_eq_some_iff.mp pk
    refine ⟨Z, r, os, x1, p1, e1', R, q1, by show (slot r x1).bind (fun d => getP d p1) = some e1'; rw [s]; exact g1, ne, fun u wy => ?_⟩
    obtain ⟨w, c, wy'⟩ := wy.snoc g2
    rw [hK]
    exact cp_fl (te := tVar 0) c (g w wy')
  refine snd1 (f := fun r => match path (.attr a1 f) r with
    | some (x, p) => readP r x p
    | none => ((ev P F a1).v r).bind fun d r => .of ((fldD d f).map D.frz) r) hK ?_ (fun _ => rfl) rfl hp (it_no fun _ => rfl)
  have val : PE X (.Attribute e1 (k.aN f) pos) (tV k sx W fun r => ((ev P F a1).v r).bind fun d r => .of ((fldD d f).map D.frz) r) := by
    refine (pe_fld h1.v hb).weak fun σ H Q ⟨Z, r, os, R, q⟩ => ?_
    refine tV_then R q fun d1 r1 v1 H1 Z1 o1 os1 R1 rd1 nd1 nz1 S1 q1 => ?_
    obtain ⟨e, e1, q3⟩ := q1.of
    obtain ⟨e, e2, rfl⟩ := Option.map_eq_some_iff.mp e1
    obtain ⟨w, A, o, B, c1, c2, c3, _⟩ := RD.way [.fl f] d1 v1 o1 e rd1 (by show (fldD d1 f).bind (fun e => some e) = some e; rw [e2]; rfl)
    rw [hK]
    exact cp_fl (te := tVar 0) c1 (give_frz R1 nd1 (RD.dom _ _ _ rd1) c3 (fun a m => by rw [c2]; simp [m]) S1 q3)
  have plc : PE X (.Attribute e1 (k.aN f) pos) (tV k sx W fun r => match path (.attr a1 f) r with
      | some (x, p) => readP r x p
      | none => .bad) := by
    refine hp.weak fun σ H Q ⟨Z, r, os, R, q⟩ => ?_
    cases z : path (.attr a1 f) r with
    | none => simp only [z] at q; exact q.elim
    | some xp =>
      obtain ⟨x, p⟩ := xp
      simp only [z] at q
      obtain ⟨d, e, s, g, ne⟩ := readP_some q
      have pe : p ≠ [] := by
        obtain ⟨⟨x1, p1⟩, q1, q4⟩ := Option.map_eq_some_iff.mp (show ((path a1 r).map fun p => (p.1, p.2 ++ [.fl f])) = some (x, p) from z)
        cases q4
        simp
      refine ⟨Z, r, os, x, p, e, R, z, by show (slot r x).bind (fun d => getP d p) = some e; rw [s]; exact g, fun c w y => ?_, fun w wy => readP_ok R wy q (t := []) Step.refl⟩
      rw [s] at y
      cases y
      cases p with
      | nil => exact pe rfl
      | cons _ _ => exact getP_exn g
  refine (pe_or plc val).weak fun σ H Q ⟨Z, r, os, R, q⟩ => ?_
  cases z : path (.attr a1 f) r with
  | none => simp only [z] at q; exact .inr ⟨Z, r, os, R, q⟩
  | some xp => simp only [z] at q; exact .inl ⟨Z, r, os, R, by simp only [z]; exact q⟩
end
end Mv

namespace Mv
open PySem L2

/-! ### built-ins -/
def btV : Bt → Value
  | .len => .builtin "len" | .int => .type "int" | .bool => .type "bool" | .tuple => .type "tuple" | .list => .type "list" | .sum => .builtin "sum" | .max => .builtin "max" | .min => .builtin "min"
  | .sorted => .builtin "sorted" | .abs => .builtin "abs" | .str => .type "str" | .all => .builtin "all" | .any => .builtin "any"
theorem lookup_mem {α : Type} : ∀ {l : List (Str × α)} {x : Str} {b : α}, l.lookup x = some b → (x, b) ∈ l
  | [], _, _, h => by cases h
  | (y, c) :: l, x, b, h => by
    rw [List.lookup_cons] at h
    split at h
    · rename_i e
      cases h
      rw [beq_iff_eq.mp e]
      exact List.mem_cons_self
    · exact List.mem_cons_of_mem _ (lookup_mem h)
theorem bt_tab : ∀ p ∈ btTab, bootBuiltins p.1 = some (btV p.2) := by decide +kernel
theorem btOf_ok {x : Str} {b : Bt} (h : btOf x = some b) : bootBuiltins x = some (btV b) := bt_tab (x, b) (lookup_mem h)
/-! ### the sum of a tuple of ints -/
section
variable {prog : Program} {w : World} {A : Around} {E : Value → Shared → Prop} {s : Shared} {l : Addr} {its : List Value} {ns : List Int} {Q : Value → Shared → Prop}
theorem sum_tup (hh : A.handled = none) (hl : s.heap.IsTuple l its.toArray) (hi : PyProof.Rows.IntsAre its ns)
    (h : ∀ h' tk t', (∀ b o, s.heap.get? b = some o → h'.get? b = some o) → Q (.int ns.sum t') { s with heap := h', toks := tk }) : wpAny (model prog w) A (call (.builtin "sum") [.ref l]) Q E s := by
  obtain ⟨xs, e⟩ := hi.allInts.items
  have hn : numsOf (intItems xs).toList = ns := by rw [← e]; exact hi.numsOf
  rw [nums_intItems] at hn
  rw [e] at hl
  have hlt : l < s.heap.objs.size := by obtain ⟨_, e, _⟩ := hl; exact Heap.lt_size e
  refine call_sum_walkG (wpAny_pyIter_tuple hl ?_)
  refine ⟨_, [s.heap.objs.size, l], [s.heap.objs.size], _, _, _, numAt xs, rfl, Walks.tuple (A := A.in1) hh _ l (Nat.ne_of_lt hlt) (intItems xs), ⟨⟨_, Heap.get?_push_size _ rfl, rfl, rfl⟩, hl.push _⟩, fun b hb => ?_, fun _ _ => intItems_at, fun h' tk t' hk => ?_⟩
  · show b < (s.heap.push _).objs.size
    rw [Heap.size_push]
    rcases List.mem_cons.mp hb with rfl | hb
    · exact Nat.lt_succ_self _
    · rcases List.mem_cons.mp hb with rfl | hb
      · exact Nat.lt_succ_of_lt hlt
      · cases hb
  · have := h h' tk t' fun b o e => hk b o (fun hm => absurd (Heap.lt_size e) ((List.mem_singleton.mp hm) ▸ Nat.lt_irrefl _)) (Heap.get?_push_of_some _ e)
    rw [← hn] at this
    rw [preSum_eq, List.take_of_length_le (by simp [intItems])]
    exact this
end
theorem cr_sumT {X : Cx} (hc : X.calm = true) : CallR X (.builtin "sum") (fun xs H Q => ∃ (a : Addr) (ns : List Int), xs = [V.ref a] ∧ SqT X.K H a (ns.map V.int) ∧ Q (.int ns.sum) H) := by
  intro pins s σ H vs us Q I r h
  obtain ⟨a, ns, rfl, hs, q⟩ := h
  obtain ⟨its, rv, hl, _⟩ := I.tuple hs
  rw [Vals.ref1 r]
  exact sum_tup (I.ok.hd hc) (show s.heap.IsTuple a its.toArray from hl) rv.ints fun h' tk t' hk => ⟨.int _, H, I.kept hk, ⟨_, rfl⟩, q⟩
theorem cr_or {X : Cx} {f : Value} {r r' : List V → Hp → VK → Prop} (h : CallR X f r) (h' : CallR X f r') : CallR X f (fun xs H Q => r xs H Q ∨ r' xs H Q) := fun pins s σ H vs us Q I rv q => q.elim (h pins s σ H vs us Q I rv) (h' pins s σ H vs us Q I rv)
def rBt (K : PySem.W.Frag) : Bt → List V → Hp → VK → Prop
  | .len => fun xs H Q => ∃ x n, xs = [x] ∧ LenV K x H n ∧ Q (.int n) H
  | .int => fun xs H Q => (∃ i, xs = [.int i] ∧ Q (.int i) H) ∨ ∃ k, xs = [.bl k] ∧ Q (.int (if k then 1 else 0)) H
  | .bool => fun xs H Q => (∃ i, xs = [.int i] ∧ Q (.bl (i != 0)) H) ∨ ∃ k, xs = [.bl k] ∧ Q (.bl k) H
  | .tuple => fun xs H Q => ∃ p ys, xs = [.ref p] ∧ ((SqL K H p ys ∧ ∀ l, H l = none → Q (.ref l) (upd H l (.tup ys))) ∨ (SqT K H p ys ∧ Q (.ref p) H))
  | .list => fun xs H Q => ∃ p ys, xs = [.ref p] ∧ (SqL K H p ys ∨ SqT K H p ys) ∧ ∀ l, H l = none → Q (.ref l) (upd H l (.lst ys))
  | .sum => fun xs H Q => rSum K xs H Q ∨ ∃ (a : Addr) (ns : List Int), xs = [V.ref a] ∧ SqT K H a (ns.map V.int) ∧ Q (.int ns.sum) H
  | .max => fun xs H Q => ∃ i j, xs = [.int i, .int j] ∧ Q (.int (if j > i then j else i)) H
  | .min => fun xs H Q => ∃ i j, xs = [.int i, .int j] ∧ Q (.int (if j < i then j else i)) H
  | .sorted => fun xs H Q => (rSortedI K xs H Q ∨ rSortedPT K xs H Q) ∨ rSortedPU K xs H Q
  | .abs => fun xs H Q => ∃ i, xs = [.int i] ∧ Q (.int (if i < 0 then -i else i)) H
  | .all => rAll K
  | .any => rAny K
  | .str => fun _ _ _ => False
section
variable {X : Cx}
theorem CallR.no {f : Value} : CallR X f (fun _ _ _ => False) := fun _ _ _ _ _ _ _ _ _ q => q.elim
theorem cr_bt (hc : X.calm = true) (b : Bt) : CallR X (btV b) (rBt X.K b) := by
  cases b <;> first
    | exact call_len
    | exact call_int1
    | exact call_bool1
    | exact call_tuple_of
    | exact call_list_of
    | exact cr_or (cr_sum hc) (cr_sumT hc)
    | exact call_max2 hc
    | exact call_min2 hc
    | exact cr_or (cr_or cr_sortedI cr_sortedPT) cr_sortedPU
    | exact call_abs
    | exact cr_all hc
    | exact cr_any hc
    | exact cr_all
    | exact cr_any
    | exact CallR.no
theorem sortI_ok (l l' : List Int) (h : l'.Perm l) (s : l'.Pairwise (· ≤ ·)) : l' = sortI l := by
  refine PySem.W.ksm_same (h.trans (List.mergeSort_perm l _).symm) s ?_
  have q := List.pairwise_mergeSort (le := fun a b : Int => decide (a ≤ b)) (by intro a b c h1 h2; simp at *; omega) (by intro a b; simp; omega) l
  exact q.imp fun h => of_decide_eq_true h
end

section
variable {X : Cx} {k : Kc} {sx : Option (Addr × Addr)} {W : WX} {P : Pg} {F : Nat → List D → FOut} {pos : Pos} {es : List Expr} {as : List E}
variable {Z Z' Z0 Z1 Z2 : Addr → Prop} {H H' H0 H1 H2 : Hp} {σ : St} {r r1 r2 : En} {os os' os0 os1 os2 od : List Addr}
/-- values that are looked at -/
inductive Lk (k : Kc) (Z : Addr → Prop) (H : Hp) : List D → List V → Prop
  | nil : Lk k Z H [] []
  | cons {d : D} {v : V} {o : List Addr} {ds : List D} {vs : List V} : RD k Z H d v o → Lk k Z H ds vs → Lk k Z H (d :: ds) (v :: vs)
theorem peekA_ok {a : List Ar} {vs : List V} (R : Rel k sx Z r σ H os) (h : ArVs k Z H σ a vs od) : ∀ {ds : List D}, peekA r a = some ds → Lk k Z H ds vs := by
  induction h with
  | nil => intro ds e; cases e; exact .nil
  | @cons a as v vs o os' h1 h2 ih =>
    intro ds e
    obtain ⟨d, e1, e2⟩ := Option.bind_eq_some_iff.mp (show ((a.peek r).bind fun d => (peekA r as).map fun ds => d :: ds) = some ds from e)
    obtain ⟨ds', e3, rfl⟩ := Option.map_eq_some_iff.mp e2
    obtain ⟨o', rd⟩ := peek_ok R h1 e1
    exact .cons rd (ih e3)
theorem Lk.one {d : D} {vs : List V} (h : Lk k Z H [d] vs) : ∃ v o, vs = [v] ∧ RD k Z H d v o := by
  cases h with
  | cons h1 h2 => cases h2; exact ⟨_, _, rfl, h1⟩
theorem Lk.two {d e : D} {vs : List V} (h : Lk k Z H [d, e] vs) : ∃ v w o p, vs = [v, w] ∧ RD k Z H d v o ∧ RD k Z H e w p := by
  cases h with
  | cons h1 h2 => cases h2 with | cons h2 h3 => cases h3; exact ⟨_, _, _, _, rfl, h1, h2⟩
/-- a list of any kind, read -/
theorem lst_rd {kd : Kd} {ds : List D} {v : V} (h : RD k Z H (.lst kd ds) v od) : ∃ a vs o2, v = .ref a ∧ SqL k.K H a vs ∧ RDs k Z H ds vs o2 := by
  cases h with
  | own h1 h2 => exact ⟨_, _, _, rfl, SqL.of h1, h2⟩
  | shr _ h1 h2 => exact ⟨_, _, _, rfl, SqL.of h1, h2⟩
  | giv h1 h2 => exact ⟨_, _, _, rfl, h1.sq, h2⟩
theorem blsOf_vs : ∀ {ds : List D} {vs : List V} {os : List Addr} {ns : List Bool}, RDs k Z H ds vs os → blsOf ds = some ns → vs = ns.map V.bl
  | [], _, _, _, h, e => by cases h; cases e; rfl
  | d :: ds, _, _, ns, h, e => by
    cases d with
    | bl i =>
      obtain ⟨ms, e1, rfl⟩ := Option.map_eq_some_iff.mp (show (blsOf ds).map (fun x => i :: x) = some ns from e)
      cases h with
      | cons h1 h2 =>
        cases h1
        rw [blsOf_vs h2 e1]
        rfl
    | _ => cases e
theorem ints_rd (ns : List Int) : RDs k Z H (ns.map D.int) (ns.map V.int) [] := by
  induction ns with
  | nil => exact .nil
  | cons n ns ih => exact .cons (o := []) (.int n) ih
theorem RDs.split1' {d : D} {ds : List D} {vs : List V} (h : RDs k Z H (d :: ds) vs []) : ∃ v us, vs = v :: us ∧ RD k Z H d v [] ∧ RDs k Z H ds us [] := by
  generalize hz : ([] : List Addr) = z at h
  cases h with
  | cons h1 h2 =>
    obtain ⟨rfl, rfl⟩ := List.append_eq_nil_iff.mp hz.symm
    exact ⟨_, _, rfl, h1, h2⟩
theorem prs_rd : ∀ {ds : List D} {vs : List V} {os : List Addr} {l : List (Int × Int)}, RDs k Z H ds vs os → prsOf ds = some l → ∃ zs : List (V × (Int × Int)), vs = zs.map Prod.fst ∧ zs.map Prod.snd = l ∧ ∀ z ∈ zs, RD k Z H (prD z.2) z.1 []
  | [], _, _, l, h, e => by cases h; cases e; exact ⟨[], rfl, rfl, fun _ m => by cases m⟩
  | d :: ds, _, _, l, h, e => by
    unfold prsOf at e
    split at e
    · cases e; cases ‹_ = []›
    · rename_i i j r he
      cases he
      obtain ⟨l', e1, rfl⟩ := Option.map_eq_some_iff.mp e
      cases h with
      | cons h1 h2 =>
        obtain ⟨zs, z1, z2, z3⟩ := prs_rd h2 e1
        subst z1
        have o0 := h1
        cases h1 with
        | tup a b => exact ⟨(_, (i, j)) :: zs, rfl, by rw [List.map_cons, z2], fun z m => by
            rcases List.mem_cons.mp m with rfl | m
            · exact .tup a b
            · exact z3 z m⟩
    · cases e
theorem prs_back : ∀ {ws : List (V × (Int × Int))}, (∀ z ∈ ws, RD k Z H (prD z.2) z.1 []) → RDs k Z H ((ws.map Prod.snd).map prD) (ws.map Prod.fst) []
  | [], _ => .nil
  | w :: ws, h => .cons (o := []) (h w List.mem_cons_self) (prs_back fun z m => h z (List.mem_cons_of_mem _ m))
theorem bltD_ok {b : Bt} {ds : List D} {d : D} {vs : List V} {t : List Addr} {Q : VK} (e : bltD b ds = some d) (R : Rel k sx Z1 r σ H1 os1) (h : Lk k Z1 H1 ds vs) (S : Step Z Z1 H H1 os (t ++ os1)) (q : PostV k sx Z H os σ Q d r) : rBt k.K b vs H1 Q := by
  have fresh : ∀ {ds : List D} {us : List V} {p : Addr}, PostV k sx Z H os σ Q (.lst .own ds) r → RDs k Z1 H1 ds us [] → H1 p = none → Q (.ref p) (upd H1 p (.lst us)) := fun {ds us p} h t hp => by
    obtain ⟨R2, rd, n2, z2, S2⟩ := new_lst (od := []) R t R.nd (fun _ m => by cases m) hp
    exact h _ _ _ _ _ R2 rd n2 z2 ((S.less fun x m => List.mem_append_right _ m).trans S2)
  unfold bltD at e
  split at e
  · obtain ⟨v, o, rfl, rd⟩ := h.one
    cases e
    obtain ⟨a, us, o2, rfl, hs, T⟩ := lst_rd rd
    exact ⟨_, _, rfl, .inl ⟨us, hs, T.length.symm⟩, q.atom S R (.int _)⟩
  · obtain ⟨v, o, rfl, rd⟩ := h.one
    cases e
    cases rd with
    | @tup a us _ hs T => exact ⟨_, _, rfl, .inr ⟨us, hs.sq, T.length.symm⟩, q.atom S R (.int _)⟩
  · obtain ⟨v, o, rfl, rd⟩ := h.one
    split at e
    · rename_i c
      cases e
      cases rd
      exact ⟨_, _, rfl, ⟨by rw [slE]; exact c, rfl⟩, q.atom S R (.int _)⟩
    · cases e
  · obtain ⟨v, o, rfl, rd⟩ := h.one
    cases e
    cases rd
    exact .inl ⟨_, rfl, q.atom S R (.int _)⟩
  · obtain ⟨v, o, rfl, rd⟩ := h.one
    cases e
    cases rd
    exact .inr ⟨_, rfl, q.atom S R (.int _)⟩
  · obtain ⟨v, o, rfl, rd⟩ := h.one
    cases e
    cases rd
    exact .inl ⟨_, rfl, q.atom S R (.bl _)⟩
  · obtain ⟨v, o, rfl, rd⟩ := h.one
    cases e
    cases rd
    exact .inr ⟨_, rfl, q.atom S R (.bl _)⟩
  · obtain ⟨v, o, rfl, rd⟩ := h.one
    split at e
    · rename_i c
      cases e
      obtain ⟨a, us, o2, rfl, hs, T⟩ := lst_rd rd
      have z := T.noOwn c
      subst z
      refine ⟨_, us, rfl, .inl ⟨hs, fun p hp => ?_⟩⟩
      obtain ⟨Z2, R2, rd2, S2⟩ := new_tup (od := []) R T R.nd hp
      rw [RDs.frz_id _ _ T] at rd2
      exact q _ _ _ _ _ R2 rd2 R2.nd (fun _ m => by cases m) ((S.less fun x m => List.mem_append_right _ m).trans S2)
    · cases e
  · obtain ⟨v, o, rfl, rd⟩ := h.one
    cases e
    cases rd with
    | @tup a us _ hs T => exact ⟨a, us, rfl, .inr ⟨hs.sq, q.atom S R (.tup hs T)⟩⟩
  · obtain ⟨v, o, rfl, rd⟩ := h.one
    split at e
    · rename_i c
      cases e
      obtain ⟨a, us, o2, rfl, hs, T⟩ := lst_rd rd
      have z := T.noOwn c
      subst z
      exact ⟨a, us, rfl, .inl hs, fun p hp => fresh q T hp⟩
    · cases e
  · obtain ⟨v, o, rfl, rd⟩ := h.one
    cases e
    cases rd with
    | @tup a us _ hs T => exact ⟨a, us, rfl, .inr hs.sq, fun p hp => fresh q T hp⟩
  · obtain ⟨v, o, rfl, rd⟩ := h.one
    obtain ⟨l, e1, rfl⟩ := Option.map_eq_some_iff.mp e
    obtain ⟨a, us, o2, rfl, hs, T⟩ := lst_rd rd
    obtain ⟨z, _⟩ := intsOf_vs T e1
    subst z
    exact .inl ⟨a, l, rfl, hs, q.atom S R (.int _)⟩
  · obtain ⟨v, o, rfl, rd⟩ := h.one
    obtain ⟨l, e1, rfl⟩ := Option.map_eq_some_iff.mp e
    cases rd with
    | @tup a us _ hs T =>
      obtain ⟨z, _⟩ := intsOf_vs T e1
      subst z
      exact .inr ⟨a, l, rfl, hs.sq, q.atom S R (.int _)⟩
  · obtain ⟨v, w, o, p, rfl, rd, rd2⟩ := h.two
    cases e
    cases rd
    cases rd2
    exact ⟨_, _, rfl, q.atom S R (.int _)⟩
  · obtain ⟨v, w, o, p, rfl, rd, rd2⟩ := h.two
    cases e
    cases rd
    cases rd2
    exact ⟨_, _, rfl, q.atom S R (.int _)⟩
  · obtain ⟨v, o, rfl, rd⟩ := h.one
    cases e
    cases rd
    exact ⟨_, rfl, q.atom S R (.int _)⟩
  · obtain ⟨v, o, rfl, rd⟩ := h.one
    obtain ⟨l, e1, rfl⟩ := Option.map_eq_some_iff.mp e
    obtain ⟨a, us, o2, rfl, hs, T⟩ := lst_rd rd
    have z := blsOf_vs T e1
    subst z
    exact ⟨a, l, rfl, hs, q.atom S R (.bl _)⟩
  · obtain ⟨v, o, rfl, rd⟩ := h.one
    obtain ⟨l, e1, rfl⟩ := Option.map_eq_some_iff.mp e
    obtain ⟨a, us, o2, rfl, hs, T⟩ := lst_rd rd
    have z := blsOf_vs T e1
    subst z
    exact ⟨a, l, rfl, hs, q.atom S R (.bl _)⟩
  · obtain ⟨v, o, rfl, rd⟩ := h.one
    obtain ⟨a, us, o2, rfl, hs, T⟩ := lst_rd rd
    split at e
    · rename_i l e1
      cases e
      obtain ⟨z, _⟩ := intsOf_vs T e1
      subst z
      refine .inl (.inl ⟨a, l, rfl, hs, fun ns p h1 h2 hp => ?_⟩)
      rw [sortI_ok l ns h1 h2]
      exact fresh q (ints_rd _) hp
    · obtain ⟨l, e1, rfl⟩ := Option.map_eq_some_iff.mp e
      obtain ⟨zs, z1, z2, z3⟩ := prs_rd T e1
      refine .inl (.inr ⟨a, us, zs, fun x p => RD k Z1 H1 (prD p) x [], rfl, hs, z1, z3, fun x p rd => ?_, fun ws p w1 w2 hp => ?_⟩)
      · generalize hd : prD p = d at rd
        cases rd with
        | @tup t us ds hs T =>
          unfold prD at hd
          cases hd
          obtain ⟨v1, us1, rfl, r1, T1⟩ := T.split1'
          obtain ⟨v2, us2, rfl, r2, T2⟩ := T1.split1'
          cases T2
          cases r1
          cases r2
          exact ⟨t, rfl, hs.sq⟩
        | _ => cases hd
      · rw [z2] at w2
        rw [← w2] at q
        exact fresh q (prs_back w1) hp
  · obtain ⟨v, o, rfl, rd⟩ := h.one
    obtain ⟨l, e1, rfl⟩ := Option.map_eq_some_iff.mp e
    cases rd with
    | @tup a us ds hs T =>
      obtain ⟨zs, z1, z2, z3⟩ := prs_rd T e1
      refine .inr ⟨a, us, zs, fun x p => RD k Z1 H1 (prD p) x [], rfl, hs.sq, z1, z3, fun x p rd => ?_, fun ws p w1 w2 hp => ?_⟩
      · generalize hd : prD p = d at rd
        cases rd with
        | @tup t us ds hs T =>
          unfold prD at hd
          cases hd
          obtain ⟨v1, us1, rfl, r1, T1⟩ := T.split1'
          obtain ⟨v2, us2, rfl, r2, T2⟩ := T1.split1'
          cases T2
          cases r1
          cases r2
          exact ⟨t, rfl, hs.sq⟩
        | _ => cases hd
      · rw [z2] at w2
        rw [← w2] at q
        exact fresh q (prs_back w1) hp
  · cases e
theorem s_blt {x : Str} {b : Bt} {p : Pos} (hK : X.K = k.K) (hc : X.calm = true) (hb : btOf x = some b) (hg : Gl X x) (hm : X.mg x = none) (hn : x ≠ "__name__") (hd : (x == ("__debug__" : Str)) = false) (h : SndL X k sx W P F es as) (ne : es ≠ []) :
    Snd X k sx W P F (.Call (.Name x p) es [] pos) (.blt b as) := by
  have hv := btOf_ok hb
  cases h with
  | nil => exact absurd rfl ne
  | @cons e a es as n h1 h2 =>
    have hl : SndL X k sx W P F (e :: es) (a :: as) := .cons n h1 h2
    have pe : PE X (.Call (.Name x p) (e :: es) [] pos) (tCB (rBt X.K b) (tAs k sx W (evAs (evs P F (a :: as))))) := by
      have cr := cr_bt hc b
      cases b <;> first
        | exact pe_callB cr hg hm hv (pa_as hl) hn hd (star_cons n _ _) (h2.plain pos)
        | exact pe_callTy cr hg hm hv (pa_as hl) hn hd (star_cons n _ _) (h2.plain pos)
    refine snd1 (f := fun r => (evAs (evs P F (a :: as)) r).bind fun as r => .of ((peekA r as).bind fun ds => bltD b ds) r) hK (pe.weak fun σ H Q ⟨Z, r, os, R, q⟩ => ?_) (fun _ => rfl) rfl (pl_no fun _ => rfl) (it_no fun _ => rfl)
    refine tAs_then R q fun ar r1 vs H1 Z1 o1 os1 R1 av nd nz S1 q1 => ?_
    obtain ⟨d, e1, q2⟩ := q1.of
    obtain ⟨ds, e2, e3⟩ := Option.bind_eq_some_iff.mp e1
    rw [hK]
    exact bltD_ok e3 R1 (peekA_ok R1 av e2) S1 q2

/-! ### isinstance -/
def tyS : Ty → String
  | .int => "int" | .bool => "bool" | .str => "str" | .tuple => "tuple" | .list => "list" | .none => "NoneType"
theorem ty_tab : ∀ p ∈ tyTab, bootBuiltins p.1 = some (.type (tyS p.2)) ∧ p.2 ≠ .none := by decide +kernel
theorem tyOf_ok {x : Str} {t : Ty} (h : tyOf x = some t) : bootBuiltins x = some (.type (tyS t)) ∧ t ≠ .none := ty_tab (x, t) (lookup_mem h)
theorem isTy_ok {d : D} {v : V} {t : Ty} {b : Bool} (e : isTy d t = some b) (h : RD k Z H d v od) (ht : t ≠ .none) : ∃ u, TyX k.K H v u ∧ PySem.W.kitOne k.K u (.type (tyS t)) = some b := by
  cases h with
  | non => exact ⟨_, .base .non, kit_ty (by cases e; cases t <;> first | decide +kernel | exact absurd rfl ht)⟩
  | bl x => exact ⟨_, .base (.bl x), kit_ty (by cases e; cases t <;> first | decide +kernel | exact absurd rfl ht)⟩
  | int x => exact ⟨_, .base (.int x), kit_ty (by cases e; cases t <;> first | decide +kernel | exact absurd rfl ht)⟩
  | str x => exact ⟨_, .base (.str x), kit_ty (by cases e; cases t <;> first | decide +kernel | exact absurd rfl ht)⟩
  | @tup a _ _ h1 _ =>
    have q : TyX k.K H (.ref a) (.type "tuple") := by
      rcases h1 with ⟨_, h1 | ⟨o, h1⟩⟩ | ⟨o, its, n, h1, h2, _⟩
      · exact .base (.tup h1)
      · exact .fTuple h1
      · exact .kTuple h1 h2
    exact ⟨_, q, kit_ty (by cases e; cases t <;> first | decide +kernel | exact absurd rfl ht)⟩
  | own h1 _ => exact ⟨_, .base (.lst h1), kit_ty (by cases e; cases t <;> first | decide +kernel | exact absurd rfl ht)⟩
  | shr _ h1 _ => exact ⟨_, .base (.lst h1), kit_ty (by cases e; cases t <;> first | decide +kernel | exact absurd rfl ht)⟩
  | @giv a _ _ h1 _ =>
    have q : TyX k.K H (.ref a) (.type "list") := by
      rcases h1 with ⟨_, h1 | ⟨o, h1⟩⟩ | ⟨o, its, n, h1, h2, _⟩
      · exact .base (.lst h1)
      · exact .base (.frz h1)
      · exact .kList h1 h2
    exact ⟨_, q, kit_ty (by cases e; cases t <;> first | decide +kernel | exact absurd rfl ht)⟩
  | oown _ _ _ => cases e
  | oshr _ _ _ _ => cases e
theorem s_isi {x : Str} {t : Ty} {p p2 : Pos} {e : Expr} {a : E} (hK : X.K = k.K) (ht : tyOf x = some t) (hg : Gl X "isinstance") (hm : X.mg "isinstance" = none) (hg2 : Gl X x) (hm2 : X.mg x = none) (hn : x ≠ "__name__") (hd : (x == ("__debug__" : Str)) = false) (n : nst e = true) (h : Snd X k sx W P F e a) :
    Snd X k sx W P F (.Call (.Name "isinstance" p) [e, .Name x p2] [] pos) (.isi a t) := by
  obtain ⟨hv, hne⟩ := tyOf_ok ht
  have pe : PE X (.Call (.Name "isinstance" p) [e, .Name x p2] [] pos) (tCB (rIsi X.K) (tCons (tAr k sx W (ev P F a).a) (tCons (tC (.ty (tyS t))) tNil))) :=
    pe_callB call_isi hg hm PyProof.Rows.boot_isinstance (pa_cons h.ar (pa_cons (pe_bltn hg2 hm2 hv rfl hn hd) pa_nil) (star_cons n _ _)) (by decide) (by decide) (star_cons n _ _) rfl
  refine snd1 (f := fun r => ((ev P F a).a r).bind fun x r => .of (((x.peek r).bind fun d => isTy d t).map D.bl) r) hK (pe.weak fun σ H Q ⟨Z, r, os, R, q⟩ => ?_) (fun _ => rfl) rfl (pl_no fun _ => rfl) (it_no fun _ => rfl)
  refine tAr_then R q fun y r1 w H1 Z1 oy os1 R1 ry nd1 nz1 S1 q1 => ?_
  obtain ⟨d, e1, q2⟩ := q1.of
  obtain ⟨b, e2, rfl⟩ := Option.map_eq_some_iff.mp e1
  obtain ⟨d, e3, e4⟩ := Option.bind_eq_some_iff.mp e2
  obtain ⟨o', rd⟩ := peek_ok R1 ry e3
  obtain ⟨u, tx, kt⟩ := isTy_ok e4 rd hne
  exact ⟨w, _, u, _, b, rfl, .ty _, by rw [hK]; exact tx, by rw [hK]; exact kt, q2.atom S1 R1 (.bl _)⟩
end
end Mv

namespace Mv
open PySem L2

section
variable {X : Cx} {k : Kc} {sx : Option (Addr × Addr)} {W : WX} {P : Pg} {F : Nat → List D → FOut} {pos apos cpos : Pos} {es : List Expr} {as : List E}
variable {Z Z' Z0 Z1 Z2 : Addr → Prop} {H H' H0 H1 H2 : Hp} {σ : St} {r r1 r2 : En} {os os' os0 os1 os2 od : List Addr}

theorem nd_sub {P P' R : List Addr} (h : (P ++ R).Nodup) (n : P'.Nodup) (s : ∀ a ∈ P', a ∈ P) : (P' ++ R).Nodup := by
  obtain ⟨h1, h2, h3⟩ := List.nodup_append.mp h
  exact List.nodup_append.mpr ⟨n, h2, fun a m b mb => h3 a (s a m) b mb⟩
theorem nd_perm {P R : List Addr} (h : P.Nodup) (p : R.Perm P) : R.Nodup := p.nodup_iff.mpr h
/-- an empty slot is filled -/
theorem RS.fill {i : Nat} (h : RS k sx Z H r σ os) (hi : i < r.length) (e : slot r i = none) : ∃ A B, os = A ++ B ∧ ∀ d v o', RD k Z H d v o' → RS k sx Z H (r.set i (some d)) (σ.set i (some v)) (A ++ (o' ++ B)) := by
  induction h generalizing i with
  | nil => simp at hi
  | @emp x r s os h ih =>
    cases i with
    | zero => exact ⟨[], os, rfl, fun d' v' o' q => show RS k sx Z H (some d' :: r) (some v' :: s) (o' ++ os) from .val q h⟩
    | succ i =>
      obtain ⟨A, B, e2, e5⟩ := ih (i := i) (by simpa using hi) e
      exact ⟨A, B, e2, fun d' v' o' q => .emp (e5 d' v' o' q)⟩
  | @val d0 v0 r s o0 os h1 h ih =>
    cases i with
    | zero => simp [slot] at e
    | succ i =>
      obtain ⟨A, B, e2, e5⟩ := ih (i := i) (by simpa using hi) e
      subst e2
      exact ⟨o0 ++ A, B, by rw [List.append_assoc], fun d' v' o' q => by rw [List.append_assoc]; exact .val h1 (e5 d' v' o' q)⟩
  | @ex c w a dd v0 r s os ex z hd h1 h ih =>
    cases i with
    | zero => simp [slot] at e
    | succ i =>
      obtain ⟨A, B, e2, e5⟩ := ih (i := i) (by simpa using hi) e
      exact ⟨A, B, e2, fun d' v' o' q => .ex ex z hd h1 (e5 d' v' o' q)⟩
theorem set_self {α : Type} : ∀ {l : List α} {i : Nat} {x : α}, l[i]? = some x → l.set i x = l
  | [], _, _, h => by simp at h
  | _ :: _, 0, _, h => by simp at h; simp [h]
  | _ :: l, i + 1, _, h => by simp at h; simp [set_self h]
/-- a slot's thing is taken out, and held -/
theorem Rel.take {x : Nat} {d : D} (R : Rel k sx Z r σ H os) (e : slot r x = some d) (ne : ∀ c w, d ≠ .exn c w) : ∃ v o os', σ[x]? = some (some v) ∧ RD k Z H d v o ∧ os.Perm (o ++ os') ∧ Rel k sx Z (r.set x none) σ H os' := by
  obtain ⟨v, A, o, B, e1, e2, rd, e3, _⟩ := R.rs.get e ne
  subst e2
  have rs := e3 (some v)
  rw [set_self e1] at rs
  have pm : (A ++ (o ++ B)).Perm (o ++ (A ++ B)) := by rw [List.perm_iff_count]; intro a; simp only [List.count_append]; omega
  refine ⟨v, o, A ++ B, e1, rd, pm, rs, ?_, fun a m => R.nz a (pm.mem_iff.mpr (List.mem_append_right _ m)), R.zd⟩
  exact (List.nodup_append.mp (pm.nodup_iff.mp R.nd)).2.1
/-- .. and comes back -/
theorem Rel.give {x : Nat} {d : D} {v : V} {o : List Addr} (R : Rel k sx Z r σ H os) (e : slot r x = none) (hx : x < r.length) (hv : σ[x]? = some (some v)) (rd : RD k Z H d v o) (nd : (o ++ os).Nodup) (nz : ∀ a ∈ o, ¬ Z a) :
    ∃ os', os'.Perm (o ++ os) ∧ Rel k sx Z (r.set x (some d)) σ H os' := by
  obtain ⟨A, B, e2, e3⟩ := R.rs.fill hx e
  subst e2
  have rs := e3 d v o rd
  rw [set_self hv] at rs
  have pm : (A ++ (o ++ B)).Perm (o ++ (A ++ B)) := by rw [List.perm_iff_count]; intro a; simp only [List.count_append]; omega
  refine ⟨_, pm, rs, pm.nodup_iff.mpr nd, fun a m => ?_, R.zd⟩
  rcases List.mem_append.mp (pm.mem_iff.mp m) with m | m
  · exact nz a m
  · exact R.nz a m
theorem Step.perm {o1 o2 o3 : List Addr} (S : Step Z Z1 H H1 o1 o2) (p : o3.Perm o2) : Step Z Z1 H H1 o1 o3 := S.less fun x m => p.mem_iff.mp m

theorem RDs.split1 {d : D} {ds : List D} {vs : List V} (h : RDs k Z H (d :: ds) vs []) : ∃ v us, vs = v :: us ∧ RD k Z H d v [] ∧ RDs k Z H ds us [] := by
  generalize hz : ([] : List Addr) = z at h
  cases h with
  | cons h1 h2 =>
    obtain ⟨rfl, rfl⟩ := List.append_eq_nil_iff.mp hz.symm
    exact ⟨_, _, rfl, h1, h2⟩
theorem RDs.rev : ∀ {ds : List D} {vs : List V}, RDs k Z H ds vs [] → RDs k Z H ds.reverse vs.reverse []
  | [], _, h => by cases h; exact .nil
  | d :: ds, vs, h => by
    obtain ⟨v, us, rfl, h1, h2⟩ := h.split1
    rw [List.reverse_cons, List.reverse_cons]
    exact RDs.app (RDs.rev h2) (RDs.one h1)
theorem RDs.at' {ds : List D} {vs : List V} {i : Nat} {d : D} (T : RDs k Z H ds vs []) (e : ds[i]? = some d) : ∃ v, vs[i]? = some v ∧ RD k Z H d v [] := by
  obtain ⟨v, A, o, B, e1, e2, rd, _⟩ := T.get e
  obtain ⟨rfl, h⟩ := List.append_eq_nil_iff.mp e2.symm
  obtain ⟨rfl, rfl⟩ := List.append_eq_nil_iff.mp h
  exact ⟨v, e1, rd⟩
theorem RDs.era : ∀ {ds : List D} {vs : List V}, RDs k Z H ds vs [] → ∀ j, RDs k Z H (ds.eraseIdx j) (vs.eraseIdx j) []
  | [], _, h, j => by cases h; exact .nil
  | d :: ds, vs, h, j => by
    obtain ⟨v, us, rfl, h1, h2⟩ := h.split1
    cases j with
    | zero => exact h2
    | succ j => exact .cons (o := []) h1 (RDs.era h2 j)
theorem ixN_seq {n : Nat} {i : Int} {j : Nat} (h : ixN n i = some j) : seqIndex? i n = some j := by
  unfold ixN at h
  unfold seqIndex?
  split at h
  · split at h
    · cases h
      simp <;> omega
    · cases h
  · split at h
    · cases h
      simp <;> omega
    · cases h
def rLm : Lm → V → List V → Hp → VK → Prop
  | .append => rAppend
  | .pop => fun v xs H Q => rPop v xs H Q ∨ rPopAt v xs H Q
  | .extend => rExtend
  | .reverse => rReverse
  | _ => fun _ _ _ _ => False
theorem lm_fin {rb : En} {xs ds ys : List D} {us vs : List V} {dr d' : D} {l : Addr} {v : V} {A B o2 oa osb : List Addr} {x : Nat} {Q : VK} {m : Lm}
    (R : Rel k sx Z2 rb σ H2 osb) (hlt : x < rb.length) (hs : slot rb x = none) (hv : σ[x]? = some (some v)) (hl : H2 l = some (.lst vs)) (T : RDs k Z2 H2 xs vs o2) (Ta : RDs k Z2 H2 ds us oa)
    (nd : (((A ++ ((l :: o2) ++ B)) ++ oa) ++ osb).Nodup) (nz : ∀ a ∈ (A ++ ((l :: o2) ++ B)) ++ oa, ¬ Z2 a)
    (bk : ∀ Z' H', (∀ a, Z2 a → Z' a) → (∀ a o, H2 a = some o → (Z2 a ∨ a ∈ A ∨ a ∈ B) → H' a = some o) → ∀ o', RD k Z' H' (.lst .own ys) (.ref l) o' → RD k Z' H' d' v (A ++ (o' ++ B)))
    (e : lmD m xs ds = some (dr, ys)) (q : PostV k sx Z H os σ Q dr (rb.set x (some d'))) (S : Step Z Z2 H H2 os (((A ++ ((l :: o2) ++ B)) ++ oa) ++ osb)) : rLm m (.ref l) us H2 Q := by
  have zl : ¬ Z2 l := nz l (by simp)
  have pm0 : (((A ++ ((l :: o2) ++ B)) ++ oa) ++ osb).Perm ((o2 ++ oa) ++ ((A ++ l :: B) ++ osb)) := by
    rw [List.perm_iff_count]; intro a; simp only [List.count_append, List.count_cons]; omega
  have nd0 := pm0.nodup_iff.mp nd
  have dj : ∀ a, (a ∈ o2 ∨ a ∈ oa ∨ a ∈ A ∨ a ∈ B ∨ a ∈ osb) → a ≠ l := by
    intro a m e
    subst e
    have c := (List.nodup_iff_count.mp nd0) a
    simp only [List.count_append, List.count_cons, beq_self_eq_true, if_true] at c
    have pos : 0 < List.count a o2 ∨ 0 < List.count a oa ∨ 0 < List.count a A ∨ 0 < List.count a B ∨ 0 < List.count a osb := by
      simpa only [List.count_pos_iff] using m
    omega
  have fin : ∀ (vs' : List V) (o' orr : List Addr) (ret : V), RDs k Z2 H2 ys vs' o' → RD k Z2 H2 dr ret orr → (orr ++ o').Nodup → (∀ a ∈ orr ++ o', a ∈ o2 ++ oa) → Q ret (upd H2 l (.lst vs')) := by
    intro vs' o' orr ret h1 h2 h3 h4
    have ne : ∀ a, (Z2 a ∨ a ∈ o2 ∨ a ∈ oa ∨ a ∈ A ∨ a ∈ B ∨ a ∈ osb) → a ≠ l := fun a m => m.elim (fun z e => zl (e ▸ z)) (dj a)
    have kp : ∀ a o, H2 a = some o → (Z2 a ∨ a ∈ o2 ∨ a ∈ oa ∨ a ∈ A ∨ a ∈ B ∨ a ∈ osb) → upd H2 l (.lst vs') a = some o := fun a o e m => by rw [upd_ne (ne a m)]; exact e
    have h1' : RDs k Z2 (upd H2 l (.lst vs')) ys vs' o' := RDs.mono (fun _ z => z) _ _ _ (fun a o e z => kp a o e (by
      rcases z with z | z
      · exact .inl z
      · rcases List.mem_append.mp (h4 a (List.mem_append_right _ z)) with m | m
        · exact .inr (.inl m)
        · exact .inr (.inr (.inl m)))) h1
    have h2' : RD k Z2 (upd H2 l (.lst vs')) dr ret orr := RD.mono (fun _ z => z) _ _ _ (fun a o e z => kp a o e (by
      rcases z with z | z
      · exact .inl z
      · rcases List.mem_append.mp (h4 a (List.mem_append_left _ z)) with m | m
        · exact .inr (.inl m)
        · exact .inr (.inr (.inl m)))) h2
    have R' : Rel k sx Z2 rb σ (upd H2 l (.lst vs')) osb := ⟨R.rs.mono (fun _ z => z) fun a o e z => kp a o e (by
      rcases z with z | z
      · exact .inl z
      · exact .inr (.inr (.inr (.inr (.inr z))))), R.nd, R.nz, fun a z => by
        obtain ⟨o, e⟩ := R.zd a z
        exact ⟨o, kp a o e (.inl z)⟩⟩
    have rd' := bk Z2 (upd H2 l (.lst vs')) (fun _ z => z) (fun a o e z => kp a o e (by
      rcases z with z | z | z
      · exact .inl z
      · exact .inr (.inr (.inr (.inl z)))
      · exact .inr (.inr (.inr (.inr (.inl z)))))) (l :: o') (.own upd_same h1')
    have nd1 : ((orr ++ o') ++ ((A ++ l :: B) ++ osb)).Nodup := nd_sub nd0 h3 h4
    have pm1 : (orr ++ ((A ++ ((l :: o') ++ B)) ++ osb)).Perm ((orr ++ o') ++ ((A ++ l :: B) ++ osb)) := by
      rw [List.perm_iff_count]; intro a; simp only [List.count_append, List.count_cons]; omega
    have nd2 := pm1.nodup_iff.mpr nd1
    obtain ⟨n1, n2, n3⟩ := List.nodup_append.mp nd2
    have mm : ∀ a ∈ orr ++ ((A ++ ((l :: o') ++ B)) ++ osb), a ∈ ((A ++ ((l :: o2) ++ B)) ++ oa) ++ osb := fun a m => by
      refine pm0.mem_iff.mpr ?_
      rcases List.mem_append.mp (pm1.mem_iff.mp m) with m | m
      · exact List.mem_append_left _ (h4 a m)
      · exact List.mem_append_right _ m
    obtain ⟨os3, p3, R3⟩ := R'.give hs hlt hv rd' n2 fun a m => by
      have : a ∈ orr ++ o' ∨ a ∈ A ++ l :: B := by
        simp only [List.mem_append, List.mem_cons] at m ⊢
        rcases m with m | (m | m) | m
        · exact .inr (.inl m)
        · exact .inr (.inr (.inl m))
        · exact .inl (.inr m)
        · exact .inr (.inr (.inr m))
      refine nz a ?_
      rcases this with m | m
      · have := h4 a m
        simp only [List.mem_append, List.mem_cons] at this ⊢
        rcases this with m | m <;> simp [m]
      · simp only [List.mem_append, List.mem_cons] at m ⊢
        rcases m with m | m | m <;> simp [m]
    refine q ret _ Z2 orr os3 R3 h2' ?_ (fun a m => ?_) ?_
    · exact (List.Perm.append_left orr p3).nodup_iff.mpr nd2
    · refine nz a ?_
      have := h4 a (List.mem_append_left _ m)
      simp only [List.mem_append, List.mem_cons] at this ⊢
      rcases this with m | m <;> simp [m]
    · refine S.trans ⟨fun a o e n => ?_, fun _ z => z, fun _ z => .inl z, fun a m => .inl (mm a ?_)⟩
      · have : a ≠ l := fun e => n (by rw [e]; simp)
        rw [upd_ne this]
        exact e
      · exact (List.Perm.append_left orr p3).mem_iff.mp m
  have nn : (o2 ++ oa).Nodup := (List.nodup_append.mp nd0).1
  obtain ⟨n1, n2, _⟩ := List.nodup_append.mp nn
  unfold lmD at e
  split at e
  · rename_i d
    split at e
    · rename_i c
      cases e
      obtain ⟨u, rfl, rd⟩ := RDs.of1 Ta
      refine ⟨l, vs, u, rfl, rfl, hl, by rw [slE, T.length]; exact c, fin _ (o2 ++ oa) [] .non (T.app (RDs.one rd)) .non (by simpa using nn) fun a m => by simpa using m⟩
    · cases e
  · cases Ta
    obtain ⟨z, e1, e2⟩ := Option.map_eq_some_iff.mp e
    cases e2
    rcases List.eq_nil_or_concat xs with rfl | ⟨xi, y, rfl⟩
    · simp at e1
    · rw [List.concat_eq_append] at e1 T fin
      have ey : dr = y := by
        have : (xi ++ [y])[(xi ++ [y]).length - 1]? = some y := by simp
        rw [this] at e1
        exact (Option.some.inj e1).symm
      subst ey
      obtain ⟨u1, u2, p1, p2, rfl, rfl, g1, g2⟩ := T.split
      obtain ⟨w, rfl, rd⟩ := RDs.of1 g2
      have dl : (u1 ++ [w]).dropLast = u1 := by simp
      have dd : (xi ++ [dr]).dropLast = xi := by simp
      refine .inl ⟨l, u1 ++ [w], w, rfl, rfl, hl, by simp, ?_⟩
      rw [dl]
      refine fin u1 p1 p2 w (by rw [dd]; exact g1) rd ?_ fun a m => ?_
      · have pm : (p2 ++ p1).Perm (p1 ++ p2) := List.perm_append_comm
        exact pm.nodup_iff.mpr n1
      · simp only [List.mem_append] at m ⊢
        rcases m with m | m <;> simp [m]
  · rename_i i
    split at e
    · rename_i c
      simp only [Bool.and_eq_true, decide_eq_true_eq] at c
      obtain ⟨c1, c2⟩ := c
      obtain ⟨j, hj, e1⟩ := Option.bind_eq_some_iff.mp e
      obtain ⟨y, hy, e2⟩ := Option.map_eq_some_iff.mp e1
      cases e2
      have z := T.noOwn c1
      subst z
      obtain ⟨u, rfl, rd⟩ := RDs.of1 Ta
      cases rd
      obtain ⟨w, hw, rw'⟩ := RDs.at' T hy
      refine .inr ⟨l, vs, i, j, w, rfl, rfl, hl, c2.1, c2.2, by rw [T.length]; exact ixN_seq hj, hw, fin (vs.eraseIdx j) [] [] w (T.era j) rw' List.nodup_nil fun a m => by cases m⟩
    · cases e
  · rename_i kd es2
    split at e
    · rename_i c
      cases e
      simp only [Bool.and_eq_true, decide_eq_true_eq, bne_iff_ne, ne_eq] at c
      obtain ⟨⟨c1, c2⟩, c3⟩ := c
      obtain ⟨u, rfl, rd⟩ := RDs.of1 Ta
      obtain ⟨b, zs, ob, rfl, hb, Tb, sub⟩ := lst_at rd c1
      have z := Tb.noOwn c2
      subst z
      refine ⟨l, b, vs, zs, rfl, rfl, hl, hb, by rw [slE, T.length, Tb.length]; exact c3, fin _ (o2 ++ []) [] .non (T.app Tb) .non (by simpa using n1) fun a m => ?_⟩
      simp only [List.nil_append, List.append_nil] at m
      exact List.mem_append_left _ m
    · cases e
  · cases Ta
    split at e
    · rename_i c
      cases e
      have z := T.noOwn c
      subst z
      refine ⟨l, vs, rfl, rfl, hl, fin vs.reverse [] [] .non ?_ .non List.nodup_nil fun a m => by cases m⟩
      exact T.rev
    · cases e
  · cases e
theorem lm_tab : ∀ p ∈ lmTab, (p.2 = .append ∧ p.1 = "append") ∨ (p.2 = .pop ∧ p.1 = "pop") ∨ (p.2 = .extend ∧ p.1 = "extend") ∨ (p.2 = .reverse ∧ p.1 = "reverse") := by decide +kernel
theorem lm_pe {to : TE} {e1 : Expr} {x : Str} {m : Lm} (hm : lmOf x = some m) (ho : PE X e1 to) (h : SndL X k sx W P F es as) (few : es.length < 29) (line : (apos.endLine == cpos.line) = true) (hb : ∀ x, attributeBase e1 x X.env (eval e1 X.env) = eval e1 X.env) :
    PE X (.Call (.Attribute e1 x apos) es [] cpos) (fun σ H Q => to σ H fun y H1 => tyV X.K "list" y H1 ∧ tL k sx W (evEs (evs P F as)) σ H1 fun ys H2 => rLm m y ys H2 Q) := by
  have key : ∀ {id : String} {r : V → List V → Hp → VK → Prop}, Slot "list" x id → typeOf (.builtin id) = pure (.type "method_descriptor") → MtR X id r →
      PE X (.Call (.Attribute e1 x apos) es [] cpos) (fun σ H Q => to σ H fun y H1 => tyV X.K "list" y H1 ∧ tL k sx W (evEs (evs P F as)) σ H1 fun ys H2 => r y ys H2 Q) := by
    intro id r sl ty mt
    cases h with
    | nil =>
      refine ⟨fun pins s σ H Q I q => ?_⟩
      refine wpAny_Call_method0_late (hb x) line (thn (ho.run pins s σ H _ I q) fun v s1 ⟨y, H1, I1, r1, ty1, q1⟩ => ?_)
      obtain ⟨h1, h2⟩ := tyV_is I1 r1 ty1
      obtain ⟨Z, r0, os, R, q1⟩ := q1
      exact ⟨"list", id, PySem.F.plainAttrs_list, sl, ty, h1, h2, Calls.callWith_builtin rfl (PySem.evalArgs_none (mt pins s1 σ H1 y [] v [] Q I1 r1 .nil (q1 [] H1 Z [] os R .nil R.nd (fun _ m => by cases m) Step.refl)))⟩
    | @cons e a es as n h1 h2 =>
      refine pe_bm PySem.F.plainAttrs_list sl ty mt ho (pa_es (.cons n h1 h2)) (hb x) ?_ line (star_cons n _ _) (h2.plain cpos)
      rw [SndL.plainA (.cons n h1 h2)]
      show (true && true && decide ((e :: es).length + 0 + 0 < 30)) = true
      simp only [Bool.and_self, Bool.true_and, decide_eq_true_eq]
      omega
  rcases lm_tab (x, m) (lookup_mem hm) with ⟨e, e2⟩ | ⟨e, e2⟩ | ⟨e, e2⟩ | ⟨e, e2⟩
  · have e : m = .append := e
    have e2 : x = "append" := e2
    subst e e2
    exact key PySem.F.slot_list_append PySem.F.type_list_append mt_append
  · have e : m = .pop := e
    have e2 : x = "pop" := e2
    subst e e2
    exact key PySem.F.slot_list_pop PySem.F.type_list_pop fun pins s σ H x vs v us Q I rx rv h => h.elim (mt_pop pins s σ H x vs v us Q I rx rv) (mt_popAt pins s σ H x vs v us Q I rx rv)
  · have e : m = .extend := e
    have e2 : x = "extend" := e2
    subst e e2
    exact key PySem.F.slot_list_extend PySem.F.type_list_extend mt_extend
  · have e : m = .reverse := e
    have e2 : x = "reverse" := e2
    subst e e2
    exact key PySem.F.slot_list_reverse PySem.F.type_list_reverse mt_reverse
theorem slot_set_none {r : En} {x : Nat} : slot (r.set x none) x = none := by
  unfold slot
  rcases h : (r.set x none)[x]? with _ | v
  · rfl
  · rw [List.getElem?_set] at h
    simp only [if_true] at h
    split at h
    · cases h; rfl
    · cases h
theorem lst_ty {kd : Kd} {ds : List D} {v : V} (hK : X.K = k.K) (h : RD k Z H (.lst kd ds) v od) : tyV X.K "list" v H := by
  obtain ⟨a, vs, o2, rfl, hs, _⟩ := lst_rd h
  rw [hK]
  exact .inl ⟨rfl, vs, hs⟩
theorem own_lst {ds : List D} {v : V} (h : RD k Z H (.lst .own ds) v od) : ∃ l vs o2, v = .ref l ∧ od = l :: o2 ∧ H l = some (.lst vs) ∧ RDs k Z H ds vs o2 := by
  cases h with
  | own h1 h2 => exact ⟨_, _, _, rfl, rfl, h1, h2⟩
/-- what a list method does, opened -/
theorem lmP_ok {m : Lm} {o : Option D} {r : En} {x : Nat} {p : List St1} {ds : List D} {OK : D → En → Prop} (h : Sat k sx W Z H os σ (lmP m o r x p ds) OK) :
    ∃ d xs v ys d', o = some d ∧ getP d p = some (.lst .own xs) ∧ lmD m xs ds = some (v, ys) ∧ updP (fun _ => some (.lst .own ys)) d p = some d' ∧ x < r.length ∧ OK v (r.set x (some d')) := by
  unfold lmP at h
  split at h
  · split at h
    · split at h
      · split at h
        · split at h
          · exact ⟨_, _, _, _, _, rfl, by assumption, by assumption, by assumption, by assumption, h⟩
          · exact h.elim
        · exact h.elim
      · exact h.elim
    · exact h.elim
  · exact h.elim
theorem s_lm {e1 : Expr} {a1 : E} {x : Str} {m : Lm} (hK : X.K = k.K) (hm : lmOf x = some m) (h0 : Snd X k sx W P F e1 a1) (h : SndL X k sx W P F es as) (few : es.length < 29) (line : (apos.endLine == cpos.line) = true) (hb : ∀ x, attributeBase e1 x X.env (eval e1 X.env) = eval e1 X.env) :
    Snd X k sx W P F (.Call (.Attribute e1 x apos) es [] cpos) (.lm m a1 as) := by
  by_cases hv : ∃ y, a1 = .var y
  · obtain ⟨y, rfl⟩ := hv
    refine snd1 (f := fun r => match slot r y with
      | some (.lst _ _) => (evEs (evs P F as) r).bind fun ds r => lmP m (slot r y) (r.set y none) y [] ds
      | _ => .bad) hK ((lm_pe hm h0.ar h few line hb).weak fun σ H Q ⟨Z, r, os, R, q⟩ => ?_) (fun _ => rfl) rfl (pl_no fun _ => rfl) (it_no fun _ => rfl)
    dsimp only at q
    split at q
    · rename_i kd ds s
      have hh : has r y = true := by simp [has, Ar.peek, s]
      refine ⟨Z, r, os, R, ?_⟩
      show Sat k sx W Z H os σ (if has r y = true then Out.ok (Ar.r y) r else Out.bad) (PostA k sx Z H os σ _)
      rw [if_pos hh]
      intro v H1 Z1 od os1 R1 av nd nz S1
      cases av with
      | r hv =>
        obtain ⟨v0, A0, o0, B0, f1, f2, f3, _⟩ := R1.rs.focus s (fun c w z => by cases z)
        rw [hv] at f1
        cases f1
        refine ⟨lst_ty hK f3, tL_then R1 (q.base S1) fun ds2 r2 us H2 Z2 oa os2 R2 Ta nd2 nz2 S2 q2 => ?_⟩
        obtain ⟨d, xs, rv, ys, d', g1, g2, g3, g4, g5, g6⟩ := lmP_ok q2
        cases g2
        cases g4
        obtain ⟨v', o, osb, t1, t2, t3, t4⟩ := R2.take g1 (fun c w z => by cases z)
        rw [hv] at t1
        cases t1
        obtain ⟨l, vs, o2, rfl, rfl, hl, T⟩ := own_lst t2
        have pm : (oa ++ os2).Perm ((([] ++ ((l :: o2) ++ [])) ++ oa) ++ osb) := by
          refine (List.Perm.append_left oa t3).trans ?_
          rw [List.perm_iff_count]; intro a; simp only [List.count_append, List.count_cons, List.count_nil]; omega
        refine lm_fin (A := []) (B := []) t4 g5 slot_set_none hv hl T Ta (pm.nodup_iff.mp nd2) (fun a m => ?_) (fun Z' H' hZ hH o' rd => by simpa using rd) g3 g6 ((S1.trans (S2.wide _)).perm ?_)
        · simp only [List.nil_append, List.append_nil] at m
          rcases List.mem_append.mp m with m | m
          · exact R2.nz a (t3.mem_iff.mpr (List.mem_append_left _ m))
          · exact nz2 a m
        · exact pm.symm
    · exact q.elim
  · refine snd1 (f := fun r => match path a1 r with
      | some (x, p) => match peekP r x p with
        | some (.lst _ _) => (evEs (evs P F as) (r.set x none)).bind fun ds r2 => if slot r2 x = none then lmP m (slot r x) r2 x p ds else .bad
        | _ => .bad
      | none => .bad) hK ((lm_pe hm h0.pl h few line hb).weak fun σ H Q ⟨Z, r, os, R, q⟩ => ?_) (fun _ => rfl) ?_ (pl_no fun _ => rfl) (it_no fun _ => rfl)
    · dsimp only at q
      cases z : path a1 r with
      | none => simp only [z] at q; exact q.elim
      | some xp =>
        obtain ⟨y, p⟩ := xp
        simp only [z] at q
        split at q
        · rename_i kd ds pk
          have nx : ∀ c w, slot r y ≠ some (.exn c w) ∨ p = [] := fun c w => by
            cases p with
            | nil => exact .inr rfl
            | cons s p =>
              refine .inl fun e => ?_
              have pk' : (slot r y).bind (fun d => getP d (s :: p)) = some (.lst kd ds) := pk
              rw [e] at pk'
              exact getP_exn pk'
          have nx2 : ∀ c w, slot r y ≠ some (.exn c w) := fun c w e => by
            rcases nx c w with n | n
            · exact n e
            · subst n
              have pk' : (slot r y).bind (fun d => getP d []) = some (.lst kd ds) := pk
              rw [e] at pk'
              cases pk'
          refine ⟨Z, r, os, y, p, _, R, z, pk, nx2, fun w wy => ?_⟩
          obtain ⟨d, v, A0, B0, A, o, B, f1, f2, f3, f4, f5, f6, f7, f8, _, f9⟩ := wy.inn
          subst f5
          have pm : (A0 ++ ((A ++ (o ++ B)) ++ B0)).Perm ((A ++ (o ++ B)) ++ (A0 ++ B0)) := by rw [List.perm_iff_count]; intro a; simp only [List.count_append]; omega
          have nd := pm.nodup_iff.mp R.nd
          have R0 : Rel k sx Z (r.set y none) σ H (A0 ++ B0) := ⟨f9, (List.nodup_append.mp nd).2.1, fun a m => R.nz a (pm.mem_iff.mpr (List.mem_append_right _ m)), R.zd⟩
          have nz0 : ∀ a ∈ A ++ (o ++ B), ¬ Z a := fun a m => R.nz a (pm.mem_iff.mpr (List.mem_append_left _ m))
          have S0 : Step Z Z H H (A0 ++ ((A ++ (o ++ B)) ++ B0)) ((A ++ (o ++ B)) ++ (A0 ++ B0)) := Step.refl.perm pm.symm
          refine ⟨lst_ty hK f7, tL_then R0 (q.base S0) fun ds2 r2 us H2 Z2 oa os2 R2 Ta nd2 nz2 S2 q2 => ?_⟩
          split at q2
          · rename_i s2
            obtain ⟨d0, xs, rv, ys, d', g1, g2, g3, g4, g5, g6⟩ := lmP_ok q2
            obtain rfl : d = d0 := by rw [f1] at g1; exact Option.some.inj g1
            rw [f4] at g2
            cases Option.some.inj g2
            obtain ⟨l, vs, o2, rfl, rfl, hl, T⟩ := own_lst f7
            obtain ⟨e', h1, bk⟩ := f8 _ d' g4
            obtain rfl := Option.some.inj h1
            obtain ⟨m1, m2, m3⟩ := List.nodup_append.mp nd2
            have out : ∀ a ∈ A ++ ((l :: o2) ++ B), a ∉ A0 ++ B0 := fun a m n => (List.nodup_append.mp nd).2.2 a m a n rfl
            have kp : ∀ a o, H a = some o → (Z a ∨ a ∈ A ++ ((l :: o2) ++ B)) → H2 a = some o := fun a o e z => S2.keep a o e (z.elim (fun z n => R0.nz a n z) (out a))
            have T' := RDs.mono S2.zs _ _ _ (fun a o e z => kp a o e (z.imp id fun m => by simp [m])) T
            have dm : ∀ a ∈ A ++ ((l :: o2) ++ B), ∃ o, H a = some o := RD.dom _ _ _ f6
            have n2 : ((A ++ ((l :: o2) ++ B)) ++ (oa ++ os2)).Nodup := List.nodup_append.mpr ⟨(List.nodup_append.mp nd).1, nd2, fun a m b mb e => by
              subst e
              rcases S2.on a mb with x | x
              · exact out a m x
              · obtain ⟨o, q⟩ := dm a m; rw [q] at x; cases x⟩
            have z2 : ∀ a ∈ A ++ ((l :: o2) ++ B), ¬ Z2 a := fun a m z => by
              rcases S2.zn a z with x | x | x
              · exact nz0 a m x
              · exact out a m x
              · obtain ⟨o, q⟩ := dm a m; rw [q] at x; cases x
            refine lm_fin R2 g5 s2 f3 (kp l _ hl (.inr (by simp))) T' Ta (by rw [List.append_assoc]; exact n2) (fun a m => (List.mem_append.mp m).elim (z2 a) (nz2 a))
              (fun Z' H' hZ hH o' rd => bk Z' H' (fun a z => hZ a (S2.zs a z)) (fun a o e z => hH a o (kp a o e (z.imp id fun m => by rcases m with m | m <;> simp [m])) (z.imp (S2.zs a) id)) o' rd) g3 g6 ?_
            exact (S0.trans (S2.wide _)).perm (List.Perm.of_eq (List.append_assoc _ _ _))
          · exact q2.elim
        · exact q.elim
    · cases a1 <;> first | rfl | exact absurd ⟨_, rfl⟩ hv
end
end Mv

namespace Mv
open PySem L2

section
variable {X : Cx} {k : Kc} {sx : Option (Addr × Addr)} {W : WX} {P : Pg} {F : Nat → List D → FOut} {pos apos cpos : Pos} {es : List Expr} {as : List E}
variable {Z Z' Z0 Z1 Z2 : Addr → Prop} {H H' H0 H1 H2 : Hp} {σ : St} {r r1 r2 : En} {os os' os0 os1 os2 od : List Addr}

/-- what a def promises, run to the depth n -/
def spO (k : Kc) (f : List D → Out D) : Sp := fun vs H Q E => ∃ Z ds od, Rel k none Z (ds.map some) (vs.map some) H od ∧ Sat k none (fun cls d _ H => E cls d H) Z H od (vs.map some) (f ds) (PostV k none Z H od (vs.map some) Q)

theorem RDs.rs {ds : List D} {vs : List V} (h : RDs k Z H ds vs od) : RS k sx Z H (ds.map some) (vs.map some) od := by
  induction ds generalizing vs od with
  | nil => cases h; exact .nil
  | cons d ds ih =>
    cases h with
    | cons h1 h2 => exact .val h1 (ih h2)

theorem lend_ok {ra : List Ar} : ∀ {vs : List V} {od os : List Addr} {r : En} {ds : List D} {r1 : En}, ArVs k Z H σ ra vs od → Rel k sx Z r σ H os → lend ra r = some (ds, r1) → (od ++ os).Nodup → (∀ a ∈ od, ¬ Z a) →
    ∃ od' os1, RDs k Z H ds vs od' ∧ Rel k sx Z r1 σ H os1 ∧ (od' ++ os1).Perm (od ++ os) := by
  induction ra with
  | nil =>
    intro vs od os r ds r1 h R e nd nz
    cases h
    cases e
    exact ⟨[], os, .nil, R, List.Perm.refl _⟩
  | cons a ra ih =>
    intro vs od os r ds r1 h R e nd nz
    cases h with
    | @cons _ _ v vs o ot h1 h2 =>
    cases h1 with
    | @v d _ _ rd =>
      obtain ⟨⟨ds', r1'⟩, e1, e2⟩ := Option.map_eq_some_iff.mp (show (lend ra r).map (fun x => (d :: x.1, x.2)) = some (ds, r1) from e)
      cases e2
      rw [List.append_assoc] at nd
      obtain ⟨n1, n2, n3⟩ := List.nodup_append.mp nd
      obtain ⟨od', os1, T, R1, pm⟩ := ih h2 R e1 n2 fun a m => nz a (List.mem_append_right _ m)
      exact ⟨o ++ od', os1, .cons rd T, R1, by rw [List.append_assoc, List.append_assoc]; exact List.Perm.append_left o pm⟩
    | @r i _ hv =>
      obtain ⟨d, e1, e2⟩ := Option.bind_eq_some_iff.mp (show (((Ar.r i).peek r).bind fun d => if d.owned then (lend ra (r.set i none)).map (fun x => (d :: x.1, x.2)) else (lend ra r).map fun x => (d :: x.1, x.2)) = some (ds, r1) from e)
      have s : slot r i = some d ∧ ∀ c w, d ≠ .exn c w := by
        unfold Ar.peek at e1
        cases q : slot r i with
        | none => simp [q] at e1
        | some d' => cases d' <;> simp [q] at e1 <;> subst e1 <;> exact ⟨rfl, fun c w z => by cases z⟩
      split at e2
      · obtain ⟨⟨ds', r1'⟩, e3, e4⟩ := Option.map_eq_some_iff.mp e2
        cases e4
        obtain ⟨v', o, os', t1, rd, t3, R'⟩ := R.take s.1 s.2
        rw [hv] at t1
        cases t1
        have pm0 : (o ++ (ot ++ os')).Perm (([] ++ ot) ++ os) := by
          refine List.Perm.trans ?_ (List.Perm.append_left _ t3.symm)
          rw [List.perm_iff_count]; intro a; simp only [List.count_append, List.count_nil]; omega
        have nd0 := pm0.nodup_iff.mpr nd
        obtain ⟨od', os1, T, R1, pm⟩ := ih h2 R' e3 (List.nodup_append.mp nd0).2.1 fun a m => nz a (by simpa using m)
        exact ⟨o ++ od', os1, .cons rd T, R1, by rw [List.append_assoc]; exact (List.Perm.append_left o pm).trans pm0⟩
      · rename_i ow
        obtain ⟨⟨ds', r1'⟩, e3, e4⟩ := Option.map_eq_some_iff.mp e2
        cases e4
        obtain ⟨v', A, o, B, t1, t2, rd, _⟩ := R.rs.focus s.1 s.2
        rw [hv] at t1
        cases t1
        have z : o = [] := rd.noOwn (by simpa using ow)
        subst z
        obtain ⟨od', os1, T, R1, pm⟩ := ih h2 R e3 (by simpa using nd) fun a m => nz a (by simpa using m)
        exact ⟨[] ++ od', os1, .cons rd T, R1, by simpa using pm⟩

theorem back_ok {ra : List Ar} : ∀ {vs : List V} {od osp os1 : List Addr} {ds : List D} {ps r r2 : En} {Zb : Addr → Prop} {Hb : Hp}, ArVs k Zb Hb σ ra vs od → Rel k sx Z r σ H os1 → RS k none Z H ps (vs.map some) osp → back ra ds ps r = some r2 → (osp ++ os1).Nodup → (∀ a ∈ osp, ¬ Z a) →
    ∃ os2, Rel k sx Z r2 σ H os2 ∧ ∀ a ∈ os2, a ∈ osp ++ os1 := by
  induction ra with
  | nil =>
    intro vs od osp os1 ds ps r r2 Zb Hb h R T e nd nz
    cases h
    have e : r = r2 := by
      cases ds with
      | nil =>
        cases ps with
        | nil => exact Option.some.inj e
        | cons _ _ => cases T
      | cons _ _ => cases e
    subst e
    exact ⟨os1, R, fun a m => List.mem_append_right _ m⟩
  | cons a ra ih =>
    intro vs od osp os1 ds ps r r2 Zb Hb h R T e nd nz
    cases h with
    | @cons _ _ v vs o ot h1 h2 =>
    cases ps with
    | nil => cases T
    | cons p ps =>
    cases ds with
    | nil => cases h1 <;> cases e
    | cons d ds =>
    have skip : back ra ds ps r = some r2 → ∃ os2, Rel k sx Z r2 σ H os2 ∧ ∀ a ∈ os2, a ∈ osp ++ os1 := by
      clear e
      intro e
      cases T with
      | emp T' => exact ih h2 R T' e nd nz
      | @val _ _ _ _ o1 osq rd T' =>
        rw [List.append_assoc] at nd
        obtain ⟨os2, q1, q2⟩ := ih h2 R T' e (List.nodup_append.mp nd).2.1 fun a m => nz a (List.mem_append_right _ m)
        exact ⟨os2, q1, fun a m => by rw [List.append_assoc]; exact List.mem_append_right _ (q2 a m)⟩
      | ex ex _ _ _ _ => cases ex
    cases h1 with
    | v rd => exact skip e
    | @r i _ hv =>
      have e : (if d.owned then p.bind fun p' => back ra ds ps (r.set i (some p')) else back ra ds ps r) = some r2 := e
      split at e
      · obtain ⟨p', rfl, e1⟩ := Option.bind_eq_some_iff.mp e
        cases T with
        | @val _ _ _ _ o1 osq rd T' =>
          have hi : i < r.length := by
            rw [← R.rs.length]
            exact (List.getElem?_eq_some_iff.mp hv).1
          obtain ⟨A, o0, B, t1, _, t2⟩ := R.rs.put hi
          have rs := t2 p' v o1 rd
          rw [set_self hv] at rs
          subst t1
          have pm : (osq ++ (A ++ (o1 ++ B))).Perm ((o1 ++ osq) ++ (A ++ B)) := by rw [List.perm_iff_count]; intro a; simp only [List.count_append]; omega
          have sub : ((o1 ++ osq) ++ (A ++ B)).Sublist ((o1 ++ osq) ++ (A ++ (o0 ++ B))) := List.Sublist.append (List.Sublist.refl _) (List.Sublist.append (List.Sublist.refl _) (List.sublist_append_right _ _))
          have nd1 := pm.nodup_iff.mpr (sub.nodup nd)
          obtain ⟨os2, q1, q2⟩ := ih h2 (r := r.set i (some p')) ⟨rs, (List.nodup_append.mp nd1).2.1, fun a m => by
            simp only [List.mem_append] at m
            rcases m with m | m | m
            · exact R.nz a (by simp [m])
            · exact nz a (by simp [m])
            · exact R.nz a (by simp [m]), R.zd⟩ T' e1 nd1 fun a m => nz a (List.mem_append_right _ m)
          refine ⟨os2, q1, fun a m => ?_⟩
          have := q2 a m
          simp only [List.mem_append] at this ⊢
          rcases this with m | m | m | m <;> simp [m]
        | ex ex _ _ _ _ => cases ex
      · exact skip e
/-- the caller's frame over a callee -/
theorem Rel.over {op : List Addr} (R : Rel k sx Z r σ H os) (nd : (od ++ os).Nodup) (nz : ∀ a ∈ od, ¬ Z a) (S : Step Z Z' H H' od op) (zd : ∀ a, Z' a → ∃ o, H' a = some o) : Rel k sx Z' r σ H' os ∧ ∀ a ∈ op, a ∉ os := by
  obtain ⟨n1, n2, n3⟩ := List.nodup_append.mp nd
  have dr := R.rs.dom
  refine ⟨⟨R.rs.mono S.zs fun a o e z => S.keep a o e ?_, n2, fun a m z => ?_, zd⟩, fun a m n => ?_⟩
  · rcases z with z | z
    · exact fun m => nz a m z
    · exact fun m => n3 a m a z rfl
  · rcases S.zn a z with x | x | x
    · exact R.nz a m x
    · exact n3 a x a m rfl
    · obtain ⟨o, q⟩ := dr a m; rw [q] at x; cases x
  · rcases S.on a m with x | x
    · exact n3 a x a n rfl
    · obtain ⟨o, q⟩ := dr a n; rw [q] at x; cases x

/-- behind a callee: the lent things are back -/
theorem after_ok {ra : List Ar} {vs : List V} {ds : List D} {ps rb r2 : En} {od' os1 osp oa odr : List Addr} {Zb : Addr → Prop} {Hb : Hp} (av : ArVs k Zb Hb σ ra vs oa) (R1 : Rel k sx Z1 rb σ H1 os1) (nd1 : (od' ++ os1).Nodup) (nz1 : ∀ a ∈ od', ¬ Z1 a)
    (Rp : RS k none Z2 H2 ps (vs.map some) osp) (zd : ∀ a, Z2 a → ∃ o, H2 a = some o) (nd2 : (odr ++ osp).Nodup) (nz2 : ∀ a ∈ odr ++ osp, ¬ Z2 a) (S : Step Z1 Z2 H1 H2 od' (odr ++ osp)) (e : back ra ds ps rb = some r2) :
    ∃ os2, Rel k sx Z2 r2 σ H2 os2 ∧ (odr ++ os2).Nodup ∧ Step Z1 Z2 H1 H2 (od' ++ os1) (odr ++ os2) := by
  obtain ⟨Rb, out⟩ := R1.over nd1 nz1 S zd
  obtain ⟨n1, n2, n3⟩ := List.nodup_append.mp nd2
  obtain ⟨os2, R2, sub⟩ := back_ok av Rb Rp e (List.nodup_append.mpr ⟨n2, R1.nd, fun a m b mb e => out a (List.mem_append_right _ m) (e ▸ mb)⟩) fun a m => nz2 a (List.mem_append_right _ m)
  refine ⟨os2, R2, List.nodup_append.mpr ⟨n1, R2.nd, fun a m b mb e => ?_⟩, S.more (fun a m => List.mem_append_left _ m) |>.keep, S.zs, fun a z => (S.zn a z).imp id (Or.imp (List.mem_append_left _) id), fun a m => ?_⟩
  · subst e
    rcases List.mem_append.mp (sub a mb) with x | x
    · exact n3 a m a x rfl
    · exact out a (List.mem_append_left _ m) x
  · rcases List.mem_append.mp m with m | m
    · exact (S.on a (List.mem_append_left _ m)).imp (List.mem_append_left _) id
    · rcases List.mem_append.mp (sub a m) with x | x
      · exact (S.on a (List.mem_append_right _ x)).imp (List.mem_append_left _) id
      · exact .inl (List.mem_append_right _ x)
theorem callA_ok {f : List D → Out D} {ra : List Ar} {vs : List V} {ds : List D} {rb : En} {od' os1 oa : List Addr} {Q : VK} {Zb : Addr → Prop} {Hb : Hp} {osb : List Addr} (av : ArVs k Z1 H1 σ ra vs oa) (T : RDs k Z1 H1 ds vs od') (R1 : Rel k sx Z1 rb σ H1 os1) (nd1 : (od' ++ os1).Nodup) (nz1 : ∀ a ∈ od', ¬ Z1 a) (S1 : Step Z Z1 H H1 os (od' ++ os1))
    (Sb : Step Zb Z1 Hb H1 osb (od' ++ os1)) (q : Sat k sx W Zb Hb osb σ (backO ra ds rb (f ds)) (PostV k sx Z H os σ Q)) : spO k f vs H1 Q (fun cls d H => W cls d σ H) := by
  refine ⟨Z1, ds, od', ⟨T.rs, (List.nodup_append.mp nd1).1, nz1, R1.zd⟩, ?_⟩
  cases h : f ds with
  | bad => rw [h] at q; exact q.elim
  | ok d ps =>
    rw [h] at q
    have q : Sat k sx W Zb Hb osb σ (match back ra ds ps rb with | some r2 => .ok d r2 | none => .bad) (PostV k sx Z H os σ Q) := q
    intro v H2 Z2 odr osp Rp rd nd2 nz2 S2
    split at q
    · rename_i r2 e
      obtain ⟨os2, R2, nd3, S3⟩ := after_ok av R1 nd1 nz1 Rp.rs Rp.zd nd2 (fun a m => (List.mem_append.mp m).elim (nz2 a) (Rp.nz a)) S2 e
      exact q v H2 Z2 odr os2 R2 rd nd3 nz2 (S1.trans S3)
    · exact q.elim
  | exc c w ps =>
    rw [h] at q
    have q : Sat k sx W Zb Hb osb σ (match back ra ds ps rb with | some r2 => .exc c w r2 | none => .bad) (PostV k sx Z H os σ Q) := q
    intro cls d H2 Z2 osp Rp ex S2
    split at q
    · rename_i r2 e
      obtain ⟨os2, R2, nd3, S3⟩ := after_ok (odr := []) av R1 nd1 nz1 Rp.rs Rp.zd Rp.nd (fun a m => Rp.nz a m) S2 e
      exact q cls d H2 Z2 os2 R2 ex (Sb.trans S3)
    · exact q.elim
/-- a new instance's __init__ -/
theorem made_ok {f : List D → Out D} {c : Nat} {ra : List Ar} {vs : List V} {ds : List D} {rb : En} {od' os1 oa : List Addr} {Q : VK} (hc : k.oc c) (av : ArVs k Z1 H1 σ ra vs oa) (T : RDs k Z1 H1 ds vs od') (R1 : Rel k sx Z1 rb σ H1 os1) (nd1 : (od' ++ os1).Nodup) (nz1 : ∀ a ∈ od', ¬ Z1 a) (S1 : Step Z Z1 H H1 os (od' ++ os1))
    (q : Sat k sx W Z H os σ (backO ra ds rb (made (f (.obj .own c [] [] :: ds)))) (PostV k sx Z H os σ Q)) (x dx : Addr) (hx : H1 x = none) (hdx : H1 dx = none) (ne : dx ≠ x) :
    spO k f (.ref x :: vs) (upd (upd H1 dx (.own x)) x (.ins (k.cA c) dx [])) (fun v H2 => v = .non ∧ Q (.ref x) H2) (fun cls d H => W cls d σ H) := by
  have kp : ∀ a o, H1 a = some o → upd (upd H1 dx (.own x)) x (.ins (k.cA c) dx []) a = some o := fun a o e => by rw [upd_ne (ne_of_none e hx), upd_ne (ne_of_none e hdx)]; exact e
  have zx : ¬ Z1 x := fun z => by obtain ⟨o, e⟩ := R1.zd x z; rw [hx] at e; cases e
  have nx : x ∉ od' ++ os1 := fun m => by
    rcases List.mem_append.mp m with m | m
    · obtain ⟨o, e⟩ := RDs.dom _ _ _ T x m; rw [hx] at e; cases e
    · obtain ⟨o, e⟩ := R1.rs.dom x m; rw [hx] at e; cases e
  have T0 : RDs k Z1 (upd (upd H1 dx (.own x)) x (.ins (k.cA c) dx [])) (.obj .own c [] [] :: ds) (.ref x :: vs) ((x :: []) ++ od') :=
    .cons (.oown (fs := []) upd_same ⟨⟨rfl, fun _ m => by cases m⟩, hc⟩ .nil) (RDs.mono (fun _ z => z) _ _ _ (fun a o e _ => kp a o e) T)
  have R0 : Rel k sx Z1 rb σ (upd (upd H1 dx (.own x)) x (.ins (k.cA c) dx [])) os1 := ⟨R1.rs.mono (fun _ z => z) fun a o e _ => kp a o e, R1.nd, R1.nz, fun a z => by obtain ⟨o, e⟩ := R1.zd a z; exact ⟨o, kp a o e⟩⟩
  have nd0 : (((x :: []) ++ od') ++ os1).Nodup := by
    show (x :: (od' ++ os1)).Nodup
    exact List.nodup_cons.mpr ⟨nx, nd1⟩
  have nz0 : ∀ a ∈ (x :: []) ++ od', ¬ Z1 a := fun a m => by
    rcases List.mem_append.mp m with m | m
    · cases List.mem_singleton.mp m; exact zx
    · exact nz1 a m
  have S0 : Step Z1 Z1 H1 (upd (upd H1 dx (.own x)) x (.ins (k.cA c) dx [])) (od' ++ os1) (((x :: []) ++ od') ++ os1) := ⟨fun a o e _ => kp a o e, fun _ z => z, fun _ z => .inl z, fun a m => by
    rcases List.mem_cons.mp (show a ∈ x :: (od' ++ os1) from m) with m | m
    · rw [m]; exact .inr hx
    · exact .inl m⟩
  refine ⟨Z1, .obj .own c [] [] :: ds, (x :: []) ++ od', ⟨T0.rs, (List.nodup_append.mp nd0).1, nz0, R0.zd⟩, ?_⟩
  cases h : f (.obj .own c [] [] :: ds) with
  | bad => rw [h] at q; exact q.elim
  | ok d ps =>
    rw [h] at q
    unfold made at q
    split at q
    · rename_i o ps' e
      cases e
      have q : Sat k sx W Z H os σ (match back ra ds ps' rb with | some r2 => .ok o.frz r2 | none => .bad) (PostV k sx Z H os σ Q) := q
      intro v H2 Z2 odr osp Rp rd nd2 nz2 S2
      cases rd
      refine ⟨rfl, ?_⟩
      split at q
      · rename_i r2 e
        cases hr : Rp.rs with
        | @val _ _ _ _ ox osq rdx Tx =>
          have Ry : Rel k none Z2 ps' (vs.map some) H2 osq := ⟨Tx, (List.nodup_append.mp Rp.nd).2.1, fun a m => Rp.nz a (List.mem_append_right _ m), Rp.zd⟩
          obtain ⟨R3, S3⟩ := Ry.share Rp.nd (RD.dom _ _ _ rdx)
          have rd3 : RD k (fun a => Z2 a ∨ a ∈ ox) H2 o.frz (.ref x) [] := RD.frz (fun a z => .inl z) _ _ _ (fun a m => .inr m) rdx
          have S23 := S2.trans S3
          obtain ⟨os2, R4, nd4, S4⟩ := after_ok (odr := []) av R0 nd0 nz0 R3.rs R3.zd R3.nd (fun a m => R3.nz a m) S23 e
          exact q (.ref x) H2 _ [] os2 R4 rd3 nd4 (fun _ m => by cases m) ((S1.trans S0).trans S4)
        | ex ex _ _ _ _ => cases ex
      · exact q.elim
    · rename_i e; cases e
    · exact q.elim
  | exc e w ps =>
    rw [h] at q
    unfold made at q
    split at q
    · rename_i e; cases e
    · rename_i p0 ps' e
      cases e
      have q : Sat k sx W Z H os σ (match back ra ds ps' rb with | some r2 => .exc _ w r2 | none => .bad) (PostV k sx Z H os σ Q) := q
      intro cls d H2 Z2 osp Rp ex S2
      split at q
      · rename_i r2 e
        have fin : ∀ {ox osq : List Addr}, osp = ox ++ osq → RS k none Z2 H2 ps' (vs.map some) osq → W cls d σ H2 := by
          intro ox osq eq Tx
          subst eq
          have S2' : Step Z1 Z2 (upd (upd H1 dx (.own x)) x (.ins (k.cA c) dx [])) H2 ((x :: []) ++ od') osq := S2.less fun a m => List.mem_append_right _ m
          obtain ⟨os2, R4, nd4, S4⟩ := after_ok (odr := []) av R0 nd0 nz0 Tx Rp.zd (List.nodup_append.mp Rp.nd).2.1 (fun a m => Rp.nz a (List.mem_append_right _ m)) S2' e
          exact q cls d H2 Z2 os2 R4 ex ((S1.trans S0).trans S4)
        cases hr : Rp.rs with
        | val rdx Tx => exact fin rfl Tx
        | emp Tx => exact fin (ox := []) rfl Tx
        | ex ex _ _ _ _ => cases ex
      · exact q.elim
    · exact q.elim

/-- a def as it may be called -/
structure DefAt (X : Cx) (k : Kc) (j : Nat) (fa : Addr) (f : List D → Out D) : Prop where
  ex : ∃ (fd : FuncData) (ps : List Str), FnOk X.prog X.w X.K X.mg X.base (L2.CX X.prog X.w) j fa fd ps (spO k f) ∧ Binds X.K fd ps []
  kp : PySem.W.keepIn X.K (.ref fa) = true
theorem tAs_nil {σ : St} {H : Hp} {Q : List V → Hp → Prop} (q : tAs k sx W (evAs (evs P F [])) σ H Q) : Q [] H := by
  obtain ⟨Z, r, os, R, q⟩ := q
  exact q [] H Z [] os R .nil R.nd (fun _ m => by cases m) Step.refl
theorem tL_nil {σ : St} {H : Hp} {Q : List V → Hp → Prop} (q : tL k sx W (evEs (evs P F [])) σ H Q) : Q [] H := by
  obtain ⟨Z, r, os, R, q⟩ := q
  exact q [] H Z [] os R .nil R.nd (fun _ m => by cases m) Step.refl
/-- f(..) of a def of the module -/
theorem s_call {x : Str} {p : Pos} {fa : Addr} {f j : Nat} (hK : X.K = k.K) (hF : DefAt X k j fa fun ds => (F f ds).out) (hr : Room j X.A) (hg : Gl X x) (hm : X.mg x = some (.ref fa)) (hd : (x == ("__debug__" : Str)) = false) (tk : Takes X W) (h : SndL X k sx W P F es as) :
    Snd X k sx W P F (.Call (.Name x p) es [] pos) (.call f as) := by
  obtain ⟨⟨fd, ps, FO, hb⟩, hk⟩ := hF
  have pe : PE X (.Call (.Name x p) es [] pos) (tCallS (spO k fun ds => (F f ds).out) (WE W) (tAs k sx W (evAs (evs P F as)))) := by
    cases h with
    | nil =>
      refine ⟨fun pins s σ H Q I q => ?_⟩
      refine wpAny_Call_Name_kw (ld_glob I hg hm ?_ hd)
      exact PySem.W.callWith_K0 I.kIn hk (run_fnS (us := []) FO hr hb (passAt tk σ) I .nil (tAs_nil q))
    | cons n h1 h2 => exact pe_callS FO hr hg hm hk hb (fun σ => passAt tk σ) (pa_as (.cons n h1 h2)) hd (star_cons n _ _) (h2.plain pos)
  refine snd1 (f := fun r => (evAs (evs P F as) r).bind fun as r => callA F f as r) hK (pe.weak fun σ H Q ⟨Z, r, os, R, q⟩ => ?_) (fun _ => rfl) rfl (pl_no fun _ => rfl) (it_no fun _ => rfl)
  refine tAs_then R q fun ra r1 vs H1 Z1 o1 os1 R1 av nd nz S1 q1 => ?_
  unfold callA at q1
  split at q1
  · rename_i ds rb e
    obtain ⟨od', os2, T, R2, pm⟩ := lend_ok av R1 e nd nz
    have nz' : ∀ a ∈ od', ¬ Z1 a := fun a m => by
      rcases List.mem_append.mp (pm.mem_iff.mp (List.mem_append_left _ m)) with m | m
      · exact nz a m
      · exact R1.nz a m
    exact callA_ok av T R2 (pm.nodup_iff.mpr nd) nz' (S1.perm pm) (S1.perm pm) q1
  · exact q1.elim

/-- the class c as it may be made -/
structure MkAt (X : Cx) (k : Kc) (j c : Nat) (f : List D → Out D) : Prop where
  ex : ∃ (fa : Addr) (fd : FuncData) (ps : List Str), Mk X.K (k.cA c) fa ∧ FnOk X.prog X.w X.K X.mg X.base (L2.CX X.prog X.w) j fa fd ps (spO k f) ∧ Binds X.K fd ps []
  oc : k.oc c
theorem run_makeS {pins : List (Addr × Obj)} {H : Hp} {s : Shared} {Q : VK} {us : List Value} {vs : List V} {C fa : Addr} {fd : FuncData} {ps : List Str} {sp : Sp} {CX : CXT} {E : St → XK} {j : Nat} (M : Mk X.K C fa) (FO : FnOk X.prog X.w X.K X.mg X.base CX j fa fd ps sp) (hr : Room (j + 1) X.A) (hb : Binds X.K fd ps [])
    (hx : PassesAt CX X σ (E σ)) (I : Inv X pins σ H s) (r : Vals vs us)
    (h : ∀ x dx, H x = none → H dx = none → dx ≠ x → sp (.ref x :: vs) (upd (upd H dx (.own x)) x (.ins C dx [])) (fun v H2 => v = .non ∧ Q (.ref x) H2) (E σ)) :
    wpAny (model X.prog X.w) X.A (call (.ref C) us) (EP X pins σ Q) X.xe s := by
  have hq := h (s.heap.objs.size + 1) s.heap.objs.size (I.hok.fresh (Nat.le_succ _)) (I.hok.fresh (Nat.le_refl _)) (Nat.ne_of_lt (Nat.lt_succ_self _))
  have I2 := Inv.made (C := C) I
  have r2 : Vals (V.ref (s.heap.objs.size + 1) :: vs) (Value.ref (s.heap.objs.size + 1) :: us) := .cons rfl r
  have hl : (Value.ref (s.heap.objs.size + 1) :: us).length = ps.length := by
    have e := r2.length
    rw [FO.len _ _ _ _ hq] at e
    exact e.symm
  have b := hb _ (Value.ref (s.heap.objs.size + 1) :: us) I2.kIn (by rw [List.append_nil]; exact hl)
  rw [List.append_nil] at b
  refine wpAny_call (make_map (f := fa) I.kIn M.makes M.init (beq_iff_eq.mp M.fn) (codeAny_mono (FO.run _ X.stack _ _ ⟨Value.ref (s.heap.objs.size + 1) :: us, []⟩ (Value.ref (s.heap.objs.size + 1) :: us) _ _ (E σ) (hr.make C us [])
    (I2.env0.make C us []) b r2 hq) fun r s' hq' => ?_))
  cases r with
  | error e => exact hx pins _ _ e s' I2 hq'
  | ok fl =>
    cases fl with
    | ret u =>
      obtain ⟨v, H', I3, rv, ev, q3⟩ := I2.after hq'
      subst ev
      exact ⟨rv, ⟨V.ref (s.heap.objs.size + 1), H', I3, rfl, q3⟩⟩
    | next => exact False.elim hq'
    | brk => exact False.elim hq'
    | cont => exact False.elim hq'
def tMk (C : Addr) (sp : Sp) (E : St → XK) (t : TA) : TE := fun σ H Q => t σ H fun vs H1 => ∀ x dx, H1 x = none → H1 dx = none → dx ≠ x →
  sp (.ref x :: vs) (upd (upd H1 dx (.own x)) x (.ins C dx [])) (fun v H2 => v = .non ∧ Q (.ref x) H2) (E σ)
theorem s_mk {x : Str} {p : Pos} {c j : Nat} {cl : Cl} (hK : X.K = k.K) (hc : P.cls[c]? = some cl) (hF : MkAt X k j c fun ds => (F cl.init ds).out) (hr : Room (j + 1) X.A) (hg : Gl X x) (hm : X.mg x = some (.ref (k.cA c))) (hd : (x == ("__debug__" : Str)) = false) (tk : Takes X W) (h : SndL X k sx W P F es as) :
    Snd X k sx W P F (.Call (.Name x p) es [] pos) (.mk c as) := by
  obtain ⟨⟨fa, fd, ps, M, FO, hb⟩, oc⟩ := hF
  have pe : PE X (.Call (.Name x p) es [] pos) (tMk (k.cA c) (spO k fun ds => (F cl.init ds).out) (WE W) (tAs k sx W (evAs (evs P F as)))) := by
    refine ⟨fun pins s σ H Q I q => ?_⟩
    refine wpAny_Call_Name_kw (ld_glob I hg hm ?_ hd)
    cases h with
    | nil => exact PySem.W.callWith_K0 I.kIn M.kp (run_makeS (us := []) M FO hr hb (passAt tk σ) I .nil (tAs_nil q))
    | cons n h1 h2 =>
      refine PySem.W.callWith_K (h₀ := X.base) I.ok.mod.kin M.kp (thn ((pa_as (.cons n h1 h2)).run pos pins s σ H _ I q) fun us s1 ⟨vs, H1, I1, r, q⟩ => ⟨I1.kIn, ?_⟩) (star_cons n _ _) (h2.plain pos)
      exact run_makeS M FO hr hb (passAt tk σ) I1 r q
  refine snd1 (f := fun r => (evAs (evs P F as) r).bind fun as r => callC P F c as r) hK (pe.weak fun σ H Q ⟨Z, r, os, R, q⟩ => ?_) (fun _ => rfl) rfl (pl_no fun _ => rfl) (it_no fun _ => rfl)
  refine tAs_then R q fun ra r1 vs H1 Z1 o1 os1 R1 av nd nz S1 q1 => ?_
  unfold callC at q1
  rw [hc] at q1
  dsimp only at q1
  split at q1
  · rename_i ds rb e
    obtain ⟨od', os2, T, R2, pm⟩ := lend_ok av R1 e nd nz
    have nz' : ∀ a ∈ od', ¬ Z1 a := fun a m => by
      rcases List.mem_append.mp (pm.mem_iff.mp (List.mem_append_left _ m)) with m | m
      · exact nz a m
      · exact R1.nz a m
    exact fun x dx hx hdx ne => made_ok (f := fun ds => (F cl.init ds).out) oc av T R2 (pm.nodup_iff.mpr nd) nz' (S1.perm pm) q1 x dx hx hdx ne
  · exact q1.elim

/-- the method x of the class c -/
structure MethAt (X : Cx) (k : Kc) (j c : Nat) (x : Str) (f : List D → Out D) : Prop where
  ex : ∃ (fa : Addr) (fd : FuncData) (ps : List Str), Meth X.K (k.cA c) x fa ∧ FnOk X.prog X.w X.K X.mg X.base (L2.CX X.prog X.w) j fa fd ps (spO k f) ∧ Binds X.K fd ps []
def tMt (X : Cx) (k : Kc) (j : Nat) (x : Str) (P : Pg) (F : Nat → List D → FOut) (m : Nat) (E : St → XK) (ta : TE) (t : TA) : TE := fun σ H Q => ta σ H fun y H1 => ∃ a c dx fs cl f, y = .ref a ∧ H1 a = some (.ins (k.cA c) dx fs) ∧ k.oc c ∧ (fs.map (·.1)).all (fun n => decide (n ≠ x)) = true ∧
  P.cls[c]? = some cl ∧ cl.ms.lookup m = some f ∧ t σ H1 fun vs H2 => spO k (fun ds => (F f ds).out) (.ref a :: vs) H2 Q (E σ)
theorem no_lookup {fs : List (Str × V)} {x : Str} (h : (fs.map (·.1)).all (fun n => decide (n ≠ x)) = true) : fs.lookup x = none := by
  induction fs with
  | nil => rfl
  | cons p fs ih =>
    obtain ⟨n, v⟩ := p
    simp only [List.map_cons, List.all_cons, Bool.and_eq_true, decide_eq_true_eq] at h
    rw [List.lookup_cons, show (x == n) = false from beq_eq_false_iff_ne.mpr (Ne.symm h.1)]
    exact ih h.2
theorem s_meth {e1 : Expr} {a1 : E} {x : Str} {m j : Nat} (hK : X.K = k.K) (h0 : Snd X k sx W P F e1 a1) (h : SndL X k sx W P F es as) (hx : ∀ f, f < k.n → k.aN f ≠ x)
    (hF : ∀ c cl f, k.oc c → P.cls[c]? = some cl → cl.ms.lookup m = some f → MethAt X k j c x fun ds => (F f ds).out) (hr : Room j X.A) (tk : Takes X W)
    (ht : ∃ pl : Sem Bool, eval (.Call (.Attribute e1 x apos) es [] cpos) X.env = (do
      let ov ← eval e1 X.env
      standAt apos.atName
      let (f, first) ← holding [ov] (getMethod ov x pl)
      callWith cpos f first (backTo cpos (starEach es X.env)) (backToKw cpos (keywordEach [] X.env)))) :
    Snd X k sx W P F (.Call (.Attribute e1 x apos) es [] cpos) (.meth m a1 as) := by
  obtain ⟨pl, ht⟩ := ht
  have pe : PE X (.Call (.Attribute e1 x apos) es [] cpos) (tMt X k j x P F m (WE W) (tAr k sx W (ev P F a1).a) (tAs k sx W (evAs (evs P F as)))) := by
    refine ⟨fun pins s σ H Q I q => ?_⟩
    refine PySem.W.methodCall_KW (pl := pl) (thn (h0.ar.run pins s σ H _ I q) fun u s1 ⟨y, H1, I1, rx, a, c, dx, fs, cl, f, ey, ea, oc, hl, hc, hf, q⟩ => ?_) ht
    subst ey
    obtain rfl : u = Value.ref a := rx
    obtain ⟨fa, fd, ps, hm, FO, hb⟩ := (hF c cl f oc hc hf).ex
    refine getmeth_ok I1 ea (by rw [hK]; exact (k.cls c oc).1) hm (no_lookup hl) ?_
    cases h with
    | nil => exact PySem.W.callWith_K0 (first := [.ref a]) I1.kIn hm.kp (run_fnS (us := [.ref a]) (vs := [.ref a]) FO hr hb (passAt tk σ) I1 (.cons rfl .nil) (tAs_nil q))
    | cons n h1 h2 =>
      refine PySem.W.callWith_K (first := [.ref a]) (h₀ := X.base) I.ok.mod.kin hm.kp (thn ((pa_as (.cons n h1 h2)).run cpos pins s1 σ H1 _ I1 q) fun us s2 ⟨vs, H2, I2, r, q2⟩ => ⟨I2.kIn, ?_⟩) (star_cons n _ _) (h2.plain cpos)
      exact run_fnS (us := .ref a :: us) (vs := .ref a :: vs) FO hr hb (passAt tk σ) I2 (.cons rfl r) q2
  refine snd1 (f := fun r => ((ev P F a1).a r).bind fun x r => match x.peek r with
    | some (.obj _ c _ _) => match methOf P m c with
      | some f => (evAs (evs P F as) r).bind fun as r => callA F f (x :: as) r
      | none => .bad
    | _ => .bad) hK (pe.weak fun σ H Q ⟨Z, r, os, R, q⟩ => ?_) (fun _ => rfl) rfl (pl_no fun _ => rfl) (it_no fun _ => rfl)
  refine tAr_then R q fun y r1 w H1 Z1 oy os1 R1 ry nd1 nz1 S1 q1 => ?_
  split at q1
  · rename_i kd c ks ds pk
    obtain ⟨o', rd⟩ := peek_ok R1 ry pk
    have opn : ∃ a dx fs, w = .ref a ∧ H1 a = some (.ins (k.cA c) dx fs) ∧ (fs.map (·.1) = ks.map k.aN ∧ ∀ x ∈ ks, x < k.n) ∧ k.oc c := by
      cases rd with
      | oown h1 e _ => exact ⟨_, _, _, rfl, h1, e.1, e.2⟩
      | oshr _ h1 e _ => exact ⟨_, _, _, rfl, h1, e.1, e.2⟩
    obtain ⟨a, dx, fs, rfl, ea, en, oc⟩ := opn
    split at q1
    · rename_i f hf
      obtain ⟨cl, hc, hl⟩ := Option.bind_eq_some_iff.mp hf
      refine ⟨a, c, dx, fs, cl, f, rfl, ea, oc, List.all_eq_true.mpr fun n hn => ?_, hc, hl, ⟨Z1, r1, os1, R1, ((Sat.bind.mp q1).base S1).imp fun ra r2 q2 vs H2 Z2 o2 os2 R2 av nd2 nz2 S2 => ?_⟩⟩
      · rw [en.1] at hn
        obtain ⟨z, z1, rfl⟩ := List.mem_map.mp hn
        exact decide_eq_true (hx z (en.2 z z1))
      · unfold callA at q2
        split at q2
        · rename_i ds2 rb e
          obtain ⟨ry', nd3, nz3⟩ := ry.carry nd1 nz1 R1 S2 nd2
          have nz4 : ∀ a ∈ oy ++ o2, ¬ Z2 a := fun a m => (List.mem_append.mp m).elim (nz3 a) (nz2 a)
          obtain ⟨od', os3, T, R3, pm⟩ := lend_ok (.cons ry' av) R2 e (nodup3 nd3) nz4
          have nz' : ∀ a ∈ od', ¬ Z2 a := fun a m => by
            rcases List.mem_append.mp (pm.mem_iff.mp (List.mem_append_left _ m)) with m | m
            · exact nz4 a m
            · exact R2.nz a m
          have S3 := (S1.trans (S2.wide oy)).perm (pm.trans (List.Perm.of_eq (List.append_assoc _ _ _)))
          exact callA_ok (f := fun ds => (F f ds).out) (.cons ry' av) T R3 (pm.nodup_iff.mpr (nodup3 nd3)) nz' S3 S3 q2
        · exact q2.elim
    · exact q1.elim
  · exact q1.elim
end
end Mv

namespace Mv
open PySem L2
section
variable {X : Cx} {k : Kc} {sx : Option (Addr × Addr)} {W : WX} {P : Pg} {F : Nat → List D → FOut} {pos apos cpos kpos : Pos} {es : List Expr} {as bs : List E} {kws : List Keyword} {ks : List Str}
variable {Z Z' Z0 Z1 Z2 : Addr → Prop} {H H' H0 H1 H2 : Hp} {σ : St} {r r1 r2 : En} {os os' os0 os1 os2 od : List Addr}
/-- keywords, each by its name -/
inductive SndK (X : Cx) (k : Kc) (sx : Option (Addr × Addr)) (W : WX) (P : Pg) (F : Nat → List D → FOut) : List Keyword → List Str → List E → Prop
  | nil : SndK X k sx W P F [] [] []
  | cons {nm : Str} {e : Expr} {p : Pos} {a : E} {kws : List Keyword} {ks : List Str} {as : List E} : Snd X k sx W P F e a → SndK X k sx W P F kws ks as → SndK X k sx W P F (⟨some nm, e, p⟩ :: kws) (nm :: ks) (a :: as)
theorem SndK.all (h : SndK X k sx W P F kws ks bs) (pos : Pos) : (backToKw pos (keywordEach kws X.env)).all (·.1.isSome) = true := by
  induction h with
  | nil => rfl
  | cons _ _ ih => exact ih
theorem SndK.names (h : SndK X k sx W P F kws ks bs) (pos : Pos) : (backToKw pos (keywordEach kws X.env)).filterMap (·.1) = ks := by
  induction h with
  | nil => rfl
  | @cons nm e p a kws ks as _ _ ih => exact congrArg (nm :: ·) ih
theorem SndK.noneAny (h : SndK X k sx W P F kws ks bs) (pos : Pos) : (backToKw pos (keywordEach kws X.env)).any (·.1.isNone) = false := by
  induction h with
  | nil => rfl
  | cons _ _ ih => exact ih
theorem pk_es (h : SndK X k sx W P F kws ks bs) : PK X kws (tL k sx W (evEs (evs P F bs))) := by
  induction h with
  | nil => exact ⟨fun pos pins s σ H Q I ⟨Z, r, os, R, q⟩ => pk_nil.run pos pins s σ H Q I (q [] H Z [] os R .nil R.nd (fun _ m => by cases m) Step.refl)⟩
  | cons h1 _ ih =>
    refine ⟨fun pos pins s σ H Q I ⟨Z, r, os, R, q⟩ => (pk_cons h1.v ih).run pos pins s σ H Q I ?_⟩
    refine tV_then R q fun d r1 v H1 Z1 o1 os1 R1 rd nd nz S1 q1 => ?_
    refine tL_then R1 (q1.base S1) fun ds r2 vs H2 Z2 o2 os2 R2 T nd2 nz2 S2 q2 => ?_
    obtain ⟨rd', nd', nz'⟩ := rd.carry nd nz R1 S2 nd2
    exact q2 (v :: vs) H2 Z2 (o1 ++ o2) os2 R2 (.cons rd' T) (nodup3 nd') (fun a m => (List.mem_append.mp m).elim (nz' a) (nz2 a)) (by rw [List.append_assoc]; exact S1.trans (S2.wide o1))
/-- all values of a call, the keywords' behind the others -/
theorem evEs_app (as bs : List E) : ∀ r, evEs (evs P F (as ++ bs)) r = (evEs (evs P F as) r).bind fun ds r => (evEs (evs P F bs) r).bind fun zs r => .ok (ds ++ zs) r := by
  induction as with
  | nil =>
    intro r
    show evEs (evs P F bs) r = (evEs (evs P F bs) r).bind fun zs r => .ok zs r
    cases evEs (evs P F bs) r <;> rfl
  | cons a as ih =>
    intro r
    show ((ev P F a).v r).bind (fun d r => (evEs (evs P F (as ++ bs)) r).bind fun ds r => .ok (d :: ds) r) = (((ev P F a).v r).bind fun d r => (evEs (evs P F as) r).bind fun ds r => .ok (d :: ds) r).bind _
    cases (ev P F a).v r with
    | ok d r1 =>
      simp only [Out.bind_ok]
      rw [ih]
      cases evEs (evs P F as) r1 with
      | ok ds r2 =>
        simp only [Out.bind_ok]
        cases evEs (evs P F bs) r2 <;> rfl
      | exc _ _ _ => rfl
      | bad => rfl
    | exc _ _ _ => rfl
    | bad => rfl
theorem pick_rel {vs : List V} {us : List Value} (h : Vals vs us) (perm : List Nat) : Vals (pick .non perm vs) (pick .none perm us) := by
  have h2 : Vals (vs ++ [.non]) (us ++ [.none]) := h.append (.cons rfl .nil)
  unfold pick
  induction perm with
  | nil => exact .nil
  | cons i perm ih =>
    rw [List.filterMap_cons, List.filterMap_cons]
    cases e : (vs ++ [V.non])[i]? with
    | none =>
      have : (us ++ [Value.none])[i]? = none := List.getElem?_eq_none (by rw [← h2.length]; exact List.getElem?_eq_none_iff.mp e)
      rw [this]; exact ih
    | some v =>
      obtain ⟨u, eu, r⟩ := h2.get e
      rw [eu]; exact .cons r ih
theorem pick_rd {ds : List D} {vs : List V} (h : RDs k Z H ds vs []) (perm : List Nat) : RDs k Z H (pick .non perm ds) (pick .non perm vs) [] := by
  have h2 : RDs k Z H (ds ++ [.non]) (vs ++ [.non]) [] := RDs.app h (RDs.one .non)
  unfold pick
  induction perm with
  | nil => exact .nil
  | cons i perm ih =>
    rw [List.filterMap_cons, List.filterMap_cons]
    cases e : (ds ++ [D.non])[i]? with
    | none =>
      have : (vs ++ [V.non])[i]? = none := List.getElem?_eq_none (by rw [h2.length]; exact List.getElem?_eq_none_iff.mp e)
      rw [this]; exact ih
    | some d =>
      obtain ⟨v, A, o, B, ev, eo, rd, _⟩ := h2.get e
      obtain ⟨rfl, eo2⟩ := List.append_eq_nil_iff.mp eo.symm
      obtain ⟨rfl, rfl⟩ := List.append_eq_nil_iff.mp eo2
      rw [ev]; exact .cons (o := []) rd ih
theorem lend_v : ∀ (ds : List D) (r : En), lend (ds.map .v) r = some (ds, r)
  | [], r => rfl
  | d :: ds, r => by show (lend (ds.map .v) r).map _ = _; rw [lend_v ds r]; rfl
theorem arvs_v {ds : List D} {vs : List V} (h : RDs k Z H ds vs od) : ArVs k Z H σ (ds.map .v) vs od := by
  induction ds generalizing vs od with
  | nil => cases h; exact .nil
  | cons d ds ih =>
    cases h with
    | cons h1 h2 => exact .cons (.v h1) (ih h2)
/-- how a call binds: n values, the keywords ks, put by perm in the parameters' order -/
def KS (K : PySem.W.Frag) (fd : FuncData) (ps : List Str) (n : Nat) (ks : List Str) (perm : List Nat) : Prop := ∀ (s : Shared) (us ws : List Value), K.In s.heap → us.length = n → ws.length = ks.length → BindsTo s fd ⟨us, ks.zip ws⟩ (ps.zip (pick .none perm (us ++ ws)))
def KSm (K : PySem.W.Frag) (fd : FuncData) (ps : List Str) (n : Nat) (ks : List Str) (perm : List Nat) : Prop := ∀ (s : Shared) (u : Value) (us ws : List Value), K.In s.heap → us.length = n → ws.length = ks.length → BindsTo s fd ⟨u :: us, ks.zip ws⟩ (ps.zip (u :: pick .none perm (us ++ ws)))
structure KwAt (X : Cx) (k : Kc) (j : Nat) (fa : Addr) (n : Nat) (ks : List Str) (perm : List Nat) (f : List D → Out D) : Prop where
  ex : ∃ (fd : FuncData) (ps : List Str), FnOk X.prog X.w X.K X.mg X.base (L2.CX X.prog X.w) j fa fd ps (spO k f) ∧ KS X.K fd ps n ks perm
  kp : PySem.W.keepIn X.K (.ref fa) = true
structure KmAt (X : Cx) (k : Kc) (j c : Nat) (n : Nat) (ks : List Str) (perm : List Nat) (f : List D → Out D) : Prop where
  ex : ∃ (fa : Addr) (fd : FuncData) (ps : List Str), Mk X.K (k.cA c) fa ∧ FnOk X.prog X.w X.K X.mg X.base (L2.CX X.prog X.w) j fa fd ps (spO k f) ∧ KSm X.K fd ps n ks perm
  oc : k.oc c
/-- the values of a call come, then the callee -/
theorem kw_run {f : Addr} {Q : VK} {g : List V → Hp → Prop} (hk : PySem.W.keepIn X.K (.ref f) = true) (h : SndL X k sx W P F es as) (hk2 : SndK X k sx W P F kws ks bs) {pins : List (Addr × Obj)} {s : Shared} (I : L2.Inv X pins σ H s)
    (q : tL k sx W (evEs (evs P F (as ++ bs))) σ H g) (go : ∀ s2 vs us zs ws H2, L2.Inv X pins σ H2 s2 → Vals vs us → Vals zs ws → us.length = as.length → ws.length = ks.length → g (vs ++ zs) H2 → wpAny (model X.prog X.w) X.A (call (.ref f) us (ks.zip ws)) (EP X pins σ Q) X.xe s2) :
    wpAny (model X.prog X.w) X.A (callWith pos (.ref f) [] (backTo pos (starEach es X.env)) (backToKw pos (keywordEach kws X.env))) (EP X pins σ Q) X.xe s := by
  have len : ∀ {as : List E} {r : En} {ds : List D} {r1 : En}, evEs (evs P F as) r = .ok ds r1 → ds.length = as.length := by
    intro as
    induction as with
    | nil => intro r ds r1 e; cases e; rfl
    | cons a as ih =>
      intro r ds r1 e
      have e : ((ev P F a).v r).bind (fun d r => (evEs (evs P F as) r).bind fun ds r => Out.ok (d :: ds) r) = .ok ds r1 := e
      cases h1 : (ev P F a).v r with
      | ok d r2 =>
        rw [h1, Out.bind_ok] at e
        cases h2 : evEs (evs P F as) r2 with
        | ok ds2 r3 => rw [h2, Out.bind_ok] at e; cases e; simp [ih h2]
        | exc _ _ _ => rw [h2] at e; cases e
        | bad => rw [h2] at e; cases e
      | exc _ _ _ => rw [h1] at e; cases e
      | bad => rw [h1] at e; cases e
  have lks : ks.length = bs.length := by
    clear q go
    induction hk2 with
    | nil => rfl
    | cons _ _ ih => simp [ih]
  obtain ⟨Z, r, os, R, q⟩ := q
  rw [evEs_app] at q
  have first : tL k sx W (evEs (evs P F as)) σ H fun vs H1 => vs.length = as.length ∧ tL k sx W (evEs (evs P F bs)) σ H1 fun zs H2 => zs.length = bs.length ∧ ∀ (us : List Value), Vals vs us → g (vs ++ zs) H2 := by
    refine ⟨Z, r, os, R, ?_⟩
    cases h1 : evEs (evs P F as) r with
    | ok ds r1 =>
      rw [h1, Out.bind_ok] at q
      intro vs H1 Z1 o1 os1 R1 T nd nz S1
      refine ⟨by rw [T.length]; exact len h1, Z1, r1, os1, R1, ?_⟩
      cases h2 : evEs (evs P F bs) r1 with
      | ok zs r2 =>
        rw [h2, Out.bind_ok] at q
        intro zv H2 Z2 o2 os2 R2 T2 nd2 nz2 S2
        refine ⟨by rw [T2.length]; exact len h2, fun us _ => ?_⟩
        obtain ⟨T', nd', nz'⟩ := T.carry nd nz R1 S2 nd2
        exact q (vs ++ zv) H2 Z2 (o1 ++ o2) os2 R2 (T'.app T2) (nodup3 nd') (fun a m => (List.mem_append.mp m).elim (nz' a) (nz2 a)) (by rw [List.append_assoc]; exact S1.trans (S2.wide o1))
      | exc c w r2 =>
        rw [h2] at q
        exact PostX.base (show PostX k sx W Z H os σ c w r2 from q) S1
      | bad => rw [h2] at q; exact q.elim
    | exc c w r1 => rw [h1] at q; exact q
    | bad => rw [h1] at q; exact q.elim
  cases h with
  | nil =>
    have q0 := tL_nil first
    refine PySem.W.callWith_KW0 (h₀ := X.base) I.ok.mod.kin hk (hk2.all pos) (thn ((pk_es hk2).run pos pins s σ H _ I q0.2) fun ws s2 ⟨zs, H2, I2, rz, l2, q2⟩ => ⟨I2.kIn, ?_⟩) (by rw [hk2.noneAny]; rfl)
    rw [hk2.names]
    exact go s2 [] [] zs ws H2 I2 .nil rz rfl (by rw [← rz.length, l2, lks]) (q2 [] .nil)
  | cons n h1 h2 =>
    refine PySem.W.callWith_KW (h₀ := X.base) I.ok.mod.kin hk (hk2.all pos) (thn ((pa_es (.cons n h1 h2)).run pos pins s σ H _ I first) fun us s1 ⟨vs, H1, I1, rv, l1, q1⟩ => ?_) (by rw [SndL.plain (.cons n h1 h2), hk2.noneAny]; rfl) (star_cons n _ _)
    refine thn ((pk_es hk2).run pos pins s1 σ H1 _ I1 q1) fun ws s2 ⟨zs, H2, I2, rz, l2, q2⟩ => ⟨I2.kIn, ?_⟩
    rw [hk2.names]
    exact go s2 vs us zs ws H2 I2 rv rz (by rw [← rv.length, l1]) (by rw [← rz.length, l2, lks]) (q2 us rv)
end
end Mv
namespace Mv
open PySem L2
section
variable {X : Cx} {k : Kc} {sx : Option (Addr × Addr)} {W : WX} {P : Pg} {F : Nat → List D → FOut} {pos apos cpos kpos : Pos} {es : List Expr} {as bs : List E} {kws : List Keyword} {ks : List Str}
variable {Z Z' Z0 Z1 Z2 : Addr → Prop} {H H' H0 H1 H2 : Hp} {σ : St} {r r1 r2 : En} {os os' os0 os1 os2 od : List Addr}
theorem run_kw {pins : List (Addr × Obj)} {s : Shared} {Q : VK} {us ws : List Value} {vs zs : List V} {fa : Addr} {fd : FuncData} {ps : List Str} {sp : Sp} {CX : CXT} {E : St → XK} {j n : Nat} {perm : List Nat} (FO : FnOk X.prog X.w X.K X.mg X.base CX j fa fd ps sp) (hr : Room j X.A) (hb : KS X.K fd ps n ks perm)
    (hx : PassesAt CX X σ (E σ)) (I : L2.Inv X pins σ H s) (r : Vals vs us) (rz : Vals zs ws) (l1 : us.length = n) (l2 : ws.length = ks.length) (h : sp (pick .non perm (vs ++ zs)) H Q (E σ)) :
    wpAny (model X.prog X.w) X.A (call (.ref fa) us (ks.zip ws)) (EP X pins σ Q) X.xe s := by
  have b := hb s us ws I.kIn l1 l2
  refine wpAny_call (codeAny_mono (FO.run X.A X.stack s H _ _ _ Q (E σ) hr I.env0 b (pick_rel (r.append rz) perm) h) fun o s' hq => ?_)
  rcases o with e | fl
  · exact hx pins H s e s' I hq
  · cases fl <;> first | exact I.after hq | exact False.elim hq
theorem run_kwm {pins : List (Addr × Obj)} {s : Shared} {Q : VK} {us ws : List Value} {vs zs : List V} {C fa : Addr} {fd : FuncData} {ps : List Str} {sp : Sp} {CX : CXT} {E : St → XK} {j n : Nat} {perm : List Nat} (M : Mk X.K C fa) (FO : FnOk X.prog X.w X.K X.mg X.base CX j fa fd ps sp) (hr : Room (j + 1) X.A) (hb : KSm X.K fd ps n ks perm)
    (hx : PassesAt CX X σ (E σ)) (I : L2.Inv X pins σ H s) (r : Vals vs us) (rz : Vals zs ws) (l1 : us.length = n) (l2 : ws.length = ks.length)
    (h : ∀ x dx, H x = none → H dx = none → dx ≠ x → sp (.ref x :: pick .non perm (vs ++ zs)) (upd (upd H dx (.own x)) x (.ins C dx [])) (fun v H2 => v = .non ∧ Q (.ref x) H2) (E σ)) :
    wpAny (model X.prog X.w) X.A (call (.ref C) us (ks.zip ws)) (EP X pins σ Q) X.xe s := by
  have hq := h (s.heap.objs.size + 1) s.heap.objs.size (I.hok.fresh (Nat.le_succ _)) (I.hok.fresh (Nat.le_refl _)) (Nat.ne_of_lt (Nat.lt_succ_self _))
  have I2 := Inv.made (C := C) I
  have r2 : Vals (V.ref (s.heap.objs.size + 1) :: pick .non perm (vs ++ zs)) (Value.ref (s.heap.objs.size + 1) :: pick .none perm (us ++ ws)) := .cons rfl (pick_rel (r.append rz) perm)
  have b := hb _ (Value.ref (s.heap.objs.size + 1)) us ws I2.kIn l1 l2
  refine wpAny_call (make_map (f := fa) I.kIn M.makes M.init (beq_iff_eq.mp M.fn) (codeAny_mono (FO.run _ X.stack _ _ _ _ _ _ (E σ) (hr.make C us (ks.zip ws)) (I2.env0.make C us (ks.zip ws)) b r2 hq) fun o s' hq' => ?_))
  rcases o with e | fl
  · exact hx pins _ _ e s' I2 hq'
  · cases fl with
    | ret u =>
      obtain ⟨v, H', I3, rv, ev, q3⟩ := I2.after hq'
      subst ev
      exact ⟨rv, ⟨V.ref (s.heap.objs.size + 1), H', I3, rfl, q3⟩⟩
    | next => exact hq'.elim
    | brk => exact hq'.elim
    | cont => exact hq'.elim
theorem kw_len (h : SndL X k sx W P F es as) : as.length = es.length := by
  induction h with
  | nil => rfl
  | cons _ _ _ ih => simp [ih]
/-- f(.., k = v, ..) -/
theorem s_callk {x : Str} {p : Pos} {fa : Addr} {f j n : Nat} {perm : List Nat} (hK : X.K = k.K) (hF : KwAt X k j fa n ks perm fun ds => (F f ds).out) (hr : Room j X.A) (hg : Gl X x) (hm : X.mg x = some (.ref fa)) (hd : (x == ("__debug__" : Str)) = false) (tk : Takes X W) (h : SndL X k sx W P F es as) (h2 : SndK X k sx W P F kws ks bs) (hn : es.length = n) :
    Snd X k sx W P F (.Call (.Name x p) es kws pos) (.callk f perm (as ++ bs)) := by
  obtain ⟨⟨fd, ps, FO, hb⟩, hk⟩ := hF
  have pe : PE X (.Call (.Name x p) es kws pos) (fun σ H Q => tL k sx W (evEs (evs P F (as ++ bs))) σ H fun vs H1 => spO k (fun ds => (F f ds).out) (pick .non perm vs) H1 Q (WE W σ)) := by
    refine ⟨fun pins s σ H Q I q => ?_⟩
    refine wpAny_Call_Name_kw (ld_glob I hg hm ?_ hd)
    exact kw_run hk h h2 I q fun s2 vs us zs ws H2 I2 rv rz l1 l2 g => run_kw FO hr hb (passAt tk σ) I2 rv rz (by rw [l1, kw_len h]; exact hn) l2 g
  refine snd1 (f := fun r => (evEs (evs P F (as ++ bs)) r).bind fun ds r => if noOwn ds then callA F f ((pick .non perm ds).map .v) r else .bad) hK (pe.weak fun σ H Q ⟨Z, r, os, R, q⟩ => ?_) (fun _ => rfl) rfl (pl_no fun _ => rfl) (it_no fun _ => rfl)
  refine tL_then R q fun ds r1 vs H1 Z1 o1 os1 R1 T nd nz S1 q1 => ?_
  split at q1
  · rename_i no
    have z := T.noOwn no
    subst z
    have T' := pick_rd T perm
    unfold callA at q1
    rw [lend_v] at q1
    exact callA_ok (arvs_v T') T' R1 nd nz S1 S1 q1
  · exact q1.elim
theorem s_mkk {x : Str} {p : Pos} {c j n : Nat} {cl : Cl} {perm : List Nat} (hK : X.K = k.K) (hc : P.cls[c]? = some cl) (hF : KmAt X k j c n ks perm fun ds => (F cl.init ds).out) (hr : Room (j + 1) X.A) (hg : Gl X x) (hm : X.mg x = some (.ref (k.cA c))) (hd : (x == ("__debug__" : Str)) = false) (tk : Takes X W) (h : SndL X k sx W P F es as) (h2 : SndK X k sx W P F kws ks bs) (hn : es.length = n) :
    Snd X k sx W P F (.Call (.Name x p) es kws pos) (.mkk c perm (as ++ bs)) := by
  obtain ⟨⟨fa, fd, ps, M, FO, hb⟩, oc⟩ := hF
  have pe : PE X (.Call (.Name x p) es kws pos) (fun σ H Q => tL k sx W (evEs (evs P F (as ++ bs))) σ H fun vs H1 => ∀ x dx, H1 x = none → H1 dx = none → dx ≠ x → spO k (fun ds => (F cl.init ds).out) (.ref x :: pick .non perm vs) (upd (upd H1 dx (.own x)) x (.ins (k.cA c) dx [])) (fun v H2 => v = .non ∧ Q (.ref x) H2) (WE W σ)) := by
    refine ⟨fun pins s σ H Q I q => ?_⟩
    refine wpAny_Call_Name_kw (ld_glob I hg hm ?_ hd)
    exact kw_run M.kp h h2 I q fun s2 vs us zs ws H2 I2 rv rz l1 l2 g => run_kwm M FO hr hb (passAt tk σ) I2 rv rz (by rw [l1, kw_len h]; exact hn) l2 g
  refine snd1 (f := fun r => (evEs (evs P F (as ++ bs)) r).bind fun ds r => if noOwn ds then callC P F c ((pick .non perm ds).map .v) r else .bad) hK (pe.weak fun σ H Q ⟨Z, r, os, R, q⟩ => ?_) (fun _ => rfl) rfl (pl_no fun _ => rfl) (it_no fun _ => rfl)
  refine tL_then R q fun ds r1 vs H1 Z1 o1 os1 R1 T nd nz S1 q1 => ?_
  split at q1
  · rename_i no
    have z := T.noOwn no
    subst z
    have T' := pick_rd T perm
    unfold callC at q1
    rw [hc] at q1
    dsimp only at q1
    rw [lend_v] at q1
    exact fun x dx hx hdx ne => made_ok (f := fun ds => (F cl.init ds).out) oc (arvs_v T') T' R1 nd nz S1 q1 x dx hx hdx ne
  · exact q1.elim
end
end Mv

namespace Mv
open PySem L2

section
variable {X : Cx} {k : Kc} {sx : Option (Addr × Addr)} {W : WX} {P : Pg} {F : Nat → List D → FOut} {pos apos cpos : Pos} {es : List Expr} {as : List E}
variable {Z Z' Z0 Z1 Z2 : Addr → Prop} {H H' H0 H1 H2 : Hp} {σ σ' σ0 σ1 σ2 : St} {r r1 r2 : En} {os os' os0 os1 os2 od : List Addr}

/-- the same but for slots of L -/
def Agr (L : List Nat) (σ σ' : St) : Prop := ∀ i, i ∉ L → σ'[i]? = σ[i]?
theorem Agr.refl {L : List Nat} : Agr L σ σ := fun _ _ => rfl
theorem Agr.trans {L : List Nat} (a : Agr L σ σ1) (b : Agr L σ1 σ2) : Agr L σ σ2 := fun i h => (b i h).trans (a i h)
theorem Agr.mono {L M : List Nat} (a : Agr L σ σ') (h : ∀ i ∈ L, i ∈ M) : Agr M σ σ' := fun i n => a i fun m => n (h i m)

/-! ### targets -/
def tG (k : Kc) (sx : Option (Addr × Addr)) (tg : Tg) : TG := fun v σ H Q => ∃ Z r os d od, Rel k sx Z r σ H os ∧ RD k Z H d v od ∧ (od ++ os).Nodup ∧ (∀ a ∈ od, ¬ Z a) ∧ ∃ r1, asgT tg d r = some r1 ∧
  ∀ σ' os', Rel k sx Z r1 σ' H os' → (∀ a ∈ os', a ∈ od ++ os) → Agr (stT tg) σ σ' → Q σ' H
def tGs (k : Kc) (sx : Option (Addr × Addr)) (ts : List Tg) : TGs := fun vs σ H Q => ∃ Z r os ds, Rel k sx Z r σ H os ∧ RDs k Z H ds vs [] ∧ ∃ r1, asgT.asgs ts ds r = some r1 ∧
  ∀ σ' os', Rel k sx Z r1 σ' H os' → (∀ a ∈ os', a ∈ os) → Agr (stTs ts) σ σ' → Q σ' H
theorem _root_.L2.PG.weak {e : Expr} {t t' : TG} (h : PG X e t) (w : ∀ v σ H Q, t' v σ H Q → t v σ H Q) : PG X e t' := ⟨fun pins s σ H v u Q I r hq => h.run pins s σ H v u Q I r (w v σ H Q hq)⟩
theorem _root_.L2.PGs.weak {e : List Expr} {t t' : TGs} (h : PGs X e t) (w : ∀ v σ H Q, t' v σ H Q → t v σ H Q) : PGs X e t' := ⟨fun pins s σ H v u Q I r hq => h.run pins s σ H v u Q I r (w v σ H Q hq)⟩
theorem set_agr {i : Nat} {x : Option V} : Agr [i] σ (σ.set i x) := fun j h => by
  have : i ≠ j := fun e => h (by simp [e])
  rw [List.getElem?_set_ne this]
/-- a slot is set -/
theorem Rel.put {i : Nat} {d : D} {v : V} (R : Rel k sx Z r σ H os) (hi : i < r.length) (rd : RD k Z H d v od) (nd : (od ++ os).Nodup) (nz : ∀ a ∈ od, ¬ Z a) : ∃ os', Rel k sx Z (r.set i (some d)) (σ.set i (some v)) H os' ∧ ∀ a ∈ os', a ∈ od ++ os := by
  obtain ⟨A, o0, B, e, _, h⟩ := R.rs.put hi
  subst e
  have pm : (A ++ (od ++ B)).Perm (od ++ (A ++ B)) := by rw [List.perm_iff_count]; intro a; simp only [List.count_append]; omega
  have sub : (od ++ (A ++ B)).Sublist (od ++ (A ++ (o0 ++ B))) := List.Sublist.append (List.Sublist.refl _) (List.Sublist.append (List.Sublist.refl _) (List.sublist_append_right _ _))
  have mm : ∀ a ∈ A ++ (od ++ B), a ∈ od ++ (A ++ (o0 ++ B)) := fun a m => sub.subset (pm.mem_iff.mp m)
  refine ⟨A ++ (od ++ B), ⟨h d v od rd, pm.nodup_iff.mpr (sub.nodup nd), fun a m => ?_, R.zd⟩, mm⟩
  rcases List.mem_append.mp (mm a m) with m | m
  · exact nz a m
  · exact R.nz a m
theorem g_name {i : Nat} {x : Str} (hN : X.N.Nodup) (hi : X.N[i]? = some x) (hx : Loc X.env.scope x) (hf : X.fn x = true ∨ X.env.scope.names.lookup x = some .local) : PG X (.Name x pos) (tG k sx (.nm i)) :=
  (pg_name hN hi hx hf).weak fun v σ H Q ⟨Z, r, os, d, od, R, rd, nd, nz, r1, e, q⟩ => by
    have e : (if i < r.length then some (r.set i (some d)) else none) = some r1 := e
    split at e
    · rename_i c
      cases e
      obtain ⟨os', R', sub⟩ := R.put c rd nd nz
      exact q _ os' R' sub set_agr
    · cases e
inductive SGs (X : Cx) (k : Kc) (sx : Option (Addr × Addr)) : List Expr → List Tg → Prop
  | nil : SGs X k sx [] []
  | cons {e : Expr} {t : Tg} {es : List Expr} {ts : List Tg} : nst e = true → PG X e (tG k sx t) → SGs X k sx es ts → SGs X k sx (e :: es) (t :: ts)
theorem asgEach_cons {e : Expr} (h : nst e = true) (es : List Expr) (env : Env) : assignEach (e :: es) env = (false, assign e env) :: assignEach es env := by
  cases e <;> first | rfl | cases h
theorem SGs.len {ts : List Tg} (h : SGs X k sx es ts) : (assignEach es X.env).length = ts.length := by
  induction h with
  | nil => rfl
  | cons n _ _ ih => rw [asgEach_cons n]; simp [ih]
theorem SGs.idx {ts : List Tg} (h : SGs X k sx es ts) : (assignEach es X.env).findIdx? (·.1) = none := by
  induction h with
  | nil => rfl
  | cons n _ _ ih => rw [asgEach_cons n, List.findIdx?_cons]; simp [ih]
theorem pgs_of {ts : List Tg} (h : SGs X k sx es ts) : PGs X es (tGs k sx ts) := by
  induction h with
  | nil =>
      refine pgs_nil.weak fun vs σ H Q ⟨Z, r, os, ds, R, T, r1, e, q⟩ => ?_
      cases ds with
      | nil =>
        cases T
        cases e
        exact ⟨rfl, q σ os R (fun _ m => m) Agr.refl⟩
      | cons _ _ => cases e
  | @cons e t es ts n h1 h2 ih =>
    refine (pgs_cons h1 ih (by rw [asgEach_cons n] <;> rfl)).weak fun vs σ H Q ⟨Z, r, os, ds, R, T, r1, e, q⟩ => ?_
    cases ds with
    | nil => cases e
    | cons d ds =>
      obtain ⟨v, us, rfl, rd, T'⟩ := T.split1
      obtain ⟨r', e1, e2⟩ := Option.bind_eq_some_iff.mp (show ((asgT t d r).bind fun r' => asgT.asgs ts ds r') = some r1 from e)
      refine ⟨v, us, rfl, Z, r, os, d, [], R, rd, R.nd, (fun _ m => by cases m), r', e1, fun σ' os' R' sub ag => ?_⟩
      refine ⟨Z, r', os', ds, R', T', r1, e2, fun σ2 os2 R2 sub2 ag2 => q σ2 os2 R2 (fun a m => sub a (sub2 a m)) ?_⟩
      exact (ag.mono fun i m => by show i ∈ stT t ++ stTs ts; exact List.mem_append_left _ m).trans (ag2.mono fun i m => by show i ∈ stT t ++ stTs ts; exact List.mem_append_right _ m)
theorem asgs_len : ∀ {ts : List Tg} {ds : List D} {r r1 : En}, asgT.asgs ts ds r = some r1 → ds.length = ts.length
  | [], [], _, _, _ => rfl
  | [], _ :: _, _, _, h => by cases h
  | _ :: _, [], _, _, h => by cases h
  | t :: ts, d :: ds, r, r1, h => by
    obtain ⟨r', _, e2⟩ := Option.bind_eq_some_iff.mp (show ((asgT t d r).bind fun r' => asgT.asgs ts ds r') = some r1 from h)
    simp [asgs_len e2]
theorem g_tup {n : Nat} {ts : List Tg} (hK : X.K = k.K) (hc : X.calm = true) (h : SGs X k sx es ts) : PG X (.Tuple es n pos) (tG k sx (.tp ts)) :=
  (pg_tup hc (pgs_of h) h.len h.idx).weak fun v σ H Q ⟨Z, r, os, d, od, R, rd, nd, nz, r1, e, q⟩ => by
    cases d with
    | tup ds =>
      cases rd with
      | @tup a vs _ h1 T =>
        exact ⟨a, vs, rfl, by rw [hK]; exact h1.sq, T.length.trans (asgs_len e), Z, r, os, ds, R, T, r1, e, fun σ' os' R' sub ag => q σ' os' R' (fun a m => List.mem_append_right _ (sub a m)) ag⟩
    | _ => cases e

/-! ### what a loop walks -/
theorem ArVs.mono {ra : List Ar} {vs : List V} (h : ArVs k Z H σ ra vs od) (hz : ∀ a, Z a → Z' a) : ArVs k Z' H σ ra vs od := by
  induction h with
  | nil => exact .nil
  | cons g1 g2 ih =>
    refine .cons ?_ ih
    cases g1 with
    | v g => exact .v (RD.mono hz _ _ _ (fun a o e _ => e) g)
    | r g => exact .r g
theorem prep_ok {ra : List Ar} : ∀ {vs : List V} {od os : List Addr} {r : En} {ra1 : List Ar} {r1 : En} {Z : Addr → Prop}, ArVs k Z H σ ra vs od → Rel k sx Z r σ H os → prep ra r = some (ra1, r1) → (od ++ os).Nodup → (∀ a ∈ od, ¬ Z a) →
    ∃ Z' os', ArVs k Z' H σ ra1 vs [] ∧ Rel k sx Z' r1 σ H os' ∧ Step Z Z' H H (od ++ os) os' := by
  induction ra with
  | nil =>
    intro vs od os r ra1 r1 Z h R e nd nz
    cases h
    cases e
    exact ⟨Z, os, .nil, R, Step.refl⟩
  | cons a ra ih =>
    intro vs od os r ra1 r1 Z h R e nd nz
    cases h with
    | @cons _ _ v vs o ot h1 h2 =>
    cases h1 with
    | @v d _ _ rd =>
      obtain ⟨⟨ra', r1'⟩, e1, e2⟩ := Option.map_eq_some_iff.mp (show (prep ra r).map (fun x => (Ar.v d.frz :: x.1, x.2)) = some (ra1, r1) from e)
      cases e2
      rw [List.append_assoc] at nd
      obtain ⟨n1, n2, n3⟩ := List.nodup_append.mp nd
      have ndo : (o ++ os).Nodup := by
        refine List.Sublist.nodup ?_ nd
        exact List.Sublist.append (List.Sublist.refl _) (List.sublist_append_right _ _)
      obtain ⟨R1, _⟩ := R.share ndo (RD.dom _ _ _ rd)
      have av : ArVs k (fun a => Z a ∨ a ∈ o) H σ ra vs ot := by
        exact h2.mono fun a z => .inl z
      obtain ⟨Z', os', a1, R2, S2⟩ := ih av R1 e1 n2 fun a m z => z.elim (nz a (List.mem_append_right _ m)) fun m2 => n3 a m2 a (List.mem_append_left _ m) rfl
      refine ⟨Z', os', .cons (o := []) (.v (RD.frz (fun a z => S2.zs a (.inl z)) _ _ _ (fun a m => S2.zs a (.inr m)) rd)) a1, R2, fun a o e _ => e, fun a z => S2.zs a (.inl z), fun a z => ?_, fun a m => ?_⟩
      · rcases S2.zn a z with (z | z) | z | z
        · exact .inl z
        · exact .inr (.inl (by simp [z]))
        · refine .inr (.inl ?_)
          rw [List.append_assoc]
          exact List.mem_append_right _ z
        · exact .inr (.inr z)
      · refine (S2.on a m).imp (fun m => ?_) id
        rw [List.append_assoc]
        exact List.mem_append_right _ m
    | @r i _ hv =>
      have key : ∀ {Z1 : Addr → Prop} {r' : En} {os1 : List Addr}, Rel k sx Z1 r' σ H os1 → (prep ra r').map (fun x => (Ar.r i :: x.1, x.2)) = some (ra1, r1) → (∀ a, Z a → Z1 a) → (∀ a, Z1 a → Z a ∨ a ∈ os) → (∀ a ∈ os1, a ∈ os) →
          ∃ Z' os', ArVs k Z' H σ ra1 (v :: vs) [] ∧ Rel k sx Z' r1 σ H os' ∧ Step Z Z' H H (([] ++ ot) ++ os) os' := by
        intro Z1 r' os1 R1 e0 hz hzn sub
        obtain ⟨⟨ra', r1'⟩, e1, e2⟩ := Option.map_eq_some_iff.mp e0
        cases e2
        have av : ArVs k Z1 H σ ra vs ot := h2.mono hz
        have nd' : (ot ++ os).Nodup := by simpa using nd
        obtain ⟨n1, n2, n3⟩ := List.nodup_append.mp nd'
        obtain ⟨Z', os', a1, R2, S2⟩ := ih av R1 e1 (List.nodup_append.mpr ⟨n1, R1.nd, fun a m b mb e => n3 a m b (sub b mb) e⟩) fun a m z => by
          rcases hzn a z with z | z
          · exact nz a (by simpa using m) z
          · exact n3 a m a z rfl
        refine ⟨Z', os', .cons (o := []) (.r hv) a1, R2, fun a o e _ => e, fun a z => S2.zs a (hz a z), fun a z => ?_, fun a m => ?_⟩
        · rcases S2.zn a z with z | z | z
          · exact (hzn a z).imp id fun m => .inl (by simp [m])
          · rcases List.mem_append.mp z with m | m
            · exact .inr (.inl (by simp [m]))
            · exact .inr (.inl (by simp [sub a m]))
          · exact .inr (.inr z)
        · rcases S2.on a m with m | m
          · rcases List.mem_append.mp m with m | m
            · exact .inl (by simp [m])
            · exact .inl (by simp [sub a m])
          · exact .inr m
      unfold prep at e
      split at e
      · rename_i ds s
        obtain ⟨v', A, o, B, t1, t2, rd, _, plug⟩ := R.rs.focusN s (fun c w z => by cases z)
        rw [hv] at t1
        cases t1
        subst t2
        obtain ⟨l, ws, o2, rfl, rfl, hl, T⟩ := own_lst rd
        obtain ⟨n1, n2, n3⟩ := nodup_mid R.nd
        have rs := plug (fun a => Z a ∨ a ∈ o2) H (fun a z => .inl z) (fun a o e _ => e) (.lst .own (D.frzs ds)) [l] (.own hl (RDs.frz (fun a z => .inl z) _ _ _ (fun a m => .inr m) T))
        have sub : (A ++ ([l] ++ B)).Sublist (A ++ ((l :: o2) ++ B)) := List.Sublist.append (List.Sublist.refl _) (List.Sublist.cons₂ l (List.sublist_append_right _ _))
        refine key (Z1 := fun a => Z a ∨ a ∈ o2) (os1 := A ++ ([l] ++ B)) ⟨rs, sub.nodup R.nd, fun a m z => ?_, fun a z => ?_⟩ e (fun a z => .inl z) (fun a z => z.imp id fun m => by simp [m]) (fun a m => sub.subset m)
        · rcases z with z | z
          · exact R.nz a (sub.subset m) z
          · have nn := n3 a (List.mem_cons_of_mem _ z)
            have nl : a ≠ l := fun e => (List.nodup_cons.mp n2).1 (e ▸ z)
            simp only [List.mem_append, List.mem_singleton] at m
            rcases m with m | m | m
            · exact nn.1 m
            · exact nl m
            · exact nn.2 m
        · rcases z with z | z
          · exact R.zd a z
          · exact RDs.dom _ _ _ T a z
      · cases e
      · exact key R e (fun a z => z) (fun a z => .inl z) (fun a m => m)
      · cases e
end
end Mv

namespace Mv
open PySem L2

section
variable {X : Cx} {k : Kc} {sx : Option (Addr × Addr)} {W : WX} {P : Pg} {F : Nat → List D → FOut} {pos apos cpos : Pos} {es : List Expr} {as : List E}
variable {Z Z' Z0 Z1 Z2 : Addr → Prop} {H H' H0 H1 H2 : Hp} {σ σ' σ0 σ1 σ2 : St} {r r1 r2 : En} {os os' os0 os1 os2 od : List Addr}

/-- the iterator's steps give the items ds while C holds -/
structure ItOk (k : Kc) (J : It) (C : (Addr → Prop) → Hp → Prop) (ds : List D) : Prop where
  go : ∀ (i : Nat) (Z : Addr → Prop) (H : Hp), C Z H → i < ds.length → J.go i H
  stop : ∀ (i : Nat) (Z : Addr → Prop) (H : Hp), C Z H → ds.length ≤ i → J.stop i H
  yld : ∀ (i : Nat) (Z : Addr → Prop) (H : Hp) (x : V) (H' : Hp) (d : D), C Z H → (∀ a, Z a → ∃ o, H a = some o) → ds[i]? = some d → J.yld i H x H' →
    ∃ Z', RD k Z' H' d x [] ∧ (∀ a o, H a = some o → H' a = some o) ∧ (∀ a, Z a → Z' a) ∧ (∀ a, Z' a → Z a ∨ H a = none) ∧ ∀ a, Z' a → ∃ o, H' a = some o
def rIt (K : PySem.W.Frag) : ItK → Nat → List V → Hp → (It → Hp → Prop) → Prop
  | .val, _, vs, H, R => ∃ a, vs = [.ref a] ∧ (((∃ xs, SqL K H a xs) ∧ R (Itl K a) H) ∨ ((∃ xs, SqT K H a xs) ∧ R (Itt K a) H))
  | .rng, 1, vs, H, R => ∃ j : Int, vs = [.int j] ∧ -(2 ^ 62) ≤ j ∧ j < 2 ^ 62 ∧ R (Itr 0 j.toNat) H
  | .rng, 2, vs, H, R => ∃ i j : Int, vs = [.int i, .int j] ∧ (-(2 ^ 62) ≤ i ∧ i < 2 ^ 62 ∧ -(2 ^ 62) ≤ j ∧ j < 2 ^ 62) ∧ R (Itr i (j - i).toNat) H
  | .rng, 3, vs, H, R => ∃ (i j c : Int) (n : Nat), vs = [.int i, .int j, .int c] ∧ RgC i j c n ∧ R (Itc i c n) H
  | .rng, _, _, _, _ => False
  | .enm, _, vs, H, R => ∃ a, vs = [.ref a] ∧ (((∃ xs, SqL K H a xs) ∧ R (Ite K a) H) ∨ ((∃ xs, SqT K H a xs) ∧ R (IteT K a) H))
  | .zp, _, vs, H, R => ∃ t u a b xs ys, vs = [.ref a, .ref b] ∧ SqK K t H a xs ∧ SqK K u H b ys ∧ R (ItzG K t u a b) H
  | .rev, _, vs, H, R => ∃ (a : Addr) (xs : List V), vs = [.ref a] ∧ SqL K H a xs ∧ R (Itv K a xs.length) H

/-- a list without owned items, read -/
theorem lst_no {kd : Kd} {ds : List D} {v : V} (h : RD k Z H (.lst kd ds) v od) (n : noOwn ds = true) : ∃ a vs, v = .ref a ∧ SqL k.K H a vs ∧ RDs k Z H ds vs [] := by
  obtain ⟨a, vs, o2, rfl, hs, T⟩ := lst_rd h
  have z := T.noOwn n
  subst z
  exact ⟨a, vs, rfl, hs, T⟩
theorem RDs.at {ds : List D} {vs : List V} {i : Nat} {d : D} (T : RDs k Z H ds vs []) (e : ds[i]? = some d) : ∃ v, vs[i]? = some v ∧ RD k Z H d v [] := by
  obtain ⟨v, A, o, B, e1, e2, rd, _⟩ := T.get e
  obtain ⟨rfl, h⟩ := List.append_eq_nil_iff.mp e2.symm
  obtain ⟨rfl, rfl⟩ := List.append_eq_nil_iff.mp h
  exact ⟨v, e1, rd⟩
theorem SqL.at_lt {K : PySem.W.Frag} {a : Addr} {vs : List V} {i : Nat} (h : SqL K H a vs) (l : i < vs.length) : ∃ xs x, SqL K H a xs ∧ xs[i]? = some x := ⟨vs, vs[i], h, List.getElem?_eq_getElem l⟩
abbrev stay (Z : Addr → Prop) (H : Hp) : (∀ a o, H a = some o → H a = some o) ∧ (∀ a, Z a → Z a) ∧ (∀ a, Z a → Z a ∨ H a = none) := ⟨fun _ _ e => e, fun _ z => z, fun _ z => .inl z⟩
theorem it_lst {a : Addr} {C : (Addr → Prop) → Hp → Prop} {ds : List D} (h : ∀ Z H, C Z H → ∃ vs, SqL k.K H a vs ∧ RDs k Z H ds vs []) : ItOk k (Itl k.K a) C ds where
  go i Z H c l := by obtain ⟨vs, h1, T⟩ := h Z H c; exact SqL.at_lt h1 (by rw [T.length]; exact l)
  stop i Z H c l := by obtain ⟨vs, h1, T⟩ := h Z H c; exact ⟨vs, h1, by rw [T.length]; exact l⟩
  yld i Z H x H' d c zd e y := by
    obtain ⟨vs, h1, T⟩ := h Z H c
    obtain ⟨rfl, y⟩ := y
    obtain ⟨v, e1, rd⟩ := T.at e
    have e2 := y vs h1
    rw [e1] at e2
    cases e2
    exact ⟨Z, rd, (stay Z H').1, (stay Z H').2.1, (stay Z H').2.2, zd⟩
theorem it_tup {a : Addr} {C : (Addr → Prop) → Hp → Prop} {ds : List D} (h : ∀ Z H, C Z H → ∃ vs, SqT k.K H a vs ∧ RDs k Z H ds vs []) : ItOk k (Itt k.K a) C ds where
  go i Z H c l := by
    obtain ⟨vs, h1, T⟩ := h Z H c
    have l' : i < vs.length := by rw [T.length]; exact l
    exact ⟨vs, vs[i], h1, List.getElem?_eq_getElem l'⟩
  stop i Z H c l := by obtain ⟨vs, h1, T⟩ := h Z H c; exact ⟨vs, h1, by rw [T.length]; exact l⟩
  yld i Z H x H' d c zd e y := by
    obtain ⟨vs, h1, T⟩ := h Z H c
    obtain ⟨rfl, y⟩ := y
    obtain ⟨v, e1, rd⟩ := T.at e
    have e2 := y vs h1
    rw [e1] at e2
    cases e2
    exact ⟨Z, rd, (stay Z H').1, (stay Z H').2.1, (stay Z H').2.2, zd⟩
theorem it_rng {lo : Int} {n : Nat} {C : (Addr → Prop) → Hp → Prop} : ItOk k (Itr lo n) C ((List.range n).map fun (j : Nat) => D.int (lo + j)) where
  go i Z H c l := by have l : i < n := by simpa using l
                     exact l
  stop i Z H c l := by have l : n ≤ i := by simpa using l
                       exact l
  yld i Z H x H' d c zd e y := by
    obtain ⟨rfl, rfl⟩ := y
    have : d = .int (lo + i) := by
      simp only [List.getElem?_map, Option.map_eq_some_iff] at e
      obtain ⟨j, e1, rfl⟩ := e
      rw [List.getElem?_range] at e1
      · cases e1; rfl
      · exact (List.getElem?_eq_some_iff.mp e1).1 |> fun h => by simpa using h
    subst this
    exact ⟨Z, .int _, (stay Z H').1, (stay Z H').2.1, (stay Z H').2.2, zd⟩
theorem it_rngC {lo s : Int} {n : Nat} {C : (Addr → Prop) → Hp → Prop} : ItOk k (Itc lo s n) C ((List.range n).map fun (j : Nat) => D.int (lo + j * s)) where
  go i Z H c l := by have l : i < n := by simpa using l
                     exact l
  stop i Z H c l := by have l : n ≤ i := by simpa using l
                       exact l
  yld i Z H x H' d c zd e y := by
    obtain ⟨rfl, rfl⟩ := y
    have : d = .int (lo + i * s) := by
      simp only [List.getElem?_map, Option.map_eq_some_iff] at e
      obtain ⟨j, e1, rfl⟩ := e
      rw [List.getElem?_range] at e1
      · cases e1; rfl
      · exact (List.getElem?_eq_some_iff.mp e1).1 |> fun h => by simpa using h
    subst this
    exact ⟨Z, .int _, (stay Z H').1, (stay Z H').2.1, (stay Z H').2.2, zd⟩
/-- a new tuple of things that are shared -/
theorem new_pair {T : Addr} {ds : List D} {vs : List V} (hT : H T = none) (zd : ∀ a, Z a → ∃ o, H a = some o) (rd : RDs k Z H ds vs []) :
    ∃ Z', RD k Z' (upd H T (.tup vs)) (.tup ds) (.ref T) [] ∧ (∀ a o, H a = some o → upd H T (.tup vs) a = some o) ∧ (∀ a, Z a → Z' a) ∧ (∀ a, Z' a → Z a ∨ H a = none) ∧ ∀ a, Z' a → ∃ o, upd H T (.tup vs) a = some o := by
  have kp : ∀ a o, H a = some o → upd H T (.tup vs) a = some o := fun a o e => by rw [upd_ne (ne_of_none e hT)]; exact e
  refine ⟨fun a => Z a ∨ a = T, .tup (.inl ⟨.inr rfl, .inl upd_same⟩) (RDs.mono (fun a z => .inl z) _ _ _ (fun a o e _ => kp a o e) rd), kp, fun a z => .inl z, fun a z => z.imp id (fun e => by rw [e]; exact hT), fun a z => ?_⟩
  rcases z with z | z
  · obtain ⟨o, e⟩ := zd a z; exact ⟨o, kp a o e⟩
  · rw [z]; exact ⟨_, upd_same⟩
theorem it_enm {a : Addr} {C : (Addr → Prop) → Hp → Prop} {ds : List D} (h : ∀ Z H, C Z H → ∃ vs, SqL k.K H a vs ∧ RDs k Z H ds vs []) : ItOk k (Ite k.K a) C (ds.mapIdx fun j d => .tup [.int j, d]) where
  go i Z H c l := by obtain ⟨vs, h1, T⟩ := h Z H c; exact SqL.at_lt h1 (by rw [T.length]; simpa using l)
  stop i Z H c l := by obtain ⟨vs, h1, T⟩ := h Z H c; exact ⟨vs, h1, by rw [T.length]; simpa using l⟩
  yld i Z H x H' d c zd e y := by
    obtain ⟨vs, h1, T⟩ := h Z H c
    obtain ⟨t, x', rfl, ht, rfl, y⟩ := y
    rw [List.getElem?_mapIdx] at e
    obtain ⟨d', e1, rfl⟩ := Option.map_eq_some_iff.mp e
    obtain ⟨v, e2, rd⟩ := T.at e1
    have e3 := y vs h1
    rw [e2] at e3
    cases e3
    exact new_pair ht zd (.cons (o := []) (.int _) (RDs.one rd))
theorem it_enmT {a : Addr} {C : (Addr → Prop) → Hp → Prop} {ds : List D} (h : ∀ Z H, C Z H → ∃ vs, SqT k.K H a vs ∧ RDs k Z H ds vs []) : ItOk k (IteT k.K a) C (ds.mapIdx fun j d => .tup [.int j, d]) where
  go i Z H c l := by
    obtain ⟨vs, h1, T⟩ := h Z H c
    have l' : i < vs.length := by rw [T.length]; simpa using l
    exact ⟨vs, vs[i], h1, List.getElem?_eq_getElem l'⟩
  stop i Z H c l := by obtain ⟨vs, h1, T⟩ := h Z H c; exact ⟨vs, h1, by rw [T.length]; simpa using l⟩
  yld i Z H x H' d c zd e y := by
    obtain ⟨vs, h1, T⟩ := h Z H c
    obtain ⟨t, x', rfl, ht, rfl, y⟩ := y
    rw [List.getElem?_mapIdx] at e
    obtain ⟨d', e1, rfl⟩ := Option.map_eq_some_iff.mp e
    obtain ⟨v, e2, rd⟩ := T.at e1
    have e3 := y vs h1
    rw [e2] at e3
    cases e3
    exact new_pair ht zd (.cons (o := []) (.int _) (RDs.one rd))
/-- a list or a tuple, read -/
theorem seq_rd {d : D} {ds : List D} {v : V} {o : List Addr} (h : RD k Z H d v o) (e : seqOf d = some ds) : ∃ t a vs, v = .ref a ∧ SqK k.K t H a vs ∧ RDs k Z H ds vs [] ∧ ∀ Z' H' o', RD k Z' H' d (.ref a) o' → ∃ vs', SqK k.K t H' a vs' ∧ RDs k Z' H' ds vs' [] := by
  unfold seqOf at e
  split at e
  · split at e
    · rename_i c
      cases e
      obtain ⟨a, vs, rfl, hs, T⟩ := lst_no h c
      refine ⟨false, a, vs, rfl, hs, T, fun Z' H' o' h' => ?_⟩
      obtain ⟨a', vs', e, hs', T'⟩ := lst_no h' c
      cases e
      exact ⟨vs', hs', T'⟩
    · cases e
  · cases e
    cases h with
    | @tup a us _ h1 T =>
      refine ⟨true, a, us, rfl, h1.sq, T, fun Z' H' o' h' => ?_⟩
      cases h' with
      | @tup _ us' _ h1' T' => exact ⟨us', h1'.sq, T'⟩
  · cases e
theorem it_zp {t u : Bool} {a b : Addr} {C : (Addr → Prop) → Hp → Prop} {ds es : List D} (h : ∀ Z H, C Z H → ∃ vs us, SqK k.K t H a vs ∧ RDs k Z H ds vs [] ∧ SqK k.K u H b us ∧ RDs k Z H es us []) : ItOk k (ItzG k.K t u a b) C ((ds.zip es).map fun x => .tup [x.1, x.2]) where
  go i Z H c l := by
    obtain ⟨vs, us, h1, T, h2, U⟩ := h Z H c
    have l : i < ds.length ∧ i < es.length := by simpa [Nat.lt_min] using l
    have l1 : i < vs.length := by rw [T.length]; exact l.1
    have l2 : i < us.length := by rw [U.length]; exact l.2
    exact ⟨vs, us, vs[i], us[i], h1, h2, List.getElem?_eq_getElem l1, List.getElem?_eq_getElem l2⟩
  stop i Z H c l := by
    obtain ⟨vs, us, h1, T, h2, U⟩ := h Z H c
    refine ⟨vs, us, h1, h2, ?_⟩
    rw [T.length, U.length]
    simp only [List.length_map, List.length_zip] at l
    omega
  yld i Z H x H' d c zd e y := by
    obtain ⟨vs, us, h1, T, h2, U⟩ := h Z H c
    obtain ⟨t0, x', y', rfl, ht, rfl, y1, y2⟩ := y
    simp only [List.getElem?_map, Option.map_eq_some_iff] at e
    obtain ⟨⟨d1, d2⟩, e1, rfl⟩ := e
    rw [List.getElem?_zip_eq_some] at e1
    obtain ⟨v, e2, rd⟩ := T.at e1.1
    obtain ⟨u0, e3, rd2⟩ := U.at e1.2
    have e4 := y1 vs h1
    have e5 := y2 us h2
    rw [e2] at e4
    rw [e3] at e5
    cases e4
    cases e5
    exact new_pair ht zd (.cons (o := []) rd (RDs.one rd2))
theorem it_rev {a : Addr} {C : (Addr → Prop) → Hp → Prop} {ds : List D} {n : Nat} (hn : n = ds.length) (h : ∀ Z H, C Z H → ∃ vs, SqL k.K H a vs ∧ RDs k Z H ds vs []) : ItOk k (Itv k.K a n) C ds.reverse where
  go i Z H c l := by
    obtain ⟨vs, h1, T⟩ := h Z H c
    have l : i < ds.length := by simpa using l
    obtain ⟨xs, x, g1, g2⟩ := SqL.at_lt (i := n - 1 - i) h1 (by rw [T.length]; omega)
    exact ⟨by omega, xs, x, g1, g2⟩
  stop i Z H c l := by
    have l : ds.length ≤ i := by simpa using l
    show n ≤ i
    omega
  yld i Z H x H' d c zd e y := by
    obtain ⟨vs, h1, T⟩ := h Z H c
    obtain ⟨rfl, y⟩ := y
    have l : i < ds.length := by
      have := (List.getElem?_eq_some_iff.mp e).1
      simpa using this
    rw [List.getElem?_reverse l] at e
    obtain ⟨v, e1, rd⟩ := T.at e
    have e2 := y vs h1
    rw [hn, e1] at e2
    cases e2
    exact ⟨Z, rd, (stay Z H').1, (stay Z H').2.1, (stay Z H').2.2, zd⟩
theorem it_rd {kd : ItK} {n : Nat} {src ds : List D} {vs : List V} {R : It → Hp → Prop} (e : itemsN kd n src = some ds) (h : Lk k Z H src vs) (q : ∀ J, ItOk k J (fun Z H => Lk k Z H src vs) ds → R J H) : rIt k.K kd n vs H R := by
  unfold itemsN at e
  split at e
  · rename_i hn
    unfold itemsOf at e
    split at e
    · split at e
      · rename_i c
        cases e
        obtain ⟨v, o, rfl, rd⟩ := h.one
        obtain ⟨a, us, rfl, hs, T⟩ := lst_no rd c
        refine ⟨a, rfl, .inl ⟨⟨us, hs⟩, q _ (it_lst fun Z H c' => ?_)⟩⟩
        obtain ⟨v, o, e1, rd⟩ := c'.one
        cases e1
        obtain ⟨a', us', e2, hs', T'⟩ := lst_no rd c
        cases e2
        exact ⟨us', hs', T'⟩
      · cases e
    · cases e
      obtain ⟨v, o, rfl, rd⟩ := h.one
      cases rd with
      | @tup a us _ h1 T =>
        refine ⟨a, rfl, .inr ⟨⟨us, h1.sq⟩, q _ (it_tup fun Z H c' => ?_)⟩⟩
        obtain ⟨v, o, e1, rd⟩ := c'.one
        cases e1
        cases rd with
        | @tup _ us' _ h1' T' => exact ⟨us', h1'.sq, T'⟩
    · split at e
      · rename_i c
        cases e
        obtain ⟨v, o, rfl, rd⟩ := h.one
        cases rd
        subst hn
        refine ⟨_, rfl, c.1, c.2, q _ ?_⟩
        have e : ∀ n : Nat, (List.range n).map (fun (j : Nat) => D.int (j : Int)) = (List.range n).map fun (j : Nat) => D.int ((0 : Int) + j) := fun n => by simp
        rw [e]
        exact it_rng
      · cases e
    · split at e
      · rename_i c
        cases e
        obtain ⟨v, w, o, p, rfl, rd, rd2⟩ := h.two
        cases rd
        cases rd2
        subst hn
        exact ⟨_, _, rfl, c, q _ it_rng⟩
      · cases e
    · subst hn
      have three : ∀ {i j c : Int}, Lk k Z H [.int i, .int j, .int c] vs → vs = [.int i, .int j, .int c] := fun h => by
        cases h with
        | cons h1 h2 => cases h2 with | cons h2 h3 => cases h3 with | cons h3 h4 => cases h4; cases h1; cases h2; cases h3; rfl
      have e3 := three h
      subst e3
      split at e
      · rename_i c
        cases e
        obtain ⟨rfl, c1, c2, c3, c4⟩ := c
        exact ⟨_, _, _, _, rfl, RgC.neg c1 c2 c3 c4, q _ it_rngC⟩
      · split at e
        · rename_i c
          cases e
          obtain ⟨c1, c2, c3, c4⟩ := c
          exact ⟨_, _, _, _, rfl, ⟨c1, c2, c3, (Int.toNat_of_nonneg c4).symm⟩, q _ it_rngC⟩
        · cases e
    · split at e
      · rename_i c
        cases e
        obtain ⟨v, o, rfl, rd⟩ := h.one
        obtain ⟨a, us, rfl, hs, T⟩ := lst_no rd c
        refine ⟨a, rfl, .inl ⟨⟨us, hs⟩, q _ (it_enm fun Z H c' => ?_)⟩⟩
        obtain ⟨v, o, e1, rd⟩ := c'.one
        cases e1
        obtain ⟨a', us', e2, hs', T'⟩ := lst_no rd c
        cases e2
        exact ⟨us', hs', T'⟩
      · cases e
    · cases e
      obtain ⟨v, o, rfl, rd⟩ := h.one
      cases rd with
      | @tup a us _ h1 T =>
        refine ⟨a, rfl, .inr ⟨⟨us, h1.sq⟩, q _ (it_enmT fun Z H c' => ?_)⟩⟩
        obtain ⟨v, o, e1, rd⟩ := c'.one
        cases e1
        cases rd with
        | @tup _ us' _ h1' T' => exact ⟨us', h1'.sq, T'⟩
    · obtain ⟨d1, e1, e2⟩ := Option.bind_eq_some_iff.mp e
      obtain ⟨d2, e3, rfl⟩ := Option.map_eq_some_iff.mp e2
      obtain ⟨v, w, o, p, rfl, rd, rd2⟩ := h.two
      obtain ⟨t, a, us, rfl, hs, T, g1⟩ := seq_rd rd e1
      obtain ⟨u, b, ws, rfl, ht, U, g2⟩ := seq_rd rd2 e3
      refine ⟨t, u, a, b, us, ws, rfl, hs, ht, q _ (it_zp fun Z H c' => ?_)⟩
      obtain ⟨v, w, o, p, e4, rd, rd2⟩ := c'.two
      cases e4
      obtain ⟨us', hs', T'⟩ := g1 _ _ _ rd
      obtain ⟨ws', ht', U'⟩ := g2 _ _ _ rd2
      exact ⟨us', ws', hs', T', ht', U'⟩
    · split at e
      · rename_i c
        cases e
        obtain ⟨v, o, rfl, rd⟩ := h.one
        obtain ⟨a, us, rfl, hs, T⟩ := lst_no rd c
        refine ⟨a, us, rfl, hs, q _ (it_rev T.length fun Z H c' => ?_)⟩
        obtain ⟨v, o, e1, rd⟩ := c'.one
        cases e1
        obtain ⟨a', us', e2, hs', T'⟩ := lst_no rd c
        cases e2
        exact ⟨us', hs', T'⟩
      · cases e
    · cases e
  · cases e
end
end Mv

namespace Mv
open PySem L2

section
variable {X : Cx} {k : Kc} {sx : Option (Addr × Addr)} {W : WX} {P : Pg} {F : Nat → List D → FOut} {pos apos cpos : Pos} {es : List Expr} {as : List E} {L M : List Nat}
variable {Z Z' Z0 Z1 Z2 : Addr → Prop} {H H' H0 H1 H2 : Hp} {σ σ' σ0 σ1 σ2 : St} {r r1 r2 : En} {os os' os0 os1 os2 od : List Addr}

/-! ### statements -/
def PostN (k : Kc) (sx : Option (Addr × Addr)) (L : List Nat) (Z : Addr → Prop) (H : Hp) (os : List Addr) (σ : St) (N : St → Hp → Prop) (r : En) : Prop :=
  ∀ σ' H' Z' os', Rel k sx Z' r σ' H' os' → Agr L σ σ' → Step Z Z' H H' os os' → N σ' H'
def PostR (k : Kc) (sx : Option (Addr × Addr)) (L : List Nat) (Z : Addr → Prop) (H : Hp) (os : List Addr) (σ : St) (Q : VK) (d : D) (r : En) : Prop :=
  ∀ σ' v H' Z' od os', Rel k sx Z' r σ' H' os' → Agr L σ σ' → RD k Z' H' d v od → (od ++ os').Nodup → (∀ a ∈ od, ¬ Z' a) → Step Z Z' H H' os (od ++ os') → Q v H'
def PostXS (k : Kc) (sx : Option (Addr × Addr)) (W : WX) (L : List Nat) (Z : Addr → Prop) (H : Hp) (os : List Addr) (σ : St) (c : Nat) (w : D) (r : En) : Prop :=
  ∀ σ' cls d H' Z' os', Rel k sx Z' r σ' H' os' → Agr L σ σ' → ExV k Z' H' c w cls d → Step Z Z' H H' os os' → W cls d σ' H'
def SatS (k : Kc) (sx : Option (Addr × Addr)) (W : WX) (L : List Nat) (Z : Addr → Prop) (H : Hp) (os : List Addr) (σ : St) (o : Out Fl) (D : Ends) : Prop := match o with
  | .ok .next r => PostN k sx L Z H os σ D.nx r
  | .ok .brk r => PostN k sx L Z H os σ D.bk r
  | .ok .cont r => PostN k sx L Z H os σ D.ct r
  | .ok (.ret d) r => PostR k sx L Z H os σ D.rt d r
  | .exc c w r => PostXS k sx W L Z H os σ c w r
  | .bad => False
def tS (k : Kc) (sx : Option (Addr × Addr)) (W : WX) (L : List Nat) (f : En → Out Fl) : TS := fun D σ H => ∃ Z r os, Rel k sx Z r σ H os ∧ SatS k sx W L Z H os σ (f r) D
theorem PostN.base {N : St → Hp → Prop} (h : PostN k sx L Z H os σ N r) (S : Step Z Z1 H H1 os os1) (a : Agr L σ σ1) : PostN k sx L Z1 H1 os1 σ1 N r :=
  fun σ' H' Z' os' R b T => h σ' H' Z' os' R (a.trans b) (S.trans T)
theorem PostN.mono {N : St → Hp → Prop} (h : PostN k sx L Z H os σ N r) (s : ∀ i ∈ M, i ∈ L) : PostN k sx M Z H os σ N r :=
  fun σ' H' Z' os' R b T => h σ' H' Z' os' R (b.mono s) T
theorem SatS.base {o : Out Fl} {D : Ends} (h : SatS k sx W L Z H os σ o D) (S : Step Z Z1 H H1 os os1) (a : Agr L σ σ1) : SatS k sx W L Z1 H1 os1 σ1 o D := by
  cases o with
  | ok f r =>
    cases f with
    | next => exact PostN.base h S a
    | brk => exact PostN.base h S a
    | cont => exact PostN.base h S a
    | ret d => exact fun σ' v H' Z' od os' R b rd nd nz T => h σ' v H' Z' od os' R (a.trans b) rd nd nz (S.trans T)
  | exc c w r => exact fun σ' cls d H' Z' os' R b e T => h σ' cls d H' Z' os' R (a.trans b) e (S.trans T)
  | bad => exact h
theorem SatS.mono {o : Out Fl} {D : Ends} (h : SatS k sx W L Z H os σ o D) (s : ∀ i ∈ M, i ∈ L) : SatS k sx W M Z H os σ o D := by
  cases o with
  | ok f r =>
    cases f with
    | next => exact PostN.mono h s
    | brk => exact PostN.mono h s
    | cont => exact PostN.mono h s
    | ret d => exact fun σ' v H' Z' od os' R b rd nd nz T => h σ' v H' Z' od os' R (b.mono s) rd nd nz T
  | exc c w r => exact fun σ' cls d H' Z' os' R b e T => h σ' cls d H' Z' os' R (b.mono s) e T
  | bad => exact h
theorem SatS.bind {α : Type} {x : Out α} {f : α → En → Out Fl} {D : Ends} (h : SatS k sx W L Z H os σ (x.bind f) D) : Sat k sx W Z H os σ x fun a r => SatS k sx W L Z H os σ (f a r) D := by
  cases x with
  | ok a r => exact h
  | exc c w r => exact fun cls d H' Z' os' R e S => h σ cls d H' Z' os' R Agr.refl e S
  | bad => exact h
/-- nothing held stays behind -/
theorem Step.drop (S : Step Z Z1 H H1 os (od ++ os1)) : Step Z Z1 H H1 os os1 := S.less fun x m => List.mem_append_right _ m

/-- all that is shown of a statement -/
def SS (X : Cx) (k : Kc) (sx : Option (Addr × Addr)) (W : WX) (P : Pg) (F : Nat → List D → FOut) (s : Stmt) (a : S) : Prop := ∀ L, (∀ i ∈ stS a, i ∈ L) → PS X s (tS k sx W L (evS P F a))
def SSs (X : Cx) (k : Kc) (sx : Option (Addr × Addr)) (W : WX) (P : Pg) (F : Nat → List D → FOut) (s : List Stmt) (a : List S) : Prop := ∀ L, (∀ i ∈ stB a, i ∈ L) → PSs X s (tS k sx W L (evB P F a))

theorem ss_nil : SSs X k sx W P F [] [] := fun L _ => pss_nil.weak fun D σ H ⟨Z, r, os, R, q⟩ => q σ H Z os R Agr.refl Step.refl
theorem ss_cons {s : Stmt} {a : S} {ss : List Stmt} {as : List S} (h1 : SS X k sx W P F s a) (h2 : SSs X k sx W P F ss as) : SSs X k sx W P F (s :: ss) (a :: as) := fun L hL => by
  refine (pss_cons (h1 L fun i m => hL i (List.mem_append_left _ m)) (h2 L fun i m => hL i (List.mem_append_right _ m))).weak fun D σ H ⟨Z, r, os, R, q⟩ => ?_
  refine ⟨Z, r, os, R, ?_⟩
  have q : SatS k sx W L Z H os σ (match evS P F a r with
    | .ok .next r1 => evB P F as r1
    | x => x) D := q
  split at q
  · rename_i r1 e
    rw [e]
    exact fun σ' H' Z' os' R' ag S => ⟨Z', r1, os', R', q.base S ag⟩
  · rename_i n
    cases e : evS P F a r with
    | ok f r1 =>
      rw [e] at q
      cases f with
      | next => exact absurd e (n r1)
      | brk => exact q
      | cont => exact q
      | ret d => exact q
    | exc c w r1 => rw [e] at q; exact q
    | bad => rw [e] at q; exact q
theorem ss_pass : SS X k sx W P F (.Pass pos) .pass := fun L _ => ps_pass.weak fun D σ H ⟨Z, r, os, R, q⟩ => q σ H Z os R Agr.refl Step.refl
theorem ss_doc {x : Str} {j : Nat} : SS X k sx W P F (.Expr (.Constant (.str x) j apos) pos) .pass := fun L _ => ps_doc.weak fun D σ H ⟨Z, r, os, R, q⟩ => q σ H Z os R Agr.refl Step.refl
theorem ss_brk : SS X k sx W P F (.Break pos) .brk := fun L _ => ps_break.weak fun D σ H ⟨Z, r, os, R, q⟩ => q σ H Z os R Agr.refl Step.refl
theorem ss_cont : SS X k sx W P F (.Continue pos) .cont := fun L _ => ps_continue.weak fun D σ H ⟨Z, r, os, R, q⟩ => q σ H Z os R Agr.refl Step.refl
theorem ss_expr {e : Expr} {a : E} (h : Snd X k sx W P F e a) (hs : swapsWith e none pos.line X.env = pure false) : SS X k sx W P F (.Expr e pos) (.expr a) := fun L _ =>
  (ps_expr h.v hs).weak fun D σ H ⟨Z, r, os, R, q⟩ => ⟨Z, r, os, R, (SatS.bind q).imp fun d r1 q1 v H1 Z1 od os1 R1 rd nd nz S1 => q1 σ H1 Z1 os1 R1 Agr.refl S1.drop⟩
theorem ss_ret {e : Expr} {a : E} (h : Snd X k sx W P F e a) : SS X k sx W P F (.Return (some e) pos) (.ret a) := fun L _ =>
  (ps_ret h.v).weak fun D σ H ⟨Z, r, os, R, q⟩ => ⟨Z, r, os, R, (SatS.bind q).imp fun d r1 q1 v H1 Z1 od os1 R1 rd nd nz S1 => q1 σ v H1 Z1 od os1 R1 Agr.refl rd nd nz S1⟩
theorem ss_retN : SS X k sx W P F (.Return none pos) (.ret .non) := fun L _ =>
  ps_retN.weak fun D σ H ⟨Z, r, os, R, q⟩ => q σ .non H Z [] os R Agr.refl .non R.nd (fun _ m => by cases m) Step.refl
/-- a local name's thing goes out as it is -/
theorem ss_retV {x : Str} {i : Nat} {p : Pos} (hN : X.N[i]? = some x) (hv : Vis X.env.scope x) (hd : (x == ("__debug__" : Str)) = false) (hcd : (x == ("__classdict__" : Str)) = false) : SS X k sx W P F (.Return (some (.Name x p)) pos) (.retV i) := fun L _ => by
  refine (ps_ret (pe_var (pos := p) hN hv hd hcd)).weak fun D σ H ⟨Z, r, os, R, q⟩ => ?_
  have q : SatS k sx W L Z H os σ (match slot r i with
    | some (.exn _ _) => .bad
    | some d => .ok (.ret d) (r.set i none)
    | none => .bad) D := q
  split at q
  · exact q.elim
  · rename_i d ne s
    obtain ⟨v, o, os', e1, rd, pm, R'⟩ := R.take s ne
    refine ⟨v, e1, q σ v H Z o os' R' Agr.refl rd (pm.nodup_iff.mp R.nd) (fun a m => R.nz a (pm.mem_iff.mpr (List.mem_append_left _ m))) (Step.refl.perm pm.symm)⟩
  · exact q.elim
/-- target = value -/
theorem ss_asg {tg e : Expr} {t : Tg} {a : E} (hg : PG X tg (tG k sx t)) (h : Snd X k sx W P F e a) (hs : swapsWithSole [tg] e pos.line X.env = pure false) (hw : swappedStores [tg] e X.env = pure none) (h1 : (assignEach [tg] X.env).map (·.2) = [assign tg X.env]) :
    SS X k sx W P F (.Assign [tg] e pos) (.asg t a) := fun L hL => by
  refine (ps_asg h.v hg hs hw h1).weak fun D σ H ⟨Z, r, os, R, q⟩ => ⟨Z, r, os, R, (SatS.bind q).imp fun d r1 q1 v H1 Z1 od os1 R1 rd nd nz S1 => ?_⟩
  split at q1
  · rename_i r2 e2
    exact ⟨Z1, r1, os1, d, od, R1, rd, nd, nz, r2, e2, fun σ' os' R2 sub ag => q1 σ' H1 Z1 os' R2 (ag.mono hL) (S1.less sub)⟩
  · exact q1.elim
theorem ss_if {c : Expr} {ca : E} {b1 b2 : List Stmt} {a1 a2 : List S} (hc : Snd X k sx W P F c ca) (h1 : SSs X k sx W P F b1 a1) (h2 : SSs X k sx W P F b2 a2) : SS X k sx W P F (.If c b1 b2 pos) (.ifS ca a1 a2) := fun L hL => by
  refine (ps_if hc.t (h1 L fun i m => hL i (List.mem_append_left _ m)) (h2 L fun i m => hL i (List.mem_append_right _ m))).weak fun D σ H ⟨Z, r, os, R, q⟩ => ⟨Z, r, os, R, (SatS.bind q).imp fun b r1 q1 H1 Z1 os1 R1 S1 => ?_⟩
  cases b with
  | true => exact iteT ⟨Z1, r1, os1, R1, SatS.base q1 S1 Agr.refl⟩
  | false => exact iteF ⟨Z1, r1, os1, R1, SatS.base q1 S1 Agr.refl⟩
theorem ss_whl {c : Expr} {ca : E} {b : List Stmt} {a : List S} (hp : PassesOwn (model X.prog X.w) X.A X.env X.xe) (hc : Snd X k sx W P F c ca) (h : SSs X k sx W P F b a) : SS X k sx W P F (.While c b [] pos) (.whl ca a) := fun L hL => by
  refine (ps_while hp hc.t (h L hL)).weak fun D σ H ⟨Z, r, os, R, q⟩ => ?_
  refine ⟨fun m σ H => ∃ Z r os, Rel k sx Z r σ H os ∧ SatS k sx W L Z H os σ (whlL (ev P F ca).t (fun r => evB P F a r) m r) D, ⟨LF, Z, r, os, R, q⟩, fun m σ H ⟨Z, r, os, R, q⟩ => ?_⟩
  cases m with
  | zero => exact q.elim
  | succ m =>
    refine ⟨Z, r, os, R, (SatS.bind q).imp fun b r1 q1 H1 Z1 os1 R1 S1 => ?_⟩
    have q2 := SatS.base q1 S1 Agr.refl
    cases b with
    | false =>
      refine iteF ?_
      exact q2 σ H1 Z1 os1 R1 Agr.refl Step.refl
    | true =>
      refine iteT ⟨fun σ' H' => ∃ Z r os, Rel k sx Z r σ' H' os ∧ SatS k sx W L Z H' os σ' (whlL (ev P F ca).t (fun r => evB P F a r) m r) D, fun σ' H' h => ⟨m, Nat.lt_succ_self _, h⟩, Z1, r1, os1, R1, ?_⟩
      have q2 : SatS k sx W L Z1 H1 os1 σ (match evB P F a r1 with
        | .ok .next r2 => whlL (ev P F ca).t (fun r => evB P F a r) m r2
        | .ok .cont r2 => whlL (ev P F ca).t (fun r => evB P F a r) m r2
        | .ok .brk r2 => .ok .next r2
        | .ok (.ret v) r2 => .ok (.ret v) r2
        | .exc c w r2 => .exc c w r2
        | .bad => .bad) D := q2
      cases e : evB P F a r1 with
      | ok f r2 =>
        rw [e] at q2
        cases f with
        | next => exact fun σ' H' Z' os' R' ag S => ⟨Z', r2, os', R', SatS.base q2 S ag⟩
        | cont => exact fun σ' H' Z' os' R' ag S => ⟨Z', r2, os', R', SatS.base q2 S ag⟩
        | brk => exact q2
        | ret d => exact q2
      | exc c w r2 => rw [e] at q2; exact q2
      | bad => rw [e] at q2; exact q2
end
end Mv

namespace Mv
open PySem L2

section
variable {X : Cx} {k : Kc} {sx : Option (Addr × Addr)} {W : WX} {P : Pg} {F : Nat → List D → FOut} {pos apos cpos : Pos} {es : List Expr} {as : List E} {L M : List Nat}
variable {Z Z' Z0 Z1 Z2 : Addr → Prop} {H H' H0 H1 H2 : Hp} {σ σ' σ0 σ1 σ2 : St} {r r1 r2 : En} {os os' os0 os1 os2 od : List Addr}

theorem chks_mem {i : Nat} : ∀ {ra : List Ar}, Ar.r i ∈ ra → (i, slot r i) ∈ chks ra r
  | [], h => by cases h
  | .v d :: ra, h => by
    rcases List.mem_cons.mp h with e | h
    · cases e
    · exact chks_mem (ra := ra) h
  | .r j :: ra, h => by
    rcases List.mem_cons.mp h with e | h
    · cases e; exact List.mem_cons_self
    · exact List.mem_cons_of_mem _ (chks_mem (ra := ra) h)
theorem still_peek {ra : List Ar} (h : still r (chks ra r0) = true) : peekA r ra = peekA r0 ra := by
  induction ra with
  | nil => rfl
  | cons a ra ih =>
    cases a with
    | v d =>
      have h : still r (chks ra r0) = true := h
      simp only [peekA, Ar.peek, ih h]
    | r i =>
      have h : (decide (slot r i = slot r0 i) && still r (chks ra r0)) = true := h
      simp only [Bool.and_eq_true, decide_eq_true_eq] at h
      simp only [peekA, Ar.peek, ih h.2, h.1]
theorem ArVs.keep {ra : List Ar} {vs : List V} (h : ArVs k Z H σ ra vs []) (hz : ∀ a, Z a → Z' a) (hh : ∀ a o, H a = some o → Z a → H' a = some o) (hs : ∀ i, Ar.r i ∈ ra → σ'[i]? = σ[i]?) : ArVs k Z' H' σ' ra vs [] := by
  generalize hn : ([] : List Addr) = n at h
  induction h with
  | nil => exact .nil
  | @cons a ra v vs o ot g1 g2 ih =>
    obtain ⟨rfl, rfl⟩ := List.append_eq_nil_iff.mp hn.symm
    refine .cons (o := []) (os := []) ?_ (ih (fun i m => hs i (List.mem_cons_of_mem _ m)) rfl)
    cases g1 with
    | v g => exact .v (RD.mono hz _ _ _ (fun a o e z => hh a o e (z.elim id fun m => by cases m)) g)
    | r g => exact .r (by rw [hs _ List.mem_cons_self]; exact g)
/-- things came that are shared -/
theorem Rel.grow (R : Rel k sx Z r σ H os) (kp : ∀ a o, H a = some o → H' a = some o) (hz : ∀ a, Z a → Z' a) (hn : ∀ a, Z' a → Z a ∨ H a = none) (zd : ∀ a, Z' a → ∃ o, H' a = some o) : Rel k sx Z' r σ H' os ∧ Step Z Z' H H' os os := by
  refine ⟨⟨R.rs.mono hz fun a o e _ => kp a o e, R.nd, fun a m z => ?_, zd⟩, fun a o e _ => kp a o e, hz, fun a z => (hn a z).imp id .inr, fun a m => .inl m⟩
  rcases hn a z with z | z
  · exact R.nz a m z
  · obtain ⟨o, e⟩ := R.rs.dom a m; rw [z] at e; cases e
def tIt (k : Kc) (sx : Option (Addr × Addr)) (W : WX) (P : Pg) (F : Nat → List D → FOut) (kd : ItK) (as : List E) : TI := fun σ H R => tAs k sx W (evAs (evs P F as)) σ H fun vs H1 => rIt k.K kd as.length vs H1 R
/-- what a turn finds -/
theorem drop_cons {α : Type} {l : List α} {i : Nat} (h : i < l.length) : l.drop i = l[i] :: l.drop (i + 1) := List.drop_eq_getElem_cons h
theorem ss_for {tg iter : Expr} {t : Tg} {kd : ItK} {b : List Stmt} {a : List S} (hp : PassesOwn (model X.prog X.w) X.A X.env X.xe) (hc : X.calm = true) (hi : PI X tg iter (tIt k sx W P F kd as)) (hg : PG X tg (tG k sx t)) (h : SSs X k sx W P F b a)
    (hs : ∀ x, foldedSetIterable iter X.env x = pure x) : SS X k sx W P F (.For tg iter b [] pos) (.forS t kd as a) := fun L hL => by
  have hLb : ∀ i ∈ stT t ++ stB a, i ∈ L := hL
  refine (ps_for hp hc hi hg (h (stT t ++ stB a) fun i m => List.mem_append_right _ m) hs).weak fun D σ H ⟨Z, r, os, R, q⟩ => ?_
  refine ⟨Z, r, os, R, (SatS.bind q).imp fun ra r1 q1 vs H1 Z1 od os1 R1 av nd nz S1 => ?_⟩
  split at q1
  · rename_i ra1 rp ep
    obtain ⟨Z2, os2, av2, R2, S2⟩ := prep_ok av R1 ep nd nz
    split at q1
    · rename_i ds ed
      obtain ⟨src, e1, e2⟩ := Option.bind_eq_some_iff.mp ed
      split at q1
      · rename_i cc
        have out : ∀ i, Ar.r i ∈ ra1 → i ∉ stT t ++ stB a := fun i m n => by
          have := List.all_eq_true.mp cc _ (chks_mem (r := rp) m)
          simp only [List.contains_eq_mem, Bool.not_eq_true', decide_eq_false_iff_not] at this
          exact this n
        have q2 := SatS.base q1 (S1.trans S2) Agr.refl
        refine it_rd e2 (peekA_ok R2 av2 e1) fun J ok => ?_
        refine ⟨fun i m σ' H' => ∃ Z r os, Rel k sx Z r σ' H' os ∧ ArVs k Z H' σ' ra1 vs [] ∧ m + i = ds.length ∧ SatS k sx W L Z H' os σ' (forL (chks ra1 rp) t (fun r => evB P F a r) (ds.drop i) r) D,
          ⟨ds.length, Z2, rp, os2, R2, av2, rfl, q2⟩, fun i m σ3 H3 ⟨Z3, r3, os3, R3, av3, hm, q3⟩ => ?_⟩
        have lk : still r3 (chks ra1 rp) = true → Lk k Z3 H3 src vs := fun st => peekA_ok R3 av3 (by rw [still_peek st]; exact e1)
        by_cases hlt : i < ds.length
        · rw [drop_cons hlt] at q3
          have q3 : SatS k sx W L Z3 H3 os3 σ3 (if still r3 (chks ra1 rp) then (match asgT t ds[i] r3 with
            | some r1 => match evB P F a r1 with
              | .ok .next r2 => forL (chks ra1 rp) t (fun r => evB P F a r) (ds.drop (i + 1)) r2
              | .ok .cont r2 => forL (chks ra1 rp) t (fun r => evB P F a r) (ds.drop (i + 1)) r2
              | .ok .brk r2 => .ok .next r2
              | .ok (.ret v) r2 => .ok (.ret v) r2
              | .exc c w r2 => .exc c w r2
              | .bad => .bad
            | none => .bad) else .bad) D := q3
          split at q3
          · rename_i st
            have C := lk st
            split at q3
            · rename_i r4 e4
              refine .inr ⟨ok.go i Z3 H3 C hlt, fun σ' H' => ∃ Z r os, Rel k sx Z r σ' H' os ∧ ArVs k Z H' σ' ra1 vs [] ∧ (m - 1) + (i + 1) = ds.length ∧ SatS k sx W L Z H' os σ' (forL (chks ra1 rp) t (fun r => evB P F a r) (ds.drop (i + 1)) r) D,
                fun σ' H' h => ⟨m - 1, by omega, h⟩, fun x H4 y => ?_⟩
              obtain ⟨Z4, rd, kp, hz, hn, zd⟩ := ok.yld i Z3 H3 x H4 ds[i] C R3.zd (List.getElem?_eq_getElem hlt) y
              obtain ⟨R4, S4⟩ := R3.grow kp hz hn zd
              refine ⟨Z4, r3, os3, ds[i], [], R4, rd, R4.nd, (fun _ m => by cases m), r4, e4, fun σ5 os5 R5 sub5 ag5 => ⟨Z4, r4, os5, R5, ?_⟩⟩
              have S45 := S4.less (o2 := os5) sub5
              have q5 := SatS.base q3 S45 (ag5.mono fun i m => hLb i (List.mem_append_left _ m))
              have again : ∀ {r6 : En}, SatS k sx W L Z4 H4 os5 σ5 (forL (chks ra1 rp) t (fun r => evB P F a r) (ds.drop (i + 1)) r6) D →
                  PostN k sx (stT t ++ stB a) Z4 H4 os5 σ5 (fun σ' H' => ∃ Z r os, Rel k sx Z r σ' H' os ∧ ArVs k Z H' σ' ra1 vs [] ∧ (m - 1) + (i + 1) = ds.length ∧ SatS k sx W L Z H' os σ' (forL (chks ra1 rp) t (fun r => evB P F a r) (ds.drop (i + 1)) r) D) r6 := fun {r6} q6 σ7 H7 Z7 os7 R7 ag7 S7 => by
                refine ⟨Z7, r6, os7, R7, av3.keep (fun a z => S7.zs a (hz a z)) (fun a o e z => S7.keep a o (kp a o e) fun m => R5.nz a m (hz a z)) (fun i m => ?_), by omega, q6.base S7 (ag7.mono hLb)⟩
                have n := out i m
                rw [ag7 i n, ag5 i fun m => n (List.mem_append_left _ m)]
              cases e : evB P F a r4 with
              | ok f r6 =>
                rw [e] at q5
                cases f with
                | next => exact again q5
                | cont => exact again q5
                | brk => exact PostN.mono q5 hLb
                | ret d => exact SatS.mono (o := .ok (.ret d) r6) q5 hLb
              | exc c w r6 => rw [e] at q5; exact SatS.mono (o := .exc c w r6) q5 hLb
              | bad => rw [e] at q5; exact q5
            · exact q3.elim
          · exact q3.elim
        · have hd : ds.drop i = [] := List.drop_eq_nil_of_le (by omega)
          rw [hd] at q3
          have q3 : SatS k sx W L Z3 H3 os3 σ3 (if still r3 (chks ra1 rp) then .ok .next r3 else .bad) D := q3
          split at q3
          · rename_i st
            exact .inl ⟨ok.stop i Z3 H3 (lk st) (by omega), q3 σ3 H3 Z3 os3 R3 Agr.refl Step.refl⟩
          · exact q3.elim
      · exact q1.elim
    · exact q1.elim
  · exact q1.elim
end
end Mv

namespace Mv
open PySem L2

section
variable {X : Cx} {k : Kc} {sx : Option (Addr × Addr)} {W : WX} {P : Pg} {F : Nat → List D → FOut} {pos apos cpos p : Pos} {es : List Expr} {as : List E} {L M : List Nat}
variable {Z Z' Z0 Z1 Z2 : Addr → Prop} {H H' H0 H1 H2 : Hp} {σ σ' σ0 σ1 σ2 : St} {r r1 r2 : En} {os os' os0 os1 os2 od : List Addr}

theorem _root_.L2.PI.weak {tg iter : Expr} {t t' : TI} (h : PI X tg iter t) (w : ∀ σ H R, t' σ H R → t σ H R) : PI X tg iter t' := ⟨fun pins s σ H R I hq => h.run pins s σ H R I (w σ H R hq)⟩
theorem _root_.L2.PTs.weak {ifs : List Expr} {t t' : TT} (h : PTs X ifs t) (w : ∀ σ H R, t' σ H R → t σ H R) : PTs X ifs t' := ⟨fun pins s σ H R I hq => h.run pins s σ H R I (w σ H R hq)⟩
theorem tAs_one {a : E} {Q : List V → Hp → Prop} (q : tAs k sx W (evAs (evs P F [a])) σ H Q) : tAr k sx W (ev P F a).a σ H fun v H1 => Q [v] H1 := by
  obtain ⟨Z, r, os, R, q⟩ := q
  refine ⟨Z, r, os, R, (Sat.bind.mp q).imp fun ar r1 q1 v H1 Z1 od os1 R1 av nd nz S1 => ?_⟩
  have c := ArVs.cons av .nil
  rw [List.append_nil] at c
  exact q1 [v] H1 Z1 od os1 R1 c nd nz S1
/-- over a list or a tuple -/
theorem pi_val {tg e : Expr} {a : E} (hK : X.K = k.K) (h : Snd X k sx W P F e a) : PI X tg e (tIt k sx W P F .val [a]) := by
  refine ⟨fun pins s σ H R I q => ?_⟩
  refine thn (h.ar.run pins s σ H _ I (tAs_one q)) fun v s1 ⟨x, H1, I1, r1, q1⟩ => ?_
  obtain ⟨p, e, q1⟩ := q1
  cases e
  rw [← hK] at q1
  cases r1
  rcases q1 with ⟨⟨xs, hq⟩, q⟩ | ⟨⟨xs, hq⟩, q⟩
  · obtain ⟨its, rv, p', hz⟩ := I1.list hq
    refine wpAny_pyIter_list p'.isList ?_
    refine ⟨s1.heap.objs.size, [s1.heap.objs.size], _, _, H1, rfl, I1.kept (t' := s1.toks) fun b o e => Heap.get?_push_of_some _ e, turn_list p _, ⟨_, Heap.get?_push_size _ rfl, rfl, rfl⟩, fun b hb => ?_, q⟩
    have e : b = s1.heap.objs.size := by simpa using hb
    subst e
    exact I1.fpOk (Nat.le_refl _) (I1.hok.fresh (Nat.le_refl _))
  · obtain ⟨its, rv, p', hz⟩ := I1.tuple hq
    refine wpAny_pyIter_tuple (show s1.heap.IsTuple p its.toArray from p') ?_
    refine ⟨s1.heap.objs.size, [s1.heap.objs.size], _, _, H1, rfl, I1.kept (t' := s1.toks) fun b o e => Heap.get?_push_of_some _ e, turn_tuple p _, ⟨_, Heap.get?_push_size _ rfl, rfl, rfl⟩, fun b hb => ?_, q⟩
    have e : b = s1.heap.objs.size := by simpa using hb
    subst e
    exact I1.fpOk (Nat.le_refl _) (I1.hok.fresh (Nat.le_refl _))
theorem pi_rng {tg : Expr} (h : SndL X k sx W P F es as) (hl : 1 ≤ es.length ∧ es.length ≤ 3) (hg : Gl X "range") (hm : X.mg "range" = none) : PI X tg (.Call (.Name "range" p) es [] pos) (tIt k sx W P F .rng as) := by
  have pa := pa_as h
  cases h with
  | nil => exact absurd hl.1 (by decide)
  | cons n1 h1 t1 =>
    cases t1 with
    | nil => exact (pi_range1 hg hm pa (by rw [star_cons n1] <;> rfl)).weak fun _ _ _ q => q
    | cons n2 h2 t2 =>
      cases t2 with
      | nil => exact (pi_range2 hg hm pa (by rw [star_cons n1, star_cons n2] <;> rfl) (by rw [star_cons n2] <;> rfl)).weak fun _ _ _ q => q
      | cons n3 h3 t3 =>
        cases t3 with
        | nil => exact (pi_range3 hg hm pa (star_cons n1 _ _) (by rw [star_cons n2, star_cons n3] <;> rfl)).weak fun _ _ _ q => q
        | cons _ _ _ => exact absurd hl.2 (by simp)
theorem pi_en {elts : List Expr} {kk : Nat} {tpos : Pos} (hK : X.K = k.K) (h : SndL X k sx W P F es as) (hl : es.length = 1) (hg : Gl X "enumerate") (hm : X.mg "enumerate" = none) : PI X (.Tuple elts kk tpos) (.Call (.Name "enumerate" p) es [] pos) (tIt k sx W P F .enm as) := by
  have pa := pa_as h
  cases h with
  | nil => cases hl
  | cons n1 h1 t1 =>
    cases t1 with
    | nil => exact (pi_enumLT hg hm pa (by rw [star_cons n1] <;> rfl)).weak fun σ H R q => by rw [hK]; exact q
    | cons _ _ _ => exact absurd hl (by simp)
theorem pi_rv {tg : Expr} (hK : X.K = k.K) (h : SndL X k sx W P F es as) (hl : es.length = 1) (hg : Gl X "reversed") (hm : X.mg "reversed" = none) : PI X tg (.Call (.Name "reversed" p) es [] pos) (tIt k sx W P F .rev as) := by
  have pa := pa_as h
  cases h with
  | nil => cases hl
  | cons n1 h1 t1 =>
    cases t1 with
    | nil => exact (pi_reversed hg hm pa (by rw [star_cons n1] <;> rfl)).weak fun σ H R q => by rw [hK]; exact q
    | cons _ _ _ => exact absurd hl (by simp)
theorem pi_zp {elts : List Expr} {kk : Nat} {tpos : Pos} (hK : X.K = k.K) (h : SndL X k sx W P F es as) (hl : es.length = 2) (hg : Gl X "zip") (hm : X.mg "zip" = none) : PI X (.Tuple elts kk tpos) (.Call (.Name "zip" p) es [] pos) (tIt k sx W P F .zp as) := by
  have pa := pa_as h
  cases h with
  | nil => cases hl
  | cons n1 h1 t1 =>
    cases t1 with
    | nil => exact absurd hl (by simp)
    | cons n2 h2 t2 =>
      cases t2 with
      | nil => exact (pi_zipG hg hm pa (star_cons n1 _ _) (by rw [star_cons n2] <;> rfl)).weak fun σ H R q => by rw [hK]; exact q
      | cons _ _ _ => exact absurd hl (by simp)

/-! ### comprehensions -/
theorem asgT_len : ∀ (t : Tg) (d : D) (r r1 : En), asgT t d r = some r1 → r1.length = r.length
  | .nm i, d, r, r1, h => by
    have h : (if i < r.length then some (r.set i (some d)) else none) = some r1 := h
    split at h
    · cases h; simp
    · cases h
  | .tp ts, d, r, r1, h => by
    cases d with
    | tup ds => exact asgs_len' ts ds r r1 h
    | _ => cases h
where asgs_len' : ∀ (ts : List Tg) (ds : List D) (r r1 : En), asgT.asgs ts ds r = some r1 → r1.length = r.length
  | [], [], r, r1, h => by cases h; rfl
  | [], _ :: _, _, _, h => by cases h
  | _ :: _, [], _, _, h => by cases h
  | t :: ts, d :: ds, r, r1, h => by
    obtain ⟨r', e1, e2⟩ := Option.bind_eq_some_iff.mp (show ((asgT t d r).bind fun r' => asgT.asgs ts ds r') = some r1 from h)
    rw [asgs_len' ts ds r' r1 e2, asgT_len t d r r' e1]
theorem wipe_in {i : Nat} : ∀ {vs : List Nat}, i ∈ vs → ∀ x, (wipe σ vs)[i]? ≠ some (some x)
  | v :: vs, h, x => fun e => (wipe_some e).2 h
theorem wipe_get (own : List Nat) (i : Nat) : (wipe σ own)[i]? = if i ∈ own then (if i < σ.length then some none else none) else σ[i]? := by
  split
  · rename_i h
    have hl := wipe_length σ own
    cases e : (wipe σ own)[i]? with
    | none =>
      rw [List.getElem?_eq_none_iff, hl] at e
      rw [if_neg (by omega)]
    | some v =>
      have lt := (List.getElem?_eq_some_iff.mp e).1
      rw [hl] at lt
      rw [if_pos lt]
      cases v with
      | none => rfl
      | some x => exact absurd e (wipe_in h x)
  · rename_i h
    exact wipe_out h
theorem wipe_ext {own : List Nat} (h : ∀ i, i ∉ own → σ1[i]? = σ[i]?) (hl : σ1.length = σ.length) : wipe σ1 own = wipe σ own := by
  refine List.ext_getElem? fun i => ?_
  rw [wipe_get, wipe_get, hl]
  split
  · rfl
  · rename_i n; exact h i n
theorem wipe_wipe {own : List Nat} : wipe (wipe σ own) own = wipe σ own := wipe_ext (fun i n => wipe_out n) (wipe_length σ own)
theorem slot_set_eq {i : Nat} {x : Option D} (h : i < r.length) : slot (r.set i x) i = x := by simp [slot, h]
theorem slot_set_ne {i j : Nat} {x : Option D} (h : i ≠ j) : slot (r.set i x) j = slot r j := by simp [slot, h]
theorem wipeE_len (own : List Nat) : (wipeE r own).length = r.length := by
  induction own with
  | nil => rfl
  | cons v vs ih => simp [wipeE, ih]
theorem wipeE_in {own : List Nat} {i : Nat} (h : i ∈ own) : slot (wipeE r own) i = none := by
  induction own with
  | nil => cases h
  | cons v vs ih =>
    by_cases e : v = i
    · subst e; exact slot_set_none
    · rcases List.mem_cons.mp h with e' | h
      · exact absurd e'.symm e
      · show slot ((wipeE r vs).set v none) i = none
        rw [slot_set_ne e]
        exact ih h
theorem RS.drop1 {i : Nat} (h : RS k sx Z H r σ os) : ∃ os', RS k sx Z H (r.set i none) (σ.set i none) os' ∧ os'.Sublist os := by
  by_cases hi : i < r.length
  · obtain ⟨A, o, B, e, h1, _⟩ := h.put hi
    subst e
    exact ⟨A ++ B, h1 none, List.Sublist.append (List.Sublist.refl _) (List.sublist_append_right _ _)⟩
  · have l := h.length
    rw [List.set_eq_of_length_le (by omega), List.set_eq_of_length_le (by omega)]
    exact ⟨os, h, List.Sublist.refl _⟩
theorem RS.wipe {own : List Nat} (h : RS k sx Z H r σ os) : ∃ os', RS k sx Z H (wipeE r own) (wipe σ own) os' ∧ os'.Sublist os := by
  induction own with
  | nil => exact ⟨os, h, List.Sublist.refl _⟩
  | cons v vs ih =>
    obtain ⟨os1, h1, s1⟩ := ih
    obtain ⟨os2, h2, s2⟩ := h1.drop1 (i := v)
    exact ⟨os2, h2, s2.trans s1⟩
theorem Rel.wipe {own : List Nat} (R : Rel k sx Z r σ H os) : ∃ os', Rel k sx Z (wipeE r own) (L2.wipe σ own) H os' ∧ ∀ a ∈ os', a ∈ os := by
  obtain ⟨os', h, s⟩ := R.rs.wipe (own := own)
  exact ⟨os', ⟨h, s.nodup R.nd, fun a m => R.nz a (s.subset m), R.zd⟩, fun a m => s.subset m⟩
/-- an empty slot fits whatever stands there -/
theorem RS.any (h : RS k sx Z H r σ os) (hl : σ1.length = σ.length) (hs : ∀ i, slot r i ≠ none → σ1[i]? = σ[i]?) : RS k sx Z H r σ1 os := by
  induction h generalizing σ1 with
  | nil =>
    have : σ1 = [] := List.length_eq_zero_iff.mp hl
    subst this
    exact .nil
  | @emp x r s os h ih =>
    cases σ1 with
    | nil => cases hl
    | cons y σ1 => exact .emp (ih (by simpa using hl) fun i n => hs (i + 1) n)
  | @val d v r s o os h1 h ih =>
    cases σ1 with
    | nil => cases hl
    | cons y σ1 =>
      have e := hs 0 (by simp [slot])
      have e : y = some v := by simpa using e
      subst e
      exact .val h1 (ih (by simpa using hl) fun i n => hs (i + 1) n)
  | @ex c w a dd v r s os ex z hd h1 h ih =>
    cases σ1 with
    | nil => cases hl
    | cons y σ1 =>
      have e := hs 0 (by simp [slot])
      have e : y = some (.ref a) := by simpa using e
      subst e
      exact .ex ex z hd h1 (ih (by simpa using hl) fun i n => hs (i + 1) n)
theorem Rel.unwipe {own : List Nat} (R : Rel k sx Z r (L2.wipe σ own) H os) (h : ∀ i ∈ own, slot r i = none) : Rel k sx Z r σ H os :=
  ⟨R.rs.any (wipe_length σ own).symm fun i n => by
    rw [wipe_get, if_neg fun m => n (h i m)], R.nd, R.nz, R.zd⟩
/-- the heap is changed at an address of none of the frame's -/
theorem Rel.upd {l : Addr} {u : HO} (R : Rel k sx Z r σ H os) (h1 : l ∉ os) (h2 : ¬ Z l) : Rel k sx Z r σ (L2.upd H l u) os :=
  ⟨R.rs.mono (fun _ z => z) fun a o e z => by
    rw [upd_ne fun (q : a = l) => z.elim (fun z => h2 (q ▸ z)) fun m => h1 (q ▸ m)]; exact e, R.nd, R.nz, fun a z => by
    obtain ⟨o, e⟩ := R.zd a z
    exact ⟨o, by rw [upd_ne fun (q : a = l) => h2 (q ▸ z)]; exact e⟩⟩
theorem pts_of {ifs : List Expr} {ia : List E} (h : SndL X k sx W P F ifs ia) (hl : ifs.length ≤ 1) : PTs X ifs (tT k sx W (evTAnd (evs P F ia))) := by
  cases h with
  | nil => exact pts_nil.weak fun σ H Q ⟨Z, r, os, R, q⟩ => q H Z os R Step.refl
  | cons n h1 t =>
    cases t with
    | nil =>
      refine (pts_one h1.t).weak fun σ H Q ⟨Z, r, os, R, q⟩ => ⟨Z, r, os, R, (Sat.bind.mp q).imp fun b r1 q1 => ?_⟩
      cases b <;> exact q1
    | cons _ _ _ => exact absurd hl (by simp)
end
end Mv

namespace Mv
open PySem L2

section
variable {X : Cx} {k : Kc} {sx : Option (Addr × Addr)} {W : WX} {P : Pg} {F : Nat → List D → FOut} {pos apos cpos p : Pos} {es : List Expr} {as : List E} {L M : List Nat}
variable {Z Z' Z0 Z1 Z2 : Addr → Prop} {H H' H0 H1 H2 : Hp} {σ σ' σ0 σ1 σ2 : St} {r r1 r2 : En} {os os' os0 os1 os2 od : List Addr}

/-- nothing may be raised -/
abbrev WN : WX := fun _ _ _ _ => False
/-- the end of a comprehension's turns -/
def CEnd (o : Out (List D)) (K : List D → En → Prop) : Prop := match o with
  | .ok acc r => K acc r
  | _ => False
/-- what is known at each turn: the list that is made is at l -/
structure CTurn (k : Kc) (sx : Option (Addr × Addr)) (σ : St) (own : List Nat) (ra : List Ar) (vs : List V) (l : Addr) (Z0 : Addr → Prop) (H0 : Hp) (os0 : List Addr) (r : En) (H : Hp) (acc : List D) : Prop where
  ex : ∃ Z os va oa, Rel k sx Z r (L2.wipe σ own) H os ∧ ArVs k Z H σ ra vs [] ∧ H l = some (.lst va) ∧ RDs k Z H acc va oa ∧ ((l :: oa) ++ os).Nodup ∧ (∀ a ∈ l :: oa, ¬ Z a) ∧ Step Z0 Z H0 H os0 ((l :: oa) ++ os)
  own : ∀ i ∈ own, slot r i = none
theorem s_comp {elt tg iter : Expr} {ifs : List Expr} {scope : Scope} {own : List (Str × Nat)} {t : Tg} {kd : ItK} {ia : List E} {a : E} (hK : X.K = k.K) (hc : X.calm = true) (hN : X.N.Nodup) (hi : PI X tg iter (tIt k sx W P F kd as)) (ok : BlkOk X.N X.env.scope scope own)
    (hg : ∀ (s : Shared) (H : Hp) (C : Addr) (cl : List (Str × Addr)) (fp : List Addr), (∀ i ∈ stT t, i ∈ own.map (·.2)) → PG (X.blk s H scope (compEnvC scope cl C X.env) fp) tg (tG k sx t))
    (hl : ifs.length ≤ 1) (ht : ∀ (s : Shared) (H : Hp) (C : Addr) (cl : List (Str × Addr)) (fp : List Addr), SndL (X.blk s H scope (compEnvC scope cl C X.env) fp) k sx WN P F ifs ia)
    (he : ∀ (s : Shared) (H : Hp) (C : Addr) (cl : List (Str × Addr)) (fp : List Addr), Snd (X.blk s H scope (compEnvC scope cl C X.env) fp) k sx WN P F elt a) (hs : ∀ x, foldedSetIterable iter X.env x = pure x)
    (htg : ∀ i ∈ stT t, i ∈ own.map (·.2)) :
    (∀ σ H Q, tV k sx W (ev P F (.comp a t kd as ia (own.map (·.2)))).v σ H Q → tLc (tIt k sx W P F kd as) (tG k sx t) (tT k sx WN (evTAnd (evs P F ia))) (tV k sx WN (ev P F a).v) (own.map (·.2)) σ H Q) := by
  intro σ H Q ⟨Z, r, os, R, q⟩
  have q : Sat k sx W Z H os σ ((evAs (evs P F as) r).bind fun ra r => match prep ra r with
    | some (as1, r1) => match (peekA r1 as1).bind (itemsN kd as.length) with
      | some ds => if (stT t).all (own.map (·.2)).contains then (match compL (chks as1 r1) (own.map (·.2)) t (evTAnd (evs P F ia)) (ev P F a).v ds [] (wipeE r1 (own.map (·.2))) with
        | .ok acc r2 => .ok (.lst .own acc) r2
        | _ => .bad) else .bad
      | none => .bad
    | none => .bad) (PostV k sx Z H os σ Q) := q
  refine ⟨Z, r, os, R, (Sat.bind.mp q).imp fun ra r1 q1 vs H1 Z1 od os1 R1 av nd nz S1 => ?_⟩
  split at q1
  · rename_i ra1 rp ep
    obtain ⟨Z2, os2, av2, R2, S2⟩ := prep_ok av R1 ep nd nz
    split at q1
    · rename_i ds ed
      obtain ⟨src, e1, e2⟩ := Option.bind_eq_some_iff.mp ed
      split at q1
      · have q2 : CEnd (compL (chks ra1 rp) (own.map (·.2)) t (evTAnd (evs P F ia)) (ev P F a).v ds [] (wipeE rp (own.map (·.2)))) fun acc r => PostV k sx Z H os σ Q (.lst .own acc) r := by
          split at q1
          · rename_i acc r2 e
            rw [e]
            exact q1
          · exact q1.elim
        clear q1
        refine it_rd e2 (peekA_ok R2 av2 e1) fun J ok => ?_
        intro l hln
        obtain ⟨os3, R3, sub3⟩ := R2.wipe (own := own.map (·.2))
        obtain ⟨R4, rd4, nd4, nz4, S4⟩ := new_lst (od := []) R3 .nil R3.nd (fun _ m => by cases m) hln
        refine ⟨fun i m H' => ∃ r acc, CTurn k sx σ (own.map (·.2)) ra1 vs l Z H os r H' acc ∧ m + i = ds.length ∧ CEnd (compL (chks ra1 rp) (own.map (·.2)) t (evTAnd (evs P F ia)) (ev P F a).v (ds.drop i) acc r) fun acc r => PostV k sx Z H os σ Q (.lst .own acc) r,
          ⟨ds.length, wipeE rp (own.map (·.2)), [], ⟨⟨Z2, os3, [], [], R4, av2.keep (fun _ z => z) (fun a o e z => S4.keep a o e fun m => R3.nz a m z) (fun _ _ => rfl), upd_same, .nil, nd4, nz4, ((S1.trans S2).less sub3).trans S4⟩, fun i m => wipeE_in m⟩, rfl, q2⟩, fun i m H5 ⟨r5, acc, C5, hm, q5⟩ => ?_⟩
        obtain ⟨⟨Z5, os5, va, oa, R5, av5, hl5, T5, nd5, nz5, S5⟩, own5⟩ := C5
        have lk : still r5 (chks ra1 rp) = true → Lk k Z5 H5 src vs := fun st => by
          refine peekA_ok R5 (av5.keep (fun _ z => z) (fun a o e _ => e) fun i m => ?_) (by rw [still_peek st]; exact e1)
          have mi := List.all_eq_true.mp st _ (chks_mem (r := rp) m)
          simp only [decide_eq_true_eq] at mi
          refine wipe_out fun n => ?_
          rw [own5 i n] at mi
          have av' := av2
          have key : ∀ {ra : List Ar} {ds : List D}, peekA rp ra = some ds → Ar.r i ∈ ra → slot rp i ≠ none := by
            intro ra
            induction ra with
            | nil => intro ds _ m; cases m
            | cons b ra ih =>
              intro ds e m
              obtain ⟨d, z1, z2⟩ := Option.bind_eq_some_iff.mp (show ((b.peek rp).bind fun d => (peekA rp ra).map fun ds => d :: ds) = some ds from e)
              obtain ⟨ds', z3, _⟩ := Option.map_eq_some_iff.mp z2
              rcases List.mem_cons.mp m with m | m
              · subst m
                intro z
                simp [Ar.peek, z] at z1
              · exact ih z3 m
          exact key e1 m mi.symm
        by_cases hlt : i < ds.length
        · rw [drop_cons hlt] at q5
          have q5 : CEnd (if still r5 (chks ra1 rp) then (match asgT t ds[i] r5 with
            | some r1 => match evTAnd (evs P F ia) r1 with
              | .ok true r2 => match (ev P F a).v r2 with
                | .ok v r3 => if acc.length < 16777216 then compL (chks ra1 rp) (own.map (·.2)) t (evTAnd (evs P F ia)) (ev P F a).v (ds.drop (i + 1)) (acc ++ [v]) (wipeE r3 (own.map (·.2))) else .bad
                | _ => .bad
              | .ok false r2 => compL (chks ra1 rp) (own.map (·.2)) t (evTAnd (evs P F ia)) (ev P F a).v (ds.drop (i + 1)) acc (wipeE r2 (own.map (·.2)))
              | _ => .bad
            | none => .bad) else .bad) fun acc r => PostV k sx Z H os σ Q (.lst .own acc) r := q5
          split at q5
          · rename_i st
            have C := lk st
            split at q5
            · rename_i r6 e6
              refine .inr ⟨ok.go i Z5 H5 C hlt, fun H' => ∃ r acc, CTurn k sx σ (own.map (·.2)) ra1 vs l Z H os r H' acc ∧ (m - 1) + (i + 1) = ds.length ∧ CEnd (compL (chks ra1 rp) (own.map (·.2)) t (evTAnd (evs P F ia)) (ev P F a).v (ds.drop (i + 1)) acc r) fun acc r => PostV k sx Z H os σ Q (.lst .own acc) r,
                fun H' h => ⟨m - 1, by omega, h⟩, fun x H6 y => ?_⟩
              obtain ⟨Z6, rd6, kp6, hz6, hn6, zd6⟩ := ok.yld i Z5 H5 x H6 ds[i] C R5.zd (List.getElem?_eq_getElem hlt) y
              obtain ⟨R6, S6⟩ := R5.grow kp6 hz6 hn6 zd6
              refine ⟨Z6, r5, os5, ds[i], [], R6, rd6, R6.nd, (fun _ m => by cases m), r6, e6, fun σ7 os7 R7 sub7 ag7 => ?_⟩
              have ws : L2.wipe σ7 (own.map (·.2)) = L2.wipe σ (own.map (·.2)) := by
                rw [← wipe_wipe (σ := σ)]
                refine wipe_ext (fun i n => ag7 i fun m => n (htg i m)) ?_
                rw [R7.rs.length, R5.rs.length, asgT_len _ _ _ _ e6]
              refine ⟨ws, Z6, r6, os7, R7, ?_⟩
              have S67 := S6.less (o2 := os7) sub7
              -- the turn's end
              have fin : ∀ {r8 : En} {H8 : Hp} {Z8 : Addr → Prop} {os8 : List Addr} {acc' : List D} {va' : List V} {oa' : List Addr}, Rel k sx Z8 r8 σ7 H8 os8 → ArVs k Z8 H8 σ ra1 vs [] → H8 l = some (.lst va') → RDs k Z8 H8 acc' va' oa' → ((l :: oa') ++ os8).Nodup → (∀ a ∈ l :: oa', ¬ Z8 a) → Step Z Z8 H H8 os ((l :: oa') ++ os8) →
                  CEnd (compL (chks ra1 rp) (own.map (·.2)) t (evTAnd (evs P F ia)) (ev P F a).v (ds.drop (i + 1)) acc' (wipeE r8 (own.map (·.2)))) (fun acc r => PostV k sx Z H os σ Q (.lst .own acc) r) →
                  ∃ r acc, CTurn k sx σ (own.map (·.2)) ra1 vs l Z H os r H8 acc ∧ (m - 1) + (i + 1) = ds.length ∧ CEnd (compL (chks ra1 rp) (own.map (·.2)) t (evTAnd (evs P F ia)) (ev P F a).v (ds.drop (i + 1)) acc r) fun acc r => PostV k sx Z H os σ Q (.lst .own acc) r := by
                intro r8 H8 Z8 os8 acc' va' oa' R8 av8 hl8 T8 nd8 nz8 S8 q8
                obtain ⟨os9, R9, sub9⟩ := R8.wipe (own := own.map (·.2))
                rw [ws] at R9
                obtain ⟨n1, n2, n3⟩ := List.nodup_append.mp nd8
                refine ⟨_, acc', ⟨⟨Z8, os9, va', oa', R9, av8, hl8, T8, List.nodup_append.mpr ⟨n1, R9.nd, fun a m b mb => n3 a m b (sub9 b mb)⟩, nz8, S8.less fun a m => ?_⟩, fun i m => wipeE_in m⟩, by omega, q8⟩
                rcases List.mem_append.mp m with m | m
                · exact List.mem_append_left _ m
                · exact List.mem_append_right _ (sub9 a m)
              -- what is held through the turn
              have held : ∀ {H8 : Hp} {Z8 : Addr → Prop} {os8 : List Addr}, os8.Nodup → Step Z5 Z8 H5 H8 os5 os8 → ArVs k Z8 H8 σ ra1 vs [] ∧ ∃ va', H8 l = some (.lst va') ∧ va'.length = acc.length ∧ RDs k Z8 H8 acc va' oa ∧ ((l :: oa) ++ os8).Nodup ∧ (∀ a ∈ l :: oa, ¬ Z8 a) ∧ Step Z Z8 H H8 os ((l :: oa) ++ os8) := by
                intro H8 Z8 os8 nd8 S8
                obtain ⟨rd, nd', nz'⟩ := (RD.own hl5 T5).carry nd5 nz5 R5 S8 nd8
                refine ⟨av5.keep S8.zs (fun a o e z => S8.keep a o e fun m => R5.nz a m z) (fun _ _ => rfl), ?_⟩
                cases rd with
                | @own _ va' _ _ h1 T8 => exact ⟨va', h1, T8.length, T8, nd', nz', S5.trans (S8.wide _)⟩
              have S57 : Step Z5 Z6 H5 H6 os5 os7 := S67
              split at q5
              · rename_i r8 e8
                rw [e8]
                intro H8 Z8 os8 R8 S8
                refine iteT ⟨Z8, r8, os8, R8, ?_⟩
                split at q5
                · rename_i v r9 e9
                  rw [e9]
                  intro y H9 Z9 oy os9 R9 rd9 nd9 nz9 S9
                  split at q5
                  · rename_i ln
                    obtain ⟨av9, va', hl9, len9, T9, ndh, nzh, Sh⟩ := held nd9 ((S57.trans S8).trans S9)
                    refine ⟨va', hl9, by rw [slE, len9]; exact ln, ?_⟩
                    obtain ⟨n1, n2, n3⟩ := List.nodup_append.mp ndh
                    have lo : l ∉ oy ++ os9 := fun m => n3 l List.mem_cons_self l m rfl
                    have zl := nzh l List.mem_cons_self
                    have up : ∀ a o, H9 a = some o → a ≠ l → L2.upd H9 l (.lst (va' ++ [y])) a = some o := fun a o e n => by rw [upd_ne n]; exact e
                    have la : l ∉ oa := (List.nodup_cons.mp n1).1
                    refine fin (oa' := oa ++ oy) (R9.upd (fun m => lo (List.mem_append_right _ m)) zl) (av9.keep (fun _ z => z) (fun a o e z => up a o e fun q => zl (q ▸ z)) (fun _ _ => rfl)) upd_same ((RDs.mono (fun _ z => z) _ _ _ (fun a o e z => up a o e fun q => z.elim (fun z => zl (q ▸ z)) fun m => la (q ▸ m)) T9).app (RDs.one (RD.mono (fun _ z => z) _ _ _ (fun a o e z => up a o e fun q => z.elim (fun z => zl (q ▸ z)) fun m => lo (q ▸ List.mem_append_left _ m)) rd9))) ?_ ?_ ?_ q5
                    · have pm : ((l :: (oa ++ oy)) ++ os9).Perm ((l :: oa) ++ (oy ++ os9)) := List.Perm.of_eq (by simp)
                      exact pm.nodup_iff.mpr ndh
                    · intro a m
                      rcases List.mem_cons.mp m with m | m
                      · rw [m]; exact zl
                      · rcases List.mem_append.mp m with m | m
                        · exact nzh a (List.mem_cons_of_mem _ m)
                        · exact nz9 a m
                    · refine Sh.trans ⟨fun a o e n => up a o e fun q => n (by rw [q]; simp), fun _ z => z, fun _ z => .inl z, fun a m => .inl ?_⟩
                      simp only [List.mem_append, List.mem_cons] at m ⊢
                      rcases m with (m | m | m) | m <;> simp [m]
                  · exact q5.elim
                · exact q5.elim
              · rename_i r8 e8
                rw [e8]
                intro H8 Z8 os8 R8 S8
                refine iteF ?_
                obtain ⟨av9, va', hl9, len9, T9, ndh, nzh, Sh⟩ := held R8.nd (S57.trans S8)
                exact fin R8 av9 hl9 T9 ndh nzh Sh q5
              · exact q5.elim
            · exact q5.elim
          · exact q5.elim
        · have hd : ds.drop i = [] := List.drop_eq_nil_of_le (by omega)
          rw [hd] at q5
          have q5 : CEnd (if still r5 (chks ra1 rp) then .ok acc r5 else .bad) fun acc r => PostV k sx Z H os σ Q (.lst .own acc) r := q5
          split at q5
          · rename_i st
            exact .inl ⟨ok.stop i Z5 H5 (lk st) (by omega), q5 (.ref l) H5 Z5 (l :: oa) os5 (R5.unwipe own5) (.own hl5 T5) nd5 nz5 S5⟩
          · exact q5.elim
      · exact q1.elim
    · exact q1.elim
  · exact q1.elim
end
end Mv

namespace Mv
open PySem L2

section
variable {X : Cx} {k : Kc} {sx : Option (Addr × Addr)} {W : WX} {P : Pg} {F : Nat → List D → FOut} {pos apos cpos p : Pos} {es : List Expr} {as : List E} {L M : List Nat}
variable {Z Z' Z0 Z1 Z2 : Addr → Prop} {H H' H0 H1 H2 : Hp} {σ σ' σ0 σ1 σ2 : St} {r r1 r2 : En} {os os' os0 os1 os2 od : List Addr}

theorem s_lc {elt tg iter : Expr} {ifs : List Expr} {scope : Scope} {own : List (Str × Nat)} {t : Tg} {kd : ItK} {ia : List E} {a : E} (hK : X.K = k.K) (hc : X.calm = true) (hN : X.N.Nodup) (hi : PI X tg iter (tIt k sx W P F kd as)) (ok : BlkOk X.N X.env.scope scope own)
    (hg : ∀ (s : Shared) (H : Hp) (C : Addr) (cl : List (Str × Addr)) (fp : List Addr), PG (X.blk s H scope (compEnvC scope cl C X.env) fp) tg (tG k sx t))
    (hl : ifs.length ≤ 1) (ht : ∀ (s : Shared) (H : Hp) (C : Addr) (cl : List (Str × Addr)) (fp : List Addr), SndL (X.blk s H scope (compEnvC scope cl C X.env) fp) k sx WN P F ifs ia)
    (he : ∀ (s : Shared) (H : Hp) (C : Addr) (cl : List (Str × Addr)) (fp : List Addr), Snd (X.blk s H scope (compEnvC scope cl C X.env) fp) k sx WN P F elt a) (hs : ∀ x, foldedSetIterable iter X.env x = pure x)
    (htg : ∀ i ∈ stT t, i ∈ own.map (·.2)) : Snd X k sx W P F (.ListComp elt [⟨tg, iter, ifs, 0⟩] scope pos) (.comp a t kd as ia (own.map (·.2))) := by
  have h := s_comp (P := P) (F := F) (W := W) (sx := sx) hK hc hN hi ok (fun s H C cl fp _ => hg s H C cl fp) hl ht he hs htg
  have pe := pe_lc (pos := pos) hc hN hi ok hg (fun s H C cl fp => pts_of (ht s H C cl fp) hl) (fun s H C cl fp => (he s H C cl fp).v) hs
  exact snd1 hK (pe.weak h) (fun _ => rfl) (by unfold ev; rfl) (pl_no fun _ => rfl) (it_no fun _ => rfl)
/-- name = [..] on one line, a plain local name -/
theorem ss_lc {i : Nat} {y : Str} {py : Pos} {elt tg iter : Expr} {ifs : List Expr} {scope : Scope} {own : List (Str × Nat)} {t : Tg} {kd : ItK} {ia : List E} {a : E} {spos : Pos} (hK : X.K = k.K) (hc : X.calm = true) (hN : X.N.Nodup) (hy : X.N[i]? = some y) (hyl : X.env.scope.names.lookup y = some .local)
    (hsw : swapsWith (.ListComp elt [⟨tg, iter, ifs, 0⟩] scope pos) (some (.Name y py)) spos.line X.env = pure true) (hi : PI X tg iter (tIt k sx W P F kd as)) (ok : BlkOk X.N X.env.scope scope own)
    (hg : ∀ (s : Shared) (H : Hp) (C : Addr) (cl : List (Str × Addr)) (fp : List Addr), PG (X.blk s H scope (compEnvC scope cl C X.env) fp) tg (tG k sx t))
    (hl : ifs.length ≤ 1) (ht : ∀ (s : Shared) (H : Hp) (C : Addr) (cl : List (Str × Addr)) (fp : List Addr), SndL (X.blk s H scope (compEnvC scope cl C X.env) fp) k sx WN P F ifs ia)
    (he : ∀ (s : Shared) (H : Hp) (C : Addr) (cl : List (Str × Addr)) (fp : List Addr), Snd (X.blk s H scope (compEnvC scope cl C X.env) fp) k sx WN P F elt a) (hs : ∀ x, foldedSetIterable iter X.env x = pure x)
    (htg : ∀ i ∈ stT t, i ∈ own.map (·.2)) : SS X k sx W P F (.Assign [.Name y py] (.ListComp elt [⟨tg, iter, ifs, 0⟩] scope pos) spos) (.asg (.nm i) (.comp a t kd as ia (own.map (·.2)))) := fun L hL => by
  have h := s_comp (P := P) (F := F) (W := W) (sx := sx) hK hc hN hi ok (fun s H C cl fp _ => hg s H C cl fp) hl ht he hs htg
  refine (ps_setLc (pos := pos) hc hN hy hyl hsw hi ok hg (fun s H C cl fp => pts_of (ht s H C cl fp) hl) (fun s H C cl fp => (he s H C cl fp).v) hs).weak fun D σ H ⟨Z, r, os, R, q⟩ => ?_
  refine h σ H _ ⟨Z, r, os, R, (SatS.bind q).imp fun d r1 q1 v H1 Z1 od os1 R1 rd nd nz S1 => ?_⟩
  split at q1
  · rename_i r2 e2
    have e2 : (if i < r1.length then some (r1.set i (some d)) else none) = some r2 := e2
    split at e2
    · rename_i c
      cases e2
      obtain ⟨os', R', sub⟩ := R1.put c rd nd nz
      exact q1 _ H1 Z1 os' R' (set_agr.mono hL) (S1.less sub)
    · cases e2
  · exact q1.elim

/-! ### stores into lists -/
/-- an item of an owned list is set -/
theorem set_fin {x : Nat} {p : List St1} {n : Int} {d d' : D} {v : V} {e : D} {w : V} (R : Rel k sx Z r σ H os) (wy : WayAt k sx Z r σ H os x p e w) (rd : RD k Z H d v od) (nd : (od ++ os).Nodup) (nz : ∀ a ∈ od, ¬ Z a)
    (u : (slot r x).bind (updP (fun _ => some d) · (p ++ [.ix n])) = some d') :
    ∃ l vs j, w = .ref l ∧ H l = some (.lst vs) ∧ Mv.ixN vs.length n = some j ∧ ∃ os', Rel k sx Z (r.set x (some d')) σ (L2.upd H l (.lst (vs.set j v))) os' ∧ Step Z Z H (L2.upd H l (.lst (vs.set j v))) (od ++ os) os' := by
  obtain ⟨d0, A, o, B, f1, f2, f3, f4, f5, plug⟩ := wy.ex
  rw [f1] at u
  have u : updP (fun _ => some d) d0 (p ++ [.ix n]) = some d' := u
  rw [updP_snoc] at u
  obtain ⟨e', g1, g2⟩ := plug _ _ u
  cases e with
  | lst kd ds =>
    cases kd with
    | own =>
      have g1 : ((Mv.ixN ds.length n).bind fun j => (ds[j]?).bind fun e => (some d).map fun e' => D.lst .own (ds.set j e')) = some e' := g1
      obtain ⟨j, h1, h2⟩ := Option.bind_eq_some_iff.mp g1
      obtain ⟨e0, h3, h4⟩ := Option.bind_eq_some_iff.mp h2
      cases h4
      obtain ⟨l, vs, o2, rfl, rfl, hl, T⟩ := own_lst f5
      obtain ⟨v0, A1, o1, B1, t1, rfl, t3, t4⟩ := T.get h3
      subst f4
      have zl : ¬ Z l := R.nz l (by simp)
      have pm0 : (od ++ (A ++ ((l :: (A1 ++ (o1 ++ B1))) ++ B))).Perm (l :: (od ++ (A ++ (A1 ++ (o1 ++ (B1 ++ B)))))) := by rw [List.perm_iff_count]; intro a; simp only [List.count_append, List.count_cons]; omega
      have nd0 := pm0.nodup_iff.mp nd
      have nl : ∀ a, (a ∈ od ∨ a ∈ A ∨ a ∈ A1 ∨ a ∈ B1 ∨ a ∈ B) → a ≠ l := fun a m e => by
        subst e
        refine (List.nodup_cons.mp nd0).1 ?_
        simp only [List.mem_append]
        rcases m with m | m | m | m | m <;> simp [m]
      have up : ∀ a o, H a = some o → a ≠ l → L2.upd H l (.lst (vs.set j v)) a = some o := fun a o e n => by rw [upd_ne n]; exact e
      have T2 := t4 d v od rd
      have T3 : RDs k Z (L2.upd H l (.lst (vs.set j v))) (ds.set j d) (vs.set j v) (A1 ++ (od ++ B1)) := RDs.mono (fun _ z => z) _ _ _ (fun a o e z => up a o e (by
        rcases z with z | m
        · exact fun q => zl (q ▸ z)
        · simp only [List.mem_append] at m
          exact nl a (by rcases m with m | m | m <;> simp [m]))) T2
      have rs := g2 Z (L2.upd H l (.lst (vs.set j v))) (fun _ z => z) (fun a o e z => up a o e (by
        rcases z with z | m | m
        · exact fun q => zl (q ▸ z)
        · exact nl a (by simp [m])
        · exact nl a (by simp [m]))) (l :: (A1 ++ (od ++ B1))) (.own upd_same T3)
      have sub : (l :: (od ++ (A ++ (A1 ++ (B1 ++ B))))).Sublist (l :: (od ++ (A ++ (A1 ++ (o1 ++ (B1 ++ B)))))) := by
        refine List.Sublist.cons₂ l (List.Sublist.append (List.Sublist.refl _) (List.Sublist.append (List.Sublist.refl _) (List.Sublist.append (List.Sublist.refl _) (List.sublist_append_right _ _))))
      have pm1 : (A ++ ((l :: (A1 ++ (od ++ B1))) ++ B)).Perm (l :: (od ++ (A ++ (A1 ++ (B1 ++ B))))) := by rw [List.perm_iff_count]; intro a; simp only [List.count_append, List.count_cons]; omega
      have mm : ∀ a ∈ A ++ ((l :: (A1 ++ (od ++ B1))) ++ B), a ∈ od ++ (A ++ ((l :: (A1 ++ (o1 ++ B1))) ++ B)) := fun a m => pm0.mem_iff.mpr (sub.subset (pm1.mem_iff.mp m))
      refine ⟨l, vs, j, rfl, hl, by rw [T.length]; exact h1, _, ⟨rs, pm1.nodup_iff.mpr (sub.nodup nd0), fun a m => ?_, fun a z => ?_⟩, fun a o e n => up a o e fun q => n (by rw [q]; simp), fun _ z => z, fun _ z => .inl z, fun a m => .inl (mm a m)⟩
      · rcases List.mem_append.mp (mm a m) with m | m
        · exact nz a m
        · exact R.nz a m
      · obtain ⟨o, e⟩ := R.zd a z
        exact ⟨o, up a o e fun q => zl (q ▸ z)⟩
    | shr => cases g1
    | giv => cases g1
  | obj kd c ks ds => cases kd <;> cases g1
  | _ => cases g1
theorem updP_get {g : D → Option D} : ∀ {p : List St1} {d d' : D}, updP g d p = some d' → ∃ e, getP d p = some e
  | [], d, d', _ => ⟨d, rfl⟩
  | s :: p, d, d', h => by
    have inner : ∀ {ds : List D} {j : Nat} {K : List D → D}, ((ds[j]?).bind fun e => (updP g e p).map fun e' => K (ds.set j e')) = some d' → ∃ e1 e, ds[j]? = some e1 ∧ getP e1 p = some e := fun {ds j K} h => by
      obtain ⟨e1, h1, h2⟩ := Option.bind_eq_some_iff.mp h
      obtain ⟨e2, h3, _⟩ := Option.map_eq_some_iff.mp h2
      obtain ⟨e, h4⟩ := updP_get h3
      exact ⟨e1, e, h1, h4⟩
    cases s with
    | ix i =>
      cases d with
      | lst kd ds =>
        cases kd with
        | own =>
          obtain ⟨j, h1, h2⟩ := Option.bind_eq_some_iff.mp (show ((Mv.ixN ds.length i).bind fun j => (ds[j]?).bind fun e => (updP g e p).map fun e' => D.lst .own (ds.set j e')) = some d' from h)
          obtain ⟨e1, e, h3, h4⟩ := inner h2
          refine ⟨e, ?_⟩
          show ((Mv.ixN ds.length i).bind fun j => ds[j]?).bind (fun e => getP e p) = some e
          rw [h1]
          show (ds[j]?).bind (fun e => getP e p) = some e
          rw [h3]
          exact h4
        | shr => cases h
        | giv => cases h
      | obj kd _ _ _ => cases kd <;> cases h
      | _ => cases h
    | fl f =>
      cases d with
      | obj kd c ks ds =>
        cases kd with
        | own =>
          obtain ⟨j, h1, h2⟩ := Option.bind_eq_some_iff.mp (show ((idxOf f ks).bind fun j => (ds[j]?).bind fun e => (updP g e p).map fun e' => D.obj .own c ks (ds.set j e')) = some d' from h)
          obtain ⟨e1, e, h3, h4⟩ := inner h2
          refine ⟨e, ?_⟩
          show ((ks.zip ds).lookup f).bind (fun e => getP e p) = some e
          have lk : ∀ {ks : List Nat} {ds : List D} {j : Nat} {e1 : D}, idxOf f ks = some j → ds[j]? = some e1 → (ks.zip ds).lookup f = some e1 := by
            intro ks
            induction ks with
            | nil => intro ds j e1 h _; cases h
            | cons k0 ks ih =>
              intro ds j e1 h g
              cases ds with
              | nil => simp at g
              | cons d0 ds =>
                unfold idxOf at h
                split at h
                · rename_i c
                  cases h
                  subst c
                  have g : d0 = e1 := by simpa using g
                  subst g
                  simp
                · rename_i c
                  obtain ⟨j', h5, rfl⟩ := Option.map_eq_some_iff.mp h
                  have c1 : (f == k0) = false := by simpa using fun z => c z.symm
                  rw [List.zip_cons_cons, List.lookup_cons, c1]
                  exact ih h5 (by simpa using g)
          rw [lk h1 h3]
          exact h4
        | shr => cases h
        | giv => cases h
      | lst kd _ => cases kd <;> cases h
      | _ => cases h
theorem asg_sub {o i : Expr} (h : ∀ l u s p, i ≠ .Slice l u s p) (v : Value) : assign (.Subscript o i pos) X.env v = (do
      let ov ← holding [v] (eval o X.env)
      let iv ← holding [v, ov] (eval i X.env)
      standAt pos
      holding [v, ov, iv] (setItem ov iv v)
      release [v, ov, iv] []) := by
  cases i <;> first | rfl | exact absurd rfl (h _ _ _ _)
theorem ss_setI {e1 e2 e3 : Expr} {a1 a2 a3 : E} {tp : Pos} (h1 : Snd X k sx W P F e1 a1) (h2 : Snd X k sx W P F e2 a2) (h3 : Snd X k sx W P F e3 a3) (hi : ∀ l u s p, e2 ≠ .Slice l u s p)
    (hs : swapsWithSole [.Subscript e1 e2 tp] e3 pos.line X.env = pure false) : SS X k sx W P F (.Assign [.Subscript e1 e2 tp] e3 pos) (.setI a1 a2 a3) := fun L _ => by
  by_cases hv : ∃ y, a1 = .var y
  · obtain ⟨y, rfl⟩ := hv
    refine (ps_asg h3.v (pg_sub h1.ar h2.v set_list (asg_sub hi)) hs rfl rfl).weak fun D σ H ⟨Z, r, os, R, q⟩ => ⟨Z, r, os, R, (SatS.bind q).imp fun d r1 q1 v H1 Z1 od os1 R1 rd nd nz S1 => ?_⟩
    dsimp only at q1
    split at q1
    · rename_i c
      refine ⟨Z1, r1, os1, R1, ?_⟩
      show Sat k sx W Z1 H1 os1 σ (if has r1 y = true then Out.ok (Ar.r y) r1 else Out.bad) (PostA k sx Z1 H1 os1 σ _)
      rw [if_pos c]
      intro o H2 Z2 o2 os2 R2 av nd2 nz2 S2
      cases av with
      | r hv =>
        have S12 : Step Z Z2 H H2 os (od ++ os2) := S1.trans (S2.wide od)
        refine ⟨Z2, r1, os2, R2, ((SatS.bind q1).base S12).imp fun n r3 q3 w H3 Z3 o3 os3 R3 rd3 nd3 nz3 S3 => ?_⟩
        cases n with
        | int n =>
          cases rd3
          dsimp only at q3
          split at q3
          · rename_i d' u
            obtain ⟨dy, s, u'⟩ := Option.bind_eq_some_iff.mp u
            obtain ⟨rd', nd', nz'⟩ := rd.carry nd nz R1 (S2.trans S3) nd3
            obtain ⟨vy, hy, wy⟩ := WayAt.nil R3.rs s (fun c w z => by subst z; cases u')
            rw [hv] at hy
            cases hy
            obtain ⟨l, vs, j, rfl, hl, hj, os', R4, S4⟩ := set_fin (p := []) R3 wy rd' nd' nz' u
            exact ⟨l, vs, n, j, rfl, rfl, hl, hj, q3 σ _ Z3 os' R4 Agr.refl (((S1.trans ((S2.trans S3).wide od))).trans S4)⟩
          · exact q3.elim
        | _ => exact q3.elim
    · exact q1.elim
  · refine (ps_asg h3.v (pg_sub h1.pl h2.it set_list (asg_sub hi)) hs rfl rfl).weak fun D σ H ⟨Z, r, os, R, q⟩ => ?_
    have q' : SatS k sx W L Z H os σ (((ev P F a3).v r).bind fun d r => match path (.idx a1 a2) r with
      | some (x, p) => match (slot r x).bind (updP (fun _ => some d) · p) with
        | some d' => .ok .next (r.set x (some d'))
        | none => .bad
      | none => .bad) D := by
      cases a1 <;> first | exact q | exact absurd ⟨_, rfl⟩ hv
    refine ⟨Z, r, os, R, (SatS.bind q').imp fun d r1 q1 v H1 Z1 od os1 R1 rd nd nz S1 => ?_⟩
    · cases z : path (.idx a1 a2) r1 with
      | none => simp only [z] at q1; exact q1.elim
      | some xp =>
        obtain ⟨y, p⟩ := xp
        simp only [z] at q1
        obtain ⟨⟨y1, p1⟩, z1, z2⟩ := Option.bind_eq_some_iff.mp (show ((path a1 r1).bind fun p => (evI a2 r1).map fun n => (p.1, p.2 ++ [.ix n])) = some (y, p) from z)
        obtain ⟨n, z3, z4⟩ := Option.map_eq_some_iff.mp z2
        cases z4
        split at q1
        · rename_i d' u
          obtain ⟨d0, s, u'⟩ := Option.bind_eq_some_iff.mp u
          rw [updP_snoc] at u'
          obtain ⟨e, ge⟩ := updP_get u'
          refine ⟨Z1, r1, os1, y1, p1, e, R1, z1, by show (slot r1 y1).bind (fun d => getP d p1) = some e; rw [s]; exact ge, fun c w y => ?_, fun w wy => ⟨Z1, r1, os1, n, R1, z3, ?_⟩⟩
          · rw [s] at y
            cases y
            cases p1 with
            | nil => cases u'
            | cons _ _ => exact getP_exn ge
          · obtain ⟨l, vs, j, rfl, hl, hj, os', R4, S4⟩ := set_fin R1 wy rd nd nz u
            exact ⟨l, vs, n, j, rfl, rfl, hl, hj, q1 σ _ Z1 os' R4 Agr.refl (S1.trans S4)⟩
        · exact q1.elim
end
end Mv

namespace Mv
open PySem L2

section
variable {X : Cx} {k : Kc} {sx : Option (Addr × Addr)} {W : WX} {P : Pg} {F : Nat → List D → FOut} {pos apos cpos p : Pos} {es : List Expr} {as : List E} {L M : List Nat}
variable {Z Z' Z0 Z1 Z2 : Addr → Prop} {H H' H0 H1 H2 : Hp} {σ σ' σ0 σ1 σ2 : St} {r r1 r2 : En} {os os' os0 os1 os2 od : List Addr}

/-- self.f = value: the instance is the frame's own -/
theorem ss_setA {x : Str} {xp tp : Pos} {i f : Nat} {n : Str} {e3 : Expr} {a3 : E} (hK : X.K = k.K) (hN : X.N[i]? = some x) (hv : Vis X.env.scope x) (hd : (x == ("__debug__" : Str)) = false) (hcd : (x == ("__classdict__" : Str)) = false) (hf : k.aN f = n) (hfn : f < k.n) (h3 : Snd X k sx W P F e3 a3)
    (hs : swapsWith e3 (some (.Attribute (.Name x xp) n tp)) pos.line X.env = pure false) : SS X k sx W P F (.Assign [.Attribute (.Name x xp) n tp] e3 pos) (.setA i f a3) := fun L _ => by
  refine (ps_fld (pe_var (pos := xp) hN hv hd hcd) h3.v hs).weak fun Dn σ H ⟨Z, r, os, R, q⟩ => ⟨Z, r, os, R, (SatS.bind q).imp fun d r1 q1 v H1 Z1 od os1 R1 rd nd nz S1 => ?_⟩
  split at q1
  · rename_i c ks ds s
    split at q1
    · rename_i cc
      simp only [Bool.and_eq_true, decide_eq_true_eq] at cc
      obtain ⟨vy, o, osr, e1, rdo, pm, R2⟩ := R1.take s (fun c w z => by cases z)
      cases rdo with
      | @oown a dx _ fs _ _ ot hl en T =>
      have hlen : fs.length = ks.length := by have := congrArg List.length en.1.1; simpa using this
      have pmd : (od ++ os1).Perm ((od ++ ot) ++ (a :: osr)) := (List.Perm.append_left od pm).trans (by rw [List.perm_iff_count]; intro b; simp only [List.count_append, List.count_cons]; omega)
      have nd' := pmd.nodup_iff.mp nd
      have zl : ¬ Z1 a := R1.nz a (pm.mem_iff.mpr (by simp))
      have na : ∀ b, (b ∈ od ∨ b ∈ ot ∨ b ∈ osr) → b ≠ a := fun b m e => by
        subst e
        have c := (List.nodup_iff_count.mp nd') b
        simp only [List.count_append, List.count_cons, beq_self_eq_true, if_true] at c
        have pos : 0 < List.count b od ∨ 0 < List.count b ot ∨ 0 < List.count b osr := by simpa only [List.count_pos_iff] using m
        omega
      obtain ⟨cls, noat⟩ := k.cls c en.2
      have up : ∀ {u : HO}, ∀ b o, H1 b = some o → b ≠ a → L2.upd H1 a u b = some o := fun b o e n => by rw [upd_ne n]; exact e
      -- the end: the new fields
      have fin : ∀ {ks' : List Nat} {ds' : List D} {o' : List Addr}, SatS k sx W L Z H os σ (.ok .next (r1.set i (some (.obj .own c ks' ds')))) Dn → (putF n v fs).map (·.1) = ks'.map k.aN → (∀ y ∈ ks', y < k.n) → RDs k Z1 H1 ds' ((putF n v fs).map (·.2)) o' → (o' ++ (a :: osr)).Nodup → (∀ b ∈ o', b ∈ od ++ ot) → Dn.nx σ (L2.upd H1 a (.ins (k.cA c) dx (putF n v fs))) := by
        intro ks' ds' o' q2 hn1 hn2 T2 nd2 sub
        have mem : ∀ b ∈ o', b ≠ a := fun b m => (List.mem_append.mp (sub b m)).elim (fun m => na b (.inl m)) fun m => na b (.inr (.inl m))
        have T3 := RDs.mono (k := k) (Z' := Z1) (H' := L2.upd H1 a (.ins (k.cA c) dx (putF n v fs))) (fun _ z => z) _ _ _ (fun b o e z => up b o e (z.elim (fun z q => zl (q ▸ z)) (mem b))) T2
        have R3 : Rel k sx Z1 (r1.set i none) σ (L2.upd H1 a (.ins (k.cA c) dx (putF n v fs))) osr := R2.upd (fun m => na a (.inr (.inr m)) rfl) zl
        have hi : i < (r1.set i none).length := by
          rw [← R2.rs.length]
          exact (List.getElem?_eq_some_iff.mp e1).1
        have pm3 : ((a :: o') ++ osr).Perm (o' ++ (a :: osr)) := by rw [List.perm_iff_count]; intro b; simp only [List.count_append, List.count_cons]; omega
        obtain ⟨os4, p4, R4⟩ := R3.give slot_set_none hi e1 (RD.oown upd_same ⟨⟨hn1, hn2⟩, en.2⟩ T3) (pm3.nodup_iff.mpr nd2) (fun b m => by
          rcases List.mem_cons.mp m with m | m
          · rw [m]; exact zl
          · rcases List.mem_append.mp (sub b m) with m | m
            · exact nz b m
            · exact R1.nz b (pm.mem_iff.mpr (by simp [m])))
        rw [List.set_set] at R4
        refine q2 σ _ Z1 os4 R4 Agr.refl (S1.trans ⟨fun b o e n => up b o e fun q => n ?_, fun _ z => z, fun _ z => .inl z, fun b m => .inl ?_⟩)
        · rw [q]; exact List.mem_append_right _ (pm.mem_iff.mpr (by simp))
        · have m := p4.mem_iff.mp m
          simp only [List.mem_append, List.mem_cons] at m
          refine pmd.mem_iff.mpr ?_
          simp only [List.mem_append, List.mem_cons]
          rcases m with (m | m) | m
          · simp [m]
          · rcases List.mem_append.mp (sub b m) with m | m <;> simp [m]
          · simp [m]
      refine ⟨.ref a, e1, a, k.cA c, dx, fs, rfl, hl, by rw [hK]; exact cls, by rw [hK, ← hf]; exact noat f hfn, by omega, ?_⟩
      -- putF by the place
      have key : ∀ {ks : List Nat} {ds : List D} {fs : List (Str × V)} {ot : List Addr}, fs.map (·.1) = ks.map k.aN → (∀ y ∈ ks, y < k.n) → RDs k Z1 H1 ds (fs.map (·.2)) ot → ks.length = ds.length → ∀ res, (match idxOf f ks with
          | some j => (ks, ds.set j d)
          | none => (ks ++ [f], ds ++ [d])) = res → (putF n v fs).map (·.1) = res.1.map k.aN ∧ (∀ y ∈ res.1, y < k.n) ∧ ∃ o', RDs k Z1 H1 res.2 ((putF n v fs).map (·.2)) o' ∧ (∀ (a : Addr) , List.count a o' ≤ List.count a od + List.count a ot) := by
        intro ks
        induction ks with
        | nil =>
          intro ds fs ot e1 e2 T e3 res e4
          cases fs with
          | cons _ _ => cases e1
          | nil =>
            cases ds with
            | cons _ _ => cases e3
            | nil =>
              cases T
              subst e4
              refine ⟨by simp [putF, idxOf, hf], fun y m => ?_, od, RDs.one rd, fun a => by simp⟩
              have : y = f := by simpa [idxOf] using m
              omega
        | cons k0 ks ih =>
          intro ds fs ot e1 e2 T e3 res e4
          cases fs with
          | nil => cases e1
          | cons p fs =>
            obtain ⟨g, w0⟩ := p
            cases ds with
            | nil => cases e3
            | cons d0 ds =>
              cases T with
              | @cons _ _ _ _ o0 ot h1 h2 =>
              simp only [List.map_cons, List.cons.injEq] at e1
              by_cases c0 : k0 = f
              · subst c0
                have : idxOf k0 (k0 :: ks) = some 0 := by simp [idxOf]
                rw [this] at e4
                subst e4
                have g1 : g = n := by rw [e1.1, hf]
                refine ⟨by simp [putF, g1, hf, e1.2], e2, od ++ ot, ?_, fun a => by simp only [List.count_append]; omega⟩
                simp only [putF, g1, if_true, List.map_cons, List.set_cons_zero]
                exact .cons rd h2
              · have g1 : g ≠ n := fun q => c0 (k.inj _ _ (e2 k0 List.mem_cons_self) hfn (by rw [← e1.1, q, hf]))
                obtain ⟨r1, r2, o', r3, r4⟩ := ih e1.2 (fun y m => e2 y (List.mem_cons_of_mem _ m)) h2 (by simpa using e3) _ rfl
                have ix : idxOf f (k0 :: ks) = (idxOf f ks).map (· + 1) := by simp [idxOf, c0]
                rw [ix] at e4
                subst e4
                cases q : idxOf f ks with
                | none =>
                  rw [q] at r1 r2 r3
                  refine ⟨by simp only [putF, if_neg g1, List.map_cons, Option.map_none]; simp only at r1; rw [r1, e1.1]; simp, fun y m => ?_, o0 ++ o', ?_, fun a => by have := r4 a; simp only [List.count_append]; omega⟩
                  · simp only [Option.map_none, List.cons_append, List.mem_cons] at m
                    rcases m with m | m
                    · exact m ▸ e2 k0 List.mem_cons_self
                    · exact r2 y m
                  · simp only [putF, if_neg g1, List.map_cons, Option.map_none, List.cons_append]
                    exact .cons h1 r3
                | some j =>
                  rw [q] at r1 r2 r3
                  refine ⟨by simp only [putF, if_neg g1, List.map_cons, Option.map_some]; simp only at r1; rw [r1, e1.1], fun y m => ?_, o0 ++ o', ?_, fun a => by have := r4 a; simp only [List.count_append]; omega⟩
                  · simp only [Option.map_some] at m
                    exact e2 y m
                  · simp only [putF, if_neg g1, List.map_cons, Option.map_some, List.set_cons_succ]
                    exact .cons h1 r3
      obtain ⟨k1, k2, o', k3, k4⟩ := key en.1.1 en.1.2 T cc.2 _ rfl
      have ndo : (o' ++ (a :: osr)).Nodup := List.nodup_iff_count.mpr fun b => by
        have c := (List.nodup_iff_count.mp nd') b
        have := k4 b
        simp only [List.count_append] at c ⊢
        omega
      have sub : ∀ b ∈ o', b ∈ od ++ ot := fun b m => by
        have := k4 b
        have m' := List.count_pos_iff.mpr m
        have : 0 < List.count b (od ++ ot) := by rw [List.count_append]; omega
        exact List.count_pos_iff.mp this
      cases q : idxOf f ks with
      | none =>
        rw [q] at k1 k2 k3
        simp only [q] at q1
        exact fin q1 k1 k2 k3 ndo sub
      | some j =>
        rw [q] at k1 k2 k3
        simp only [q] at q1
        exact fin q1 k1 k2 k3 ndo sub
    · exact q1.elim
  · exact q1.elim
end
end Mv

namespace Mv
open PySem L2

section
variable {X : Cx} {k : Kc} {sx : Option (Addr × Addr)} {W : WX} {P : Pg} {F : Nat → List D → FOut} {pos apos cpos p : Pos} {es : List Expr} {as : List E} {L M : List Nat}
variable {Z Z' Z0 Z1 Z2 : Addr → Prop} {H H' H0 H1 H2 : Hp} {σ σ' σ0 σ1 σ2 : St} {r r1 r2 : En} {os os' os0 os1 os2 od : List Addr}

theorem ss_nev {s : Stmt} : SS X k sx W P F s .nev := fun L _ => ⟨fun _ _ _ _ _ _ ⟨_, _, _, _, q⟩ => q.elim⟩
theorem RS.some (h : RS k sx Z H r σ os) : ∀ {i : Nat} {d : D}, slot r i = some d → ∃ v, σ[i]? = some (some v) := by
  induction h with
  | nil => intro i d e; simp [slot] at e
  | emp h ih =>
    intro i d e
    cases i with
    | zero => simp [slot] at e
    | succ i => exact ih (i := i) e
  | val h1 h ih =>
    intro i d e
    cases i with
    | zero => exact ⟨_, rfl⟩
    | succ i => exact ih (i := i) e
  | ex _ _ _ _ h ih =>
    intro i d e
    cases i with
    | zero => exact ⟨_, rfl⟩
    | succ i => exact ih (i := i) e
def rAug : Operator → R2
  | .Add => rI0 fun i j => .int (i + j)
  | .Sub => rI0 fun i j => .int (i - j)
  | _ => fun _ _ _ _ => False
theorem ip_aug (op : Operator) : PIp X op (rAug op) := by
  cases op <;> first
    | exact iop_add
    | exact iop_sub
    | exact fun _ _ _ _ _ _ _ _ _ _ _ _ q => q.elim
theorem augOp_ok {op : Operator} {i j z : Int} {Q : VK} (e : augOp op i j = some z) (q : Q (.int z) H) : rAug op (.int i) (.int j) H Q := by
  cases op <;> first
    | (cases e; exact ⟨i, j, rfl, rfl, q⟩)
    | cases e
theorem ss_aug {i : Nat} {x : Str} {e : Expr} {a : E} {op : Operator} {xp : Pos} (hN : X.N.Nodup) (hi : X.N[i]? = some x) (hx : Loc X.env.scope x) (hf : X.fn x = true ∨ X.env.scope.names.lookup x = some .local) (h : Snd X k sx W P F e a) :
    SS X k sx W P F (.AugAssign (.Name x xp) op e pos) (.aug i op a) := fun L hL => by
  refine (ps_aug hN hi hx h.v (ip_aug op) hf).weak fun Dn σ H ⟨Z, r, os, R, q⟩ => ?_
  have q : SatS k sx W L Z H os σ (match slot r i with
    | some _ => ((ev P F a).v r).bind fun y r => match slot r i with
      | some x => match x, y with
        | .int a, .int b => match augOp op a b with
          | some z => .ok .next (r.set i (some (.int z)))
          | none => .bad
        | _, _ => .bad
      | none => .bad
    | none => .bad) Dn := q
  split at q
  · rename_i d0 s0
    obtain ⟨x0, e0⟩ := R.rs.some s0
    refine ⟨x0, e0, Z, r, os, R, (SatS.bind q).imp fun y r1 q1 v H1 Z1 od os1 R1 rd nd nz S1 => ?_⟩
    split at q1
    · rename_i x s1
      split at q1
      · rename_i ia ib
        split at q1
        · rename_i z ez
          cases rd
          obtain ⟨v1, A, o, B, f1, f2, f3, _⟩ := R1.rs.focus s1 (fun c w z => by cases z)
          rw [e0] at f1
          cases f1
          cases f3
          refine augOp_ok ez ?_
          have hlt : i < r1.length := by
            rw [← R1.rs.length]
            exact (List.getElem?_eq_some_iff.mp e0).1
          obtain ⟨os', R', sub⟩ := R1.put hlt (.int z) R1.nd (fun _ m => by cases m)
          exact q1 _ H1 Z1 os' R' (set_agr.mono hL) (S1.less sub)
        · exact q1.elim
      · exact q1.elim
    · exact q1.elim
  · exact q.elim
theorem get_list : PGet X (rIxL X.K) := by
  intro pins s σ H x y v u Q I rx ry h
  obtain ⟨p, xs, i, z, rfl, rfl, hq, he, q⟩ := h
  cases rx
  obtain ⟨t, rfl⟩ := ry
  obtain ⟨its, r, pl, hz⟩ := I.list hq
  obtain ⟨j, h1, h2, h3, h4, h5⟩ := atI_get he
  obtain ⟨w, ew, rw'⟩ := r.get h2
  have hl := r.length
  have hn := line63
  have fin : EP X pins σ Q w s := ⟨z, H, I, rw', q⟩
  by_cases h0 : 0 ≤ i
  · have hj : i.toNat = j := by
      rw [seqIndex_of h0 h5] at h1
      exact Option.some.inj h1
    exact wpAny_getItem_list pl.isList h0 (by omega) (by rw [hj]; simpa using ew) fin
  · have hj : (i + (its.toArray.size : Int)).toNat = j := by
      rw [seqIndex_neg (by omega) h4] at h1
      rw [List.size_toArray, ← hl]
      exact Option.some.inj h1
    exact wpAny_getItem_list_neg pl.isList (by omega) (by rw [List.size_toArray] <;> omega) (by omega) (by rw [hj]; simpa using ew) fin
theorem aug_store {i : Expr} (h : ∀ l u s p, i ≠ .Slice l u s p) : ∀ ov iv new, augStore i ov iv new = (do holding [new, ov, iv] (setItem ov iv new); release [new, ov, iv] []; pure .next) := by
  intro ov iv new
  cases i <;> first | rfl | exact absurd rfl (h _ _ _ _)
/-- a list of a thing that is held comes to a new state, the thing comes back -/
theorem own_fin {rb : En} {ys : List D} {vs' : List V} {d' : D} {l : Addr} {v : V} {A B o' osb : List Addr} {x : Nat} (R : Rel k sx Z2 rb σ H2 osb) (hlt : x < rb.length) (hs : slot rb x = none) (hv : σ[x]? = some (some v)) (T : RDs k Z2 H2 ys vs' o') (hl : ∃ u, H2 l = some u)
    (nd : ((A ++ ((l :: o') ++ B)) ++ osb).Nodup) (nz : ∀ a ∈ A ++ ((l :: o') ++ B), ¬ Z2 a)
    (bk : ∀ Z' H', (∀ a, Z2 a → Z' a) → (∀ a o, H2 a = some o → (Z2 a ∨ a ∈ A ∨ a ∈ B) → H' a = some o) → ∀ o', RD k Z' H' (.lst .own ys) (.ref l) o' → RD k Z' H' d' v (A ++ (o' ++ B))) :
    ∃ os3, Rel k sx Z2 (rb.set x (some d')) σ (L2.upd H2 l (.lst vs')) os3 ∧ Step Z2 Z2 H2 (L2.upd H2 l (.lst vs')) ((A ++ ((l :: o') ++ B)) ++ osb) os3 := by
  have zl : ¬ Z2 l := nz l (by simp)
  have dj : ∀ a, (a ∈ o' ∨ a ∈ A ∨ a ∈ B ∨ a ∈ osb) → a ≠ l := by
    intro a m e
    subst e
    have c := (List.nodup_iff_count.mp nd) a
    simp only [List.count_append, List.count_cons, beq_self_eq_true, if_true] at c
    have pos : 0 < List.count a o' ∨ 0 < List.count a A ∨ 0 < List.count a B ∨ 0 < List.count a osb := by simpa only [List.count_pos_iff] using m
    omega
  have up : ∀ a o, H2 a = some o → a ≠ l → L2.upd H2 l (.lst vs') a = some o := fun a o e n => by rw [upd_ne n]; exact e
  have T' := RDs.mono (k := k) (Z' := Z2) (H' := L2.upd H2 l (.lst vs')) (fun _ z => z) _ _ _ (fun a o e z => up a o e (z.elim (fun z q => zl (q ▸ z)) fun m => dj a (.inl m))) T
  have R' := R.upd (u := .lst vs') (fun m => dj l (.inr (.inr (.inr m))) rfl) zl
  have rd := bk Z2 (L2.upd H2 l (.lst vs')) (fun _ z => z) (fun a o e z => up a o e (by
    rcases z with z | z | z
    · exact fun q => zl (q ▸ z)
    · exact dj a (.inr (.inl z))
    · exact dj a (.inr (.inr (.inl z))))) (l :: o') (.own upd_same T')
  obtain ⟨os3, p3, R3⟩ := R'.give hs hlt hv rd nd nz
  exact ⟨os3, R3, fun a o e n => up a o e fun q => n (by rw [q]; simp), fun _ z => z, fun _ z => .inl z, fun a m => .inl (p3.mem_iff.mp m)⟩
/-- a[i] op= e: the place's holder is lent meanwhile -/
theorem ss_augI {e1 e2 e3 : Expr} {a1 a2 a3 : E} {op : Operator} {tp : Pos} (hK : X.K = k.K) (h1 : Snd X k sx W P F e1 a1) (h2 : Snd X k sx W P F e2 a2) (h3 : Snd X k sx W P F e3 a3) (hi : ∀ l u s p, e2 ≠ .Slice l u s p) : SS X k sx W P F (.AugAssign (.Subscript e1 e2 tp) op e3 pos) (.augI a1 a2 op a3) := fun L hL => by
  refine (ps_augS h1.pl h2.it get_list h3.v (ip_aug op) set_list (aug_store hi)).weak fun Dn σ H ⟨Z, r, os, R, q⟩ => ?_
  have q : SatS k sx W L Z H os σ (match path (.idx a1 a2) r with
    | some (x, p) => match peekP r x p with
      | some (.int old) => match (slot r x).bind (updP some · p) with
        | some _ => ((ev P F a3).v (r.set x none)).bind fun y r2 => match y with
          | .int b => match augOp op old b with
            | some z => match (slot r x).bind (updP (fun _ => some (.int z)) · p) with
              | some d' => if slot r2 x = none ∧ x < r2.length then .ok .next (r2.set x (some d')) else .bad
              | none => .bad
            | none => .bad
          | _ => .bad
        | none => .bad
      | _ => .bad
    | none => .bad) Dn := q
  cases z : path (.idx a1 a2) r with
  | none => simp only [z] at q; exact q.elim
  | some xp =>
    obtain ⟨y, p⟩ := xp
    simp only [z] at q
    obtain ⟨⟨y1, p1⟩, z1, z2⟩ := Option.bind_eq_some_iff.mp (show ((path a1 r).bind fun p => (evI a2 r).map fun n => (p.1, p.2 ++ [.ix n])) = some (y, p) from z)
    obtain ⟨n, z3, z4⟩ := Option.map_eq_some_iff.mp z2
    cases z4
    split at q
    · rename_i old pk
      obtain ⟨d0, s, pk'⟩ := Option.bind_eq_some_iff.mp (show (slot r y1).bind (fun d => getP d (p1 ++ [.ix n])) = some (.int old) from pk)
      rw [getP_snoc] at pk'
      obtain ⟨e, ge, gi⟩ := Option.bind_eq_some_iff.mp pk'
      have ne0 : ∀ c w, d0 ≠ .exn c w := fun c w y => by
        subst y
        cases p1 with
        | nil => cases ge; cases gi
        | cons _ _ => exact getP_exn ge
      refine ⟨Z, r, os, y1, p1, e, R, z1, by show (slot r y1).bind (fun d => getP d p1) = some e; rw [s]; exact ge, fun c w y => ?_, fun w wy => ⟨Z, r, os, n, R, z3, ?_⟩⟩
      · rw [s] at y
        exact ne0 c w (Option.some.inj y)
      · obtain ⟨d1, v, A0, B0, A, o, B, f1, f2, f3, f4, f5, f6, f7, f8, _, f9⟩ := wy.inn
        obtain rfl : d0 = d1 := by rw [s] at f1; exact Option.some.inj f1
        split at q
        · rename_i dz uz
          rw [s] at uz
          have uz : updP Option.some d0 (p1 ++ [.ix n]) = some dz := uz
          rw [updP_snoc] at uz
          obtain ⟨ez, hz1, _⟩ := f8 _ _ uz
          cases e with
          | lst kd ds =>
            cases kd with
            | own =>
              obtain ⟨j, hj, hd⟩ := Option.bind_eq_some_iff.mp (show ((Mv.ixN ds.length n).bind fun j => ds[j]?) = some (.int old) from gi)
              obtain ⟨l, vs, o2, rfl, rfl, hl, T⟩ := own_lst f7
              obtain ⟨v0, A1, o1, B1, t1, rfl, t3, t4⟩ := T.get hd
              cases t3
              subst f5
              have pm : (A0 ++ ((A ++ ((l :: (A1 ++ ([] ++ B1))) ++ B)) ++ B0)).Perm ((A ++ ((l :: (A1 ++ ([] ++ B1))) ++ B)) ++ (A0 ++ B0)) := by rw [List.perm_iff_count]; intro a; simp only [List.count_append]; omega
              have nd := pm.nodup_iff.mp R.nd
              have R0 : Rel k sx Z (r.set y1 none) σ H (A0 ++ B0) := ⟨f9, (List.nodup_append.mp nd).2.1, fun a m => R.nz a (pm.mem_iff.mpr (List.mem_append_right _ m)), R.zd⟩
              have nz0 : ∀ a ∈ A ++ ((l :: (A1 ++ ([] ++ B1))) ++ B), ¬ Z a := fun a m => R.nz a (pm.mem_iff.mpr (List.mem_append_left _ m))
              have S0 := (Step.refl (Z := Z) (H := H) (os := A0 ++ ((A ++ ((l :: (A1 ++ ([] ++ B1))) ++ B)) ++ B0))).perm pm.symm
              refine ⟨l, vs, n, .int old, rfl, rfl, SqL.of hl, atI_of (by rw [T.length]; exact hj) t1, Z, r.set y1 none, A0 ++ B0, R0, ((SatS.bind q).base S0).imp fun yd r2 q2 yv H2 Z2 od2 os2 R2 rd2 nd2 nz2 S2 => ?_⟩
              split at q2
              · rename_i b
                cases rd2
                split at q2
                · rename_i zz ezz
                  split at q2
                  · rename_i d' u
                    split at q2
                    · rename_i c
                      rw [s] at u
                      have u : updP (fun _ => Option.some (.int zz)) d0 (p1 ++ [.ix n]) = some d' := u
                      rw [updP_snoc] at u
                      obtain ⟨e', g1, bk⟩ := f8 _ _ u
                      have g1 : ((Mv.ixN ds.length n).bind fun j => (ds[j]?).bind fun e => (Option.some (D.int zz)).map fun e' => D.lst .own (ds.set j e')) = Option.some e' := g1
                      rw [hj] at g1
                      simp only [Option.bind_some, hd, Option.map_some, Option.some.injEq] at g1
                      subst g1
                      have out : ∀ a ∈ A ++ ((l :: (A1 ++ ([] ++ B1))) ++ B), a ∉ A0 ++ B0 := fun a m n => (List.nodup_append.mp nd).2.2 a m a n rfl
                      have kp : ∀ a o, H a = Option.some o → (Z a ∨ a ∈ A ++ ((l :: (A1 ++ ([] ++ B1))) ++ B)) → H2 a = Option.some o := fun a o e z => S2.keep a o e (z.elim (fun z n => R0.nz a n z) (out a))
                      have T' := RDs.mono S2.zs _ _ _ (fun a o e z => kp a o e (z.imp id fun m => by simp only [List.mem_append, List.mem_cons] at m ⊢; rcases m with m | m | m <;> simp [m])) (t4 (.int zz) (.int zz) [] (.int zz))
                      have dm : ∀ a ∈ A ++ ((l :: (A1 ++ ([] ++ B1))) ++ B), ∃ o, H a = Option.some o := RD.dom _ _ _ f6
                      have n2 : ((A ++ ((l :: (A1 ++ ([] ++ B1))) ++ B)) ++ os2).Nodup := List.nodup_append.mpr ⟨(List.nodup_append.mp nd).1, R2.nd, fun a m b mb e => by
                        subst e
                        rcases S2.on a (List.mem_append_right _ mb) with x | x
                        · exact out a m x
                        · obtain ⟨o, q⟩ := dm a m; rw [q] at x; cases x⟩
                      have z2 : ∀ a ∈ A ++ ((l :: (A1 ++ ([] ++ B1))) ++ B), ¬ Z2 a := fun a m z => by
                        rcases S2.zn a z with x | x | x
                        · exact nz0 a m x
                        · exact out a m x
                        · obtain ⟨o, q⟩ := dm a m; rw [q] at x; cases x
                      have hl2 := kp l _ hl (.inr (by simp))
                      obtain ⟨os3, R3, S3⟩ := own_fin R2 c.2 c.1 f3 T' ⟨_, hl2⟩ n2 z2 (fun Z' H' hZ hH o' rd => bk Z' H' (fun a z => hZ a (S2.zs a z)) (fun a o e z => hH a o (kp a o e (z.imp id fun m => by rcases m with m | m <;> simp [m])) (z.imp (S2.zs a) id)) o' rd)
                      exact augOp_ok ezz ⟨l, vs, n, j, rfl, rfl, hl2, by rw [T.length]; exact hj, q2 σ _ Z2 os3 R3 Agr.refl ((S0.trans ((S2.less fun a m => List.mem_append_right _ m).wide _)).trans S3)⟩
                    · exact q2.elim
                  · exact q2.elim
                · exact q2.elim
              · exact q2.elim
            | shr => cases hz1
            | giv => cases hz1
          | obj kd c ks ds => cases kd <;> cases hz1
          | _ => cases hz1
        · exact q.elim
    · exact q.elim
end
end Mv

namespace L2
open PySem PySem.Spec PyProof.Rows
/-- three names at once -/
def tPar3 (i j l : Nat) (ta : TA) : TS := fun D σ H => ta σ H fun vs H1 => ∃ v w u, vs = [v, w, u] ∧ D.nx (((σ.set i (some v)).set j (some w)).set l (some u)) H1
theorem ps_par3 {X : Cx} {i j l : Nat} {x y z : Str} {a b c : Expr} {ta : TA} {px py pz pt pos : Pos} {kt k2 pt2} (hc : X.calm = true) (hN : X.N.Nodup) (hi : X.N[i]? = some x) (hj : X.N[j]? = some y) (hl : X.N[l]? = some z) (hij : i ≠ j) (hil : i ≠ l) (hjl : j ≠ l)
    (hx : X.env.scope.names.lookup x = some .local) (hy : X.env.scope.names.lookup y = some .local) (hz : X.env.scope.names.lookup z = some .local) (ha : PA X [a, b, c] ta)
    (hw : swappedStores [.Tuple [.Name x px, .Name y py, .Name z pz] kt pt] (.Tuple [a, b, c] k2 pt2) X.env = pure (some [x, y, z])) :
    PS X (.Assign [.Tuple [.Name x px, .Name y py, .Name z pz] kt pt] (.Tuple [a, b, c] k2 pt2) pos) (tPar3 i j l ta) := by
  refine ⟨fun pins s σ H D I h => ?_⟩
  rw [exec_Assign_arm]
  refine wpAny_bind (wpAny_standAt ?_)
  rw [show swapsWithSole [.Tuple [.Name x px, .Name y py, .Name z pz] kt pt] (.Tuple [a, b, c] k2 pt2) pos.line X.env = pure false from rfl]
  refine wpAny_bind (wpAny_pure ?_)
  rw [if_neg (by decide)]
  refine wpAny_bind (Tuple_ (thn (ha.run _ pins s σ H _ I h) fun us s1 ⟨vs, H1, I1, r1, q1⟩ => ?_))
  obtain ⟨v, w, t, e1, q1⟩ := q1
  subst e1
  obtain ⟨u1, u2, u3, rfl, rv, rw', rt⟩ : ∃ u1 u2 u3, us = [u1, u2, u3] ∧ RelV v u1 ∧ RelV w u2 ∧ RelV t u3 := by
    cases r1 with
    | cons p q =>
      cases q with
      | cons p' q' =>
        cases q' with
        | cons p2 q2 =>
          cases q2
          exact ⟨_, _, _, rfl, p, p', p2⟩
  refine wpAny_newObj_type ?_ (by show 3 ≤ sizeLine; decide)
  have I2 : Inv X pins σ H1 { s1 with heap := s1.heap.push { cls := .type "tuple", data := .seq [u1, u2, u3].toArray } } := I1.kept (t' := s1.toks) fun b o e => Heap.get?_push_of_some _ e
  rw [hw]
  refine wpAny_bind (wpAny_pure ?_)
  show wpAny (model X.prog X.w) X.A (do rule "assign.swapped-stores"; let items ← unpackItems (.ref s1.heap.objs.size) 3 none; assignInOrder [fun v => bindName X.env z v, fun v => bindName X.env y v, fun v => bindName X.env x v] items.reverse; pure Flow.next) _ _ _
  refine wpAny_bind (wpAny_rule (wpAny_bind (unpackItems_tuple (items := #[u1, u2, u3]) (I.ok.hd hc) (IsTup.new s1.heap _) fun h' hx' => ?_)))
  have I3 := I2.kept (h' := h') (t' := s1.toks) fun b o e => hx' b o (Nat.ne_of_lt (Heap.lt_size e)) e
  show wpAny _ _ (assignInOrder [fun v => bindName X.env z v, fun v => bindName X.env y v, fun v => bindName X.env x v] [u3, u2, u1] >>= fun _ => pure Flow.next) _ _ _
  refine wpAny_bind (assignInOrder_cons (wpAny_bindName (store_ok I3 hN hl (.inl hz) rt (fun s2 I4 => ?_) (.inr hz))))
  refine assignInOrder_cons (wpAny_bindName (store_ok I4 hN hj (.inl hy) rw' (fun s3 I5 => ?_) (.inr hy)))
  refine assignInOrder_cons (wpAny_bindName (store_ok I5 hN hi (.inl hx) rv (fun s4 I6 => assignInOrder_nil (wpAny_pure ?_)) (.inr hx)))
  have e : ((σ.set l (some t)).set j (some w)).set i (some v) = ((σ.set i (some v)).set j (some w)).set l (some t) := by
    rw [List.set_comm _ _ (Ne.symm hij), List.set_comm _ _ (Ne.symm hil), List.set_comm _ _ (Ne.symm hjl)]
  rw [e] at I6
  exact ⟨_, H1, I6, q1⟩
end L2
namespace Mv
open PySem L2
theorem par2_sw {x y : Str} {px py pt pt2 : Pos} {kt k2 : Nat} {a b : Expr} {env : Env} (hk : env.scope.kind = .function) (hx : env.scope.names.lookup x = some .local) (hy : env.scope.names.lookup y = some .local) (hp : (py.line == px.line) = true) (hxy : x ≠ y)
    (ha : nst a = true) (hb : nst b = true) (f1 : [a, b].all (foldedForSure 8) = false) (f2 : [a, b].all (constantsAlone 8) = false) :
    swappedStores [.Tuple [.Name x px, .Name y py] kt pt] (.Tuple [a, b] k2 pt2) env = pure (some [x, y]) := by
  have kx : env.kindOf x = some .local := hx
  have ky : env.kindOf y = some .local := hy
  have hb' : env.blockKind = .function := by unfold Env.blockKind; rw [hk]; rfl
  have dd : ([x, y] : List Str).eraseDups.length = 2 := by
    have : (x == y) = false := beq_eq_false_iff_ne.mpr hxy
    have h2 : (y == x) = false := beq_eq_false_iff_ne.mpr (Ne.symm hxy)
    simp [List.eraseDups_cons, h2]
  unfold swappedStores
  simp [hb', kx, ky, f1, f2, Expr.pos, hp, dd, List.filterMap]
  intro h
  exfalso
  rcases h with h | h
  · cases a <;> first | (cases ha; done) | (cases h; done)
  · cases b <;> first | (cases hb; done) | (cases h; done)
theorem par3_sw {x y z : Str} {px py pz pt pt2 : Pos} {kt k2 : Nat} {a b c : Expr} {env : Env} (hk : env.scope.kind = .function) (hx : env.scope.names.lookup x = some .local) (hy : env.scope.names.lookup y = some .local) (hz : env.scope.names.lookup z = some .local) (hp : (py.line == px.line) = true) (hp2 : (pz.line == px.line) = true) (hxy : x ≠ y) (hxz : x ≠ z) (hyz : y ≠ z)
    (ha : nst a = true) (hb : nst b = true) (hc : nst c = true) (f1 : [a, b, c].all (foldedForSure 8) = false) (f2 : [a, b, c].all (constantsAlone 8) = false) :
    swappedStores [.Tuple [.Name x px, .Name y py, .Name z pz] kt pt] (.Tuple [a, b, c] k2 pt2) env = pure (some [x, y, z]) := by
  have kx : env.kindOf x = some .local := hx
  have ky : env.kindOf y = some .local := hy
  have kz : env.kindOf z = some .local := hz
  have hb' : env.blockKind = .function := by unfold Env.blockKind; rw [hk]; rfl
  have dd : ([x, y, z] : List Str).eraseDups.length = 3 := by
    have h2 : (y == x) = false := beq_eq_false_iff_ne.mpr (Ne.symm hxy)
    have h3 : (z == x) = false := beq_eq_false_iff_ne.mpr (Ne.symm hxz)
    have h4 : (z == y) = false := beq_eq_false_iff_ne.mpr (Ne.symm hyz)
    simp [List.eraseDups_cons, h2, h3, h4]
  unfold swappedStores
  simp [hb', kx, ky, kz, f1, f2, Expr.pos, hp, hp2, dd, List.filterMap]
  intro h
  exfalso
  rcases h with h | h | h
  · cases a <;> first | (cases ha; done) | (cases h; done)
  · cases b <;> first | (cases hb; done) | (cases h; done)
  · cases c <;> first | (cases hc; done) | (cases h; done)

section
variable {X : Cx} {k : Kc} {sx : Option (Addr × Addr)} {W : WX} {P : Pg} {F : Nat → List D → FOut} {pos : Pos} {L : List Nat}
theorem ix_ne {x y : Str} {i j : Nat} (hi : X.N[i]? = some x) (hj : X.N[j]? = some y) (n : x ≠ y) : i ≠ j := fun e => by
  subst e
  rw [hi] at hj
  exact n (Option.some.inj hj)
/-- the values of a display that are stored one by one -/
theorem par_open {σ : St} {H : Hp} {Z : Addr → Prop} {r : En} {os : List Addr} {es : List Expr} {as : List E} {ts : List Tg} {Dn : Ends} (R : Rel k sx Z r σ H os) (q : SatS k sx W L Z H os σ (evS P F (.par ts as) r) Dn) :
    tL k sx W (evEs (evs P F as)) σ H fun vs H1 => ∃ (Z1 : Addr → Prop) (ds : List Mv.D) (r1 r2 : En) (od os1 : List Addr), Rel k sx Z1 r1 σ H1 os1 ∧ RDs k Z1 H1 ds vs od ∧ (od ++ os1).Nodup ∧ (∀ a ∈ od, ¬ Z1 a) ∧ asgT.asgs ts ds r1 = some r2 ∧ ∀ σ' os', Rel k sx Z1 r2 σ' H1 os' → (∀ a ∈ os', a ∈ od ++ os1) → Agr L σ σ' → Dn.nx σ' H1 := by
  have q : SatS k sx W L Z H os σ ((evEs (evs P F as) r).bind fun ds r => match asgT.asgs ts ds r with
    | some r1 => .ok .next r1
    | none => .bad) Dn := q
  refine ⟨Z, r, os, R, (SatS.bind q).imp fun ds r1 q1 vs H1 Z1 od os1 R1 T nd nz S1 => ?_⟩
  split at q1
  · rename_i r2 e
    exact ⟨Z1, ds, r1, r2, od, os1, R1, T, nd, nz, e, fun σ' os' R3 sub ag => q1 σ' H1 _ os' R3 ag (S1.less sub)⟩
  · exact q1.elim
theorem RDs.split1o {d : Mv.D} {ds : List Mv.D} {vs : List V} {od : List Addr} {Z : Addr → Prop} {H : Hp} (h : RDs k Z H (d :: ds) vs od) : ∃ v us o1 o2, vs = v :: us ∧ od = o1 ++ o2 ∧ RD k Z H d v o1 ∧ RDs k Z H ds us o2 := by
  cases h with
  | cons h1 h2 => exact ⟨_, _, _, _, rfl, rfl, h1, h2⟩
theorem ss_par2 {i j : Nat} {x y : Str} {a b : Expr} {ea eb : E} {px py pt pt2 : Pos} {kt k2 : Nat} (hc : X.calm = true) (hN : X.N.Nodup) (hi : X.N[i]? = some x) (hj : X.N[j]? = some y) (hxy : x ≠ y) (hk : X.env.scope.kind = .function)
    (hx : X.env.scope.names.lookup x = some .local) (hy : X.env.scope.names.lookup y = some .local) (hp : (py.line == px.line) = true) (h : SndL X k sx W P F [a, b] [ea, eb]) (ha : nst a = true) (hb : nst b = true) (f1 : [a, b].all (foldedForSure 8) = false) (f2 : [a, b].all (constantsAlone 8) = false) :
    SS X k sx W P F (.Assign [.Tuple [.Name x px, .Name y py] kt pt] (.Tuple [a, b] k2 pt2) pos) (.par [.nm i, .nm j] [ea, eb]) := fun L hL => by
  refine (ps_par hc hN hi hj (ix_ne hi hj hxy) hx hy (pa_es h) (par2_sw hk hx hy hp hxy ha hb f1 f2)).weak fun D σ H ⟨Z, r, os, R, q⟩ => ?_
  obtain ⟨Z0, r0, os0, R0, q0⟩ := par_open (es := [a, b]) R q
  refine ⟨Z0, r0, os0, R0, q0.imp fun ds r1 q1 vs H1 Z1 od os1 R1 T nd nz S1 => ?_⟩
  obtain ⟨Z2, ds2, r2, r3, od2, os2, R2, T2, nd2, nz2, e, fin⟩ := q1 vs H1 Z1 od os1 R1 T nd nz S1
  have hl := asgs_len e
  match ds2, hl with
  | [d1, d2], _ =>
    obtain ⟨v, us, oa, ob, rfl, rfl, rd1, T3⟩ := T2.split1o
    obtain ⟨w, us2, ob, oc, rfl, rfl, rd2, T4⟩ := T3.split1o
    cases T4
    obtain ⟨ra, g1, g2⟩ := Option.bind_eq_some_iff.mp (show ((asgT (.nm i) d1 r2).bind fun r' => (asgT (.nm j) d2 r').bind fun r' => some r') = some r3 from e)
    obtain ⟨rb, g3, g4⟩ := Option.bind_eq_some_iff.mp g2
    cases g4
    have g1 : (if i < r2.length then some (r2.set i (some d1)) else none) = some ra := g1
    have g3 : (if j < ra.length then some (ra.set j (some d2)) else none) = some r3 := g3
    split at g1
    · rename_i c1
      cases g1
      split at g3
      · rename_i c2
        cases g3
        obtain ⟨o1, Ra, s1⟩ := R2.put c1 rd1 (by
          refine List.Nodup.sublist ?_ nd2
          rw [List.append_assoc]
          exact List.Sublist.append (List.Sublist.refl _) (List.sublist_append_right _ _)) (fun a m => nz2 a (List.mem_append_left _ m))
        obtain ⟨o2, Rb, s2⟩ := Ra.put c2 rd2 (by
          obtain ⟨n1, n2, n3⟩ := List.nodup_append.mp nd2
          obtain ⟨n4, n5, n6⟩ := List.nodup_append.mp n1
          refine List.nodup_append.mpr ⟨(List.nodup_append.mp n5).1, Ra.nd, fun a ma b mb e => ?_⟩
          rcases List.mem_append.mp (s1 b mb) with m | m
          · exact n6 b m a (List.mem_append_left _ ma) e.symm
          · exact n3 a (List.mem_append_right _ (List.mem_append_left _ ma)) b m e) (fun a m => nz2 a (List.mem_append_right _ (List.mem_append_left _ m)))
        exact ⟨v, w, rfl, fin _ o2 Rb (fun a m => by
          rcases List.mem_append.mp (s2 a m) with m | m
          · simp [m]
          · rcases List.mem_append.mp (s1 a m) with m | m <;> simp [m]) ((set_agr.mono fun q m => hL q (by simp [stS, stT, stTs] at m ⊢; simp [m])).trans (set_agr.mono fun q m => hL q (by simp [stS, stT, stTs] at m ⊢; simp [m])))⟩
      · cases g3
    · cases g1
theorem ss_par3 {i j l : Nat} {x y z : Str} {a b c : Expr} {ea eb ec : E} {px py pz pt pt2 : Pos} {kt k2 : Nat} (hc : X.calm = true) (hN : X.N.Nodup) (hi : X.N[i]? = some x) (hj : X.N[j]? = some y) (hlz : X.N[l]? = some z) (hxy : x ≠ y) (hxz : x ≠ z) (hyz : y ≠ z) (hk : X.env.scope.kind = .function)
    (hx : X.env.scope.names.lookup x = some .local) (hy : X.env.scope.names.lookup y = some .local) (hz : X.env.scope.names.lookup z = some .local) (hp : (py.line == px.line) = true) (hp2 : (pz.line == px.line) = true) (h : SndL X k sx W P F [a, b, c] [ea, eb, ec]) (ha : nst a = true) (hb : nst b = true) (hcc : nst c = true) (f1 : [a, b, c].all (foldedForSure 8) = false) (f2 : [a, b, c].all (constantsAlone 8) = false) :
    SS X k sx W P F (.Assign [.Tuple [.Name x px, .Name y py, .Name z pz] kt pt] (.Tuple [a, b, c] k2 pt2) pos) (.par [.nm i, .nm j, .nm l] [ea, eb, ec]) := fun L hL => by
  refine (ps_par3 hc hN hi hj hlz (ix_ne hi hj hxy) (ix_ne hi hlz hxz) (ix_ne hj hlz hyz) hx hy hz (pa_es h) (par3_sw hk hx hy hz hp hp2 hxy hxz hyz ha hb hcc f1 f2)).weak fun D σ H ⟨Z, r, os, R, q⟩ => ?_
  obtain ⟨Z0, r0, os0, R0, q0⟩ := par_open (es := [a, b, c]) R q
  refine ⟨Z0, r0, os0, R0, q0.imp fun ds r1 q1 vs H1 Z1 od os1 R1 T nd nz S1 => ?_⟩
  obtain ⟨Z2, ds2, r2, r3, od2, os2, R2, T2, nd2, nz2, e, fin⟩ := q1 vs H1 Z1 od os1 R1 T nd nz S1
  have hl := asgs_len e
  match ds2, hl with
  | [d1, d2, d3], _ =>
    obtain ⟨v, us, oa, ob, rfl, rfl, rd1, T3⟩ := T2.split1o
    obtain ⟨w, us2, ob, oc, rfl, rfl, rd2, T4⟩ := T3.split1o
    obtain ⟨u, us3, oc, od, rfl, rfl, rd3, T5⟩ := T4.split1o
    cases T5
    obtain ⟨ra, g1, g2⟩ := Option.bind_eq_some_iff.mp (show ((asgT (.nm i) d1 r2).bind fun r' => (asgT (.nm j) d2 r').bind fun r' => (asgT (.nm l) d3 r').bind fun r' => some r') = some r3 from e)
    obtain ⟨rb, g3, g4⟩ := Option.bind_eq_some_iff.mp g2
    obtain ⟨rc, g5, g6⟩ := Option.bind_eq_some_iff.mp g4
    cases g6
    have g1 : (if i < r2.length then some (r2.set i (some d1)) else none) = some ra := g1
    have g3 : (if j < ra.length then some (ra.set j (some d2)) else none) = some rb := g3
    have g5 : (if l < rb.length then some (rb.set l (some d3)) else none) = some r3 := g5
    split at g1
    · rename_i c1
      cases g1
      split at g3
      · rename_i c2
        cases g3
        split at g5
        · rename_i c3
          cases g5
          obtain ⟨n1, n2, n3⟩ := List.nodup_append.mp nd2
          obtain ⟨n4, n5, n6⟩ := List.nodup_append.mp n1
          obtain ⟨n7, n8, n9⟩ := List.nodup_append.mp n5
          obtain ⟨o1, Ra, s1⟩ := R2.put c1 rd1 (List.nodup_append.mpr ⟨n4, n2, fun a ma b mb e => n3 a (List.mem_append_left _ ma) b mb e⟩) (fun a m => nz2 a (by simp [m]))
          obtain ⟨o2, Rb, s2⟩ := Ra.put c2 rd2 (by
            refine List.nodup_append.mpr ⟨n7, Ra.nd, fun a ma b mb e => ?_⟩
            rcases List.mem_append.mp (s1 b mb) with m | m
            · exact n6 b m a (by simp [ma]) e.symm
            · exact n3 a (by simp [ma]) b m e) (fun a m => nz2 a (by simp [m]))
          obtain ⟨o3, Rc, s3⟩ := Rb.put c3 rd3 (by
            refine List.nodup_append.mpr ⟨(List.nodup_append.mp n8).1, Rb.nd, fun a ma b mb e => ?_⟩
            rcases List.mem_append.mp (s2 b mb) with m | m
            · exact n9 b m a (by simp [ma]) e.symm
            · rcases List.mem_append.mp (s1 b m) with m | m
              · exact n6 b m a (by simp [ma]) e.symm
              · exact n3 a (by simp [ma]) b m e) (fun a m => nz2 a (by simp [m]))
          exact ⟨v, w, u, rfl, fin _ o3 Rc (fun a m => by
            rcases List.mem_append.mp (s3 a m) with m | m
            · simp [m]
            · rcases List.mem_append.mp (s2 a m) with m | m
              · simp [m]
              · rcases List.mem_append.mp (s1 a m) with m | m <;> simp [m]) (((set_agr.mono fun q m => hL q (by simp [stS, stT, stTs] at m ⊢; simp [m])).trans (set_agr.mono fun q m => hL q (by simp [stS, stT, stTs] at m ⊢; simp [m]))).trans (set_agr.mono fun q m => hL q (by simp [stS, stT, stTs] at m ⊢; simp [m])))⟩
        · cases g5
      · cases g3
    · cases g1
end
end Mv

set_option maxHeartbeats 2000000
/-! An own exception whose inherited __init__ says super().__init__("refused") and stores what it is given. -/
namespace Mv
open PySem PySem.W PySem.Calls PyProof.Rows PySem.HandSPX
def rfArgs (p1 p2 : Pos) : Arguments := { posonlyargs := [], args := [{ arg := "self", annotation := none, pos := p1 }, { arg := "what", annotation := none, pos := p2 }], vararg := none, kwonlyargs := [], kw_defaults := [], kwarg := none, defaults := [] }
def rfBody (p0 p1 p2 p3 p4 p5 q1 q2 q3 q4 : Pos) (j : Nat) : List Stmt := [.Expr (.Call (.Attribute (.Call (.Name "super" p0) [] [] p1) "__init__" p2) [.Constant (.str "refused") j p3] [] p4) p5, .Assign [.Attribute (.Name "self" q1) "what" q2] (.Name "what" q3) q4]
def rfScope : Scope := { kind := .function, names := [(PySem.Str.ofString "self", .local), (PySem.Str.ofString "what", .local), (PySem.Str.ofString "__class__", .free), (PySem.Str.ofString "super", .globalImplicit)], isGenerator := false, isCoroutine := false, more := [] }
/-- what the written part says of __init__, at fI, in the class at B, whose cell is at cc -/
structure RfFn (P : Program) (K : Frag) (B cc fI : Addr) : Prop where
  fn : ∃ (oc : Value) (od : Option Addr) (doc pm : Value) (an : Option Addr) (cda : Addr) (ct : Value) (osl : Array (Option Value)) (p1 p2 : Pos) (q0 q1 q2 q3 q4 q5 q6 q7 q8 q9 : Pos) (j : Nat),
    K.lookup fI = some ⟨oc, od, .func (ksFn "__init__" "Refused.__init__" (rfArgs p1 p2) (rfBody q0 q1 q2 q3 q4 q5 q6 q7 q8 q9 j) rfScope .none .none doc pm an (.ref cda) ct cc), osl⟩ ∧ codeIn K (.ref cda) "Refused.__init__" = true ∧ (q2.endLine == q4.line) = true ∧
    ∃ (ccl : Value) (cdd : Option Addr) (ccs : Array (Option Value)) (vs : Array Value) (file : Str) (tf : Tok), K.lookup cda = some ⟨ccl, cdd, .fields vs, ccs⟩ ∧ vs[2]? = some (.str file tf) ∧ ((P.main.file : Str) == file) = true
  cell : ∃ cl cld csl, K.lookup cc = some ⟨cl, cld, .cell (some (.ref B)), csl⟩
  base : ∃ cd, clsIn K B = some cd
  sup : nsIn K mainGlobals "super" = some none
  top : (P.main.scope.names.lookup ("super" : Str)).isSome = false
  any : nsIn K cStatics "thirdparty.any" = some none
  tI : typeIn K (.ref fI) = some (.type "function")
/-- .. of a class over it, at C -/
structure RfCls (K : Frag) (bmB : List Value) (B C fI : Addr) : Prop where
  cls : ∃ nm q N bs bm sn sub ab col dd k0 k1 k2 k3 k5, K.lookup C = some (excClassObj nm q C N bs bm true sn sub ab col dd k0 k1 k2 k3 k5 "ValueError.__new__") ∧ refsVE bm = true
  sa : findIn K (.ref C) "__setattr__" = some (some (.builtin "object.__setattr__"))
  noN : findIn K (.ref C) "what" = some none
  iC : findIn K (.ref C) "__init__" = some (some (.ref fI))
  kC : keepIn K (.ref C) = true
  exC : subIn K (.ref C) (.type "BaseException") = some true
  veC : subIn K (.ref C) (.type "ValueError") = some true
  tyC : typeIn K (.ref C) = some (.type "type")
  mB : mroIn K C (.ref B) = some true
  sup : ks_superIn K C B "__init__" = some (some (.builtin "ValueError.__init__"))
  ini : excInitIn K C bmB "ValueError.__new__" = true
theorem super_form {o : Expr} {n c : Str} {j : Nat} {apos cpos p : Pos} {env : Env} (line : (apos.endLine == cpos.line) = true) : ∃ pl : Sem Bool, eval (.Call (.Attribute o n apos) [.Constant (.str c) j p] [] cpos) env = (do
      let ov ← attributeBase o n env (eval o env)
      standAt apos.atName
      let (f, first) ← holding [ov] (getMethod ov n pl)
      callWith cpos f first (backTo cpos (starEach [.Constant (.str c) j p] env)) []) := by
  refine ⟨(do return (← importBound o env).getD true), ?_⟩
  have hpos : methodCallPos true o env apos cpos = pure cpos := by unfold methodCallPos; simp [line]
  have hform : methodCallForm ([Expr.Constant (.str c) j p].length + ([] : List Keyword).length) (backTo cpos (starEach [.Constant (.str c) j p] env)) (backToKw cpos (keywordEach [] env)) = true := by rfl
  rw [PySem.arm_eval_Call]
  unfold methodCall calleeOf
  simp only [hform, hpos, if_true]
  rfl
theorem rf_size (v : Value) : [v].length ≤ sizeLine := by
  rw [sizeLine_eq]
  exact (by decide : 1 ≤ 16777216)
/-- what __init__ leaves of a fresh exception at x -/
structure RfEnd (h h' : Heap) (x C dx : Addr) (v : Value) : Prop where
  keep : ∀ b o, b ≠ x → h.get? b = some o → h'.get? b = some o
  obj : ∃ t1 : Addr, h'.get? x = some { cls := .ref C, dict := some dx, data := .fields #[.ref t1, .none, .none, .none, .bool false, .none] }
  dbig : h.objs.size ≤ dx
  dne : dx ≠ x
  ns : h'.Ns1 dx (fun y => if y = "what" then some v else none)
structure RfMade (h h' : Heap) (e C d : Addr) (v : Value) : Prop where
  keep : ∀ b o, h.get? b = some o → h'.get? b = some o
  new : h.objs.size ≤ e
  obj : ∃ oe vs, h'.get? e = some oe ∧ oe.cls = .ref C ∧ oe.dict = some d ∧ oe.data = .fields vs ∧ vs[1]? = some .none
  dbig : h.objs.size ≤ d
  dne : d ≠ e
  ns : h'.Ns1 d (fun y => if y = "what" then some v else none)
section
variable {P : Program} {w : World} {A : Around} {R : Result → Shared → Prop} {s : Shared} {K : Frag} {mg : Str → Option Value} {base : Heap} {B C cc fI : Addr} {bmB : List Value}
theorem rf_init (T : RfFn P K B cc fI) (TC : RfCls K bmB B C fI) (FB : ExcBaseFacts "ValueError" "ValueError.__new__" "ValueError.__init__" bmB) (M : L2.Mod K mg base) (hbk : ∀ b o, base.get? b = some o → s.heap.get? b = some o) (hbs : base.objs.size ≤ s.heap.objs.size) {x t0 : Addr} {v : Value}
    (hx : s.heap.get? x = some (excO C t0)) (hnx : K.lookup x = none) (hnb : base.get? x = none) (hroom : A.depth < recursionLimit)
    (hq : ∀ h' tk dx, RfEnd s.heap h' x C dx v → R (.ok (.ret .none)) { s with heap := h', toks := tk }) :
    codeAny (model P w) A (.call (.ref fI) ⟨[.ref x, v], []⟩) R s := by
  obtain ⟨oc, od, doc, pm, an, cda, ct, osl, p1, p2, q0, q1, q2, q3, q4, q5, q6, q7, q8, q9, j, ho, hcd, line, ccl, cdd, ccs, vs, file, tf, hcode, hvs, hfile⟩ := T.fn
  obtain ⟨cl, cld, csl, hcell⟩ := T.cell
  obtain ⟨cdB, hB⟩ := T.base
  obtain ⟨nm, q, N, bs, bm, sn, sub, ab, col, dd, k0, k1, k2, k3, k5, hC, hbm⟩ := TC.cls
  have hcl : clsIn K C = some { name := nm, bases := bs, mro := .ref C :: bm, ns := N, qualname := q, hasDict := true, slotNames := sn, subclasses := sub, abstract := ab, collection := col, hasDel := false } := by unfold clsIn; rw [hC] <;> rfl
  have X : K.In s.heap := M.kin.keeps hbk
  have hlim : s.heap.NoLimit := M.nolimit.keeps hbk
  refine ks_codeAny_call_defAt (fd := ksFn "__init__" "Refused.__init__" (rfArgs p1 p2) (rfBody q0 q1 q2 q3 q4 q5 q6 q7 q8 q9 j) rfScope .none .none doc pm an (.ref cda) ct cc) (body := rfBody q0 q1 q2 q3 q4 q5 q6 q7 q8 q9 j) (binds := [("self", .ref x), ("what", v)]) hroom (X _ _ ho) rfl hlim (codeRec_of X hcd) rfl (BindsTo.of_eq rfl) (show ∀ x ∈ rfScope.names, x.2 ≠ .cell by decide) (fun y hy => ?_) (fun h₁ hns hk => ?_)
  · rcases List.mem_cons.mp hy with rfl | hy
    · rfl
    · rcases List.mem_cons.mp hy with rfl | hy
      · rfl
      · cases hy
  · -- the frame over what stood, less the exception
    have hxL : s.heap.objs.size ≠ x := Nat.ne_of_gt (Heap.lt_size hx)
    obtain ⟨G, gz, gx, gof, gto⟩ : ∃ G : Heap, G.objs.size = s.heap.objs.size ∧ G.get? x = none ∧ (∀ b o, G.get? b = some o → s.heap.get? b = some o) ∧ ∀ b o, b ≠ x → s.heap.get? b = some o → G.get? b = some o :=
      ⟨hideAll s.heap [x], hideAll_size _ _, hideAll_none _ List.mem_cons_self, fun b o e => of_hideAll _ e, fun b o n e => hideAll_get _ e fun z => n (List.mem_singleton.mp z)⟩
    have bG : ∀ b o, base.get? b = some o → G.get? b = some o := fun b o e => gto b o (fun z => by rw [z, hnb] at e; cases e) (hbk b o e)
    have KG : K.In G := M.kin.keeps bG
    have F1 : Fr G s.heap.objs.size h₁ _ := ⟨hns, fun b o e => hk b o (gof b o e), Nat.le_of_eq gz⟩
    have N1 : News G s.heap.objs.size h₁ [(x, excO C t0)] := fun p hp => by
      obtain rfl := List.mem_singleton.mp hp
      exact ⟨hk _ _ hx, Ne.symm hxL, gx⟩
    have self1 : ∀ {m : Str → Option Value}, m = (fun y => ([(("self" : Str), Value.ref x), ("what", v)] : List (Str × Value)).reverse.lookup y) → m "self" = some (.ref x) ∧ m "what" = some v := fun {m} e => by
      subst e
      exact ⟨rfl, rfl⟩
    obtain ⟨ms, mw⟩ := self1 rfl
    obtain ⟨mb, hmb, hbb⟩ := M.blt
    obtain ⟨pl, hf⟩ := super_form (o := .Call (.Name "super" q0) [] [] q1) (n := "__init__") (c := "refused") (j := j) (apos := q2) (cpos := q4) (p := q3) (env := ksEnv "Refused.__init__" rfScope s.heap.objs.size fI (.ref cda) cc) line
    refine ks_wpAt_execs_cons (ks_wpAt_Expr_any (ks_wpAt_MethodCall (pl := pl) ?_ hf) rfl rfl)
    have X1 : K.In h₁ := KG.keeps F1.keep
    have I1 : W.InstAt h₁ x (excO C t0) C none := ⟨hk _ _ hx, rfl, rfl, trivial⟩
    obtain ⟨oB, hoB, hoBd⟩ : ∃ oB, h₁.get? B = some oB ∧ oB.data = .cls cdB := by
      unfold clsIn at hB
      split at hB
      · rename_i c' d' cd' sl' e'
        cases hB
        exact ⟨_, X1 _ _ e', rfl⟩
      · cases hB
    refine ks_wpAt_super_base (fd := ksFn "__init__" "Refused.__init__" (rfArgs p1 p2) (rfBody q0 q1 q2 q3 q4 q5 q6 q7 q8 q9 j) rfScope .none .none doc pm an (.ref cda) ct cc) (cc := cda) rfl rfl rfl rfl (X1 _ _ ho) rfl rfl rfl (X1 _ _ hcode) rfl hvs hfile T.top ?_
    refine ks_loadName_global rfl rfl (loadGlobal_builtin (M.glob.keeps fun b o e => F1.keep b o (bG b o e)) (mg_none_of M.kin M.glob T.sup) (hmb.keeps fun b o e => F1.keep b o (bG b o e)) ((hbb _ (by decide +kernel)).trans (by decide +kernel)) ⟨rfl, ?_⟩)
    refine wpAny_loadName_free rfl rfl rfl ⟨_, X1 _ _ hcell, rfl⟩ ?_
    refine wpAny_loadName_local rfl rfl F1.ns ms ?_
    refine ks_wpAny_isType_cls hoB hoBd ⟨rfl, ?_⟩
    refine ks_wpAny_call_super hoB hoBd I1.at_ I1.cls (fun c e => by cases e) (looks_mroIn X1 TC.mB) (fun h2 e2 k2 => ?_)
    obtain ⟨F2, N2, _⟩ := ks_newsPush (s := { s with heap := h₁, toks := s.toks + 2 }) F1 N1 rfl e2 k2
    refine kxs_method (s := { s with heap := h2, toks := s.toks + 2 }) kxs_ValueError F2 KG N2 List.mem_cons_self (ox := excO C t0) (odx := none) ⟨k2 _ _ (hk _ _ hx), rfl, rfl, trivial⟩ T.any TC.sup TC.veC rfl (fun u h3 F3 N3 l3 => ?_)
    refine kxs_callWith1 N3 List.mem_cons_self (spliced_cons (wpAny_Constant_str (k := j) (pos := q3) (spliced_nil ⟨kxs_at N3 List.mem_cons_self, ?_⟩))) rfl rfl
    have ux : u ≠ x := fun e => Nat.lt_irrefl _ (e ▸ l3 (x, excO C t0) (by simp))
    refine kxs_call (dv := none) (c2 := .none) F3 KG N3 FB TC.ini List.mem_cons_self (UpdF.tail ux (UpdF.tail ?_ (UpdF.head (fun p hp => by cases hp)))) (rf_size _) (fun t4 h4 F4 N4 l4 => ?_)
    · exact fun e => by
        have := N2 (h₁.objs.size, ks_superObj B x C) List.mem_cons_self
        have e' : h₁.objs.size = x := e
        exact absurd (Heap.lt_size (hk _ _ hx)) (by rw [e']; exact Nat.lt_irrefl _)
    have hx4 : h4.get? x = some (excO C t4) := (N4 (x, excObj C t4 none .none) (by simp)).1
    have keep4 : ∀ b o, b ≠ x → s.heap.get? b = some o → h4.get? b = some o := fun b o n e => F4.keep b o (gto b o n e)
    have X4 : K.In h4 := KG.keeps F4.keep
    refine wpAt_of_wpAny (wpAny_execs_cons (plainObj_wpAny_Assign_Attribute ?_))
    refine wpAny_Name (wpAny_loadName_local rfl rfl F4.ns mw ?_) rfl
    refine wpAny_Name (wpAny_loadName_local rfl rfl F4.ns ms ?_) rfl
    refine set_plain X4 (ox := excO C t4) (od := none) ⟨hx4, rfl, rfl, trivial⟩ TC.sa ?_
    refine exc_osa X4 hx4 hcl (show refsVE (.ref C :: bm) = true from hbm) rfl TC.noN (fun h5 tk5 dx k5 dn dne hx5 hn5 => ?_)
    have z4 : s.heap.objs.size < h4.objs.size := F4.ns.lt
    exact wpAny_execs_nil (hq h5 tk5 dx ⟨fun b o n e => k5 b o n (keep4 b o n e), ⟨t4, hx5⟩, Nat.le_of_lt (Nat.lt_of_lt_of_le z4 dn), dne, hn5⟩)
end
end Mv

set_option maxHeartbeats 2000000
namespace Mv
open PySem PySem.W PySem.Calls PyProof.Rows PySem.HandSPX
section
variable {P : Program} {w : World} {A : Around} {R : Result → Shared → Prop} {s : Shared} {K : Frag} {mg : Str → Option Value} {base : Heap} {B C cc fI : Addr} {bmB : List Value}
theorem rf_made (T : RfFn P K B cc fI) (TC : RfCls K bmB B C fI) (FB : ExcBaseFacts "ValueError" "ValueError.__new__" "ValueError.__init__" bmB) (M : L2.Mod K mg base) (hbk : ∀ b o, base.get? b = some o → s.heap.get? b = some o) (hbs : base.objs.size ≤ s.heap.objs.size) {v : Value} (hroom : A.depth + 1 < recursionLimit)
    (hq : ∀ h' tk e d, RfMade s.heap h' e C d v → R (.ok (.ret (.ref e))) { s with heap := h', toks := tk }) :
    codeAny (model P w) A (.call (.ref C) ⟨[v], []⟩) R s := by
  obtain ⟨nm, q, N, bs, bm, sn, sub, ab, col, dd, k0, k1, k2, k3, k5, hC, hbm⟩ := TC.cls
  have X : K.In s.heap := M.kin.keeps hbk
  obtain ⟨hp, g, dr, tk, os⟩ := s
  have k : ∀ b o, hp.get? b = some o → ((hp.push (kdv_tup [v])).push (excO C hp.objs.size)).get? b = some o := fun b o e => Heap.get?_push_of_some _ (Heap.get?_push_of_some _ e)
  have hget : ((hp.push (kdv_tup [v])).push (excO C hp.objs.size)).get? (hp.objs.size + 1) = some (excO C hp.objs.size) := by heap_get
  have hnew : ∀ o, hp.get? (hp.objs.size + 1) ≠ some o := fun o z => Nat.lt_irrefl _ (Nat.lt_of_succ_lt (Heap.lt_size z))
  have hnx : K.lookup (hp.objs.size + 1) = none := by
    cases e : K.lookup (hp.objs.size + 1) with
    | none => rfl
    | some o => exact absurd (X _ _ e) (hnew o)
  have hnb : base.get? (hp.objs.size + 1) = none := by
    cases e : base.get? (hp.objs.size + 1) with
    | none => rfl
    | some o => exact absurd (hbk _ _ e) (hnew o)
  refine call_own F.excBase_ValueError (fun X => refsVE_contains X bm hbm) (X _ _ hC) (looks_findIn X TC.iC) (fun self => bind_fn X self T.tI) (rf_size v) ?_
  refine rf_init (s := ⟨(hp.push (kdv_tup [v])).push (excO C hp.objs.size), g, dr, tk, os⟩) T TC FB M (fun b o e => k b o (hbk b o e)) (by show base.objs.size ≤ ((hp.push _).push _).objs.size; rw [Heap.size_push, Heap.size_push]; exact Nat.le_succ_of_le (Nat.le_succ_of_le hbs)) hget hnx hnb ?_ fun h' tk' dx E => ?_
  · show A.depth + 1 < recursionLimit
    exact hroom
  · have old : ∀ b o, hp.get? b = some o → h'.get? b = some o := fun b o e => E.keep b o (fun z => hnew o (z ▸ e)) (k b o e)
    have z : hp.objs.size ≤ dx := by
      have q := E.dbig
      rw [show (Shared.heap ⟨(hp.push (kdv_tup [v])).push (excO C hp.objs.size), g, dr, tk, os⟩) = (hp.push (kdv_tup [v])).push (excO C hp.objs.size) from rfl, Heap.size_push, Heap.size_push] at q
      omega
    obtain ⟨t1, ho⟩ := E.obj
    exact ⟨rfl, hq h' tk' (hp.objs.size + 1) dx ⟨old, Nat.le_succ _, ⟨_, _, ho, rfl, rfl, rfl, rfl⟩, z, E.dne, E.ns⟩⟩
end
end Mv
namespace Mv
open PySem PySem.Spec PyProof.Rows L2
theorem relO_what {v : V} {v' : Value} (r : RelV v v') (f : Str) : RelO (List.lookup f [(("what" : Str), v)]) (if f = "what" then some v' else none) := by
  by_cases hw : f = "what"
  · subst hw
    rw [if_pos rfl]
    have q : List.lookup ("what" : Str) [(("what" : Str), v)] = some v := by simp [List.lookup]
    rw [q]
    exact r
  · rw [if_neg hw]
    have qw : (f == ("what" : Str)) = false := by simpa using hw
    have q2 : List.lookup f [(("what" : Str), v)] = none := by simp [List.lookup, qw]
    rw [q2]
    trivial
section
variable {X : Cx} {B C cc fI : Addr} {bmB : List Value}
/-- BadX(e) -/
def tMkR (C : Addr) (ta : TA) : L2.St → Hp → XK → Prop := fun σ H Q => ta σ H fun vs H1 => ∃ v, vs = [v] ∧ ∀ d, H1 d = none → Q (.ref C) (some d) (upd H1 d (.xd [(("what" : Str), v)]))
theorem pmk_rf {a : Expr} {ta : TA} {x : Str} {p pos : Pos} {k : Nat} (T : RfFn X.prog X.K B cc fI) (TC : RfCls X.K bmB B C fI) (FB : ExcBaseFacts "ValueError" "ValueError.__new__" "ValueError.__init__" bmB) (gC : X.mg x = some (.ref C)) (hr : Room k X.A) (ha : PA X [a] ta) (hg : Gl X x) (hdb : (x == ("__debug__" : Str)) = false)
    (he : starEach (a :: []) X.env = (false, eval a X.env) :: starEach [] X.env) (hpl : (backTo pos (starEach [] X.env)).any (·.1) = false := by rfl) :
    PMk X (.Call (.Name x p) [a] [] pos) (tMkR C ta) := by
  intro pins s σ H Q I h
  refine wpAny_Call_Name_kw (ld_glob I hg gC ?_ hdb)
  refine PySem.W.callWith_K (h₀ := X.base) I.ok.mod.kin TC.kC (thn (ha.run pos pins s σ H _ I h) fun us s1 hh => ?_) he hpl
  obtain ⟨vs, H1, I1, r1, v, ev, q1⟩ := hh
  subst ev
  refine ⟨I1.kIn, ?_⟩
  cases r1 with
  | cons rv rn =>
    rename_i v' us'
    cases rn
    show wpAny _ _ (call (.ref C) [v']) _ _ _
    have hbs : X.base.objs.size ≤ s1.heap.objs.size := Nat.le_trans I1.ok.bsz I1.sz
    have hbk := I1.bk
    obtain ⟨hp, g, dr, tk, os⟩ := s1
    refine wpAny_call (rf_made T TC FB I1.mod hbk hbs (by have := hr.dp; omega) fun h' tk' e d M => ?_)
    show MkP X pins σ Q (.ref e) ⟨h', g, dr, tk', os⟩
    obtain ⟨oe, fv, hoe, hc, hd, hdat, h1⟩ := M.obj
    have hns := M.ns
    obtain ⟨G', g1, g2⟩ := restrict h' fun b => decide (b ≠ e)
    have gk : ∀ b, b ≠ e → G'.get? b = h'.get? b := fun b hb => g1 b (decide_eq_true hb)
    have ge : G'.get? e = none := g2 e (by simp)
    have old : ∀ b o, hp.get? b = some o → G'.get? b = some o := fun b o q => (gk b (Nat.ne_of_lt (Nat.lt_of_lt_of_le (Heap.lt_size q) M.new))).trans (M.keep b o q)
    have ob : ObjOk X.prog X.w (upd H1 d (.xd [(("what" : Str), v)])) G' d (.xd [(("what" : Str), v)]) :=
      ⟨_, hns.at (fun o q => (gk d M.dne).trans q), fun f => relO_what rv f⟩
    have J : Inv X pins σ (upd H1 d (.xd [(("what" : Str), v)])) ⟨G', g, dr, tk', os⟩ := I1.laid (t' := tk') old M.dbig ob
    refine ⟨e, oe, fv, ⟨G', g, dr, tk', os⟩, _, .ref C, some d, rfl, J, fun b o q => ?_, ge, hoe, ⟨hc, hd⟩, hdat, h1, ?_, rfl, I1.bare, raises_own TC.exC TC.tyC, q1 d (I1.hok.fresh M.dbig)⟩
    · by_cases hb : b = e
      · have q' : G'.get? b = some o := q
        rw [hb, ge] at q'; cases q'
      · exact (gk b hb).symm.trans q
    · rw [upd_ne (Ne.symm M.dne)]
      exact I1.hok.fresh M.new
end
end Mv

set_option maxHeartbeats 2000000
/-! try with any number of except clauses, each with a name or without one -/
namespace Mv
open PySem PySem.Spec PyProof.Rows L2
/-- an exception has come down to the frame that catches -/
structure Ld (X : Cx) (pins : List (Addr × Obj)) (σ : L2.St) (H : Hp) (a : Addr) (cls : Value) (d : Option Addr) (B : Heap) (sI s : Shared) (h : Heap) : Prop where
  inv0 : Inv X pins σ H sI
  gnd : ∀ b o, sI.heap.get? b = some o → b ∉ frs X.stack → B.get? b = some o
  up : sI.heap.UpToSlots h
  fly : HandSPX.FlyingZ B (X.env :: X.outer) a (Zc cls d) h
  free : H a = none
  os : s.os = sI.os
  bare : AllBare s.gens
section
variable {X : Cx} {pins : List (Addr × Obj)} {σ : L2.St} {H : Hp} {a : Addr} {cls : Value} {d : Option Addr} {B : Heap} {sI s : Shared} {h h' : Heap}
theorem Ld.go (l : Ld X pins σ H a cls d B sI s h) (f : HandSPX.FlyingZ B (X.env :: X.outer) a (Zc cls d) h') (u : h.UpToSlots h') : Ld X pins σ H a cls d B sI s h' :=
  ⟨l.inv0, l.gnd, l.up.trans u, f, l.free, l.os, l.bare⟩
theorem Ld.inv (l : Ld X pins σ H a cls d B sI s h) : Inv X pins σ H { s with heap := h } := l.inv0.landed (s' := { s with heap := h }) l.gnd l.fly.1 l.up l.os l.bare
theorem Ld.at_ (l : Ld X pins σ H a cls d B sI s h) (hf : X.env.frame = some X.env.locals) : ∃ oe vs, h.get? a = some oe ∧ Zc cls d oe ∧ oe.data = .fields vs ∧ a ≠ X.env.locals ∧ a ∉ X.fs := by
  obtain ⟨oe, vs, h1, h2, h3⟩ := l.fly.there
  have no : a ∉ frs (X.env :: X.outer) := fun m => by
    obtain ⟨_, o2, g1, g2⟩ := l.fly.2.2.1.mem m
    rw [h1] at g1
    cases g1
    exact g2 _ h3
  refine ⟨oe, vs, h1, h2, h3, fun z => no ?_, fun m => no ?_⟩
  · exact List.mem_filterMap.mpr ⟨X.env, List.mem_cons_self, by rw [hf, z]⟩
  · obtain ⟨e, g1, g2⟩ := List.mem_filterMap.mp m
    exact List.mem_filterMap.mpr ⟨e, List.mem_cons_of_mem _ g1, g2⟩
/-- the suite's state -/
theorem Ld.suite (l : Ld X pins σ H a cls d B sI s h) (hf : X.env.frame = some X.env.locals) : ∃ oe, Zc cls d oe ∧ (∃ vs, oe.data = .fields vs) ∧ h.get? a = some oe ∧ Inv (X.suite a ((a, oe) :: (X.pn ++ pins))) [] σ H { s with heap := h } := by
  obtain ⟨oe, vs, h1, h2, h3, h4, h5⟩ := l.at_ hf
  exact ⟨oe, h2, ⟨vs, h3⟩, h1, l.inv.suite h1 h3 l.free h4 h5⟩
end
/-- a clause: the class, the name's slot, what the suite wants -/
structure HdK where
  c : Value
  i : Option Nat
  ts : Addr → Value → Option Addr → TS
def inSt (i : Option Nat) (a : Addr) (σ : L2.St) : L2.St := match i with
  | none => σ
  | some j => σ.set j (some (.ref a))
def outSt1 (i : Option Nat) (σ : L2.St) : L2.St := match i with
  | none => σ
  | some j => σ.set j none
def endSt (i : Option Nat) (D : Ends) : Ends := { nx := fun σ H => D.nx (outSt1 i σ) H, rt := D.rt, bk := fun σ H => D.bk (outSt1 i σ) H, ct := fun σ H => D.ct (outSt1 i σ) H }
def wMix (K : PySem.W.Frag) (Wout : WX) (D : Ends) : List HdK → WX
  | [] => Wout
  | q :: r => fun cls d σ H => ∃ b, PySem.W.exmOne K cls q.c = some b ∧ (b = true → ∀ a, H a = none → q.ts a cls d (endSt q.i D) (inSt q.i a σ) H) ∧ (b = false → wMix K Wout D r cls d σ H)
inductive HdOk (X : Cx) : ExceptHandler → HdK → Prop
  | plain {x : Str} {c : Value} {ts : Addr → Value → Option Addr → TS} {b : Stmt} {bs : List Stmt} {np hp : Pos} : Names X x c →
      (∀ (a : Addr) (oe : Obj) (cls : Value) (d : Option Addr) (pn : List (Addr × Obj)), Zc cls d oe → (∃ vs, oe.data = .fields vs) → PSs (X.suite a ((a, oe) :: pn)) (b :: bs) (ts a cls d)) → HdOk X (.ExceptHandler (some (.Name x np)) none (b :: bs) hp) ⟨c, none, ts⟩
  | named {x n : Str} {i : Nat} {c : Value} {ts : Addr → Value → Option Addr → TS} {b : Stmt} {bs : List Stmt} {np hp : Pos} : Names X x c → X.N[i]? = some n → X.env.kindOf n = some .local →
      (∀ (a : Addr) (oe : Obj) (cls : Value) (d : Option Addr) (pn : List (Addr × Obj)), Zc cls d oe → (∃ vs, oe.data = .fields vs) → PSs (X.suite a ((a, oe) :: pn)) (b :: bs) (ts a cls d)) → HdOk X (.ExceptHandler (some (.Name x np)) (some n) (b :: bs) hp) ⟨c, some i, ts⟩
inductive HdsMx (X : Cx) : List ExceptHandler → List HdK → Prop
  | nil : HdsMx X [] []
  | cons {e : ExceptHandler} {q : HdK} {es : List ExceptHandler} {qs : List HdK} : HdOk X e q → HdsMx X es qs → HdsMx X (e :: es) (q :: qs)
section
variable {X : Cx} {pins : List (Addr × Obj)} {σ : L2.St} {H : Hp} {a : Addr} {cls : Value} {d : Option Addr} {B : Heap} {sI s : Shared} {h : Heap} {D : Ends} {Wout : WX}
/-- no clause fits: it flies on -/
theorem Ld.on (l : Ld X pins σ H a cls d B sI s h) (hs : X.stack = X.env :: X.outer) (hf : X.env.frame = some X.env.locals) (tk : Takes X Wout) (w : Wout cls d σ H) :
    wpAny (model X.prog X.w) X.A (handleBy (.ref a) X.env []) (SP X pins D) X.xe { s with heap := h } := by
  refine wpAny_handleBy_nil ?_
  have last : wpAny (model X.prog X.w) X.A (setFlight (.ref a) X.env.frame) (fun _ z => wpAny (model X.prog X.w) X.A (throw (.ref a) : Sem Flow) (SP X pins D) X.xe z) X.xe { s with heap := h } := by
    rw [hf]
    refine HandSPX.setFlight_upZ l.fly fun h2 held up2 => wpAny_throw (tk _ _ ⟨a, B, sI, pins, σ, H, cls, d, rfl, l.inv0, l.gnd, l.up.trans up2, .inr (.inr ?_), l.free, l.os, l.bare, w⟩)
    rw [hs]
    exact held
  obtain ⟨-, -, -, oe, vs, T, -, -, f1, -, f2, f3, -⟩ := l.fly
  unfold PySem.passOn
  refine wpAny_bind (wpAny_field f1 f2 f3 ?_)
  have ne : ¬ ((Value.ref T == Value.none) = true) := by simp
  rw [if_neg ne]
  first
    | exact wpAny_bind (wpAny_pure (wpAny_bind last))
    | exact wpAny_bind last
/-- the test of a clause -/
theorem Ld.test (l : Ld X pins σ H a cls d B sI s h) (hf : X.env.frame = some X.env.locals) {x : Str} {c : Value} {np : Pos} {b : Bool} (hc : Names X x c) (hb : PySem.W.exmOne X.K cls c = some b) {Q : Bool → Shared → Prop} {E : Value → Shared → Prop} (q : Q b { s with heap := h }) :
    wpAny (model X.prog X.w) (X.A.mark (some (.ref a))) (eval (.Name x np) X.env) (fun u z => wpAny (model X.prog X.w) (X.A.mark (some (.ref a))) (excMatches (.ref a) u) Q E z) E { s with heap := h } := by
  obtain ⟨oe, zc, -, he, S⟩ := l.suite hf
  have ty : PySem.W.Looks (model X.prog X.w) h (typeOf (.ref a)) cls := fun A Q E s k q => wpAny_typeOf_ref (k _ _ he) (by rw [zc.1]; exact q)
  have mt := (PySem.W.exm_one (M := model X.prog X.w) l.inv.kIn ty hb).here (s := { s with heap := h }) (A := X.A.mark (some (.ref a))) (E := E) q
  obtain ⟨hg, hd, hm | ⟨hm, hv, hn⟩⟩ := hc
  · exact ld_glob (X := X.suite a ((a, oe) :: (X.pn ++ pins))) S hg hm mt hd
  · exact ld_blt (X := X.suite a ((a, oe) :: (X.pn ++ pins))) S hg hm hv mt hn hd
theorem hands (hs : X.stack = X.env :: X.outer) (hf : X.env.frame = some X.env.locals) (hN : X.N.Nodup) (tk : Takes X Wout) {es : List ExceptHandler} {qs : List HdK} (hh : HdsMx X es qs) (l : Ld X pins σ H a cls d B sI s h) (w : wMix X.K Wout D qs cls d σ H) :
    wpAny (model X.prog X.w) X.A (handleBy (.ref a) X.env es) (SP X pins D) X.xe { s with heap := h } := by
  have ok := l.inv0.ok
  induction hh with
  | nil => exact l.on hs hf tk w
  | cons h1 _ ih =>
    obtain ⟨b, w1, w2, w3⟩ := w
    cases h1 with
    | @plain x c ts b0 bs np hp hc hsu =>
      refine wpAny_handleBy_cons (codeAny_handlers_test (l.test hf hc w1 ?_)) (by intro q; cases q)
      cases b with
      | false => exact ih (w3 rfl)
      | true =>
        refine codeAny_handlers_suite (HandSPX.lands_againZ l.fly fun h4 f4 u4 => ?_)
        obtain ⟨oe, zc, hd, -, S⟩ := (l.go f4 u4).suite hf
        refine wpAny_mono ((hsu a oe cls d (X.pn ++ pins) zc hd).run [] _ _ H _ S (w2 rfl a l.free)) (fun f s6 q => ?_) (fun _ _ z => z.elim)
        cases f with
        | ret u => obtain ⟨v, σ6, H6, S6, q1, q2⟩ := q; exact ⟨v, σ6, H6, S6.unsuite ok, q1, q2⟩
        | next => obtain ⟨σ6, H6, S6, q1⟩ := q; exact ⟨σ6, H6, S6.unsuite ok, q1⟩
        | brk => obtain ⟨σ6, H6, S6, q1⟩ := q; exact ⟨σ6, H6, S6.unsuite ok, q1⟩
        | cont => obtain ⟨σ6, H6, S6, q1⟩ := q; exact ⟨σ6, H6, S6.unsuite ok, q1⟩
    | @named x n i c ts b0 bs np hp hc hi hln hsu =>
      refine wpAny_handleBy_cons (codeAny_handlers_test (l.test hf hc w1 ?_)) (by intro q; cases q)
      cases b with
      | false => exact ih (w3 rfl)
      | true =>
        refine codeAny_handlers_suite_as (HandSPX.lands_againZ l.fly fun h4 f4 u4 => ?_)
        obtain ⟨oe, zc, hd, -, S⟩ := (l.go f4 u4).suite hf
        refine store_ok (X := X.suite a ((a, oe) :: (X.pn ++ pins))) (v := .ref a) S hN hi (.inl hln) rfl (fun s5 S5 => ?_) (.inr hln)
        refine wpAny_mono ((hsu a oe cls d (X.pn ++ pins) zc hd).run [] s5 _ H _ S5 (w2 rfl a l.free)) (fun f s6 q => ?_) (fun _ _ z => z.elim)
        cases f with
        | ret u => obtain ⟨v, σ6, H6, S6, q1, q2⟩ := q; exact gone_ok (S6.unsuite ok) hN hi hln fun s7 J => ⟨v, _, H6, J, q1, q2⟩
        | next => obtain ⟨σ6, H6, S6, q1⟩ := q; exact gone_ok (S6.unsuite ok) hN hi hln fun s7 J => ⟨_, H6, J, q1⟩
        | brk => obtain ⟨σ6, H6, S6, q1⟩ := q; exact gone_ok (S6.unsuite ok) hN hi hln fun s7 J => ⟨_, H6, J, q1⟩
        | cont => obtain ⟨σ6, H6, S6, q1⟩ := q; exact gone_ok (S6.unsuite ok) hN hi hln fun s7 J => ⟨_, H6, J, q1⟩
end
section
variable {X : Cx} {body : List Stmt} {e0 : ExceptHandler} {es : List ExceptHandler} {qs : List HdK} {pos : Pos} {tb : WX → TS} {Wout : WX}
theorem ps_try_mix (hs : X.stack = X.env :: X.outer) (hf : X.env.frame = some X.env.locals) (hN : X.N.Nodup) (tk : Takes X Wout)
    (hb : ∀ (W : WX) (pn : List (Addr × Obj)) (xe : Value → Shared → Prop), Takes (X.tr pn xe) W → PassesOwn (model X.prog X.w) X.A X.env xe → PSs (X.tr pn xe) body (tb W))
    (hh : HdsMx X (e0 :: es) qs) : PS X (.Try body (e0 :: es) [] [] pos) (fun D σ H => tb (wMix X.K Wout D qs) D σ H) := by
  refine ⟨fun pins s σ H D I h => ?_⟩
  have ok := I.ok
  have hfr : X.A.frames = some (X.env :: X.outer) := by rw [ok.frames, hs]
  let xe2 : Value → Shared → Prop := fun e s₁ => wpAny (model X.prog X.w) X.A (noteFrame e X.env) (fun _ s₂ => wpAny (model X.prog X.w) X.A (setFlight e none) (fun _ s₃ => wpAny (model X.prog X.w) X.A (handleBy e X.env (e0 :: es)) (SP X pins D) X.xe s₃) X.xe s₂) X.xe s₁
  have catch_ : Takes (X.tr (X.pn ++ pins) xe2) (wMix X.K Wout D qs) := fun u s' xx => by
    obtain ⟨a, B, sI, pins', σ', H', cls, d, rfl, J, nb, up, sky, na, os, ag, w⟩ := xx
    have sky2 : Sky B (X.env :: X.outer) a (Zc cls d) X.env.locals s'.heap := by rw [← hs]; exact sky
    exact Sky.land Zc.steady hfr hf sky2 fun h3 fl3 up3 => hands hs hf hN tk hh ⟨J.ofTry ok, nb, up.trans up3, fl3, na, os, ag⟩ w
  refine wpAny_Try_except (wpAny_mono ((hb _ (X.pn ++ pins) xe2 catch_ PassesOwn.looking).run [] s σ H D (I.toTry _) h) (fun f s1 q => ?_) fun _ _ z => z)
  cases f with
  | next => obtain ⟨σ', H', J, q⟩ := q; exact wpAny_execs_nil ⟨σ', H', J.ofTry ok, q⟩
  | ret u => obtain ⟨v, σ', H', J, q⟩ := q; exact ⟨v, σ', H', J.ofTry ok, q⟩
  | brk => obtain ⟨σ', H', J, q⟩ := q; exact ⟨σ', H', J.ofTry ok, q⟩
  | cont => obtain ⟨σ', H', J, q⟩ := q; exact ⟨σ', H', J.ofTry ok, q⟩
end
end Mv

namespace Mv
open PySem L2

section
variable {X : Cx} {k : Kc} {sx : Option (Addr × Addr)} {W : WX} {P : Pg} {F : Nat → List D → FOut} {pos apos cpos p : Pos} {es : List Expr} {as : List E} {T : Tc} {j : Nat}

theorem ixOf_get {x : Str} : ∀ {l : List Str} {i : Nat}, ixOf x l = some i → l[i]? = some x
  | [], _, h => by cases h
  | y :: l, i, h => by
    unfold ixOf at h
    split at h
    · rename_i e; cases h; simp [e]
    · obtain ⟨i', h1, rfl⟩ := Option.map_eq_some_iff.mp h
      simpa using ixOf_get h1
theorem vis_of {sc : Scope} {x : Str} (h : vis sc x = true) : Vis sc x := by
  unfold vis at h
  split at h
  · exact .inl ‹_›
  · exact .inr (.inl ‹_›)
  · exact .inr (.inr ‹_›)
  · cases h
theorem loc_of {sc : Scope} {x : Str} (h : loc sc x = true) : Loc sc x := by
  unfold loc at h
  split at h
  · exact .inl ‹_›
  · exact .inr ‹_›
  · cases h
theorem glo_of {sc : Scope} {x : Str} (h : glo sc x = true) : sc.names.lookup x = some .globalImplicit := by
  unfold glo at h
  split at h
  · assumption
  · cases h
theorem okName_of {x : Str} (h : okName x = true) : (x == ("__debug__" : Str)) = false ∧ (x == ("__classdict__" : Str)) = false ∧ x ≠ "__name__" := by
  unfold okName at h
  simp only [Bool.and_eq_true, decide_eq_true_eq] at h
  exact ⟨beq_eq_false_iff_ne.mpr h.1.1, beq_eq_false_iff_ne.mpr h.1.2, h.2⟩
theorem base_any {e : Expr} (h : notSup e = true) (env : Env) (x : Str) (w : Sem Value) : attributeBase e x env w = w := by
  cases e <;> first | rfl | skip
  rename_i f es kws p
  cases f <;> first | rfl | skip
  cases es <;> first | rfl | skip
  cases kws <;> first | rfl | skip
  cases h
theorem meth_form {e1 : Expr} {x : Str} (h : SndL X k sx W P F es as) (few : es.length < 29) (line : (apos.endLine == cpos.line) = true) (hb : attributeBase e1 x X.env (eval e1 X.env) = eval e1 X.env) : ∃ pl : Sem Bool, eval (.Call (.Attribute e1 x apos) es [] cpos) X.env = (do
      let ov ← eval e1 X.env
      standAt apos.atName
      let (f, first) ← holding [ov] (getMethod ov x pl)
      callWith cpos f first (backTo cpos (starEach es X.env)) (backToKw cpos (keywordEach [] X.env))) := by
  refine ⟨(do return (← importBound e1 X.env).getD true), ?_⟩
  have hform : methodCallForm (es.length + ([] : List Keyword).length) (backTo cpos (starEach es X.env)) (backToKw cpos (keywordEach [] X.env)) = true := by
    unfold methodCallForm
    rw [h.plainA]
    show (true && true && decide (es.length + 0 + 0 < 30)) = true
    simp only [Bool.and_self, Bool.true_and, decide_eq_true_eq]
    omega
  have hpos : methodCallPos true e1 X.env apos cpos = pure cpos := by unfold methodCallPos; simp [line]
  rw [PySem.arm_eval_Call, hb]
  unfold methodCall calleeOf
  simp only [hform, hpos, if_true]
  rfl
/-- an own error class: BadX(e), e.what -/
structure ErAt (X : Cx) (C : Addr) : Prop where
  made : ∃ B cc fI bmB, RfFn X.prog X.K B cc fI ∧ RfCls X.K bmB B C fI ∧ ExcBaseFacts "ValueError" "ValueError.__new__" "ValueError.__init__" bmB
  xf : XfC X.K C
/-- what is known of a frame: expressions -/
structure CtxB (X : Cx) (k : Kc) (W : WX) (P : Pg) (F : Nat → List D → FOut) (T : Tc) (j : Nat) : Prop where
  hK : X.K = k.K
  calm : X.calm = true
  hN : X.N = T.N
  nd : X.N.Nodup
  sc : X.env.scope = T.sc
  un : X.A.units + 100 < cLine
  room : Room (j + 1) X.A
  tk : Takes X W
  cons : ∀ x i, T.cons.lookup x = some i → ∃ u, X.mg x = some u ∧ RelV (.int i) u
  fns : ∀ x f, ixOf x T.fns = some f → T.mth.contains f = false → T.nb.contains f = false → ∃ fa, X.mg x = some (.ref fa) ∧ DefAt X k j fa fun ds => (F f ds).out
  cls : ∀ x c, ixOf x T.cls = some c → T.oc.contains c = true → ∃ cl, P.cls[c]? = some cl ∧ X.mg x = some (.ref (k.cA c)) ∧ MkAt X k j c fun ds => (F cl.init ds).out
  mts : ∀ x m, ixOf x T.mts = some m → (∀ f, f < k.n → k.aN f ≠ x) ∧ ∀ c cl f, k.oc c → P.cls[c]? = some cl → cl.ms.lookup m = some f → MethAt X k j c x fun ds => (F f ds).out
  att : ∀ x f, ixOf x T.att = some f → k.aN f = x ∧ f < k.n
  blt : ∀ x, T.blt.contains x = true → X.mg x = none
  ers : ∀ x c, ixOf x T.cls = some c → T.ec.contains c = true → X.mg x = some (.ref (k.cA c)) ∧ ErAt X (k.cA c)
  kws : ∀ x n ks perm, kwOf T x n ks = some perm → (∀ f, ixOf x T.fns = some f → T.mth.contains f = false → ∃ fa, X.mg x = some (.ref fa) ∧ KwAt X k j fa n ks perm fun ds => (F f ds).out) ∧
    ∀ c, ixOf x T.cls = some c → T.okw.contains c = true → ∃ cl, P.cls[c]? = some cl ∧ X.mg x = some (.ref (k.cA c)) ∧ KmAt X k j c n ks perm fun ds => (F cl.init ds).out
theorem CtxB.gl (C : CtxB X k W P F T j) {x : Str} (h : glo T.sc x = true) : Gl X x := by
  have := glo_of h
  rw [← C.sc] at this
  exact this
/-- .. in the block of a comprehension -/
theorem CtxB.blk (C : CtxB X k W P F T j) (s : Shared) (H : Hp) (scope : Scope) (c : Addr) (cl : List (Str × Addr)) (fp : List Addr) : CtxB (X.blk s H scope (compEnvC scope cl c X.env) fp) k WN P F { T with sc := L2.relS scope T.sc } j where
  hK := C.hK
  calm := C.calm
  hN := C.hN
  nd := C.nd
  sc := by rw [← C.sc]; rfl
  un := C.un
  room := C.room
  tk := fun u s' ⟨_, _, _, _, _, _, _, _, _, _, _, _, _, _, _, _, w⟩ => w.elim
  cons := C.cons
  fns := fun x f h hm hn => by
    obtain ⟨fa, h1, h2⟩ := C.fns x f h hm hn
    exact ⟨fa, h1, ⟨h2.ex, h2.kp⟩⟩
  cls := fun x c h o => by
    obtain ⟨cl, h1, h2, h3⟩ := C.cls x c h o
    exact ⟨cl, h1, h2, ⟨h3.ex, h3.oc⟩⟩
  mts := fun x m h => ⟨(C.mts x m h).1, fun c cl f o h1 h2 => ⟨((C.mts x m h).2 c cl f o h1 h2).ex⟩⟩
  att := C.att
  blt := C.blt
  ers := fun x c h o => by
    obtain ⟨h1, h2⟩ := C.ers x c h o
    exact ⟨h1, ⟨h2.made, h2.xf⟩⟩
  kws := fun x n ks perm h => ⟨fun f hf hm => by
    obtain ⟨fa, h1, h2⟩ := (C.kws x n ks perm h).1 f hf hm
    exact ⟨fa, h1, ⟨h2.ex, h2.kp⟩⟩, fun c hc o => by
    obtain ⟨cl, h1, h2, h3⟩ := (C.kws x n ks perm h).2 c hc o
    exact ⟨cl, h1, h2, ⟨h3.ex, h3.oc⟩⟩⟩
/-- no star, no set, no slice -/
structure Pln (e : Expr) : Prop where
  st : nst e = true
  se : nset e = true
  sl : ∀ l u s p, e ≠ .Slice l u s p
  fs : ∀ (env : Env) x, foldedSetIterable e env x = pure x
theorem trE_pln {n : Nat} {e : Expr} {a : E} (h : trE n T e = some a) : Pln e := by
  cases n with
  | zero => cases h
  | succ n =>
    have sl : ∀ l u s p, e ≠ .Slice l u s p := by
      intro l u s p z
      subst z
      simp [trE] at h
    cases e <;> first
      | exact ⟨rfl, rfl, sl, (by intro _ _; rfl)⟩
      | (simp [trE] at h)
/-- lists of expressions -/
theorem trEs_pln {n : Nat} : ∀ {es : List Expr} {as : List E}, trEs n T es = some as → ∀ e ∈ es, Pln e := by
  induction n with
  | zero => intro es as h; cases h
  | succ n ih =>
    intro es as h e m
    cases es with
    | nil => cases m
    | cons x es =>
      obtain ⟨a, h1, h2⟩ := Option.bind_eq_some_iff.mp (show ((trE n T x).bind fun a => (trEs n T es).map fun as => a :: as) = some as from h)
      obtain ⟨as', h3, _⟩ := Option.map_eq_some_iff.mp h2
      rcases List.mem_cons.mp m with m | m
      · exact m ▸ trE_pln h1
      · exact ih h3 e m
theorem relS_keep {scope sc : Scope} {x : Str} {kd : NameKind} (h : scope.names.lookup x = some kd) (n : kd ≠ .free) : (L2.relS scope sc).names.lookup x = some kd := by
  have key : ∀ (l : List (Str × NameKind)), l.lookup x = some kd → (l.map fun (n, k) => if (k == .free && sc.kind == .function && sc.names.lookup n == some .cell) then (n, NameKind.cell) else (n, k)).lookup x = some kd := by
    intro l
    induction l with
    | nil => intro h; cases h
    | cons p l ih =>
      obtain ⟨y, q⟩ := p
      intro h
      rw [List.lookup_cons] at h
      rw [List.map_cons]
      split at h
      · rename_i e
        cases h
        have : (kd == NameKind.free) = false := beq_eq_false_iff_ne.mpr n
        simp only [this, Bool.false_and, Bool.false_eq_true, if_false]
        rw [List.lookup_cons, e]
      · rename_i e
        have h2 := ih h
        dsimp only
        split
        · rw [List.lookup_cons, e]; exact h2
        · rw [List.lookup_cons, e]; exact h2
  exact key _ h
end
end Mv

namespace Mv
open PySem L2

section
variable {X : Cx} {k : Kc} {sx : Option (Addr × Addr)} {W : WX} {P : Pg} {F : Nat → List D → FOut} {pos apos cpos p : Pos} {es : List Expr} {as : List E} {T : Tc} {j : Nat}

/-- targets -/
structure CtxT (X : Cx) (k : Kc) (T : Tc) : Prop where
  hK : X.K = k.K
  calm : X.calm = true
  hN : X.N = T.N
  nd : X.N.Nodup
  loc : ∀ x, loc T.sc x = true → Loc X.env.scope x ∧ (X.fn x = true ∨ X.env.scope.names.lookup x = some .local)
theorem trTg_ok (C : CtxT X k T) : ∀ n, (∀ tg t, trTg n T tg = some t → PG X tg (tG k sx t) ∧ nst tg = true ∧ (assignEach [tg] X.env).map (·.2) = [assign tg X.env]) ∧ ∀ ts rs, trTgs n T ts = some rs → SGs X k sx ts rs := by
  intro n
  induction n with
  | zero => exact ⟨fun _ _ h => (nomatch h), fun _ _ h => (nomatch h)⟩
  | succ n ih =>
    refine ⟨fun tg t h => ?_, fun ts rs h => ?_⟩
    · unfold trTg at h
      split at h
      · split at h
        · rename_i x p c
          obtain ⟨i, hi, rfl⟩ := Option.map_eq_some_iff.mp h
          obtain ⟨l1, l2⟩ := C.loc x c
          exact ⟨g_name C.nd (by rw [C.hN]; exact ixOf_get hi) l1 l2, rfl, rfl⟩
        · cases h
      · obtain ⟨rs, hr, rfl⟩ := Option.map_eq_some_iff.mp h
        exact ⟨g_tup C.hK C.calm (ih.2 _ _ hr), rfl, rfl⟩
      · cases h
    · cases ts with
      | nil => cases h; exact .nil
      | cons e ts =>
        obtain ⟨a, h1, h2⟩ := Option.bind_eq_some_iff.mp (show ((trTg n T e).bind fun a => (trTgs n T ts).map fun as => a :: as) = some rs from h)
        obtain ⟨as, h3, rfl⟩ := Option.map_eq_some_iff.mp h2
        obtain ⟨g1, g2, _⟩ := ih.1 _ _ h1
        exact .cons g2 g1 (ih.2 _ _ h3)
/-- all that a comprehension's rules want -/
structure LcOk (X : Cx) (k : Kc) (sx : Option (Addr × Addr)) (W : WX) (P : Pg) (F : Nat → List D → FOut) (elt tg iter : Expr) (ifs : List Expr) (scope : Scope) (a : E) : Prop where
  ex : ∃ t kd as ia ea own, a = .comp ea t kd as ia (own.map (·.2)) ∧ PI X tg iter (tIt k sx W P F kd as) ∧ BlkOk X.N X.env.scope scope own ∧
    (∀ (s : Shared) (H : Hp) (C : Addr) (cl : List (Str × Addr)) (fp : List Addr), PG (X.blk s H scope (compEnvC scope cl C X.env) fp) tg (tG k sx t)) ∧ ifs.length ≤ 1 ∧
    (∀ (s : Shared) (H : Hp) (C : Addr) (cl : List (Str × Addr)) (fp : List Addr), SndL (X.blk s H scope (compEnvC scope cl C X.env) fp) k sx WN P F ifs ia) ∧
    (∀ (s : Shared) (H : Hp) (C : Addr) (cl : List (Str × Addr)) (fp : List Addr), Snd (X.blk s H scope (compEnvC scope cl C X.env) fp) k sx WN P F elt ea) ∧
    (∀ x, foldedSetIterable iter X.env x = pure x) ∧ ∀ i ∈ stT t, i ∈ own.map (·.2)
theorem loc_cases {sc : Scope} {x : Str} (h : loc sc x = true) : sc.names.lookup x = some .local ∨ sc.names.lookup x = some .cell := loc_of h
theorem trIt_pln {n : Nat} {tg e : Expr} {ki : ItK × List E} (h : trIt n T tg e = some ki) : ∀ (env : Env) x, foldedSetIterable e env x = pure x := by
  cases n with
  | zero => cases h
  | succ n =>
    unfold trIt at h
    split at h
    · intro _ _; rfl
    · obtain ⟨a, h1, _⟩ := Option.map_eq_some_iff.mp h
      exact (trE_pln h1).fs
theorem it_tab : ∀ q ∈ itTab, (q.2 = .rng ∧ q.1 = "range") ∨ (q.2 = .enm ∧ q.1 = "enumerate") ∨ (q.2 = .zp ∧ q.1 = "zip") ∨ (q.2 = .rev ∧ q.1 = "reversed") := by decide +kernel
structure TrOk (k : Kc) (sx : Option (Addr × Addr)) (P : Pg) (F : Nat → List D → FOut) (j n : Nat) (X : Cx) (W : WX) (T : Tc) : Prop where
  e : ∀ e a, trE n T e = some a → Snd X k sx W P F e a
  c : ∀ f es a p pos, glo T.sc f = true → okName f = true → trC n T f es = some a → Snd X k sx W P F (.Call (.Name f p) es [] pos) a
  es : ∀ es as, trEs n T es = some as → SndL X k sx W P F es as
  ks : ∀ kws kb, trKs n T kws = some kb → SndK X k sx W P F kws kb.1 kb.2
  it : ∀ tg e ki, trIt n T tg e = some ki → PI X tg e (tIt k sx W P F ki.1 ki.2)
  lc : ∀ elt tg iter ifs scope a, trLc n T elt tg iter ifs scope = some a → LcOk X k sx W P F elt tg iter ifs scope a
theorem tr_ok (j : Nat) : ∀ (n : Nat) (X : Cx) (W : WX) (T : Tc), CtxB X k W P F T j → TrOk k sx P F j n X W T := by
  intro n
  induction n with
  | zero => exact fun X W T C => ⟨fun _ _ h => (nomatch h), fun _ _ _ _ _ _ _ h => (nomatch h), fun _ _ h => (nomatch h), fun _ _ h => (nomatch h), fun _ _ _ h => (nomatch h), fun _ _ _ _ _ _ h => (nomatch h)⟩
  | succ n ih =>
    intro X W T C
    have I := ih X W T C
    refine ⟨fun e a h => ?_, fun f es a p pos g ok h => ?_, fun es as h => ?_, fun kws kb h => ?_, fun tg e ki h => ?_, fun elt tg iter ifs scope a h => ?_⟩
    · unfold trE at h
      split at h
      · split at h
        · cases h; exact s_int C.hK
        · cases h; exact s_bl C.hK
        · cases h; exact s_non C.hK
        · cases h; exact s_str C.hK
        · cases h
      · split at h
        · rename_i x pos c
          obtain ⟨n1, n2, n3⟩ := okName_of c
          split at h
          · rename_i v
            obtain ⟨i, hi, rfl⟩ := Option.map_eq_some_iff.mp h
            exact s_var C.hK (by rw [C.hN]; exact ixOf_get hi) (by rw [C.sc]; exact vis_of v) n1 n2
          · split at h
            · rename_i g
              obtain ⟨i, hi, rfl⟩ := Option.map_eq_some_iff.mp h
              obtain ⟨u, h1, h2⟩ := C.cons x i hi
              exact s_glob C.hK (C.gl g) h1 h2 n1
            · cases h
        · cases h
      · obtain ⟨a1, h1, h2⟩ := Option.bind_eq_some_iff.mp h
        obtain ⟨a2, h3, rfl⟩ := Option.map_eq_some_iff.mp h2
        exact s_bin C.hK (I.e _ _ h1) (I.e _ _ h3)
      · obtain ⟨a1, h1, rfl⟩ := Option.map_eq_some_iff.mp h
        exact s_neg C.hK (I.e _ _ h1)
      · obtain ⟨a1, h1, rfl⟩ := Option.map_eq_some_iff.mp h
        exact s_not C.hK (I.e _ _ h1)
      · split at h
        · cases h
        · rename_i ne
          obtain ⟨as, h1, rfl⟩ := Option.map_eq_some_iff.mp h
          exact s_and (I.es _ _ h1) fun z => ne (by rw [z]; rfl)
      · split at h
        · cases h
        · rename_i ne
          obtain ⟨as, h1, rfl⟩ := Option.map_eq_some_iff.mp h
          exact s_or (I.es _ _ h1) fun z => ne (by rw [z]; rfl)
      · obtain ⟨a1, h1, h2⟩ := Option.bind_eq_some_iff.mp h
        obtain ⟨a2, h3, h4⟩ := Option.bind_eq_some_iff.mp h2
        obtain ⟨a3, h5, rfl⟩ := Option.map_eq_some_iff.mp h4
        exact s_ite C.hK (I.e _ _ h1) (I.e _ _ h3) (I.e _ _ h5)
      · split at h
        · cases h
        · rename_i ne
          simp only [Bool.or_eq_true, not_or, Bool.not_eq_true, bne_eq_false_iff_eq] at ne
          obtain ⟨a1, h1, h2⟩ := Option.bind_eq_some_iff.mp h
          obtain ⟨as, h3, rfl⟩ := Option.map_eq_some_iff.mp h2
          exact s_cmp C.un C.hK (I.e _ _ h1) (I.es _ _ h3) ne.2 (fun z => by rw [z] at ne; exact absurd ne.1 (by decide)) fun e m => (trEs_pln h3 e m).se
      · obtain ⟨as, h1, rfl⟩ := Option.map_eq_some_iff.mp h
        exact s_tup C.hK (I.es _ _ h1)
      · obtain ⟨as, h1, rfl⟩ := Option.map_eq_some_iff.mp h
        exact s_lst C.hK (I.es _ _ h1)
      · obtain ⟨a1, h1, h2⟩ := Option.bind_eq_some_iff.mp h
        obtain ⟨a2, h3, rfl⟩ := Option.map_eq_some_iff.mp h2
        exact s_idx C.hK (I.e _ _ h1) (I.e _ _ h3) (plain_ix (trE_pln h3).sl)
      · split at h
        · rename_i ns
          obtain ⟨f, h1, h2⟩ := Option.bind_eq_some_iff.mp h
          obtain ⟨a1, h3, rfl⟩ := Option.map_eq_some_iff.mp h2
          exact s_attr C.hK (I.e _ _ h3) (C.att _ _ h1).1 (base_any ns _ _ _)
        · cases h
      · split at h
        · rename_i c
          simp only [Bool.and_eq_true] at c
          exact I.c _ _ _ _ _ c.1 c.2 h
        · cases h
      · split at h
        · rename_i c
          simp only [Bool.and_eq_true] at c
          obtain ⟨as, h1, h2⟩ := Option.bind_eq_some_iff.mp h
          obtain ⟨kb, h3, h4⟩ := Option.bind_eq_some_iff.mp h2
          obtain ⟨perm, h5, h6⟩ := Option.bind_eq_some_iff.mp h4
          obtain ⟨n1, n2, n3⟩ := okName_of c.2
          split at h6
          · rename_i f' hf
            split at h6
            · cases h6
            rename_i hmt
            cases h6
            obtain ⟨fa, g1, g2⟩ := (C.kws _ _ _ _ h5).1 _ hf (by simpa using hmt)
            exact s_callk C.hK g2 (C.room.mono (Nat.le_succ _)) (C.gl c.1) g1 n1 C.tk (I.es _ _ h1) (I.ks _ _ h3) rfl
          · obtain ⟨c', g1, g2⟩ := Option.bind_eq_some_iff.mp h6
            split at g2
            · rename_i o
              cases g2
              obtain ⟨cl, q1, q2, q3⟩ := (C.kws _ _ _ _ h5).2 _ g1 o
              exact s_mkk C.hK q1 q3 C.room (C.gl c.1) q2 n1 C.tk (I.es _ _ h1) (I.ks _ _ h3) rfl
            · cases g2
        · cases h
      · split at h
        · rename_i c
          simp only [Bool.and_eq_true, decide_eq_true_eq] at c
          obtain ⟨⟨c1, c2⟩, c3⟩ := c
          split at h
          · rename_i m hm
            obtain ⟨a1, h1, h2⟩ := Option.bind_eq_some_iff.mp h
            obtain ⟨as, h3, rfl⟩ := Option.map_eq_some_iff.mp h2
            obtain ⟨m1, m2⟩ := C.mts _ _ hm
            have hl := I.es _ _ h3
            exact s_meth C.hK (I.e _ _ h1) hl m1 m2 (C.room.mono (Nat.le_succ _)) C.tk (meth_form hl c3 c2 (base_any c1 _ _ _))
          · obtain ⟨l, h0, h'⟩ := Option.bind_eq_some_iff.mp h
            obtain ⟨a1, h1, h2⟩ := Option.bind_eq_some_iff.mp h'
            obtain ⟨as, h3, rfl⟩ := Option.map_eq_some_iff.mp h2
            exact s_lm C.hK h0 (I.e _ _ h1) (I.es _ _ h3) c3 c2 fun x => base_any c1 _ _ _
        · cases h
      · obtain ⟨t, kd, as, ia, ea, own, rfl, q1, q2, q3, q4, q5, q6, q7, q8⟩ := (I.lc _ _ _ _ _ _ h).ex
        exact s_lc C.hK C.calm C.nd q1 q2 q3 q4 q5 q6 q7 q8
      · cases h
    · obtain ⟨n1, n2, n3⟩ := okName_of ok
      unfold trC at h
      split at h
      · rename_i i hi
        split at h
        · cases h
        rename_i hmn
        simp only [Bool.or_eq_true, not_or, Bool.not_eq_true] at hmn
        obtain ⟨as, h1, rfl⟩ := Option.map_eq_some_iff.mp h
        obtain ⟨fa, f1, f2⟩ := C.fns _ _ hi hmn.1 hmn.2
        exact s_call C.hK f2 (C.room.mono (Nat.le_succ _)) (C.gl g) f1 n1 C.tk (I.es _ _ h1)
      · split at h
        · rename_i i hi
          split at h
          · rename_i o
            obtain ⟨as, h1, rfl⟩ := Option.map_eq_some_iff.mp h
            obtain ⟨cl, f1, f2, f3⟩ := C.cls _ _ hi o
            exact s_mk C.hK f1 f3 C.room (C.gl g) f2 n1 C.tk (I.es _ _ h1)
          · split at h
            · rename_i o
              obtain ⟨perm, hp, h2⟩ := Option.bind_eq_some_iff.mp h
              obtain ⟨as, h1, rfl⟩ := Option.map_eq_some_iff.mp h2
              obtain ⟨cl, q1, q2, q3⟩ := (C.kws _ _ _ _ hp).2 _ hi o
              have := s_mkk (kws := []) (pos := pos) (p := p) C.hK q1 q3 C.room (C.gl g) q2 n1 C.tk (I.es _ _ h1) .nil rfl
              rwa [List.append_nil] at this
            · cases h
        · split at h
          · cases h
          · rename_i nt
            have nt : T.blt.contains f = true := by simpa using nt
            split at h
            · rename_i e
              subst e
              split at h
              · rename_i e1 t tp
                split at h
                · rename_i b
                  unfold isB at b
                  simp only [Bool.and_eq_true] at b
                  obtain ⟨ty, t1, t2⟩ := Option.bind_eq_some_iff.mp h
                  obtain ⟨a1, h1, rfl⟩ := Option.map_eq_some_iff.mp t2
                  obtain ⟨m1, m2, m3⟩ := okName_of b.1.2
                  exact s_isi C.hK t1 (C.gl g) (C.blt _ nt) (C.gl b.1.1) (C.blt _ b.2) m3 m1 (trE_pln h1).st (I.e _ _ h1)
                · cases h
              · cases h
            · split at h
              · cases h
              · rename_i ne
                obtain ⟨b, b1, b2⟩ := Option.bind_eq_some_iff.mp h
                obtain ⟨as, h1, rfl⟩ := Option.map_eq_some_iff.mp b2
                exact s_blt C.hK C.calm b1 (C.gl g) (C.blt _ nt) n3 n1 (I.es _ _ h1) fun z => ne (by rw [z]; rfl)
    · cases es with
      | nil => cases h; exact .nil
      | cons e es =>
        obtain ⟨a, h1, h2⟩ := Option.bind_eq_some_iff.mp (show ((trE n T e).bind fun a => (trEs n T es).map fun as => a :: as) = some as from h)
        obtain ⟨as, h3, rfl⟩ := Option.map_eq_some_iff.mp h2
        exact .cons (trE_pln h1).st (I.e _ _ h1) (I.es _ _ h3)
    · unfold trKs at h
      split at h
      · rename_i e; cases e
      · cases h; exact .nil
      · rename_i en
        cases en
        obtain ⟨a, h1, h2⟩ := Option.bind_eq_some_iff.mp h
        obtain ⟨x, h3, rfl⟩ := Option.map_eq_some_iff.mp h2
        exact .cons (I.e _ _ h1) (I.ks _ _ h3)
      · cases h
    · have val : ∀ {e : Expr}, ((trE n T e).map fun a => (ItK.val, [a])) = some ki → PI X tg e (tIt k sx W P F ki.1 ki.2) := fun {e} h => by
        obtain ⟨a, h1, rfl⟩ := Option.map_eq_some_iff.mp h
        exact pi_val C.hK (I.e _ _ h1)
      unfold trIt at h
      split at h
      · rename_i f p es pos
        split at h
        · rename_i kd hk
          split at hk
          · rename_i b
            split at h
            · rename_i cc
              obtain ⟨as, h1, rfl⟩ := Option.map_eq_some_iff.mp h
              unfold isB at b
              simp only [Bool.and_eq_true] at b
              have hl := I.es _ _ h1
              rcases it_tab (f, kd) (lookup_mem hk) with ⟨e, e2⟩ | ⟨e, e2⟩ | ⟨e, e2⟩ | ⟨e, e2⟩
              · have e : kd = .rng := e
                have e2 : f = "range" := e2
                subst e e2
                exact pi_rng hl (of_decide_eq_true cc) (C.gl b.1.1) (C.blt _ b.2)
              · have e : kd = .enm := e
                have e2 : f = "enumerate" := e2
                subst e e2
                have cc : (decide (es.length = 1) && isTupE tg) = true := cc
                simp only [Bool.and_eq_true, decide_eq_true_eq] at cc
                cases tg <;> first | exact absurd cc.2 Bool.false_ne_true | exact pi_en C.hK hl cc.1 (C.gl b.1.1) (C.blt _ b.2)
              · have e : kd = .zp := e
                have e2 : f = "zip" := e2
                subst e e2
                have cc : (decide (es.length = 2) && isTupE tg) = true := cc
                simp only [Bool.and_eq_true, decide_eq_true_eq] at cc
                cases tg <;> first | exact absurd cc.2 Bool.false_ne_true | exact pi_zp C.hK hl cc.1 (C.gl b.1.1) (C.blt _ b.2)
              · have e : kd = .rev := e
                have e2 : f = "reversed" := e2
                subst e e2
                exact pi_rv C.hK hl (of_decide_eq_true cc) (C.gl b.1.1) (C.blt _ b.2)
            · cases h
          · cases hk
        · exact val h
      · exact val h
    · unfold trLc at h
      split at h
      · rename_i cc
        simp only [Bool.and_eq_true, decide_eq_true_eq] at cc
        obtain ⟨⟨kd, as⟩, h1, h2⟩ := Option.bind_eq_some_iff.mp h
        obtain ⟨t, h3, h4⟩ := Option.bind_eq_some_iff.mp h2
        split at h4
        · rename_i ct
          obtain ⟨ea, h5, h6⟩ := Option.bind_eq_some_iff.mp h4
          obtain ⟨ia, h7, rfl⟩ := Option.map_eq_some_iff.mp h6
          have bk : BlkOk X.N X.env.scope scope (ownOf T.N scope.names) := by rw [C.hN, C.sc]; exact blkOk_by cc.1
          refine ⟨t, kd, as, ia, ea, ownOf T.N scope.names, rfl, I.it _ _ _ h1, bk, fun s H c cl fp => ?_, cc.2, fun s H c cl fp => (ih _ _ _ (C.blk s H scope c cl fp)).es _ _ h7, fun s H c cl fp => (ih _ _ _ (C.blk s H scope c cl fp)).e _ _ h5, trIt_pln h1 X.env, fun i m => ?_⟩
          · refine ((trTg_ok (X := X.blk s H scope (compEnvC scope cl c X.env) fp) (T := { T with sc := scope }) ⟨C.hK, C.calm, C.hN, C.nd, fun x l => ?_⟩ n).1 _ _ h3).1
            have keep : ∀ kd, scope.names.lookup x = some kd → kd ≠ .free → (X.blk s H scope (compEnvC scope cl c X.env) fp).env.scope.names.lookup x = some kd := fun kd h n => relS_keep (sc := X.env.scope) h n
            rcases loc_cases l with e | e
            · have q := keep _ e (by decide)
              exact ⟨.inl q, .inr q⟩
            · refine ⟨.inr (keep _ e (by decide)), .inl ?_⟩
              show (scope.names.lookup x == some .cell) = true
              have e : scope.names.lookup x = some .cell := e
              rw [e]
              rfl
          · have := List.all_eq_true.mp ct i m
            simpa using this
        · cases h4
      · cases h
end
end Mv

namespace Mv
open PySem L2
section
variable {X : Cx} {k : Kc} {sx : Option (Addr × Addr)} {W : WX} {P : Pg} {F : Nat → List D → FOut} {pos apos cpos p : Pos} {L : List Nat} {T : Tc} {j : Nat}
variable {Z Z' Z0 Z1 Z2 : Addr → Prop} {H H' H0 H1 H2 : Hp} {σ σ' σ0 σ1 σ2 : St} {r r1 r2 : En} {os os' os0 os1 os2 od : List Addr}
/-! ### raise -/
/-- the dict of a new exception -/
theorem new_xd {c : Nat} {d : D} {v : V} {p : Addr} (R : Rel k sx Z r σ H os) (T : RD k Z H d v od) (nd : (od ++ os).Nodup) (hp : H p = none) :
    ∃ Z', Rel k sx Z' r σ (upd H p (.xd [("what", v)])) os ∧ ExV k Z' (upd H p (.xd [("what", v)])) c d.frz (.ref (k.cA c)) (some p) ∧ Step Z Z' H (upd H p (.xd [("what", v)])) (od ++ os) os := by
  have kp : ∀ a o, H a = some o → upd H p (.xd [("what", v)]) a = some o := fun a o e => by rw [upd_ne (ne_of_none e hp)]; exact e
  obtain ⟨h1, h2, h3⟩ := List.nodup_append.mp nd
  have dm := RD.dom _ _ _ T
  refine ⟨fun a => Z a ∨ a ∈ od ∨ a = p, ⟨R.rs.mono (fun _ z => .inl z) fun a o e _ => kp a o e, R.nd, fun a m z => ?_, fun a z => ?_⟩, ⟨rfl, p, v, rfl, upd_same, .inr (.inr rfl), ?_⟩, ⟨fun a o e _ => kp a o e, fun _ z => .inl z, fun a z => ?_, fun a m => .inl (List.mem_append_right _ m)⟩⟩
  · rcases z with z | z | z
    · exact R.nz a m z
    · exact h3 a z a m rfl
    · obtain ⟨o, e⟩ := R.rs.dom a m
      rw [z, hp] at e; cases e
  · rcases z with z | z | z
    · obtain ⟨o, e⟩ := R.zd a z
      exact ⟨o, kp a o e⟩
    · obtain ⟨o, e⟩ := dm a z
      exact ⟨o, kp a o e⟩
    · rw [z]; exact ⟨_, upd_same⟩
  · have q := RD.frz (Z' := fun a => Z a ∨ a ∈ od ∨ a = p) (fun a z => .inl z) d v od (fun a m => .inr (.inl m)) T
    exact RD.mono (fun _ z => z) _ _ _ (fun a o e _ => kp a o e) q
  · rcases z with z | z | z
    · exact .inl z
    · exact .inr (.inl (List.mem_append_left _ z))
    · rw [z]; exact .inr (.inr hp)
theorem ss_raise {x : Str} {c : Nat} {e : Expr} {a : E} {n : Nat} (hc : X.calm = true) (tk : Takes X W) (E1 : ErAt X (k.cA c)) (gC : X.mg x = some (.ref (k.cA c))) (hr : Room n X.A) (hg : Gl X x) (hdb : (x == ("__debug__" : Str)) = false) (hn : nst e = true) (h : Snd X k sx W P F e a) :
    SS X k sx W P F (.Raise (some (.Call (.Name x p) [e] [] cpos)) none pos) (.raise c a) := fun L _ => by
  obtain ⟨B, cc, fI, bmB, T1, T2, T3⟩ := E1.made
  have sl : SndL X k sx W P F [e] [a] := .cons hn h .nil
  refine (ps_raise hc tk (pmk_rf (p := p) (pos := cpos) T1 T2 T3 gC hr (pa_es sl) hg hdb (star_cons hn _ _))).weak fun D0 σ H ⟨Z, r, os, R, q⟩ => ?_
  have q : SatS k sx W L Z H os σ (((ev P F a).v r).bind fun w r => Out.exc c w.frz r) D0 := q
  refine ⟨Z, r, os, R, ?_⟩
  have q2 : Sat k sx W Z H os σ (((ev P F a).v r).bind fun d r => (Out.ok [] r).bind fun ds r => Out.ok (d :: ds) r) (PostL k sx Z H os σ fun vs H1 => ∃ v, vs = [v] ∧ ∀ d, H1 d = none → W (.ref (k.cA c)) (some d) σ (upd H1 d (.xd [(("what" : Str), v)]))) := by
    refine Sat.bind.mpr ((SatS.bind q).imp fun d r1 q1 => ?_)
    show PostL k sx Z H os σ _ [d] r1
    intro vs H1 Z1 od os1 R1 rd nd nz S1
    obtain ⟨v, rfl, rd1⟩ := RDs.of1 rd
    refine ⟨v, rfl, fun p hp => ?_⟩
    obtain ⟨Z2, R2, ex, S2⟩ := new_xd (c := c) R1 rd1 nd hp
    exact q1 σ _ _ _ Z2 os1 R2 Agr.refl ex (S1.trans S2)
  exact q2
/-! ### what an except suite says -/
theorem RS.lift (h : RS k none Z H r σ os) (sx : Option (Addr × Addr)) : RS k sx Z H r σ os := by
  induction h with
  | nil => exact .nil
  | emp _ ih => exact .emp ih
  | val h1 _ ih => exact .val h1 ih
  | ex e _ _ _ _ _ => cases e
theorem RS.drop (h : RS k sx Z H r σ os) (c : clean r = true) : RS k none Z H r σ os := by
  induction h with
  | nil => exact .nil
  | emp _ ih => exact .emp (ih (by simpa [clean] using c))
  | val h1 _ ih =>
    simp only [clean, List.all_cons, Bool.and_eq_true] at c
    exact .val h1 (ih c.2)
  | ex _ _ _ _ _ _ => simp [clean] at c
/-- an exception comes into a slot -/
theorem RS.hold {i c : Nat} {w : D} {a d : Addr} {v : V} (h : RS k (Option.some (a, d)) Z H r σ os) (hi : i < r.length) (z : Z d) (hd : H d = Option.some (.xd [("what", v)])) (rd : RD k Z H w v []) :
    ∃ os', RS k (Option.some (a, d)) Z H (r.set i (Option.some (.exn c w))) (σ.set i (Option.some (.ref a))) os' ∧ os'.Sublist os := by
  induction h generalizing i with
  | nil => simp at hi
  | @emp x r s os h ih =>
    cases i with
    | zero => exact ⟨os, .ex rfl z hd rd h, List.Sublist.refl _⟩
    | succ i =>
      obtain ⟨os', h1, h2⟩ := ih (i := i) (by simpa using hi)
      exact ⟨os', .emp h1, h2⟩
  | @val d0 v0 r s o0 os h1 h ih =>
    cases i with
    | zero => exact ⟨os, .ex rfl z hd rd h, List.sublist_append_right _ _⟩
    | succ i =>
      obtain ⟨os', g1, g2⟩ := ih (i := i) (by simpa using hi)
      exact ⟨o0 ++ os', .val h1 g1, List.Sublist.append (List.Sublist.refl _) g2⟩
  | @ex c0 w0 a0 dd v0 r s os e0 z0 hd0 h1 h ih =>
    cases i with
    | zero => exact ⟨os, .ex rfl z hd rd h, List.Sublist.refl _⟩
    | succ i =>
      obtain ⟨os', g1, g2⟩ := ih (i := i) (by simpa using hi)
      exact ⟨os', .ex e0 z0 hd0 h1 g1, g2⟩
/-- a slot is emptied, an exception's too -/
theorem RS.empt (h : RS k sx Z H r σ os) : ∀ (i : Nat) (x : Option V), ∃ os', RS k sx Z H (r.set i none) (σ.set i x) os' ∧ os'.Sublist os := by
  induction h with
  | nil => exact fun i x => ⟨[], .nil, List.Sublist.refl _⟩
  | @emp x0 r s os h ih =>
    intro i x
    cases i with
    | zero => exact ⟨os, .emp h, List.Sublist.refl _⟩
    | succ i =>
      obtain ⟨os', h1, h2⟩ := ih i x
      exact ⟨os', .emp h1, h2⟩
  | @val d0 v0 r s o0 os h1 h ih =>
    intro i x
    cases i with
    | zero => exact ⟨os, .emp h, List.sublist_append_right _ _⟩
    | succ i =>
      obtain ⟨os', g1, g2⟩ := ih i x
      exact ⟨o0 ++ os', .val h1 g1, List.Sublist.append (List.Sublist.refl _) g2⟩
  | @ex c0 w0 a0 dd v0 r s os e0 z0 hd0 h1 h ih =>
    intro i x
    cases i with
    | zero => exact ⟨os, .emp h, List.Sublist.refl _⟩
    | succ i =>
      obtain ⟨os', g1, g2⟩ := ih i x
      exact ⟨os', .ex e0 z0 hd0 h1 g1, g2⟩
theorem RS.exn {i c : Nat} {w : D} (h : RS k sx Z H r σ os) (e : slot r i = Option.some (.exn c w)) : ∃ a d v, sx = Option.some (a, d) ∧ σ[i]? = Option.some (Option.some (.ref a)) ∧ Z d ∧ H d = Option.some (.xd [("what", v)]) ∧ RD k Z H w v [] := by
  induction h generalizing i with
  | nil => simp [slot] at e
  | emp h ih =>
    cases i with
    | zero => simp [slot] at e
    | succ i => exact ih (i := i) e
  | @val d0 v0 r s o0 os h1 h ih =>
    cases i with
    | zero =>
      have e : d0 = .exn c w := by simpa [slot] using e
      subst e
      cases h1
    | succ i => exact ih (i := i) e
  | @ex c0 w0 a0 dd v0 r s os e0 z0 hd0 h1 h ih =>
    cases i with
    | zero =>
      have e : D.exn c0 w0 = .exn c w := by simpa [slot] using e
      cases e
      exact ⟨a0, dd, v0, e0, rfl, z0, hd0, h1⟩
    | succ i => exact ih (i := i) e
/-- e.what within a suite -/
theorem s_what {a d C : Addr} {cls : Value} {oe : Obj} {pn : List (Addr × Obj)} {x : Str} {i : Nat} {np : Pos} (hK : X.K = k.K) (hN : X.N[i]? = some x) (hv : Vis X.env.scope x) (hd : (x == ("__debug__" : Str)) = false) (hcd : (x == ("__classdict__" : Str)) = false)
    (hC : cls = .ref C) (T1 : XfC X.K C) (hno : PySem.W.findIn X.K (.ref C) "what" = some none) (hz : Zc cls (some d) oe) (hf : ∃ vs, oe.data = .fields vs) :
    Snd (X.suite a ((a, oe) :: pn)) k (some (a, d)) WN P F (.Attribute (.Name x np) "what" pos) (.what i) := by
  have pn1 : PE (X.suite a ((a, oe) :: pn)) (.Name x np) (tVar i) := pe_var (X := X.suite a ((a, oe) :: pn)) hN hv hd hcd
  refine snd1 (f := fun r => match slot r i with
    | some (.exn _ w) => .ok w r
    | _ => .bad) hK ((pe_xf (n := "what") T1 hno hz hf pn1).weak fun σ H Q ⟨Z, r, os, R, q⟩ => ?_) (fun _ => rfl) rfl (pl_no fun _ => rfl) (it_no fun _ => rfl)
  dsimp only at q
  split at q
  · rename_i c w e
    obtain ⟨a', d', v, e1, e2, z, hd', rd⟩ := R.rs.exn e
    cases e1
    exact ⟨.ref a, e2, rfl, hC, d, _, v, rfl, hd', by simp [List.lookup], q v H Z [] os R rd R.nd (fun _ m => by cases m) Step.refl⟩
  · exact q.elim
end
/-- a suite's context -/
structure CtxU (X : Cx) (k : Kc) (T : Tc) (q : Option (Str × Nat)) : Prop where
  t : CtxT X k T
  sc : X.env.scope = T.sc
  q : ∀ y i, q = some (y, i) → ixOf y T.N = some i
section
variable {X : Cx} {k : Kc} {P : Pg} {F : Nat → List D → FOut} {L : List Nat} {T : Tc} {q : Option (Str × Nat)} {a d C : Addr} {cls : Value} {oe : Obj} {pn : List (Addr × Obj)}
theorem trX_nst {n : Nat} {e : Expr} {b : E} (h : trX n T q e = some b) : nst e = true := by
  cases n with
  | zero => cases h
  | succ n => cases e <;> first | rfl | (simp [trX] at h)
theorem trX_ok (U : CtxU X k T q) (hC : cls = .ref C) (T1 : XfC X.K C) (hno : PySem.W.findIn X.K (.ref C) "what" = some none) (hz : Zc cls (some d) oe) (hf : ∃ vs, oe.data = .fields vs) :
    ∀ n, (∀ e b, trX n T q e = some b → Snd (X.suite a ((a, oe) :: pn)) k (some (a, d)) WN P F e b) ∧ ∀ es bs, trXs n T q es = some bs → SndL (X.suite a ((a, oe) :: pn)) k (some (a, d)) WN P F es bs := by
  have hK : (X.suite a ((a, oe) :: pn)).K = k.K := U.t.hK
  intro n
  induction n with
  | zero => exact ⟨fun _ _ h => (nomatch h), fun _ _ h => (nomatch h)⟩
  | succ n ih =>
    refine ⟨fun e b h => ?_, fun es bs h => ?_⟩
    · unfold trX at h
      split at h
      · split at h
        · cases h; exact s_int hK
        · cases h; exact s_bl hK
        · cases h; exact s_non hK
        · cases h; exact s_str hK
        · cases h
      · cases h; exact s_neg hK (s_int hK)
      · split at h
        · rename_i y i
          split at h
          · rename_i c
            cases h
            simp only [Bool.and_eq_true, decide_eq_true_eq] at c
            obtain ⟨⟨⟨rfl, c2⟩, c3⟩, rfl⟩ := c
            obtain ⟨n1, n2, n3⟩ := okName_of c3
            exact s_what U.t.hK (by rw [U.t.hN]; exact ixOf_get (U.q _ _ rfl)) (by rw [U.sc]; exact vis_of c2) n1 n2 hC T1 hno hz hf
          · cases h
        · cases h
      · obtain ⟨as, h1, rfl⟩ := Option.map_eq_some_iff.mp h
        exact s_tup hK (ih.2 _ _ h1)
      · obtain ⟨as, h1, rfl⟩ := Option.map_eq_some_iff.mp h
        exact s_lst hK (ih.2 _ _ h1)
      · cases h
    · cases es with
      | nil => cases h; exact .nil
      | cons e es =>
        obtain ⟨b, h1, h2⟩ := Option.bind_eq_some_iff.mp (show ((trX n T q e).bind fun a => (trXs n T q es).map fun as => a :: as) = some bs from h)
        obtain ⟨as, h3, rfl⟩ := Option.map_eq_some_iff.mp h2
        exact .cons (trX_nst h1) (ih.1 _ _ h1) (ih.2 _ _ h3)
theorem ncm_of' {e : Expr} (h : ncm e = true) (t : Option Expr) (l : Nat) (env : Env) : swapsWith e t l env = pure false := by
  cases e <;> first | rfl | cases h
theorem sole_ncm' {e t : Expr} (h : ncm e = true) {l : Nat} {env : Env} : swapsWithSole [t] e l env = pure false := ncm_of' h (some t) l env
theorem nam_none' {e : Expr} {y : Str} {p : Pos} {env : Env} : swappedStores [.Name y p] e env = pure none := by
  cases e <;> rfl
theorem trXB_ok (U : CtxU X k T q) (hC : cls = .ref C) (T1 : XfC X.K C) (hno : PySem.W.findIn X.K (.ref C) "what" = some none) (hz : Zc cls (some d) oe) (hf : ∃ vs, oe.data = .fields vs) (n : Nat) :
    ∀ ss bs, trXB n T q ss = some bs → SSs (X.suite a ((a, oe) :: pn)) k (some (a, d)) WN P F ss bs := by
  intro ss
  induction ss with
  | nil => intro bs h; cases h; exact ss_nil
  | cons s ss ih =>
    intro bs h
    obtain ⟨b, h1, h2⟩ := Option.bind_eq_some_iff.mp (show ((trXS n T q s).bind fun a => (trXB n T q ss).map fun as => a :: as) = some bs from h)
    obtain ⟨as, h3, rfl⟩ := Option.map_eq_some_iff.mp h2
    refine ss_cons ?_ (ih _ h3)
    have E := (trX_ok (P := P) (F := F) (a := a) (pn := pn) U hC T1 hno hz hf n).1
    unfold trXS at h1
    split at h1
    · cases h1; exact ss_retN
    · obtain ⟨e, g1, rfl⟩ := Option.map_eq_some_iff.mp h1
      exact ss_ret (E _ _ g1)
    · split at h1
      · rename_i c
        simp only [Bool.and_eq_true] at c
        obtain ⟨i, g1, g2⟩ := Option.bind_eq_some_iff.mp h1
        obtain ⟨e, g3, rfl⟩ := Option.map_eq_some_iff.mp g2
        obtain ⟨l1, l2⟩ := U.t.loc _ c.2
        exact ss_asg (g_name (X := X.suite a ((a, oe) :: pn)) U.t.nd (by show X.N[i]? = _; rw [U.t.hN]; exact ixOf_get g1) l1 l2) (E _ _ g3) (sole_ncm' c.1) nam_none' rfl
      · cases h1
    · cases h1; exact ss_pass
    · cases h1
/-! ### try -/
/-- all clauses of a try -/
structure HdT (X : Cx) (k : Kc) (T : Tc) (n : Nat) (e : ExceptHandler) (h : Hd) : Prop where
  ex : ∃ (x : Str) (c : Nat) (b : Stmt) (bs : List Stmt) (as : List S) (np hp : Pos), Names X x (.ref (k.cA c)) ∧ T.ec.contains c = true ∧
    ((e = .ExceptHandler (some (.Name x np)) none (b :: bs) hp ∧ h = .mk c none as ∧ trXB n T none (b :: bs) = some as) ∨
     ∃ (y : Str) (i : Nat), e = .ExceptHandler (some (.Name x np)) (some y) (b :: bs) hp ∧ h = .mk c (some i) as ∧ trXB n T (some (y, i)) (b :: bs) = some as ∧ ixOf y T.N = some i ∧ T.sc.names.lookup y = some .local)
theorem trH_ok {n : Nat} (gl : ∀ x, glo T.sc x = true → Gl X x) (er : ∀ x c, ixOf x T.cls = some c → T.ec.contains c = true → X.mg x = some (.ref (k.cA c))) {e : ExceptHandler} {h : Hd} (t : trH n T e = some h) : HdT X k T n e h := by
  have ecN : ∀ {x : Str} {c : Nat}, ecOf T x = some c → Names X x (.ref (k.cA c)) ∧ T.ec.contains c = true := fun {x c} h => by
    unfold ecOf at h
    split at h
    · rename_i g
      simp only [Bool.and_eq_true] at g
      obtain ⟨c', h1, h2⟩ := Option.bind_eq_some_iff.mp h
      split at h2
      · rename_i cc
        cases h2
        exact ⟨⟨gl _ g.1, (okName_of g.2).1, .inl (er _ _ h1 cc)⟩, cc⟩
      · cases h2
    · cases h
  unfold trH at t
  split at t
  · obtain ⟨c, h1, h2⟩ := Option.bind_eq_some_iff.mp t
    obtain ⟨as, h3, rfl⟩ := Option.map_eq_some_iff.mp h2
    obtain ⟨g1, g2⟩ := ecN h1
    exact ⟨_, c, _, _, as, _, _, g1, g2, .inl ⟨rfl, rfl, h3⟩⟩
  · split at t
    · rename_i hl
      obtain ⟨c, h1, h2⟩ := Option.bind_eq_some_iff.mp t
      obtain ⟨i, h4, h5⟩ := Option.bind_eq_some_iff.mp h2
      obtain ⟨as, h3, rfl⟩ := Option.map_eq_some_iff.mp h5
      obtain ⟨g1, g2⟩ := ecN h1
      exact ⟨_, c, _, _, as, _, _, g1, g2, .inr ⟨_, i, rfl, rfl, h3, h4, hl⟩⟩
    · cases t
  · cases t
/-- the class is an own error class, as far as a suite asks -/
def ErC (K : PySem.W.Frag) (cls : Value) : Prop := ∃ C, cls = .ref C ∧ XfC K C ∧ PySem.W.findIn K (.ref C) "what" = some none
def tsU (X : Cx) (k : Kc) (P : Pg) (F : Nat → List D → FOut) (L : List Nat) (as : List S) (a : Addr) (cls : Value) (d : Option Addr) : TS := match d with
  | some dd => fun D σ H => ErC X.K cls ∧ tS k (some (a, dd)) WN L (fun r => evB P F as r) D σ H
  | none => fun _ _ _ => False
theorem tsU_ok {n : Nat} {ss : List Stmt} {as : List S} (U : CtxU X k T q) (h : trXB n T q ss = some as) (hL : ∀ i ∈ stB as, i ∈ L) {d : Option Addr} (hz : Zc cls d oe) (hf : ∃ vs, oe.data = .fields vs) :
    PSs (X.suite a ((a, oe) :: pn)) ss (tsU X k P F L as a cls d) := by
  cases d with
  | none => exact ⟨fun _ _ _ _ _ _ h => h.elim⟩
  | some dd =>
    by_cases c : ErC X.K cls
    · obtain ⟨C, c1, c2, c3⟩ := c
      exact (trXB_ok (P := P) (F := F) (a := a) (pn := pn) U c1 c2 c3 hz hf n ss as h L hL).weak fun D0 σ H q => q.2
    · exact ⟨fun _ _ _ _ _ _ h => (c h.1).elim⟩
def hdK (X : Cx) (k : Kc) (P : Pg) (F : Nat → List D → FOut) (L : List Nat) : Hd → HdK
  | .mk c i as => ⟨.ref (k.cA c), i, tsU X k P F L as⟩
theorem trHs_ok {n : Nat} (U : CtxU X k T none) (kO : ∀ x, X.env.kindOf x = X.env.scope.names.lookup x) (gl : ∀ x, glo T.sc x = true → Gl X x) (er : ∀ x c, ixOf x T.cls = some c → T.ec.contains c = true → X.mg x = some (.ref (k.cA c))) :
    ∀ {es : List ExceptHandler} {hs : List Hd}, trHs n T es = some hs → (∀ i ∈ stHs hs, i ∈ L) → HdsMx X es (hs.map (hdK X k P F L)) ∧ ∀ h ∈ hs, ∃ c i as, h = .mk c i as ∧ T.ec.contains c = true := by
  intro es
  induction es with
  | nil => intro hs h _; cases h; exact ⟨.nil, fun _ m => by cases m⟩
  | cons e es ih =>
    intro hs h hL
    obtain ⟨b, h1, h2⟩ := Option.bind_eq_some_iff.mp (show ((trH n T e).bind fun a => (trHs n T es).map fun as => a :: as) = some hs from h)
    obtain ⟨hs2, h3, rfl⟩ := Option.map_eq_some_iff.mp h2
    obtain ⟨x, c, b0, bs, as, np, hp, g1, g2, g3⟩ := (trH_ok gl er h1).ex
    rcases g3 with ⟨rfl, rfl, g4⟩ | ⟨y, i, rfl, rfl, g4, g5, g6⟩
    · have l1 : ∀ i ∈ stB as, i ∈ L := fun i m => hL i (by show i ∈ (none : Option Nat).toList ++ stB as ++ stHs hs2; simp [m])
      obtain ⟨r1, r2⟩ := ih h3 fun i m => hL i (by show i ∈ (none : Option Nat).toList ++ stB as ++ stHs hs2; simp [m])
      refine ⟨.cons (.plain g1 fun a oe cls d pn hz hf => tsU_ok U g4 l1 hz hf) r1, fun h m => ?_⟩
      rcases List.mem_cons.mp m with rfl | m
      · exact ⟨_, _, _, rfl, g2⟩
      · exact r2 h m
    · have l1 : ∀ j ∈ stB as, j ∈ L := fun j m => hL j (by show j ∈ (some i : Option Nat).toList ++ stB as ++ stHs hs2; simp [m])
      obtain ⟨r1, r2⟩ := ih h3 fun j m => hL j (by show j ∈ (some i : Option Nat).toList ++ stB as ++ stHs hs2; simp [m])
      refine ⟨.cons (.named g1 (by rw [U.t.hN]; exact ixOf_get g5) (by rw [kO, U.sc]; exact g6) fun a oe cls d pn hz hf => tsU_ok ⟨U.t, U.sc, fun y' i' e' => by cases e'; exact g5⟩ g4 l1 hz hf) r1, fun h m => ?_⟩
      rcases List.mem_cons.mp m with rfl | m
      · exact ⟨_, _, _, rfl, g2⟩
      · exact r2 h m
end
end Mv

namespace Mv
open PySem L2
section
variable {X : Cx} {k : Kc} {sx : Option (Addr × Addr)} {W : WX} {P : Pg} {F : Nat → List D → FOut} {pos : Pos} {L : List Nat} {T : Tc}
variable {Z Z' Z1 : Addr → Prop} {H H' H1 : Hp} {σ σ' σ1 : St} {r r1 r2 : En} {os os' os1 od : List Addr} {D0 : Ends}
def wipe1 (i : Option Nat) (r : En) : En := match i with
  | none => r
  | some j => r.set j none
/-- behind a suite: its name's slot is empty, nothing of the exception is held -/
theorem rel_out {a d : Addr} {i : Option Nat} (R : Rel k (some (a, d)) Z r σ H os) (c : clean (wipe1 i r) = true) :
    ∃ os', Rel k none Z (wipe1 i r) (outSt1 i σ) H os' ∧ ∀ x ∈ os', x ∈ os := by
  cases i with
  | none => exact ⟨os, ⟨R.rs.drop c, R.nd, R.nz, R.zd⟩, fun _ m => m⟩
  | some j =>
    obtain ⟨os', h1, h2⟩ := R.rs.empt j none
    exact ⟨os', ⟨h1.drop c, h2.nodup R.nd, fun x m => R.nz x (h2.subset m), R.zd⟩, fun x m => h2.subset m⟩
theorem suite_end {a d : Addr} {i : Option Nat} {o : Out Fl} (hi : ∀ j, i = some j → j ∈ L) (ag : Agr L σ σ1) (ag1 : Agr L σ σ') (S : Step Z Z1 H H1 os os1)
    (q : SatS k none W L Z H os σ (match o with
      | .ok f r1 => if clean (wipe1 i r1) then .ok f (wipe1 i r1) else .bad
      | _ => .bad) D0) (hs : ∀ τ, Agr L σ1 τ → Agr L σ τ) : SatS k (some (a, d)) WN L Z1 H1 os1 σ1 o (endSt i D0) := by
  cases o with
  | bad => exact q.elim
  | exc c w r => exact q.elim
  | ok f r2 =>
    dsimp only at q
    by_cases c : clean (wipe1 i r2) = true
    · rw [if_pos c] at q
      have agO : ∀ τ : St, Agr L σ1 τ → Agr L σ (outSt1 i τ) := fun τ t => by
        cases i with
        | none => exact hs τ t
        | some j => exact (hs τ t).trans (set_agr.mono fun x m => by rw [List.mem_singleton.mp m]; exact hi j rfl)
      cases f with
      | next =>
        intro τ H' Z' os' R t T
        obtain ⟨os2, R2, sub⟩ := rel_out R c
        exact q _ H' Z' os2 R2 (agO τ t) ((S.trans T).less sub)
      | brk =>
        intro τ H' Z' os' R t T
        obtain ⟨os2, R2, sub⟩ := rel_out R c
        exact q _ H' Z' os2 R2 (agO τ t) ((S.trans T).less sub)
      | cont =>
        intro τ H' Z' os' R t T
        obtain ⟨os2, R2, sub⟩ := rel_out R c
        exact q _ H' Z' os2 R2 (agO τ t) ((S.trans T).less sub)
      | ret v0 =>
        intro τ v H' Z' odr os' R t rd nd nz T
        obtain ⟨os2, R2, sub⟩ := rel_out R c
        obtain ⟨n1, n2, n3⟩ := List.nodup_append.mp nd
        refine q _ v H' Z' odr os2 R2 (agO τ t) rd (List.nodup_append.mpr ⟨n1, R2.nd, fun x m y m2 => n3 x m y (sub y m2)⟩) nz ((S.trans T).less fun x m => ?_)
        rcases List.mem_append.mp m with m | m
        · exact List.mem_append_left _ m
        · exact List.mem_append_right _ (sub x m)
    · rw [if_neg c] at q
      exact q.elim
theorem evH1_eq {c e : Nat} {w : D} {i : Option Nat} {as : List S} : evH1 P F c w (.mk e i as) r1 = if upOf P c e then some (match i with
      | none => (match evB P F as r1 with
        | .ok f r1 => if clean r1 then .ok f r1 else .bad
        | _ => .bad)
      | some j => if j < r1.length then (match evB P F as (r1.set j (some (.exn c w))) with
        | .ok f r1 => if clean (r1.set j none) then .ok f (r1.set j none) else .bad
        | _ => .bad) else .bad) else none := rfl
theorem mix_ok {c : Nat} {w : D} {cls : Value} {d : Option Addr} (hc : upOf P c c = true) (exm : ∀ c d, upOf P c c = true → T.ec.contains d = true → PySem.W.exmOne X.K (.ref (k.cA c)) (.ref (k.cA d)) = some (upOf P c d)) (exx : ∀ c, upOf P c c = true → ErC X.K (.ref (k.cA c)))
    (R1 : Rel k none Z1 r1 σ1 H1 os1) (ag : Agr L σ σ1) (ex : ExV k Z1 H1 c w cls d) (S : Step Z Z1 H H1 os os1) :
    ∀ hs : List Hd, (∀ h ∈ hs, ∃ c i as, h = .mk c i as ∧ T.ec.contains c = true) → (∀ i ∈ stHs hs, i ∈ L) → SatS k none W L Z H os σ (evH P F c w hs r1) D0 → wMix X.K W D0 (hs.map (hdK X k P F L)) cls d σ1 H1
  | [], _, _, q => q σ1 cls d H1 Z1 os1 R1 ag ex S
  | h :: hs, hh, hL, q => by
    obtain ⟨e, i, as, rfl, he⟩ := hh h List.mem_cons_self
    have hL2 : ∀ j ∈ stHs hs, j ∈ L := fun j m => hL j (by show j ∈ i.toList ++ stB as ++ stHs hs; simp [m])
    have hLi : ∀ j, i = some j → j ∈ L := fun j m => hL j (by show j ∈ i.toList ++ stB as ++ stHs hs; simp [m])
    have e1 := exm c e hc he
    obtain ⟨rfl, dd, v, rfl, x2, x3, x4⟩ := ex
    have q : SatS k none W L Z H os σ (match evH1 P F c w (.mk e i as) r1 with
      | some o => o
      | none => evH P F c w hs r1) D0 := q
    rw [evH1_eq] at q
    refine ⟨upOf P c e, e1, fun b a na => ?_, fun b => ?_⟩
    · rw [if_pos b] at q
      refine ⟨exx c hc, ?_⟩
      cases i with
      | none =>
        exact ⟨Z1, r1, os1, ⟨R1.rs.lift _, R1.nd, R1.nz, R1.zd⟩, suite_end (i := none) (W := W) hLi ag ag S q fun τ t => ag.trans t⟩
      | some j =>
        dsimp only at q
        split at q
        · rename_i hj
          obtain ⟨os2, h1, h2⟩ := (R1.rs.lift (some (a, dd))).hold (c := c) (w := w) hj x3 x2 x4
          have st : Agr L σ1 (σ1.set j (some (.ref a))) := set_agr.mono fun x m => by rw [List.mem_singleton.mp m]; exact hLi j rfl
          exact ⟨Z1, _, os2, ⟨h1, h2.nodup R1.nd, fun x m => R1.nz x (h2.subset m), R1.zd⟩, suite_end (i := some j) (W := W) hLi (ag.trans st) ag (S.less fun x m => h2.subset m) q fun τ t => (ag.trans st).trans t⟩
        · exact q.elim
    · rw [if_neg (by rw [b]; decide)] at q
      exact mix_ok hc exm exx R1 ag ⟨rfl, dd, v, rfl, x2, x3, x4⟩ S hs (fun h m => hh h (List.mem_cons_of_mem _ m)) hL2 q
theorem ss_try {ss : List Stmt} {bs : List S} {e0 : ExceptHandler} {es : List ExceptHandler} {hs : List Hd} (st : X.stack = X.env :: X.outer) (hf : X.env.frame = some X.env.locals) (nd : X.N.Nodup) (tk : Takes X W)
    (body : ∀ (W' : WX) (pn : List (Addr × Obj)) (xe : Value → Shared → Prop), Takes (X.tr pn xe) W' → PassesOwn (model X.prog X.w) X.A X.env xe → SSs (X.tr pn xe) k none W' P F ss bs)
    (mx : ∀ L, (∀ i ∈ stHs hs, i ∈ L) → HdsMx X (e0 :: es) (hs.map (hdK X k P F L)) ∧ ∀ h ∈ hs, ∃ c i as, h = .mk c i as ∧ T.ec.contains c = true)
    (exm : ∀ c d, upOf P c c = true → T.ec.contains d = true → PySem.W.exmOne X.K (.ref (k.cA c)) (.ref (k.cA d)) = some (upOf P c d)) (exx : ∀ c, upOf P c c = true → ErC X.K (.ref (k.cA c))) :
    SS X k none W P F (.Try ss (e0 :: es) [] [] pos) (.tryS bs hs) := fun L hL => by
  have l1 : ∀ i ∈ stB bs, i ∈ L := fun i m => hL i (List.mem_append_left _ m)
  have l2 : ∀ i ∈ stHs hs, i ∈ L := fun i m => hL i (List.mem_append_right _ m)
  obtain ⟨m1, m2⟩ := mx L l2
  refine (ps_try_mix (tb := fun W' => tS k none W' L (evB P F bs)) st hf nd tk (fun W' pn xe t p => body W' pn xe t p L l1) m1).weak fun D1 σ H ⟨Z, r, os, R, q⟩ => ⟨Z, r, os, R, ?_⟩
  have q : SatS k none W L Z H os σ (match evB P F bs r with
    | .ok f r1 => .ok f r1
    | .exc c w r1 => if upOf P c c then evH P F c w hs r1 else .bad
    | .bad => .bad) D1 := q
  cases h : evB P F bs r with
  | ok f r1 =>
    rw [h] at q
    cases f <;> exact q
  | bad => rw [h] at q; exact q.elim
  | exc c w r1 =>
    rw [h] at q
    dsimp only at q
    split at q
    · rename_i hc
      exact fun σ1 cls d H1 Z1 os1 R1 ag ex S => mix_ok hc exm exx R1 ag ex S hs m2 l2 q
    · exact q.elim
end
end Mv

namespace Mv
open PySem L2

section
variable {X : Cx} {k : Kc} {sx : Option (Addr × Addr)} {W : WX} {P : Pg} {F : Nat → List D → FOut} {pos apos cpos p : Pos} {es : List Expr} {as : List E} {T : Tc} {j : Nat}

/-- what is known of a frame: statements -/
structure CtxS (X : Cx) (k : Kc) (W : WX) (P : Pg) (F : Nat → List D → FOut) (T : Tc) (j : Nat) : Prop where
  b : CtxB X k W P F T j
  fnc : ∀ x, T.sc.names.lookup x = some .cell → X.fn x = true
  pass : PassesOwn (model X.prog X.w) X.A X.env X.xe
  st : X.stack = X.env :: X.outer
  fr : X.env.frame = some X.env.locals
  exm : ∀ c d, upOf P c c = true → T.ec.contains d = true → PySem.W.exmOne X.K (.ref (k.cA c)) (.ref (k.cA d)) = some (upOf P c d)
  exx : ∀ c, upOf P c c = true → ErC X.K (.ref (k.cA c))
/-- .. in a try's body -/
theorem CtxB.tr (C : CtxB X k W P F T j) {W' : WX} (pn : List (Addr × Obj)) (xe : Value → Shared → Prop) (t : Takes (X.tr pn xe) W') : CtxB (X.tr pn xe) k W' P F T j where
  hK := C.hK
  calm := C.calm
  hN := C.hN
  nd := C.nd
  sc := C.sc
  un := C.un
  room := C.room
  tk := t
  cons := C.cons
  fns := fun x f h hm hn => by
    obtain ⟨fa, h1, h2⟩ := C.fns x f h hm hn
    exact ⟨fa, h1, ⟨h2.ex, h2.kp⟩⟩
  cls := fun x c h o => by
    obtain ⟨cl, h1, h2, h3⟩ := C.cls x c h o
    exact ⟨cl, h1, h2, ⟨h3.ex, h3.oc⟩⟩
  mts := fun x m h => ⟨(C.mts x m h).1, fun c cl f o h1 h2 => ⟨((C.mts x m h).2 c cl f o h1 h2).ex⟩⟩
  att := C.att
  blt := C.blt
  ers := fun x c h o => by
    obtain ⟨h1, h2⟩ := C.ers x c h o
    exact ⟨h1, ⟨h2.made, h2.xf⟩⟩
  kws := fun x n ks perm h => ⟨fun f hf hm => by
    obtain ⟨fa, h1, h2⟩ := (C.kws x n ks perm h).1 f hf hm
    exact ⟨fa, h1, ⟨h2.ex, h2.kp⟩⟩, fun c hc o => by
    obtain ⟨cl, h1, h2, h3⟩ := (C.kws x n ks perm h).2 c hc o
    exact ⟨cl, h1, h2, ⟨h3.ex, h3.oc⟩⟩⟩
theorem CtxS.tr (C : CtxS X k W P F T j) {W' : WX} (pn : List (Addr × Obj)) (xe : Value → Shared → Prop) (t : Takes (X.tr pn xe) W') (p : PassesOwn (model X.prog X.w) X.A X.env xe) : CtxS (X.tr pn xe) k W' P F T j :=
  ⟨C.b.tr pn xe t, C.fnc, p, C.st, C.fr, C.exm, C.exx⟩
theorem CtxS.t (C : CtxS X k W P F T j) : CtxT X k T := ⟨C.b.hK, C.b.calm, C.b.hN, C.b.nd, fun x h => by
  rw [C.b.sc]
  rcases loc_cases h with e | e
  · exact ⟨.inl e, .inr e⟩
  · exact ⟨.inr e, .inl (C.fnc x e)⟩⟩
theorem ncm_of {e : Expr} (h : ncm e = true) (t : Option Expr) (l : Nat) (env : Env) : swapsWith e t l env = pure false := by
  cases e <;> first | rfl | cases h
theorem sole_sub {e a i : Expr} {p : Pos} {l : Nat} {env : Env} : swapsWithSole [.Subscript a i p] e l env = pure false := by
  cases e <;> rfl
theorem att_sub {e a : Expr} {f : Str} {p : Pos} {l : Nat} {env : Env} : swapsWith e (some (.Attribute a f p)) l env = pure false := by
  cases e <;> rfl
theorem par_none {e : Expr} {ts : List Expr} {n : Nat} {p : Pos} {env : Env} (h : isTup2 e = false) : swappedStores [.Tuple ts n p] e env = pure none := by
  cases e <;> first | rfl | cases h
theorem nam_none {e : Expr} {y : Str} {p : Pos} {env : Env} : swappedStores [.Name y p] e env = pure none := by
  cases e <;> rfl
theorem lc_swap {elt : Expr} {gs : List Comprehension} {scope : Scope} {pos py : Pos} {y : Str} {l : Nat} {env : Env} : ∃ b, swapsWith (.ListComp elt gs scope pos) (some (.Name y py)) l env = pure b := ⟨_, rfl⟩
theorem sole_ncm {e t : Expr} (h : ncm e = true) {l : Nat} {env : Env} : swapsWithSole [t] e l env = pure false := ncm_of h (some t) l env
theorem lc_asg {y : Str} {py lp pos : Pos} {elt : Expr} {gs : List Comprehension} {scope : Scope} {t : Tg} {a : E} {n : Nat} (C : CtxS X k W P F T j) (hy : T.sc.names.lookup y = some .local) (h1 : trTg n T (.Name y py) = some t) (h3 : trE n T (.ListComp elt gs scope lp) = some a) :
    SS X k sx W P F (.Assign [.Name y py] (.ListComp elt gs scope lp) pos) (.asg t a) := by
  obtain ⟨g1, g2, g3⟩ := (trTg_ok (sx := sx) C.t n).1 _ _ h1
  obtain ⟨b, hb⟩ := lc_swap (elt := elt) (gs := gs) (scope := scope) (pos := lp) (py := py) (y := y) (l := pos.line) (env := X.env)
  cases b with
  | false => exact ss_asg g1 ((tr_ok j n X W T C.b).e _ _ h3) hb nam_none g3
  | true =>
    cases n with
    | zero => cases h1
    | succ n =>
      unfold trTg at h1
      dsimp only at h1
      split at h1
      · obtain ⟨i, hi, rfl⟩ := Option.map_eq_some_iff.mp h1
        have key : ∃ tg iter ifs, gs = [⟨tg, iter, ifs, 0⟩] ∧ trLc n T elt tg iter ifs scope = some a := by
          unfold trE at h3
          split at h3 <;> rename_i he <;> first
            | (cases he; done)
            | skip
          all_goals first
            | (cases he; exact ⟨_, _, _, rfl, h3⟩)
            | (cases h3)
            | (cases he)
        obtain ⟨tg, iter, ifs, rfl, hl⟩ := key
        obtain ⟨t, kd, as, ia, ea, own, rfl, q1, q2, q3, q4, q5, q6, q7, q8⟩ := ((tr_ok (sx := sx) j n X W T C.b).lc _ _ _ _ _ _ hl).ex
        exact ss_lc C.b.hK C.b.calm C.b.nd (by rw [C.b.hN]; exact ixOf_get hi) (by rw [C.b.sc]; exact hy) hb q1 q2 q3 q4 q5 q6 q7 q8
      · cases h1
theorem trE_name {n : Nat} {x : Str} {p : Pos} {a : E} (h : trE (n + 1) T (.Name x p) = some a) : okName x = true := by
  unfold trE at h
  dsimp only at h
  split at h
  · assumption
  · cases h
theorem trEs2 {n : Nat} {a b : Expr} {as : List E} (h : trEs n T [a, b] = some as) : ∃ ea eb, as = [ea, eb] := by
  match n, h with
  | n + 1, h =>
    obtain ⟨ea, _, h2⟩ := Option.bind_eq_some_iff.mp (show ((trE n T a).bind fun a => (trEs n T [b]).map fun as => a :: as) = some as from h)
    obtain ⟨as', h3, rfl⟩ := Option.map_eq_some_iff.mp h2
    match n, h3 with
    | n + 1, h3 =>
      obtain ⟨eb, _, h4⟩ := Option.bind_eq_some_iff.mp (show ((trE n T b).bind fun a => (trEs n T []).map fun as => a :: as) = some as' from h3)
      obtain ⟨as2, h5, rfl⟩ := Option.map_eq_some_iff.mp h4
      match n, h5 with
      | n + 1, h5 => cases h5; exact ⟨_, _, rfl⟩
theorem trEs3 {n : Nat} {a b c : Expr} {as : List E} (h : trEs n T [a, b, c] = some as) : ∃ ea eb ec, as = [ea, eb, ec] := by
  match n, h with
  | n + 1, h =>
    obtain ⟨ea, _, h2⟩ := Option.bind_eq_some_iff.mp (show ((trE n T a).bind fun a => (trEs n T [b, c]).map fun as => a :: as) = some as from h)
    obtain ⟨as', h3, rfl⟩ := Option.map_eq_some_iff.mp h2
    obtain ⟨eb, ec, rfl⟩ := trEs2 h3
    exact ⟨_, _, _, rfl⟩
theorem fun_kind {k : ScopeKind} (h : (match k with | .function => true | _ => false) = true) : k = .function := by
  cases k <;> first | rfl | cases h
theorem par_ok {n : Nat} {ts vs : List Expr} {t : List Tg} {as : List E} {kt k2 : Nat} {pt pt2 : Pos} (C : CtxS X k W P F T j) (c : parC T ts vs = true) (h1 : parT T ts = some t) (h2 : trEs n T vs = some as) (hl : SndL X k sx W P F vs as) :
    SS X k sx W P F (.Assign [.Tuple ts kt pt] (.Tuple vs k2 pt2) pos) (.par t as) := by
  have gN : ∀ {x : Str} {i : Nat}, ixOf x T.N = some i → X.N[i]? = some x := fun h => by rw [C.b.hN]; exact ixOf_get h
  unfold parC at c
  split at c
  · rename_i x p y q a b
    simp only [Bool.and_eq_true, decide_eq_true_eq, Bool.not_eq_true'] at c
    obtain ⟨⟨⟨⟨⟨⟨c1, c2⟩, c3⟩, c4⟩, c5⟩, c6⟩, c7⟩ := c
    obtain ⟨ea, eb, rfl⟩ := trEs2 h2
    obtain ⟨i, i1, i2⟩ := Option.bind_eq_some_iff.mp (show ((ixOf x T.N).bind fun i => (parT T [.Name y q]).map fun ts => .nm i :: ts) = some t from h1)
    obtain ⟨t2, i3, rfl⟩ := Option.map_eq_some_iff.mp i2
    obtain ⟨l, i4, i5⟩ := Option.bind_eq_some_iff.mp (show ((ixOf y T.N).bind fun i => (parT T []).map fun ts => .nm i :: ts) = some t2 from i3)
    obtain ⟨t3, i6, rfl⟩ := Option.map_eq_some_iff.mp i5
    cases i6
    exact ss_par2 C.b.calm C.b.nd (gN i1) (gN i4) c5 (by rw [C.b.sc]; exact fun_kind c1) (by rw [C.b.sc]; exact c2) (by rw [C.b.sc]; exact c3) c4 hl (trEs_pln h2 a (by simp)).st (trEs_pln h2 b (by simp)).st c6 c7
  · rename_i x p y q z o a b c'
    simp only [Bool.and_eq_true, decide_eq_true_eq, Bool.not_eq_true'] at c
    obtain ⟨⟨⟨⟨⟨⟨⟨⟨⟨⟨c1, c2⟩, c3⟩, c4⟩, c5⟩, c6⟩, c7⟩, c8⟩, c9⟩, c10⟩, c11⟩ := c
    obtain ⟨ea, eb, ec, rfl⟩ := trEs3 h2
    obtain ⟨i, i1, i2⟩ := Option.bind_eq_some_iff.mp (show ((ixOf x T.N).bind fun i => (parT T [.Name y q, .Name z o]).map fun ts => .nm i :: ts) = some t from h1)
    obtain ⟨t2, i3, rfl⟩ := Option.map_eq_some_iff.mp i2
    obtain ⟨l, i4, i5⟩ := Option.bind_eq_some_iff.mp (show ((ixOf y T.N).bind fun i => (parT T [.Name z o]).map fun ts => .nm i :: ts) = some t2 from i3)
    obtain ⟨t3, i6, rfl⟩ := Option.map_eq_some_iff.mp i5
    obtain ⟨m, i7, i8⟩ := Option.bind_eq_some_iff.mp (show ((ixOf z T.N).bind fun i => (parT T []).map fun ts => .nm i :: ts) = some t3 from i6)
    obtain ⟨t4, i9, rfl⟩ := Option.map_eq_some_iff.mp i8
    cases i9
    exact ss_par3 C.b.calm C.b.nd (gN i1) (gN i4) (gN i7) c7 c8 c9 (by rw [C.b.sc]; exact fun_kind c1) (by rw [C.b.sc]; exact c2) (by rw [C.b.sc]; exact c3) (by rw [C.b.sc]; exact c4) c5 c6 hl (trEs_pln h2 a (by simp)).st (trEs_pln h2 b (by simp)).st (trEs_pln h2 c' (by simp)).st c10 c11
  · cases c
structure TsOk (k : Kc) (P : Pg) (F : Nat → List D → FOut) (n : Nat) (X : Cx) (W : WX) (T : Tc) : Prop where
  s : ∀ s a, trS n T s = some a → SS X k none W P F s a
  b : ∀ s a, trB n T s = some a → SSs X k none W P F s a
theorem ts_ok : ∀ (n : Nat) (X : Cx) (W : WX) (T : Tc), CtxS X k W P F T j → TsOk k P F n X W T := by
  intro n
  induction n with
  | zero => exact fun X W T C => ⟨fun _ _ h => (nomatch h), fun _ _ h => (nomatch h)⟩
  | succ n IH =>
    intro X W T C
    have I := IH X W T C
    have IE := tr_ok (sx := none) j n X W T C.b
    refine ⟨fun s a h => ?_, fun ss as h => ?_⟩
    · unfold trS at h
      split at h
      · cases h; exact ss_pass
      · cases h; exact ss_brk
      · cases h; exact ss_cont
      · split at h
        · cases h; exact ss_doc
        · split at h
          · rename_i c
            obtain ⟨a1, h1, rfl⟩ := Option.map_eq_some_iff.mp h
            exact ss_expr (IE.e _ _ h1) (ncm_of c _ _ _)
          · cases h
      · cases h; exact ss_retN
      · split at h
        · obtain ⟨a1, h1, h2⟩ := Option.map_eq_some_iff.mp h
          split at h2
          · rename_i i
            split at h2
            · rename_i cc
              subst h2
              simp only [Bool.and_eq_true, decide_eq_true_eq] at cc
              cases n with
              | zero => cases h1
              | succ n =>
                have ok := trE_name h1
                obtain ⟨n1, n2, n3⟩ := okName_of ok
                exact ss_retV (by rw [C.b.hN]; exact ixOf_get cc.2) (by rw [C.b.sc]; exact vis_of cc.1.2) n1 n2
            · subst h2
              exact ss_ret (IE.e _ _ h1)
          · subst h2
            exact ss_ret (IE.e _ _ h1)
        · obtain ⟨a1, h1, rfl⟩ := Option.map_eq_some_iff.mp h
          exact ss_ret (IE.e _ _ h1)
      · split at h
        · split at h
          · split at h
            · rename_i hy
              obtain ⟨t, h1, h2⟩ := Option.bind_eq_some_iff.mp h
              obtain ⟨a1, h3, rfl⟩ := Option.map_eq_some_iff.mp h2
              exact lc_asg C hy h1 h3
            · cases h
          · split at h
            · rename_i c
              obtain ⟨t, h1, h2⟩ := Option.bind_eq_some_iff.mp h
              obtain ⟨a1, h3, rfl⟩ := Option.map_eq_some_iff.mp h2
              obtain ⟨g1, g2, g3⟩ := (trTg_ok C.t n).1 _ _ h1
              exact ss_asg g1 (IE.e _ _ h3) (sole_ncm c) nam_none g3
            · cases h
        · split at h
          · split at h
            · rename_i cc
              obtain ⟨t, h1, h2⟩ := Option.bind_eq_some_iff.mp h
              obtain ⟨as, h3, rfl⟩ := Option.map_eq_some_iff.mp h2
              exact par_ok C cc h1 h3 (IE.es _ _ h3)
            · cases h
          · split at h
            · cases h
            · rename_i nt
              split at h
              · rename_i c
                obtain ⟨t, h1, h2⟩ := Option.bind_eq_some_iff.mp h
                obtain ⟨a1, h3, rfl⟩ := Option.map_eq_some_iff.mp h2
                obtain ⟨g1, g2, g3⟩ := (trTg_ok C.t n).1 _ _ h1
                exact ss_asg g1 (IE.e _ _ h3) (sole_ncm c) (par_none (by simpa using nt)) g3
              · cases h
        · obtain ⟨a1, h1, h2⟩ := Option.bind_eq_some_iff.mp h
          obtain ⟨a2, h3, h4⟩ := Option.bind_eq_some_iff.mp h2
          obtain ⟨a3, h5, rfl⟩ := Option.map_eq_some_iff.mp h4
          exact ss_setI (IE.e _ _ h1) (IE.e _ _ h3) (IE.e _ _ h5) (trE_pln h3).sl sole_sub
        · split at h
          · rename_i cc
            simp only [Bool.and_eq_true] at cc
            obtain ⟨f, h1, h2⟩ := Option.bind_eq_some_iff.mp h
            obtain ⟨i, h3, h4⟩ := Option.bind_eq_some_iff.mp h2
            obtain ⟨a3, h5, rfl⟩ := Option.map_eq_some_iff.mp h4
            obtain ⟨n1, n2, n3⟩ := okName_of cc.1
            obtain ⟨f1, f2⟩ := C.b.att _ _ h1
            exact ss_setA C.b.hK (by rw [C.b.hN]; exact ixOf_get h3) (by rw [C.b.sc]; exact vis_of cc.2) n1 n2 f1 f2 (IE.e _ _ h5) att_sub
          · cases h
        · cases h
      · split at h
        · rename_i l
          obtain ⟨i, h1, h2⟩ := Option.bind_eq_some_iff.mp h
          obtain ⟨a1, h3, rfl⟩ := Option.map_eq_some_iff.mp h2
          obtain ⟨l1, l2⟩ := C.t.loc _ l
          exact ss_aug C.b.nd (by rw [C.b.hN]; exact ixOf_get h1) l1 l2 (IE.e _ _ h3)
        · cases h
      · obtain ⟨a1, h1, h2⟩ := Option.bind_eq_some_iff.mp h
        obtain ⟨a2, h3, h4⟩ := Option.bind_eq_some_iff.mp h2
        obtain ⟨a3, h5, rfl⟩ := Option.map_eq_some_iff.mp h4
        exact ss_augI C.b.hK (IE.e _ _ h1) (IE.e _ _ h3) (IE.e _ _ h5) (trE_pln h3).sl
      · obtain ⟨a1, h1, h2⟩ := Option.bind_eq_some_iff.mp h
        obtain ⟨a2, h3, h4⟩ := Option.bind_eq_some_iff.mp h2
        obtain ⟨a3, h5, rfl⟩ := Option.map_eq_some_iff.mp h4
        exact ss_if (IE.e _ _ h1) (I.b _ _ h3) (I.b _ _ h5)
      · obtain ⟨a1, h1, h2⟩ := Option.bind_eq_some_iff.mp h
        obtain ⟨a2, h3, rfl⟩ := Option.map_eq_some_iff.mp h2
        exact ss_whl C.pass (IE.e _ _ h1) (I.b _ _ h3)
      · obtain ⟨t, h1, h2⟩ := Option.bind_eq_some_iff.mp h
        obtain ⟨⟨kd, as⟩, h3, h4⟩ := Option.bind_eq_some_iff.mp h2
        obtain ⟨a3, h5, rfl⟩ := Option.map_eq_some_iff.mp h4
        obtain ⟨g1, g2, g3⟩ := (trTg_ok C.t n).1 _ _ h1
        exact ss_for C.pass C.b.calm (IE.it _ _ _ h3) g1 (I.b _ _ h5) (trIt_pln h3 X.env)
      · split at h
        · obtain ⟨c, h1, h2⟩ := Option.bind_eq_some_iff.mp h
          obtain ⟨a1, h3, rfl⟩ := Option.map_eq_some_iff.mp h2
          unfold ecOf at h1
          split at h1
          · rename_i g
            simp only [Bool.and_eq_true] at g
            obtain ⟨c', g1, g2⟩ := Option.bind_eq_some_iff.mp h1
            split at g2
            · rename_i cc
              cases g2
              obtain ⟨m1, m2⟩ := C.b.ers _ _ g1 cc
              exact ss_raise C.b.calm C.b.tk m2 m1 C.b.room (C.b.gl g.1) (okName_of g.2).1 (trE_pln h3).st (IE.e _ _ h3)
            · cases g2
          · cases h1
        · cases h; exact ss_nev
      · split at h
        · cases h
        · cases h; exact ss_nev
      · split at h
        · obtain ⟨b, h1, h2⟩ := Option.bind_eq_some_iff.mp h
          obtain ⟨hs, h3, rfl⟩ := Option.map_eq_some_iff.mp h2
          exact ss_try C.st C.fr C.b.nd C.b.tk (fun W' pn xe t p => (IH _ W' T (C.tr pn xe t p)).b _ _ h1) (fun L hL => trHs_ok ⟨C.t, C.b.sc, fun _ _ e => by cases e⟩ (fun _ => rfl) (fun x g => C.b.gl g) (fun x c g1 g2 => (C.b.ers x c g1 g2).1) h3 hL) C.exm C.exx
        · cases h
      · cases h
    · cases ss with
      | nil => cases h; exact ss_nil
      | cons s ss =>
        obtain ⟨a, h1, h2⟩ := Option.bind_eq_some_iff.mp (show ((trS n T s).bind fun a => (trB n T ss).map fun as => a :: as) = some as from h)
        obtain ⟨as, h3, rfl⟩ := Option.map_eq_some_iff.mp h2
        exact ss_cons (I.s _ _ h1) (I.b _ _ h3)
end
end Mv

namespace Mv
open PySem L2

section
variable {k : Kc} {sx : Option (Addr × Addr)} {P : Pg} {T : Tc}
variable {Z Z' Z0 Z1 Z2 : Addr → Prop} {H H' H0 H1 H2 : Hp} {σ σ' σ0 σ1 σ2 : St} {r r1 r2 : En} {os os' os0 os1 os2 od : List Addr}

theorem RS.mask (h : RS k sx Z H r σ os) : ∀ p : Nat → Bool, ∃ os', RS k sx Z H (r.mapIdx fun i x => if p i then none else x) σ os' ∧ os'.Sublist os := by
  induction h with
  | nil => exact fun p => ⟨[], .nil, List.Sublist.refl _⟩
  | @emp x r s os h ih =>
    intro p
    obtain ⟨os', h1, h2⟩ := ih fun i => p (i + 1)
    refine ⟨os', ?_, h2⟩
    rw [List.mapIdx_cons]
    have : (if p 0 = true then none else (none : Option D)) = none := by split <;> rfl
    rw [this]
    exact .emp h1
  | @val d v r s o os h1 h ih =>
    intro p
    obtain ⟨os', g1, g2⟩ := ih fun i => p (i + 1)
    rw [List.mapIdx_cons]
    by_cases c : p 0 = true
    · rw [if_pos c]
      exact ⟨os', .emp g1, g2.trans (List.sublist_append_right _ _)⟩
    · rw [if_neg c]
      exact ⟨o ++ os', .val h1 g1, List.Sublist.append (List.Sublist.refl _) g2⟩
  | @ex c w a dd v r s os ex z hd h1 h ih =>
    intro p
    obtain ⟨os', g1, g2⟩ := ih fun i => p (i + 1)
    rw [List.mapIdx_cons]
    by_cases c : p 0 = true
    · rw [if_pos c]
      exact ⟨os', .emp g1, g2⟩
    · rw [if_neg c]
      exact ⟨os', .ex ex z hd h1 g1, g2⟩
theorem RS.take (h : RS k sx Z H r σ os) : ∀ n : Nat, ∃ os', RS k sx Z H (r.take n) (σ.take n) os' ∧ os'.Sublist os := by
  induction h with
  | nil => exact fun n => ⟨[], by simpa using RS.nil, List.Sublist.refl _⟩
  | @emp x r s os h ih =>
    intro n
    cases n with
    | zero => exact ⟨[], .nil, List.nil_sublist _⟩
    | succ n =>
      obtain ⟨os', h1, h2⟩ := ih n
      exact ⟨os', .emp h1, h2⟩
  | @val d v r s o os h1 h ih =>
    intro n
    cases n with
    | zero => exact ⟨[], .nil, List.nil_sublist _⟩
    | succ n =>
      obtain ⟨os', g1, g2⟩ := ih n
      exact ⟨o ++ os', .val h1 g1, List.Sublist.append (List.Sublist.refl _) g2⟩
  | @ex c w a dd v r s os ex z hd h1 h ih =>
    intro n
    cases n with
    | zero => exact ⟨[], .nil, List.nil_sublist _⟩
    | succ n =>
      obtain ⟨os', g1, g2⟩ := ih n
      exact ⟨os', .ex ex z hd h1 g1, g2⟩
theorem RS.fills (h : RS k sx Z H r σ os) : ∀ n : Nat, RS k sx Z H (r ++ List.replicate n none) (σ ++ List.replicate n none) os := by
  have e : ∀ n : Nat, RS k sx Z H (List.replicate n none) (List.replicate n none) [] := by
    intro n
    induction n with
    | zero => exact .nil
    | succ n ih => exact .emp ih
  intro n
  induction h with
  | nil => exact e n
  | emp h ih => exact .emp ih
  | val h1 h ih => exact .val h1 ih
  | ex ex z hd h1 h ih => exact .ex ex z hd h1 ih
/-- the parameters behind a def -/
theorem pars_ok {asg : List Nat} {N : List Str} {vs : List V} (R : Rel k none Z r σ H os) (ag : Agr asg (L2.start N vs) σ) : ∃ os', Rel k none Z (parsOf asg vs.length r) (vs.map some) H os' ∧ ∀ a ∈ os', a ∈ os := by
  obtain ⟨o1, h1, s1⟩ := (R.rs.fills vs.length).take vs.length
  obtain ⟨o2, h2, s2⟩ := h1.mask fun i => asg.contains i
  have sub : ∀ a ∈ o2, a ∈ os := fun a m => s1.subset (s2.subset m)
  have lσ : σ.length = r.length := R.rs.length
  refine ⟨o2, ⟨h2.any ?_ ?_, s2.nodup (s1.nodup R.nd), fun a m => R.nz a (sub a m), R.zd⟩, sub⟩
  · rw [List.length_map, List.length_take, List.length_append, List.length_replicate]; omega
  · intro i n
    have na : i ∉ asg := fun m => n (by
      unfold slot
      rw [List.getElem?_mapIdx]
      cases ((r ++ List.replicate vs.length none).take vs.length)[i]? with
      | none => rfl
      | some x => simp [List.contains_eq_mem, m])
    have lt : i < vs.length := by
      refine Nat.lt_of_not_le fun q => n ?_
      unfold slot
      rw [List.getElem?_mapIdx, List.getElem?_eq_none (by rw [List.length_take, List.length_append, List.length_replicate]; omega)]
      rfl
    have lr : i < r.length := by
      refine Nat.lt_of_not_le fun q => n ?_
      unfold slot
      rw [List.getElem?_mapIdx, List.getElem?_take_of_lt lt, List.getElem?_append_right q, List.getElem?_replicate]
      split <;> simp
    rw [List.getElem?_take_of_lt lt, List.getElem?_append_left (by omega), ag i na]
    unfold L2.start
    rw [List.getElem?_append_left (by simpa using lt)]

/-- the program, as it stands behind its top: all that the machine needs -/
structure PRec (p : Program) (K : PySem.W.Frag) (mg : Str → Option Value) (k : Kc) (P : Pg) (T : Tc) (fa : Nat → Addr) (pO : Nat → List Str) : Prop where
  hK : K = k.K
  df : ∀ i fn, P.fns[i]? = some fn → ∃ x qual st fd N n, Fun K x qual st (fa i) fd ∧ FnScope N (pO i) (defScope st) ∧ fn.np = (pO i).length ∧ fn.nl = N.length ∧ (pO i).length ≤ N.length ∧
    trB n { T with sc := defScope st, N := N, np := (pO i).length } (defBody st) = some fn.body ∧ (∀ i ∈ stB fn.body, i ∈ fn.asg) ∧ (T.nb.contains i = false → Binds K fd (pO i) [])
  fns : ∀ x f, ixOf x T.fns = some f → T.mth.contains f = false → (P.fns[f]?).isSome = true ∧ mg x = some (.ref (fa f)) ∧ PySem.W.keepIn K (.ref (fa f)) = true
  cls : ∀ x c, ixOf x T.cls = some c → T.oc.contains c = true → ∃ cl, P.cls[c]? = some cl ∧ mg x = some (.ref (k.cA c)) ∧ (P.fns[cl.init]?).isSome = true ∧ T.nb.contains cl.init = false ∧ Mk K (k.cA c) (fa cl.init) ∧ k.oc c
  mts : ∀ x m, ixOf x T.mts = some m → (∀ f, f < k.n → k.aN f ≠ x) ∧ ∀ c cl f, k.oc c → P.cls[c]? = some cl → cl.ms.lookup m = some f → (P.fns[f]?).isSome = true ∧ T.nb.contains f = false ∧ Meth K (k.cA c) x (fa f)
  att : ∀ x f, ixOf x T.att = some f → k.aN f = x ∧ f < k.n
  cons : ∀ x i, T.cons.lookup x = some i → ∃ u, mg x = some u ∧ RelV (.int i) u
  blt : ∀ x, T.blt.contains x = true → mg x = none
  ers : ∀ x c, ixOf x T.cls = some c → T.ec.contains c = true → mg x = some (.ref (k.cA c)) ∧ (∃ B cc fI bmB, RfFn p K B cc fI ∧ RfCls K bmB B (k.cA c) fI ∧ ExcBaseFacts "ValueError" "ValueError.__new__" "ValueError.__init__" bmB) ∧ XfC K (k.cA c)
  exm : ∀ c d, upOf P c c = true → T.ec.contains d = true → PySem.W.exmOne K (.ref (k.cA c)) (.ref (k.cA d)) = some (upOf P c d)
  exx : ∀ c, upOf P c c = true → ErC K (.ref (k.cA c))
  kws : ∀ x n ks perm, kwOf T x n ks = some perm → (∀ f, ixOf x T.fns = some f → ∀ x' q' st fd, L2.Fun K x' q' st (fa f) fd → KS K fd (pO f) n ks perm) ∧
    ∀ c, ixOf x T.cls = some c → T.okw.contains c = true → ∃ cl, P.cls[c]? = some cl ∧ mg x = some (.ref (k.cA c)) ∧ (P.fns[cl.init]?).isSome = true ∧ Mk K (k.cA c) (fa cl.init) ∧ k.oc c ∧ ∀ x' q' st fd, L2.Fun K x' q' st (fa cl.init) fd → KSm K fd (pO cl.init) n ks perm
theorem run_bad {f : Nat} {ds : List D} : (run P 0 f ds).out = .bad := rfl
theorem all_ok {p : Program} {w : World} {K : PySem.W.Frag} {mg : Str → Option Value} {fa : Nat → Addr} {pO : Nat → List Str} (R : PRec p K mg k P T fa pO) :
    ∀ n i, (P.fns[i]?).isSome = true → ∃ fd, (∀ base, FnOk p w K mg base (L2.CX p w) (2 * n) (fa i) fd (pO i) (spO k fun ds => (run P n i ds).out)) ∧ (T.nb.contains i = false → Binds K fd (pO i) []) ∧ ∃ x qual st, Fun K x qual st (fa i) fd := by
  intro n
  induction n with
  | zero =>
    intro i hi
    obtain ⟨fn, hf⟩ := Option.isSome_iff_exists.mp hi
    obtain ⟨x, qual, st, fd, N, n, F, S, e1, e2, e3, tr, as, b⟩ := R.df i fn hf
    have no : ∀ vs H Q E, ¬ spO k (fun ds => (run P 0 i ds).out) vs H Q E := fun vs H Q E ⟨Z, ds, od, _, q⟩ => q
    exact ⟨fd, fun base => ⟨fun vs H Q E h => (no vs H Q E h).elim, fun A outer s H args us vs Q E _ _ _ _ h => (no vs H Q E h).elim⟩, b, x, qual, st, F⟩
  | succ n ih =>
    intro i hi
    obtain ⟨fn, hf⟩ := Option.isSome_iff_exists.mp hi
    obtain ⟨x, qual, st, fd, N, m, F, S, e1, e2, e3, tr, as, b⟩ := R.df i fn hf
    generalize hps : pO i = ps at S e1 e3 tr b ⊢
    refine ⟨fd, fun base => ?_, b, x, qual, st, F⟩
    have opn : ∀ ds, (run P (n + 1) i ds) = if ds.length = fn.np then (match evB P (run P n) fn.body (ds.map some ++ List.replicate (fn.nl - fn.np) none) with
      | .ok .next r => .ok .non (parsOf fn.asg fn.np r)
      | .ok (.ret d) r => .ok d (parsOf fn.asg fn.np r)
      | .exc c w r => .exc c w (parsOf fn.asg fn.np r)
      | _ => .bad) else .bad := fun ds => by
      show (match P.fns[i]? with
        | some fn => _
        | none => _) = _
      rw [hf] <;> rfl
    have len : ∀ vs H Q E, spO k (fun ds => (run P (n + 1) i ds).out) vs H Q E → vs.length = ps.length := fun vs H Q E ⟨Z, ds, od, R0, q⟩ => by
      have q : Sat k none (fun cls d _ H => E cls d H) Z H od (vs.map some) (run P (n + 1) i ds).out (PostV k none Z H od (vs.map some) Q) := q
      rw [opn] at q
      have l := R0.rs.length
      simp only [List.length_map] at l
      split at q
      · rename_i e; omega
      · exact q.elim
    refine Fun.okX (k := 2 * n + 1) F S len fun cdv A outer s H vs Q E hr hsp => ?_
    have lv := len _ _ _ _ hsp
    obtain ⟨Z, ds, od, R0, q⟩ := hsp
    refine ⟨tS k none (fun cls d _ H => E cls d H) fn.asg (evB P (run P n) fn.body), ?_, ?_⟩
    · refine (ts_ok (j := 2 * n) m _ _ { T with sc := defScope st, N := N, np := ps.length } ⟨⟨R.hK, rfl, rfl, S.nd, rfl, ?_, hr, takes_of rfl rfl rfl rfl, R.cons, fun x f h hm hn => ?_, fun x c h o => ?_, fun x m h => ?_, R.att, R.blt, fun x c h o => ⟨(R.ers x c h o).1, ⟨(R.ers x c h o).2.1, (R.ers x c h o).2.2⟩⟩, fun x n ks perm h => ⟨fun f hf hm => ?_, fun c hc o => ?_⟩⟩, fun x h => ?_, passes_of rfl, rfl, rfl, R.exm, R.exx⟩).b _ _ tr fn.asg as
      · have := hr.un
        show (A.deeper _).units + 100 < cLine
        omega
      · obtain ⟨h1, h2, h3⟩ := R.fns x f h hm
        obtain ⟨fd', f1, f2, _⟩ := ih f h1
        exact ⟨fa f, h2, ⟨⟨fd', _, f1 base, f2 hn⟩, h3⟩⟩
      · obtain ⟨cl, h1, h2, h3, hb, h4, h5⟩ := R.cls x c h o
        obtain ⟨fd', f1, f2, _⟩ := ih cl.init h3
        exact ⟨cl, h1, h2, ⟨⟨fa cl.init, fd', _, h4, f1 base, f2 hb⟩, h5⟩⟩
      · refine ⟨(R.mts x m h).1, fun c cl f o h1 h2 => ?_⟩
        obtain ⟨g1, gb, g2⟩ := (R.mts x m h).2 c cl f o h1 h2
        obtain ⟨fd', f1, f2, _⟩ := ih f g1
        exact ⟨⟨fa f, fd', _, g2, f1 base, f2 gb⟩⟩
      · obtain ⟨h1, h2, h3⟩ := R.fns x f hf hm
        obtain ⟨fd', f1, f2, x', q', st', f3⟩ := ih f h1
        exact ⟨fa f, h2, ⟨⟨fd', _, f1 base, (R.kws x n ks perm h).1 f hf _ _ _ _ f3⟩, h3⟩⟩
      · obtain ⟨cl, h1, h2, h3, h4, h5, h6⟩ := (R.kws x n ks perm h).2 c hc o
        obtain ⟨fd', f1, f2, x', q', st', f3⟩ := ih cl.init h3
        exact ⟨cl, h1, h2, ⟨⟨fa cl.init, fd', _, h4, f1 base, h6 _ _ _ _ f3⟩, h5⟩⟩
      · rfl
    · have ld := R0.rs.length
      simp only [List.length_map] at ld
      have q : Sat k none (fun cls d _ H => E cls d H) Z H od (vs.map some) (run P (n + 1) i ds).out (PostV k none Z H od (vs.map some) Q) := q
      rw [opn] at q
      split at q
      · rename_i ln
        have st0 : Rel k none Z (ds.map some ++ List.replicate (fn.nl - fn.np) none) (L2.start N vs) H od := by
          refine ⟨?_, R0.nd, R0.nz, R0.zd⟩
          have := R0.rs.fills (fn.nl - fn.np)
          unfold L2.start
          rwa [show N.length - vs.length = fn.nl - fn.np by omega]
        refine ⟨Z, _, od, st0, ?_⟩
        generalize hr0 : evB P (run P n) fn.body (ds.map some ++ List.replicate (fn.nl - fn.np) none) = o at q
        have pl : ∀ {r' : En} {σ' : St} {H' : Hp} {Z' : Addr → Prop} {os' : List Addr}, Rel k none Z' r' σ' H' os' → Agr fn.asg (L2.start N vs) σ' → ∃ os2, Rel k none Z' (parsOf fn.asg fn.np r') (vs.map some) H' os2 ∧ ∀ a ∈ os2, a ∈ os' := fun {r' σ' H' Z' os'} R' ag => by
          rw [show fn.np = vs.length by omega]
          exact pars_ok R' ag
        cases o with
        | ok f r' =>
          cases f with
          | next =>
            intro σ' H' Z' os' R' ag S'
            obtain ⟨os2, R2, sub⟩ := pl R' ag
            exact q .non H' Z' [] os2 R2 .non R2.nd (fun _ m => by cases m) (S'.less sub)
          | brk => exact q.elim
          | cont => exact q.elim
          | ret d =>
            intro σ' v H' Z' odr os' R' ag rd nd nz S'
            obtain ⟨os2, R2, sub⟩ := pl R' ag
            obtain ⟨n1, n2, n3⟩ := List.nodup_append.mp nd
            refine q v H' Z' odr os2 R2 rd (List.nodup_append.mpr ⟨n1, R2.nd, fun a m b mb => n3 a m b (sub b mb)⟩) nz (S'.less fun a m => ?_)
            rcases List.mem_append.mp m with m | m
            · exact List.mem_append_left _ m
            · exact List.mem_append_right _ (sub a m)
        | exc c w r' =>
          intro σ' cls d H' Z' os' R' ag ex S'
          obtain ⟨os2, R2, sub⟩ := pl R' ag
          exact q cls d H' Z' os2 R2 ex (S'.less sub)
        | bad => exact q.elim
      · exact q.elim
end
end Mv

namespace Mv
open PySem L2

/-- the law's own promise -/
def spLaw (K : PySem.W.Frag) : Sp := fun vs H Q _ => ∃ (a : Addr) (ns : List Int), vs = [.ref a] ∧ SqL K H a (ns.map V.int) ∧ ns.length ≤ 63 ∧ (∀ z ∈ ns, Builtin.Int.intBits z ≤ 1048576) ∧ ∀ H', Q (.bl true) H'
theorem Fun.uniq {K : PySem.W.Frag} {x x' q q' : Str} {st st' : Stmt} {f : Addr} {fd fd' : FuncData} (a : L2.Fun K x q st f fd) (b : L2.Fun K x' q' st' f fd') : fd = fd' := by
  obtain ⟨_, _, _, _, _, _, _, _, _, _, h1, _⟩ := a.ex
  obtain ⟨_, _, _, _, _, _, _, _, _, _, h2, _⟩ := b.ex
  rw [h1] at h2
  cases h2
  rfl
theorem law_sp {K : PySem.W.Frag} {k : Kc} (hK : K = k.K) {f : List D → Out D} (law : ∀ ns : List Int, ns.length ≤ 63 → (∀ z ∈ ns, Builtin.Int.intBits z ≤ 1048576) → ∃ ps, f [.lst .giv (ns.map D.int)] = .ok (.bl true) ps) :
    ∀ vs H Q E, spLaw K vs H Q E → spO k f vs H Q E := by
  rintro vs H Q E ⟨a, ns, rfl, hs, hl, hb, q⟩
  obtain ⟨ps, e⟩ := law ns hl hb
  have sl : SL k (fun b => b = a ∧ ∃ o, H b = some o) H a (ns.map V.int) := by
    rcases hs with h | h
    · refine .inl ⟨⟨rfl, ?_⟩, h⟩
      rcases h with h | ⟨o, h⟩
      · exact ⟨_, h⟩
      · exact ⟨_, h⟩
    · exact .inr (hK ▸ h)
  refine ⟨fun b => b = a ∧ ∃ o, H b = some o, [.lst .giv (ns.map D.int)], [] ++ [], ⟨.val (.giv sl (ints_rd ns)) .nil, List.nodup_nil, (fun _ m => by cases m), fun b z => z.2⟩, ?_⟩
  rw [e]
  intro v H' Z' od os' R rd nd nz S
  cases rd
  exact q H'
theorem mv_walk {l : PySem.W.OpenLaw} {q : Program} {loose : List Str} {XP : (Str → Option Value) → Heap → Prop} {YP : World → Heap → Prop} {d : DefRec} {K : Params → PySem.W.Frag} {P : Pg} {T : Tc} {i n : Nat} {x : Str} (hn : l.most = some 63) (hdf : d.params.defaults = []) (hr : Room (2 * n) callerA)
    (hY : ∀ (w : World) (h : Heap), YP w h → (K w.params).In h) (hi : (P.fns[i]?).isSome = true)
    (F : ∀ (w : World) (mg : Str → Option Value) (fa : Addr) (h : Heap), (K w.params).In h → h.Ns mainGlobals mg → mg d.name = some (.ref fa) →
      ∃ (k : Kc) (fas : Nat → Addr) (pO : Nat → List Str) (fd : FuncData) (x' q' : Str) (st : Stmt), PRec l.prog (K w.params) mg k P T fas pO ∧ fas i = fa ∧ pO i = [x] ∧ L2.Fun (K w.params) x' q' st fa fd ∧ ∀ (s : Shared) (u : Value), BindsTo s fd ⟨[u], []⟩ [(x, u)])
    (law : ∀ ns : List Int, ns.length ≤ 63 → (∀ z ∈ ns, Builtin.Int.intBits z ≤ 1048576) → ∃ ps, (run P n i [.lst .giv (ns.map D.int)]).out = .ok (.bl true) ps) :
    PySem.W.WalkO q loose XP YP l.row.toRowW d [] (fun f vs => PySem.call f vs) := by
  refine L2.walk_ofB (n := 63) (k := 2 * n) (x := x) (CX := fun w => L2.CX l.prog w) (sp := fun w => spLaw (K w.params)) hn (by decide) hdf hr hY (fun w mg fa h KX G hm => ?_) (fun w H a ns hl hb _ hS => ⟨a, ns, rfl, hS, hl, hb, fun _ => rfl⟩) fun w H s e s' z => ?_
  · obtain ⟨k, fas, pO, fd, x', q', st, R, e1, e2, F1, hb⟩ := F w mg fa h KX G hm
    obtain ⟨fd', h1, h2, x2, q2, st2, F2⟩ := all_ok (p := l.prog) (w := w) R n i hi
    rw [e1] at h1 F2
    obtain rfl := Fun.uniq F1 F2
    rw [e2] at h1
    exact ⟨fd, hb, fun base _ _ => (h1 base).imp (law_sp R.hK law)⟩
  · obtain ⟨_, _, _, _, _, _, _, _, _, _, _, _, z⟩ := z
    exact z.elim
end Mv

/-! what a law's own head puts together -/
namespace Mv
open PySem L2
/-- the statement j of the class's body -/
def inCls (st : Stmt) (j : Nat) : Stmt := (match st with
  | .ClassDef _ _ _ b _ _ _ _ _ _ _ => b
  | _ => []).getD j (.Pass ⟨0, 0, 0, 0⟩)
theorem fun_ks {K : PySem.W.Frag} {x q : Str} {st : Stmt} {f : Addr} {fd : FuncData} {ps ks : List Str} {n : Nat} {perm : List Nat} (F : L2.Fun K x q st f fd)
    (h : ∀ (kV doc pm : Value) (an : Option Addr) (cdv ct : Value) (us ws : List Value), us.length = n → ws.length = ks.length → bindArgs (PySem.W.fnOf x q (defArgs st) (defBody st) (defScope st) .none kV doc pm an cdv ct) ⟨us, ks.zip ws⟩ = pure (ps.zip (pick .none perm (us ++ ws)))) : KS K fd ps n ks perm := fun s us ws _ l1 l2 => by
  obtain ⟨oc, od, kV, doc, pm, an, cdv, ct, osl, rfl, lk, hcd⟩ := F.ex
  exact .of_eq (h kV doc pm an cdv ct us ws l1 l2)
theorem fun_ksm {K : PySem.W.Frag} {x q : Str} {st : Stmt} {f : Addr} {fd : FuncData} {ps ks : List Str} {n : Nat} {perm : List Nat} (F : L2.Fun K x q st f fd)
    (h : ∀ (kV doc pm : Value) (an : Option Addr) (cdv ct u : Value) (us ws : List Value), us.length = n → ws.length = ks.length → bindArgs (PySem.W.fnOf x q (defArgs st) (defBody st) (defScope st) .none kV doc pm an cdv ct) ⟨u :: us, ks.zip ws⟩ = pure (ps.zip (u :: pick .none perm (us ++ ws)))) : KSm K fd ps n ks perm := fun s u us ws _ l1 l2 => by
  obtain ⟨oc, od, kV, doc, pm, an, cdv, ct, osl, rfl, lk, hcd⟩ := F.ex
  exact .of_eq (h kV doc pm an cdv ct u us ws l1 l2)
theorem kwOf_mem {T : Tc} {x : Str} {n : Nat} {ks : List Str} {perm : List Nat} (h : kwOf T x n ks = some perm) : (x, n, ks, perm) ∈ T.kw := by
  unfold kwOf at h
  obtain ⟨q, h1, h2⟩ := List.exists_of_findSome?_eq_some h
  split at h2
  · rename_i c
    cases h2
    obtain ⟨rfl, rfl, rfl⟩ := c
    exact h1
  · cases h2
/-- an error class's row says what an except clause of another (or the same) asks -/
theorem exm_of {K : PySem.W.Frag} {C S : Addr} {b : Bool} (h1 : PySem.W.subIn K (.ref S) (.type "BaseException") = some true) (h2 : PySem.W.isClsIn K S = true) (h3 : PySem.W.typeIn K (.ref S) = some (.type "type")) (h4 : PySem.W.subIn K (.ref C) (.ref S) = some b) :
    PySem.W.exmOne K (.ref C) (.ref S) = some b := by
  have e1 : (PySem.W.subIn K (.ref S) (.type "BaseException") == some true) = true := by rw [h1] <;> rfl
  have e2 : ((PySem.W.clsIn K S).isSome && PySem.W.typeIn K (.ref S) == some (.type "type")) = true := by
    have h2' : (PySem.W.clsIn K S).isSome = true := h2
    rw [h2', h3] <;> rfl
  unfold PySem.W.exmOne
  rw [if_pos e1]
  show (if _ then PySem.W.subIn K (.ref C) (.ref S) else none) = some b
  rw [if_pos e2]
  exact h4
end Mv

/-! what holds behind a run of the machine, by continuations -/
namespace Mv
open PySem
variable {P : Pg} {F : Nat → List D → FOut} {α β : Type} {Q : α → En → Prop} {X : Nat → D → En → Prop} {r : En}

theorem nr {α : Type} {a b : α} (h : a = b) : a = b := h
theorem nr1 {α : Sort 1} {a b : α} (h : a = b) : a = b := h
/-- (the marks keep simp out of what comes later) -/
structure Tk {α : Sort _} (Q : α) : Type where
structure Tk2 {α β : Sort _} (Q : α) (X : β) : Type where
def Out.sat {α : Type} (o : Out α) (Q : α → En → Prop) (X : Nat → D → En → Prop) (_ : Tk2 Q X := ⟨⟩) : Prop := match o with
  | .ok a r => Q a r
  | .exc c w r => X c w r
  | .bad => False
def optP {α : Type} (x : Option α) (Q : α → Prop) (_ : Tk Q := ⟨⟩) : Prop := match x with
  | some a => Q a
  | none => False
def ifP (b : Bool) (p q : Prop) (_ : Tk2 p q := ⟨⟩) : Prop := if b = true then p else q
theorem sat_q {o : Out α} {Q Q' : α → En → Prop} (h : ∀ a r, Q a r = Q' a r) : o.sat Q X = o.sat Q' X := by
  have : Q = Q' := by funext a r; exact h a r
  subst this; rfl
theorem optP_q {o : Option α} {Q Q' : α → Prop} (h : ∀ a, Q a = Q' a) : optP o Q = optP o Q' := by
  have : Q = Q' := by funext a; exact h a
  subst this; rfl
theorem sat_ok {a : α} : (Out.ok a r).sat Q X = Q a r := nr rfl
theorem sat_exc {c : Nat} {w : D} : (Out.exc c w r : Out α).sat Q X = X c w r := nr rfl
theorem sat_bind {o : Out α} {f : α → En → Out β} {Q : β → En → Prop} : (o.bind f).sat Q X = o.sat (fun a r => (f a r).sat Q X) X := by cases o <;> rfl
theorem sat_of {x : Option α} : (Out.of x r).sat Q X = optP x fun a => Q a r := by cases x <;> rfl
theorem Out.sat.mono {o : Out α} {Q Q' : α → En → Prop} {X X' : Nat → D → En → Prop} (h : o.sat Q X) (hq : ∀ a r, Q a r → Q' a r) (hx : ∀ c w r, X c w r → X' c w r) : o.sat Q' X' := match o, h with
  | .ok _ _, h => hq _ _ h
  | .exc _ _ _, h => hx _ _ _ h
theorem optP_some {a : α} {Q : α → Prop} : optP (some a) Q = Q a := nr rfl
theorem optP_none {Q : α → Prop} : optP none Q = False := nr rfl
theorem optP_map {x : Option α} {f : α → β} {Q : β → Prop} : optP (x.map f) Q = optP x fun a => Q (f a) := by cases x <;> rfl
theorem optP_bind {x : Option α} {f : α → Option β} {Q : β → Prop} : optP (x.bind f) Q = optP x fun a => optP (f a) Q := by cases x <;> rfl
theorem optP_ite {c : Prop} [Decidable c] {a : α} {Q : α → Prop} : optP (if c then some a else none) Q = (c ∧ Q a) := by
  by_cases h : c
  · rw [if_pos h]; exact propext ⟨fun q => ⟨h, q⟩, fun q => q.2⟩
  · rw [if_neg h]; exact propext ⟨fun q => q.elim, fun q => h q.1⟩
theorem ifP_true {p q : Prop} : ifP true p q = p := nr rfl
theorem ifP_false {p q : Prop} : ifP false p q = q := nr rfl
theorem ifP_not {b : Bool} {p q : Prop} : ifP (!b) p q = ifP b q p := by cases b <;> rfl
theorem ifP_I {b : Bool} {p q : Prop} (h1 : b = true → p) (h2 : b = false → q) : ifP b p q := by
  cases b
  · exact h2 rfl
  · exact h1 rfl
theorem ifP_D {c : Prop} [Decidable c] {p q : Prop} (h1 : c → p) (h2 : ¬ c → q) : ifP (decide c) p q := by
  by_cases h : c
  · rw [decide_eq_true h]; exact h1 h
  · rw [decide_eq_false h]; exact h2 h
theorem ifP_pos {c : Prop} [Decidable c] {p q : Prop} (h : c) (hp : p) : ifP (decide c) p q := by rw [decide_eq_true h]; exact hp
theorem ifP_neg {c : Prop} [Decidable c] {p q : Prop} (h : ¬ c) (hp : q) : ifP (decide c) p q := by rw [decide_eq_false h]; exact hp
theorem dec_beq {a b : Prop} [Decidable a] [Decidable b] : (decide a == decide b) = decide (a ↔ b) := by
  by_cases ha : a <;> by_cases hb : b <;> simp [ha, hb]
theorem ifP_dec {c : Prop} [Decidable c] {p q : Prop} : ifP (decide c) p q = if c then p else q := by
  by_cases h : c
  · rw [decide_eq_true h, if_pos h]; rfl
  · rw [decide_eq_false h, if_neg h]; rfl

/-! ### slots -/
theorem slot_zero {a : Option D} : slot (a :: r) 0 = a := by cases a <;> rfl
theorem slot_succ {a : Option D} {i : Nat} : slot (a :: r) (i + 1) = slot r i := nr rfl
theorem set_zero {a b : Option D} : List.set (a :: r) 0 b = b :: r := nr rfl
theorem set_succ {a b : Option D} {i : Nat} : List.set (a :: r) (i + 1) b = a :: List.set r i b := nr rfl
/-- what may be looked at -/
def pk (o : Option D) : Option D := match o with
  | some (.exn _ _) => none
  | x => x
theorem wpeek_v {d : D} : (Ar.v d).peek r = some d := nr rfl
theorem peek_r {i : Nat} : (Ar.r i).peek r = pk (slot r i) := nr rfl
theorem pk_non : pk (some .non) = some .non := nr rfl
theorem pk_bl {b : Bool} : pk (some (.bl b)) = some (.bl b) := nr rfl
theorem pk_int {i : Int} : pk (some (.int i)) = some (.int i) := nr rfl
theorem pk_str {s : Str} : pk (some (.str s)) = some (.str s) := nr rfl
theorem pk_tup {ds : List D} : pk (some (.tup ds)) = some (.tup ds) := nr rfl
theorem pk_lst {k : Kd} {ds : List D} : pk (some (.lst k ds)) = some (.lst k ds) := nr rfl
theorem pk_obj {k : Kd} {c : Nat} {ks : List Nat} {ds : List D} : pk (some (.obj k c ks ds)) = some (.obj k c ks ds) := nr rfl
/-- storing to a slot -/
def stP (r : En) (i : Nat) (d : D) (K : En → Prop) (_ : Tk K := ⟨⟩) : Prop := i < r.length ∧ K (r.set i (some d))
theorem stP_zero {a : Option D} {d : D} {K : En → Prop} : stP (a :: r) 0 d K = K (some d :: r) := propext ⟨fun h => h.2, fun h => ⟨Nat.zero_lt_succ _, h⟩⟩
theorem stP_succ {a : Option D} {i : Nat} {d : D} {K : En → Prop} : stP (a :: r) (i + 1) d K = stP r i d fun r => K (a :: r) :=
  propext ⟨fun h => ⟨Nat.lt_of_succ_lt_succ h.1, h.2⟩, fun h => ⟨Nat.succ_lt_succ h.1, h.2⟩⟩
theorem asg_nm {i : Nat} {d : D} {K : En → Prop} : optP (asgT (.nm i) d r) K = stP r i d K := by
  show optP (if i < r.length then some (r.set i (some d)) else none) K = _
  rw [optP_ite]; rfl
theorem asg_tp {ts : List Tg} {ds : List D} {K : En → Prop} : optP (asgT (.tp ts) (.tup ds) r) K = optP (asgT.asgs ts ds r) K := nr rfl
theorem asgs_nil {K : En → Prop} : optP (asgT.asgs [] [] r) K = K r := nr rfl
theorem asgs_cons {t : Tg} {ts : List Tg} {d : D} {ds : List D} {K : En → Prop} : optP (asgT.asgs (t :: ts) (d :: ds) r) K = optP (asgT t d r) fun r => optP (asgT.asgs ts ds r) K := by
  show optP ((asgT t d r).bind fun r' => asgT.asgs ts ds r') K = _
  rw [optP_bind]

/-! ### statements -/
def kB (P : Pg) (F : Nat → List D → FOut) (ss : List S) (Q : Fl → En → Prop) (X : Nat → D → En → Prop) (f : Fl) (r : En) (_ : Tk2 Q X := ⟨⟩) : Prop := match f with
  | .next => (evB P F ss r).sat Q X
  | f => Q f r
section
variable {Q : Fl → En → Prop}
theorem kB_next {ss : List S} : kB P F ss Q X .next r = (evB P F ss r).sat Q X := nr rfl
theorem kB_brk {ss : List S} : kB P F ss Q X .brk r = Q .brk r := nr rfl
theorem kB_cont {ss : List S} : kB P F ss Q X .cont r = Q .cont r := nr rfl
theorem kB_ret {ss : List S} {d : D} : kB P F ss Q X (.ret d) r = Q (.ret d) r := nr rfl
theorem sB_nil : (evB P F [] r).sat Q X = Q .next r := nr rfl
theorem sB_cons {s : S} {ss : List S} : (evB P F (s :: ss) r).sat Q X = (evS P F s r).sat (kB P F ss Q X) X := by
  show (match evS P F s r with
    | .ok .next r1 => evB P F ss r1
    | x => x).sat Q X = _
  cases evS P F s r with
  | ok f r => cases f <;> rfl
  | exc c w r => rfl
  | bad => rfl
theorem sS_pass : (evS P F .pass r).sat Q X = Q .next r := nr rfl
theorem sS_brk : (evS P F .brk r).sat Q X = Q .brk r := nr rfl
theorem sS_cont : (evS P F .cont r).sat Q X = Q .cont r := nr rfl
theorem sS_expr {e : E} : (evS P F (.expr e) r).sat Q X = ((ev P F e).v r).sat (fun _ r => Q .next r) X := by
  show (((ev P F e).v r).bind fun _ r => Out.ok Fl.next r).sat Q X = _
  rw [sat_bind]; rfl
theorem sat_opt {β γ : Type} {x : Option β} {f : β → Out γ} {Q : γ → En → Prop} : (match x with
    | some a => f a
    | none => Out.bad).sat Q X = optP x fun a => (f a).sat Q X := by cases x <;> rfl
theorem sS_asg {t : Tg} {e : E} : (evS P F (.asg t e) r).sat Q X = ((ev P F e).v r).sat (fun d r => optP (asgT t d r) fun r => Q .next r) X := by
  show (((ev P F e).v r).bind fun d r => match asgT t d r with
    | some r1 => Out.ok Fl.next r1
    | none => .bad).sat Q X = _
  rw [sat_bind]
  refine sat_q fun d r => ?_
  cases asgT t d r <;> rfl
theorem sS_par {ts : List Tg} {es : List E} : (evS P F (.par ts es) r).sat Q X = (evEs (evs P F es) r).sat (fun ds r => optP (asgT.asgs ts ds r) fun r => Q .next r) X := by
  show ((evEs (evs P F es) r).bind fun ds r => match asgT.asgs ts ds r with
    | some r1 => Out.ok Fl.next r1
    | none => .bad).sat Q X = _
  rw [sat_bind]
  refine sat_q fun d r => ?_
  cases asgT.asgs ts d r <;> rfl
theorem sS_ret {e : E} : (evS P F (.ret e) r).sat Q X = ((ev P F e).v r).sat (fun d r => Q (.ret d) r) X := by
  show (((ev P F e).v r).bind fun d r => Out.ok (Fl.ret d) r).sat Q X = _
  rw [sat_bind]; rfl
theorem sS_retV {i : Nat} : (evS P F (.retV i) r).sat Q X = optP (pk (slot r i)) fun d => Q (.ret d) (r.set i none) := by
  show (match slot r i with
    | some (.exn _ _) => Out.bad
    | some d => Out.ok (Fl.ret d) (r.set i none)
    | none => .bad).sat Q X = _
  cases slot r i with
  | none => rfl
  | some d => cases d <;> rfl
theorem sS_if {c : E} {a b : List S} : (evS P F (.ifS c a b) r).sat Q X = ((ev P F c).t r).sat (fun k r => ifP k ((evB P F a r).sat Q X) ((evB P F b r).sat Q X)) X := by
  show (((ev P F c).t r).bind fun k r => if k then evB P F a r else evB P F b r).sat Q X = _
  rw [sat_bind]
  refine sat_q fun k r => ?_
  cases k <;> rfl
/-- ways that meet behind an if -/
def kJ (J : En → Prop) (Q : Fl → En → Prop) (f : Fl) (r : En) (_ : Tk2 J Q := ⟨⟩) : Prop := match f with
  | .next => J r
  | f => Q f r
theorem kJ_next {J : En → Prop} : kJ J Q .next r = J r := nr rfl
theorem kJ_ret {J : En → Prop} {d : D} : kJ J Q (.ret d) r = Q (.ret d) r := nr rfl
theorem kJ_brk {J : En → Prop} : kJ J Q .brk r = Q .brk r := nr rfl
theorem kJ_cont {J : En → Prop} : kJ J Q .cont r = Q .cont r := nr rfl
theorem sS_ifI {c : E} {a b : List S} (h : ((ev P F c).t r).sat (fun k r => ifP k ((evB P F a r).sat Q X) ((evB P F b r).sat Q X)) X) : (evS P F (.ifS c a b) r).sat Q X := by rw [sS_if]; exact h
theorem sS_ifJ {c : E} {a b : List S} (J : En → Prop) (h : ((ev P F c).t r).sat (fun k r => ifP k ((evB P F a r).sat (kJ J Q) X) ((evB P F b r).sat (kJ J Q) X)) X) (hj : ∀ r, J r → Q .next r) : (evS P F (.ifS c a b) r).sat Q X := by
  have e : (evS P F (.ifS c a b) r).sat (kJ J Q) X := by rw [sS_if]; exact h
  refine e.mono (fun f r z => ?_) fun _ _ _ z => z
  cases f with
  | next => exact hj _ z
  | _ => exact z
theorem sS_raise {c : Nat} {e : E} : (evS P F (.raise c e) r).sat Q X = ((ev P F e).v r).sat (fun w r => X c w.frz r) X := by
  show (((ev P F e).v r).bind fun w r => Out.exc c w.frz r).sat Q X = _
  rw [sat_bind]; rfl
theorem sS_try {b : List S} {hs : List Hd} : (evS P F (.tryS b hs) r).sat Q X = (evB P F b r).sat Q fun c w r1 => upOf P c c = true ∧ (evH P F c w hs r1).sat Q X := by
  show (match evB P F b r with
    | .ok f r1 => Out.ok f r1
    | .exc c w r1 => if upOf P c c then evH P F c w hs r1 else Out.bad
    | .bad => .bad).sat Q X = _
  cases evB P F b r with
  | ok f r => rfl
  | exc c w r =>
    show (if upOf P c c = true then evH P F c w hs r else Out.bad).sat Q X = (upOf P c c = true ∧ (evH P F c w hs r).sat Q X)
    by_cases hu : upOf P c c = true
    · rw [if_pos hu]; exact propext ⟨fun h => ⟨hu, h⟩, fun h => h.2⟩
    · rw [if_neg hu]; exact propext ⟨fun h => h.elim, fun h => hu h.1⟩
  | bad => rfl
theorem sH_nil {c : Nat} {w : D} : (evH P F c w [] r).sat Q X = X c w r := nr rfl
def noX : Nat → D → En → Prop := fun _ _ _ => False
theorem sH_none {c d : Nat} {w : D} {b : List S} {hs : List Hd} : (evH P F c w (.mk d none b :: hs) r).sat Q X = ifP (upOf P c d) ((evB P F b r).sat (fun f r1 => clean r1 = true ∧ Q f r1) noX) ((evH P F c w hs r).sat Q X) := by
  show (match (if upOf P c d then some (match evB P F b r with
        | .ok f r1 => if clean r1 then Out.ok f r1 else .bad
        | _ => Out.bad) else none) with
    | some o => o
    | none => evH P F c w hs r).sat Q X = _
  cases upOf P c d with
  | false => rfl
  | true =>
    rw [if_pos rfl, ifP_true]
    dsimp only
    cases evB P F b r with
    | ok f r =>
      dsimp only [Out.sat]
      cases clean r with
      | true => exact propext ⟨fun h => ⟨rfl, h⟩, fun h => h.2⟩
      | false => exact propext ⟨fun h => h.elim, fun h => by cases h.1⟩
    | exc c w r => rfl
    | bad => rfl
theorem sH_some {c d j : Nat} {w : D} {b : List S} {hs : List Hd} : (evH P F c w (.mk d (some j) b :: hs) r).sat Q X = ifP (upOf P c d) (j < r.length ∧ (evB P F b (r.set j (some (.exn c w)))).sat (fun f r1 => clean (r1.set j none) = true ∧ Q f (r1.set j none)) noX) ((evH P F c w hs r).sat Q X) := by
  show (match (if upOf P c d then some (if j < r.length then (match evB P F b (r.set j (some (.exn c w))) with
        | .ok f r1 => if clean (r1.set j none) then Out.ok f (r1.set j none) else .bad
        | _ => Out.bad) else Out.bad) else none) with
    | some o => o
    | none => evH P F c w hs r).sat Q X = _
  cases upOf P c d with
  | false => rfl
  | true =>
    rw [if_pos rfl, ifP_true]
    dsimp only
    by_cases hj : j < r.length
    · rw [if_pos hj]
      cases evB P F b (r.set j (some (.exn c w))) with
      | ok f r =>
        dsimp only [Out.sat]
        cases clean (r.set j none) with
        | true => exact propext ⟨fun h => ⟨hj, rfl, h⟩, fun h => h.2.2⟩
        | false => exact propext ⟨fun h => h.elim, fun h => by cases h.2.1⟩
      | exc c w r => exact propext ⟨fun h => h.elim, fun h => h.2.elim⟩
      | bad => exact propext ⟨fun h => h.elim, fun h => h.2.elim⟩
    · rw [if_neg hj]; exact propext ⟨fun h => h.elim, fun h => absurd h.1 hj⟩
theorem clean_nil : clean [] = true := nr rfl
theorem clean_non : clean (none :: r) = clean r := nr rfl
theorem clean_int {i : Int} : clean (some (.int i) :: r) = clean r := nr rfl
theorem clean_bl {i : Bool} : clean (some (.bl i) :: r) = clean r := nr rfl
theorem clean_nn : clean (some .non :: r) = clean r := nr rfl
theorem clean_str {i : Str} : clean (some (.str i) :: r) = clean r := nr rfl
theorem clean_tup {ds : List D} : clean (some (.tup ds) :: r) = clean r := nr rfl
theorem clean_lst {k : Kd} {ds : List D} : clean (some (.lst k ds) :: r) = clean r := nr rfl
theorem clean_obj {k : Kd} {c : Nat} {ks : List Nat} {ds : List D} : clean (some (.obj k c ks ds) :: r) = clean r := nr rfl
end
end Mv

/-! .. of expressions -/
namespace Mv
open PySem
variable {P : Pg} {F : Nat → List D → FOut} {α β : Type} {X : Nat → D → En → Prop} {r : En}

theorem mk1_v {v : En → Out D} : (Ev.mk1 v).v r = v r := nr rfl
theorem mk1_t {v : En → Out D} {Q : Bool → En → Prop} : ((Ev.mk1 v).t r).sat Q X = (v r).sat (fun d r => optP (truD d) fun k => Q k r) X := by
  show ((v r).bind fun d r => .of (truD d) r).sat Q X = _
  rw [sat_bind]; refine sat_q fun d r => ?_; exact sat_of
theorem mk1_a {v : En → Out D} {Q : Ar → En → Prop} : ((Ev.mk1 v).a r).sat Q X = (v r).sat (fun d r => Q (.v d) r) X := by
  show ((v r).bind fun d r => .ok (.v d) r).sat Q X = _
  rw [sat_bind]; rfl
section
variable {Q : D → En → Prop}
/-- read a slot -/
def rdS (o : Option D) (r : En) (i : Nat) (p : List St1) : Out D := match o with
  | some d => match getP d p with
    | some (.exn _ _) => .bad
    | some e => if e.owned then (match updP (fun x => some x.frz) d p with
        | some d' => .ok e.frz (r.set i (some d'))
        | none => .bad) else .ok e r
    | none => .bad
  | none => .bad
theorem readP_rd {i : Nat} {p : List St1} : readP r i p = rdS (slot r i) r i p := nr rfl
theorem rd_non {i : Nat} : (rdS (some .non) r i []).sat Q X = Q .non r := nr rfl
theorem rd_bl {i : Nat} {b : Bool} : (rdS (some (.bl b)) r i []).sat Q X = Q (.bl b) r := nr rfl
theorem rd_int {i : Nat} {n : Int} : (rdS (some (.int n)) r i []).sat Q X = Q (.int n) r := nr rfl
theorem rd_str {i : Nat} {n : Str} : (rdS (some (.str n)) r i []).sat Q X = Q (.str n) r := nr rfl
theorem rd_tup {i : Nat} {ds : List D} : (rdS (some (.tup ds)) r i []).sat Q X = Q (.tup ds) r := nr rfl
theorem rd_own {i : Nat} {ds : List D} : (rdS (some (.lst .own ds)) r i []).sat Q X = Q (.lst .shr (D.frzs ds)) (r.set i (some (.lst .shr (D.frzs ds)))) := nr rfl
theorem rd_shr {i : Nat} {ds : List D} : (rdS (some (.lst .shr ds)) r i []).sat Q X = Q (.lst .shr ds) r := nr rfl
theorem rd_giv {i : Nat} {ds : List D} : (rdS (some (.lst .giv ds)) r i []).sat Q X = Q (.lst .giv ds) r := nr rfl
theorem rd_obj {i c : Nat} {ks : List Nat} {ds : List D} : (rdS (some (.obj .shr c ks ds)) r i []).sat Q X = Q (.obj .shr c ks ds) r := nr rfl

theorem e_int {i : Int} : ((ev P F (.int i)).v r).sat Q X = Q (.int i) r := nr rfl
theorem e_bl {i : Bool} : ((ev P F (.bl i)).v r).sat Q X = Q (.bl i) r := nr rfl
theorem e_str {i : Str} : ((ev P F (.str i)).v r).sat Q X = Q (.str i) r := nr rfl
theorem e_non : ((ev P F .non).v r).sat Q X = Q .non r := nr rfl
theorem e_var {i : Nat} : ((ev P F (.var i)).v r).sat Q X = (rdS (slot r i) r i []).sat Q X := nr rfl
theorem e_bin {op : Operator} {a b : E} : ((ev P F (.bin op a b)).v r).sat Q X = ((ev P F a).v r).sat (fun x r => ((ev P F b).v r).sat (fun y r => optP (binD op x y) fun z => Q z r) X) X := by
  show (((ev P F a).v r).bind fun x r => ((ev P F b).v r).bind fun y r => .of (binD op x y) r).sat Q X = _
  rw [sat_bind]; refine sat_q fun x r => ?_; rw [sat_bind]; refine sat_q fun y r => ?_; exact sat_of
def intP (d : D) (K : Int → Prop) (_ : Tk K := ⟨⟩) : Prop := match d with
  | .int i => K i
  | _ => False
theorem intP_int {i : Int} {K : Int → Prop} : intP (.int i) K = K i := nr rfl
def blP (d : D) (K : Bool → Prop) (_ : Tk K := ⟨⟩) : Prop := match d with
  | .bl i => K i
  | _ => False
theorem blP_bl {i : Bool} {K : Bool → Prop} : blP (.bl i) K = K i := nr rfl
theorem e_neg {a : E} : ((ev P F (.neg a)).v r).sat Q X = ((ev P F a).v r).sat (fun x r => intP x fun i => Q (.int (-i)) r) X := by
  show (((ev P F a).v r).bind fun x r => match x with
    | .int i => Out.ok (D.int (-i)) r
    | _ => .bad).sat Q X = _
  rw [sat_bind]; refine sat_q fun x r => ?_; cases x <;> rfl
theorem e_not {a : E} : ((ev P F (.notE a)).v r).sat Q X = ((ev P F a).v r).sat (fun x r => blP x fun i => Q (.bl (!i)) r) X := by
  show (((ev P F a).v r).bind fun x r => match x with
    | .bl i => Out.ok (D.bl (!i)) r
    | _ => .bad).sat Q X = _
  rw [sat_bind]; refine sat_q fun x r => ?_; cases x <;> rfl
theorem e_and1 {a : E} : ((ev P F (.andE [a])).v r).sat Q X = ((ev P F a).v r).sat Q X := nr rfl
theorem e_or1 {a : E} : ((ev P F (.orE [a])).v r).sat Q X = ((ev P F a).v r).sat Q X := nr rfl
theorem e_and {a b : E} {es : List E} : ((ev P F (.andE (a :: b :: es))).v r).sat Q X = ((ev P F a).v r).sat (fun d r => blP d fun k => ifP k (((ev P F (.andE (b :: es))).v r).sat Q X) (Q (.bl false) r)) X := by
  show (((ev P F a).v r).bind fun d r => match d with
      | .bl true => evAnd (evs P F (b :: es)) r
      | .bl false => .ok (.bl false) r
      | _ => .bad).sat Q X = _
  rw [sat_bind]; refine sat_q fun x r => ?_
  cases x with
  | bl k => cases k <;> rfl
  | _ => rfl
theorem e_or {a b : E} {es : List E} : ((ev P F (.orE (a :: b :: es))).v r).sat Q X = ((ev P F a).v r).sat (fun d r => blP d fun k => ifP k (Q (.bl true) r) (((ev P F (.orE (b :: es))).v r).sat Q X)) X := by
  show (((ev P F a).v r).bind fun d r => match d with
      | .bl true => .ok (.bl true) r
      | .bl false => evOr (evs P F (b :: es)) r
      | _ => .bad).sat Q X = _
  rw [sat_bind]; refine sat_q fun x r => ?_
  cases x with
  | bl k => cases k <;> rfl
  | _ => rfl
theorem e_ite {c a b : E} : ((ev P F (.ite c a b)).v r).sat Q X = ((ev P F c).t r).sat (fun k r => ifP k (((ev P F a).v r).sat Q X) (((ev P F b).v r).sat Q X)) X := by
  show (((ev P F c).t r).bind fun k r => if k then (ev P F a).v r else (ev P F b).v r).sat Q X = _
  rw [sat_bind]; refine sat_q fun k r => ?_; cases k <;> rfl
theorem e_cmp {a : E} {ops : List CmpOp} {es : List E} : ((ev P F (.cmp a ops es)).v r).sat Q X = ((ev P F a).a r).sat (fun x r => (evC x ops (evs P F es) r).sat (fun b r => Q (.bl b) r) X) X := by
  show (((ev P F a).a r).bind fun x r => (evC x ops (evs P F es) r).bind fun b r => .ok (.bl b) r).sat Q X = _
  rw [sat_bind]; refine sat_q fun x r => ?_; rw [sat_bind]; rfl
theorem e_tup {es : List E} : ((ev P F (.tup es)).v r).sat Q X = (evEs (evs P F es) r).sat (fun ds r => fits ds = true ∧ Q (.tup (D.frzs ds)) r) X := by
  show ((evEs (evs P F es) r).bind fun ds r => if fits ds then Out.ok (D.tup (D.frzs ds)) r else .bad).sat Q X = _
  rw [sat_bind]; refine sat_q fun ds r => ?_
  by_cases h : fits ds = true
  · rw [if_pos h]; exact propext ⟨fun q => ⟨h, q⟩, fun q => q.2⟩
  · rw [if_neg h]; exact propext ⟨fun q => q.elim, fun q => h q.1⟩
theorem e_lst {es : List E} : ((ev P F (.lst es)).v r).sat Q X = (evEs (evs P F es) r).sat (fun ds r => fits ds = true ∧ Q (.lst .own ds) r) X := by
  show ((evEs (evs P F es) r).bind fun ds r => if fits ds then Out.ok (D.lst .own ds) r else .bad).sat Q X = _
  rw [sat_bind]; refine sat_q fun ds r => ?_
  by_cases h : fits ds = true
  · rw [if_pos h]; exact propext ⟨fun q => ⟨h, q⟩, fun q => q.2⟩
  · rw [if_neg h]; exact propext ⟨fun q => q.elim, fun q => h q.1⟩
def pathP (o : Option (Nat × List St1)) (K : Nat → List St1 → Prop) (N : Prop) (_ : Tk2 K N := ⟨⟩) : Prop := match o with
  | some (x, p) => K x p
  | none => N
theorem pathP_some {x : Nat} {p : List St1} {K : Nat → List St1 → Prop} {N : Prop} : pathP (some (x, p)) K N = K x p := nr rfl
theorem pathP_none {K : Nat → List St1 → Prop} {N : Prop} : pathP none K N = N := nr rfl
def hasP (o : Option D) (p : Prop) (_ : Tk p := ⟨⟩) : Prop := (pk o).isSome = true ∧ p
theorem hasP_of {o : Option D} {p : Prop} (h : (pk o).isSome = true) : hasP o p = p := propext ⟨fun q => q.2, fun q => ⟨h, q⟩⟩
theorem hasP_non {p : Prop} : hasP (some .non) p = p := hasP_of rfl
theorem hasP_bl {b : Bool} {p : Prop} : hasP (some (.bl b)) p = p := hasP_of rfl
theorem hasP_int {b : Int} {p : Prop} : hasP (some (.int b)) p = p := hasP_of rfl
theorem hasP_str {b : Str} {p : Prop} : hasP (some (.str b)) p = p := hasP_of rfl
theorem hasP_tup {b : List D} {p : Prop} : hasP (some (.tup b)) p = p := hasP_of rfl
theorem hasP_lst {k : Kd} {b : List D} {p : Prop} : hasP (some (.lst k b)) p = p := hasP_of rfl
theorem hasP_obj {k : Kd} {c : Nat} {ks : List Nat} {b : List D} {p : Prop} : hasP (some (.obj k c ks b)) p = p := hasP_of rfl
theorem if_and {c : Prop} [Decidable c] {β : Type} {o : Out β} {Q : β → En → Prop} : (if c then o else Out.bad).sat Q X = (c ∧ o.sat Q X) := by
  by_cases h : c
  · rw [if_pos h]; exact propext ⟨fun q => ⟨h, q⟩, fun q => q.2⟩
  · rw [if_neg h]; exact propext ⟨fun q => q.elim, fun q => h q.1⟩
theorem e_idxv {x : Nat} {i : E} : ((ev P F (.idx (.var x) i)).v r).sat Q X = hasP (slot r x) (((ev P F i).v r).sat (fun k r => intP k fun n => (rdS (slot r x) r x [.ix n]).sat Q X) X) := by
  show (if has r x then (((ev P F i).v r).bind fun k r => match k with
      | .int n => readP r x [.ix n]
      | _ => .bad) else Out.bad).sat Q X = _
  rw [if_and]
  show (_ ∧ _) = (_ ∧ _)
  congr 1
  rw [sat_bind]; refine sat_q fun k r => ?_; cases k <;> rfl
def idxK (o : Option (Nat × List St1)) (r : En) (n : Out D) : Out D := match o with
  | some (x, p) => readP r x p
  | none => n
theorem idxK_sat {o : Option (Nat × List St1)} {n : Out D} : (idxK o r n).sat Q X = pathP o (fun x p => (rdS (slot r x) r x p).sat Q X) (n.sat Q X) := by
  cases o with
  | none => rfl
  | some p => rfl
theorem idx_n {a i : E} : (((ev P F a).v r).bind fun d r => ((ev P F i).v r).bind fun k r => .of ((itemD d k).map D.frz) r).sat Q X = ((ev P F a).v r).sat (fun d r => ((ev P F i).v r).sat (fun k r => optP (itemD d k) fun e => Q e.frz r) X) X := by
  rw [sat_bind]; refine sat_q fun d r => ?_; rw [sat_bind]; refine sat_q fun k r => ?_; rw [sat_of, optP_map]
theorem e_idxi {a b i : E} : ((ev P F (.idx (.idx a b) i)).v r).sat Q X = pathP (path (.idx (.idx a b) i) r) (fun x p => (rdS (slot r x) r x p).sat Q X) (((ev P F (.idx a b)).v r).sat (fun d r => ((ev P F i).v r).sat (fun k r => optP (itemD d k) fun e => Q e.frz r) X) X) := by
  rw [← idx_n, ← idxK_sat]; rfl
theorem e_idxa {a i : E} {f : Nat} : ((ev P F (.idx (.attr a f) i)).v r).sat Q X = pathP (path (.idx (.attr a f) i) r) (fun x p => (rdS (slot r x) r x p).sat Q X) (((ev P F (.attr a f)).v r).sat (fun d r => ((ev P F i).v r).sat (fun k r => optP (itemD d k) fun e => Q e.frz r) X) X) := by
  rw [← idx_n, ← idxK_sat]; rfl
theorem path_none {a i : E} (h : path a r = none) : path (.idx a i) r = none := by
  show ((path a r).bind fun p => (evI i r).map fun n => (p.1, p.2 ++ [St1.ix n])) = none
  rw [h]; rfl
theorem e_idxn {a i : E} (h : path a r = none) (hv : ∀ x, a ≠ .var x) : ((ev P F (.idx a i)).v r).sat Q X = ((ev P F a).v r).sat (fun d r => ((ev P F i).v r).sat (fun k r => optP (itemD d k) fun e => Q e.frz r) X) X := by
  rw [← idx_n]
  have e : ∀ (n : Out D), (match path (.idx a i) r with
    | some (x, p) => readP r x p
    | none => n) = n := fun n => by rw [path_none h]
  cases a <;> first | exact absurd rfl (hv _) | exact congrArg (fun o => Out.sat o Q X) (e _)
theorem e_idxc {f : Nat} {es : List E} {i : E} : ((ev P F (.idx (.call f es) i)).v r).sat Q X = ((ev P F (.call f es)).v r).sat (fun d r => ((ev P F i).v r).sat (fun k r => optP (itemD d k) fun e => Q e.frz r) X) X := e_idxn rfl (fun _ z => by cases z)
theorem e_idxm {f : Nat} {a : E} {es : List E} {i : E} : ((ev P F (.idx (.meth f a es) i)).v r).sat Q X = ((ev P F (.meth f a es)).v r).sat (fun d r => ((ev P F i).v r).sat (fun k r => optP (itemD d k) fun e => Q e.frz r) X) X := e_idxn rfl (fun _ z => by cases z)
theorem e_idxl {es : List E} {i : E} : ((ev P F (.idx (.lst es) i)).v r).sat Q X = ((ev P F (.lst es)).v r).sat (fun d r => ((ev P F i).v r).sat (fun k r => optP (itemD d k) fun e => Q e.frz r) X) X := e_idxn rfl (fun _ z => by cases z)
theorem e_attr {a : E} {f : Nat} : ((ev P F (.attr a f)).v r).sat Q X = pathP (path (.attr a f) r) (fun x p => (rdS (slot r x) r x p).sat Q X) (((ev P F a).v r).sat (fun d r => optP (fldD d f) fun e => Q e.frz r) X) := by
  have : (((ev P F a).v r).bind fun d r => .of ((fldD d f).map D.frz) r).sat Q X = ((ev P F a).v r).sat (fun d r => optP (fldD d f) fun e => Q e.frz r) X := by
    rw [sat_bind]; refine sat_q fun d r => ?_; rw [sat_of, optP_map]
  rw [← this, ← idxK_sat]; rfl
def exnP (o : Option D) (K : D → Prop) (_ : Tk K := ⟨⟩) : Prop := match o with
  | some (.exn _ w) => K w
  | _ => False
theorem exnP_exn {c : Nat} {w : D} {K : D → Prop} : exnP (some (.exn c w)) K = K w := nr rfl
theorem e_what {i : Nat} : ((ev P F (.what i)).v r).sat Q X = exnP (slot r i) fun w => Q w r := by
  show (match slot r i with
    | some (.exn _ w) => Out.ok w r
    | _ => .bad).sat Q X = _
  cases slot r i with
  | none => rfl
  | some d => cases d <;> rfl
theorem e_call {f : Nat} {es : List E} : ((ev P F (.call f es)).v r).sat Q X = (evAs (evs P F es) r).sat (fun as r => (callA F f as r).sat Q X) X := by
  show ((evAs (evs P F es) r).bind fun as r => callA F f as r).sat Q X = _
  rw [sat_bind]
theorem e_callk {f : Nat} {perm : List Nat} {es : List E} : ((ev P F (.callk f perm es)).v r).sat Q X = (evEs (evs P F es) r).sat (fun ds r => noOwn ds = true ∧ (callA F f ((pick .non perm ds).map .v) r).sat Q X) X := by
  show ((evEs (evs P F es) r).bind fun ds r => if noOwn ds then callA F f ((pick .non perm ds).map .v) r else .bad).sat Q X = _
  rw [sat_bind]; refine sat_q fun ds r => ?_; exact if_and
theorem e_mk {c : Nat} {es : List E} : ((ev P F (.mk c es)).v r).sat Q X = (evAs (evs P F es) r).sat (fun as r => (callC P F c as r).sat Q X) X := by
  show ((evAs (evs P F es) r).bind fun as r => callC P F c as r).sat Q X = _
  rw [sat_bind]
theorem e_mkk {f : Nat} {perm : List Nat} {es : List E} : ((ev P F (.mkk f perm es)).v r).sat Q X = (evEs (evs P F es) r).sat (fun ds r => noOwn ds = true ∧ (callC P F f ((pick .non perm ds).map .v) r).sat Q X) X := by
  show ((evEs (evs P F es) r).bind fun ds r => if noOwn ds then callC P F f ((pick .non perm ds).map .v) r else .bad).sat Q X = _
  rw [sat_bind]; refine sat_q fun ds r => ?_; exact if_and
def objP (o : Option D) (K : Nat → Prop) (_ : Tk K := ⟨⟩) : Prop := match o with
  | some (.obj _ c _ _) => K c
  | _ => False
theorem objP_obj {k : Kd} {c : Nat} {ks : List Nat} {ds : List D} {K : Nat → Prop} : objP (some (.obj k c ks ds)) K = K c := nr rfl
theorem e_meth {m : Nat} {a : E} {es : List E} : ((ev P F (.meth m a es)).v r).sat Q X = ((ev P F a).a r).sat (fun x r => objP (x.peek r) fun c => optP (methOf P m c) fun f => (evAs (evs P F es) r).sat (fun as r => (callA F f (x :: as) r).sat Q X) X) X := by
  show (((ev P F a).a r).bind fun x r => match x.peek r with
    | some (.obj _ c _ _) => match methOf P m c with
      | some f => (evAs (evs P F es) r).bind fun as r => callA F f (x :: as) r
      | none => .bad
    | _ => .bad).sat Q X = _
  rw [sat_bind]; refine sat_q fun x r => ?_
  cases x.peek r with
  | none => rfl
  | some d =>
    cases d with
    | obj k c ks ds =>
      show (match methOf P m c with
      | some f => (evAs (evs P F es) r).bind fun as r => callA F f (x :: as) r
      | none => .bad).sat Q X = optP (methOf P m c) _
      cases methOf P m c with
      | none => rfl
      | some f => exact sat_bind
    | _ => rfl
theorem e_blt {b : Bt} {es : List E} : ((ev P F (.blt b es)).v r).sat Q X = (evAs (evs P F es) r).sat (fun as r => optP (peekA r as) fun ds => optP (bltD b ds) fun d => Q d r) X := by
  show ((evAs (evs P F es) r).bind fun as r => .of ((peekA r as).bind fun ds => bltD b ds) r).sat Q X = _
  rw [sat_bind]; refine sat_q fun as r => ?_; rw [sat_of, optP_bind]
def lstP (o : Option D) (K : Prop) (_ : Tk K := ⟨⟩) : Prop := match o with
  | some (.lst _ _) => K
  | _ => False
theorem lstP_lst {k : Kd} {ds : List D} {K : Prop} : lstP (some (.lst k ds)) K = K := nr rfl
theorem e_lmv {m : Lm} {x : Nat} {es : List E} : ((ev P F (.lm m (.var x) es)).v r).sat Q X = lstP (slot r x) ((evEs (evs P F es) r).sat (fun ds r => (lmP m (slot r x) (r.set x none) x [] ds).sat Q X) X) := by
  show (match slot r x with
      | some (.lst _ _) => (evEs (evs P F es) r).bind fun ds r => lmP m (slot r x) (r.set x none) x [] ds
      | _ => Out.bad).sat Q X = _
  cases slot r x with
  | none => rfl
  | some d =>
    cases d with
    | lst k ds => exact sat_bind
    | _ => rfl
theorem e_lmi {m : Lm} {a i : E} {es : List E} : ((ev P F (.lm m (.idx a i) es)).v r).sat Q X = pathP (path (.idx a i) r) (fun x p => lstP (peekP r x p) ((evEs (evs P F es) (r.set x none)).sat (fun ds r2 => slot r2 x = none ∧ (lmP m (slot r x) r2 x p ds).sat Q X) X)) False := by
  show (match path (.idx a i) r with
      | some (x, p) => match peekP r x p with
        | some (.lst _ _) => (evEs (evs P F es) (r.set x none)).bind fun ds r2 => if slot r2 x = none then lmP m (slot r x) r2 x p ds else .bad
        | _ => .bad
      | none => Out.bad).sat Q X = _
  cases path (.idx a i) r with
  | none => rfl
  | some q =>
    show (match peekP r q.1 q.2 with
        | some (.lst _ _) => (evEs (evs P F es) (r.set q.1 none)).bind fun ds r2 => if slot r2 q.1 = none then lmP m (slot r q.1) r2 q.1 q.2 ds else .bad
        | _ => Out.bad).sat Q X = lstP (peekP r q.1 q.2) _
    cases peekP r q.1 q.2 with
    | none => rfl
    | some d =>
      cases d with
      | lst k ds =>
        show ((evEs (evs P F es) (r.set q.1 none)).bind fun ds r2 => if slot r2 q.1 = none then lmP m (slot r q.1) r2 q.1 q.2 ds else .bad).sat Q X = _
        rw [sat_bind]; rw [lstP_lst]; refine sat_q fun ds r2 => ?_; exact if_and
      | _ => rfl
theorem e_isi {a : E} {t : Ty} : ((ev P F (.isi a t)).v r).sat Q X = ((ev P F a).a r).sat (fun x r => optP (x.peek r) fun d => optP (isTy d t) fun b => Q (.bl b) r) X := by
  show (((ev P F a).a r).bind fun x r => .of (((x.peek r).bind fun d => isTy d t).map D.bl) r).sat Q X = _
  rw [sat_bind]; refine sat_q fun x r => ?_; rw [sat_of, optP_map, optP_bind]

/-! as tests -/
section
variable {Q : Bool → En → Prop}
theorem t_int {i : Int} : ((ev P F (.int i)).t r).sat Q X = Q (i != 0) r := mk1_t
theorem t_bl {i : Bool} : ((ev P F (.bl i)).t r).sat Q X = Q i r := mk1_t
theorem t_var {i : Nat} : ((ev P F (.var i)).t r).sat Q X = optP (slot r i) fun d => optP (truD d) fun k => Q k r := by
  show (Out.of ((slot r i).bind truD) r).sat Q X = _
  rw [sat_of, optP_bind]
theorem t_bin {op : Operator} {a b : E} : ((ev P F (.bin op a b)).t r).sat Q X = ((ev P F (.bin op a b)).v r).sat (fun d r => optP (truD d) fun k => Q k r) X := mk1_t
theorem t_not {a : E} : ((ev P F (.notE a)).t r).sat Q X = ((ev P F a).t r).sat (fun k r => Q (!k) r) X := by
  show (((ev P F a).t r).bind fun k r => .ok (!k) r).sat Q X = _
  rw [sat_bind]; rfl
theorem t_and0 : ((ev P F (.andE [])).t r).sat Q X = Q true r := nr rfl
theorem t_and {a : E} {es : List E} : ((ev P F (.andE (a :: es))).t r).sat Q X = ((ev P F a).t r).sat (fun k r => ifP k (((ev P F (.andE es)).t r).sat Q X) (Q false r)) X := by
  show (((ev P F a).t r).bind fun k r => if k then evTAnd (evs P F es) r else .ok false r).sat Q X = _
  rw [sat_bind]; refine sat_q fun k r => ?_; cases k <;> rfl
theorem t_or0 : ((ev P F (.orE [])).t r).sat Q X = Q false r := nr rfl
theorem t_or {a : E} {es : List E} : ((ev P F (.orE (a :: es))).t r).sat Q X = ((ev P F a).t r).sat (fun k r => ifP k (Q true r) (((ev P F (.orE es)).t r).sat Q X)) X := by
  show (((ev P F a).t r).bind fun k r => if k then .ok true r else evTOr (evs P F es) r).sat Q X = _
  rw [sat_bind]; refine sat_q fun k r => ?_; cases k <;> rfl
theorem t_ite {c a b : E} : ((ev P F (.ite c a b)).t r).sat Q X = ((ev P F c).t r).sat (fun k r => ifP k (((ev P F a).t r).sat Q X) (((ev P F b).t r).sat Q X)) X := by
  show (((ev P F c).t r).bind fun k r => if k then (ev P F a).t r else (ev P F b).t r).sat Q X = _
  rw [sat_bind]; refine sat_q fun k r => ?_; cases k <;> rfl
theorem t_cmp {a : E} {ops : List CmpOp} {es : List E} : ((ev P F (.cmp a ops es)).t r).sat Q X = ((ev P F a).a r).sat (fun x r => (evC x ops (evs P F es) r).sat Q X) X := by
  show (((ev P F a).a r).bind fun x r => evC x ops (evs P F es) r).sat Q X = _
  rw [sat_bind]
theorem t_idx {a i : E} : ((ev P F (.idx a i)).t r).sat Q X = ((ev P F (.idx a i)).v r).sat (fun d r => optP (truD d) fun k => Q k r) X := mk1_t
theorem t_attr {a : E} {f : Nat} : ((ev P F (.attr a f)).t r).sat Q X = ((ev P F (.attr a f)).v r).sat (fun d r => optP (truD d) fun k => Q k r) X := mk1_t
theorem t_call {f : Nat} {es : List E} : ((ev P F (.call f es)).t r).sat Q X = ((ev P F (.call f es)).v r).sat (fun d r => optP (truD d) fun k => Q k r) X := mk1_t
theorem t_meth {f : Nat} {a : E} {es : List E} : ((ev P F (.meth f a es)).t r).sat Q X = ((ev P F (.meth f a es)).v r).sat (fun d r => optP (truD d) fun k => Q k r) X := mk1_t
theorem t_blt {b : Bt} {es : List E} : ((ev P F (.blt b es)).t r).sat Q X = ((ev P F (.blt b es)).v r).sat (fun d r => optP (truD d) fun k => Q k r) X := mk1_t
theorem t_isi {a : E} {t : Ty} : ((ev P F (.isi a t)).t r).sat Q X = ((ev P F (.isi a t)).v r).sat (fun d r => optP (truD d) fun k => Q k r) X := mk1_t
theorem tAnd_nil : (evTAnd (evs P F []) r).sat Q X = Q true r := nr rfl
theorem tAnd_cons {a : E} {es : List E} : (evTAnd (evs P F (a :: es)) r).sat Q X = ((ev P F a).t r).sat (fun k r => ifP k ((evTAnd (evs P F es) r).sat Q X) (Q false r)) X := t_and
theorem tru_bl {b : Bool} {K : Bool → Prop} : optP (truD (.bl b)) K = K b := nr rfl
theorem tru_int {i : Int} {K : Bool → Prop} : optP (truD (.int i)) K = K (i != 0) := nr rfl
theorem tru_non {K : Bool → Prop} : optP (truD .non) K = K false := nr rfl
theorem tru_tup {ds : List D} {K : Bool → Prop} : optP (truD (.tup ds)) K = K (!ds.isEmpty) := nr rfl
theorem tru_lst {k : Kd} {ds : List D} {K : Bool → Prop} : optP (truD (.lst k ds)) K = K (!ds.isEmpty) := nr rfl
theorem c_one {x : Ar} {op : CmpOp} {e : E} : (evC x [op] (evs P F [e]) r).sat Q X = ((ev P F e).a r).sat (fun y r => optP (x.peek r) fun d => optP (y.peek r) fun e => optP (cmpD op d e) fun b => Q b r) X := by
  show (((ev P F e).a r).bind fun y r => .of (cmpA op x y r) r).sat Q X = _
  rw [sat_bind]; refine sat_q fun y r => ?_; rw [sat_of]
  show optP ((x.peek r).bind fun d => (y.peek r).bind fun e => cmpD op d e) _ = _
  rw [optP_bind]; refine optP_q fun d => ?_; rw [optP_bind]
theorem c_two {x : Ar} {op op2 : CmpOp} {ops : List CmpOp} {e e2 : E} {es : List E} : (evC x (op :: op2 :: ops) (evs P F (e :: e2 :: es)) r).sat Q X = ((ev P F e).a r).sat (fun y r => optP (x.peek r) fun d => optP (y.peek r) fun e' => optP (cmpD op d e') fun b => ifP b ((evC y (op2 :: ops) (evs P F (e2 :: es)) r).sat Q X) (Q false r)) X := by
  show (((ev P F e).a r).bind fun y r => match cmpA op x y r with
    | some b => if b then evC y (op2 :: ops) (evs P F (e2 :: es)) r else .ok false r
    | none => .bad).sat Q X = _
  rw [sat_bind]; refine sat_q fun y r => ?_
  show (match ((x.peek r).bind fun d => (y.peek r).bind fun e => cmpD op d e) with
    | some b => if b then evC y (op2 :: ops) (evs P F (e2 :: es)) r else .ok false r
    | none => Out.bad).sat Q X = _
  cases x.peek r with
  | none => rfl
  | some d =>
    cases y.peek r with
    | none => rfl
    | some e' =>
      show (match cmpD op d e' with
    | some b => if b then evC y (op2 :: ops) (evs P F (e2 :: es)) r else .ok false r
    | none => Out.bad).sat Q X = optP (cmpD op d e') _
      cases cmpD op d e' with
      | none => rfl
      | some b => cases b <;> rfl
end
/-! as arguments -/
section
variable {Q : Ar → En → Prop}
theorem a_var {i : Nat} : ((ev P F (.var i)).a r).sat Q X = hasP (slot r i) (Q (.r i) r) := by
  show (if has r i then Out.ok (.r i) r else .bad).sat Q X = _
  rw [if_and]; rfl
theorem a_int {i : Int} : ((ev P F (.int i)).a r).sat Q X = Q (.v (.int i)) r := nr rfl
theorem a_bl {i : Bool} : ((ev P F (.bl i)).a r).sat Q X = Q (.v (.bl i)) r := nr rfl
theorem a_str {i : Str} : ((ev P F (.str i)).a r).sat Q X = Q (.v (.str i)) r := nr rfl
theorem a_non : ((ev P F .non).a r).sat Q X = Q (.v .non) r := nr rfl
theorem a_bin {op : Operator} {a b : E} : ((ev P F (.bin op a b)).a r).sat Q X = ((ev P F (.bin op a b)).v r).sat (fun d r => Q (.v d) r) X := mk1_a
theorem a_neg {a : E} : ((ev P F (.neg a)).a r).sat Q X = ((ev P F (.neg a)).v r).sat (fun d r => Q (.v d) r) X := mk1_a
theorem a_not {a : E} : ((ev P F (.notE a)).a r).sat Q X = ((ev P F (.notE a)).v r).sat (fun d r => Q (.v d) r) X := by
  show (((ev P F (.notE a)).v r).bind fun d r => Out.ok (Ar.v d) r).sat Q X = _
  rw [sat_bind]; rfl
theorem a_and {es : List E} : ((ev P F (.andE es)).a r).sat Q X = ((ev P F (.andE es)).v r).sat (fun d r => Q (.v d) r) X := by
  show (((ev P F (.andE es)).v r).bind fun d r => Out.ok (Ar.v d) r).sat Q X = _
  rw [sat_bind]; rfl
theorem a_or {es : List E} : ((ev P F (.orE es)).a r).sat Q X = ((ev P F (.orE es)).v r).sat (fun d r => Q (.v d) r) X := by
  show (((ev P F (.orE es)).v r).bind fun d r => Out.ok (Ar.v d) r).sat Q X = _
  rw [sat_bind]; rfl
theorem a_ite {c a b : E} : ((ev P F (.ite c a b)).a r).sat Q X = ((ev P F (.ite c a b)).v r).sat (fun d r => Q (.v d) r) X := by
  show (((ev P F (.ite c a b)).v r).bind fun d r => Out.ok (Ar.v d) r).sat Q X = _
  rw [sat_bind]; rfl
theorem a_cmp {a : E} {ops : List CmpOp} {es : List E} : ((ev P F (.cmp a ops es)).a r).sat Q X = ((ev P F (.cmp a ops es)).v r).sat (fun d r => Q (.v d) r) X := by
  show (((ev P F (.cmp a ops es)).v r).bind fun d r => Out.ok (Ar.v d) r).sat Q X = _
  rw [sat_bind]; rfl
theorem a_tup {es : List E} : ((ev P F (.tup es)).a r).sat Q X = ((ev P F (.tup es)).v r).sat (fun d r => Q (.v d) r) X := mk1_a
theorem a_lst {es : List E} : ((ev P F (.lst es)).a r).sat Q X = ((ev P F (.lst es)).v r).sat (fun d r => Q (.v d) r) X := mk1_a
theorem a_idx {a i : E} : ((ev P F (.idx a i)).a r).sat Q X = ((ev P F (.idx a i)).v r).sat (fun d r => Q (.v d) r) X := mk1_a
theorem a_attr {a : E} {f : Nat} : ((ev P F (.attr a f)).a r).sat Q X = ((ev P F (.attr a f)).v r).sat (fun d r => Q (.v d) r) X := mk1_a
theorem a_what {i : Nat} : ((ev P F (.what i)).a r).sat Q X = ((ev P F (.what i)).v r).sat (fun d r => Q (.v d) r) X := mk1_a
theorem a_call {f : Nat} {es : List E} : ((ev P F (.call f es)).a r).sat Q X = ((ev P F (.call f es)).v r).sat (fun d r => Q (.v d) r) X := mk1_a
theorem a_callk {f : Nat} {p : List Nat} {es : List E} : ((ev P F (.callk f p es)).a r).sat Q X = ((ev P F (.callk f p es)).v r).sat (fun d r => Q (.v d) r) X := mk1_a
theorem a_mk {f : Nat} {es : List E} : ((ev P F (.mk f es)).a r).sat Q X = ((ev P F (.mk f es)).v r).sat (fun d r => Q (.v d) r) X := mk1_a
theorem a_mkk {f : Nat} {p : List Nat} {es : List E} : ((ev P F (.mkk f p es)).a r).sat Q X = ((ev P F (.mkk f p es)).v r).sat (fun d r => Q (.v d) r) X := mk1_a
theorem a_meth {f : Nat} {a : E} {es : List E} : ((ev P F (.meth f a es)).a r).sat Q X = ((ev P F (.meth f a es)).v r).sat (fun d r => Q (.v d) r) X := mk1_a
theorem a_blt {b : Bt} {es : List E} : ((ev P F (.blt b es)).a r).sat Q X = ((ev P F (.blt b es)).v r).sat (fun d r => Q (.v d) r) X := mk1_a
theorem a_lm {m : Lm} {a : E} {es : List E} : ((ev P F (.lm m a es)).a r).sat Q X = ((ev P F (.lm m a es)).v r).sat (fun d r => Q (.v d) r) X := mk1_a
theorem a_isi {a : E} {t : Ty} : ((ev P F (.isi a t)).a r).sat Q X = ((ev P F (.isi a t)).v r).sat (fun d r => Q (.v d) r) X := mk1_a
theorem a_comp {e : E} {tg : Tg} {k : ItK} {src ifs : List E} {own : List Nat} : ((ev P F (.comp e tg k src ifs own)).a r).sat Q X = ((ev P F (.comp e tg k src ifs own)).v r).sat (fun d r => Q (.v d) r) X := mk1_a
end
section
variable {Q : List D → En → Prop}
theorem es_nil : (evEs (evs P F []) r).sat Q X = Q [] r := nr rfl
theorem es_cons {e : E} {es : List E} : (evEs (evs P F (e :: es)) r).sat Q X = ((ev P F e).v r).sat (fun d r => (evEs (evs P F es) r).sat (fun ds r => Q (d :: ds) r) X) X := by
  show (((ev P F e).v r).bind fun d r => (evEs (evs P F es) r).bind fun ds r => .ok (d :: ds) r).sat Q X = _
  rw [sat_bind]; refine sat_q fun d r => ?_; rw [sat_bind]; rfl
end
section
variable {Q : List Ar → En → Prop}
theorem as_nil : (evAs (evs P F []) r).sat Q X = Q [] r := nr rfl
theorem as_cons {e : E} {es : List E} : (evAs (evs P F (e :: es)) r).sat Q X = ((ev P F e).a r).sat (fun d r => (evAs (evs P F es) r).sat (fun ds r => Q (d :: ds) r) X) X := by
  show (((ev P F e).a r).bind fun d r => (evAs (evs P F es) r).bind fun ds r => .ok (d :: ds) r).sat Q X = _
  rw [sat_bind]; refine sat_q fun d r => ?_; rw [sat_bind]; rfl
theorem pA_nil {K : List D → Prop} : optP (peekA r []) K = K [] := nr rfl
theorem pA_cons {a : Ar} {as : List Ar} {K : List D → Prop} : optP (peekA r (a :: as)) K = optP (a.peek r) fun d => optP (peekA r as) fun ds => K (d :: ds) := by
  show optP ((a.peek r).bind fun d => (peekA r as).map fun ds => d :: ds) K = _
  rw [optP_bind]; refine optP_q fun d => ?_; rw [optP_map]
end

/-! ### calls -/
def lendP (as : List Ar) (r : En) (K : List D → En → Prop) (_ : Tk K := ⟨⟩) : Prop := optP (lend as r) fun p => K p.1 p.2
theorem lend_nil {K : List D → En → Prop} : lendP [] r K = K [] r := nr rfl
theorem wlend_v {d : D} {as : List Ar} {K : List D → En → Prop} : lendP (.v d :: as) r K = lendP as r fun ds r => K (d :: ds) r := by
  show optP ((lend as r).map fun x => (d :: x.1, x.2)) _ = _
  rw [optP_map]; rfl
theorem lend_r {i : Nat} {as : List Ar} {K : List D → En → Prop} : lendP (.r i :: as) r K = optP (pk (slot r i)) fun d => ifP d.owned (lendP as (r.set i none) fun ds r => K (d :: ds) r) (lendP as r fun ds r => K (d :: ds) r) := by
  show optP ((pk (slot r i)).bind fun d => if d.owned then (lend as (r.set i none)).map fun x => (d :: x.1, x.2) else (lend as r).map fun x => (d :: x.1, x.2)) _ = _
  rw [optP_bind]; refine optP_q fun d => ?_
  cases h : d.owned with
  | true => rw [if_pos rfl, ifP_true, optP_map]; rfl
  | false => rw [if_neg (by decide), ifP_false, optP_map]; rfl
theorem ow_non : D.owned .non = false := nr rfl
theorem ow_bl {b : Bool} : D.owned (.bl b) = false := nr rfl
theorem ow_int {b : Int} : D.owned (.int b) = false := nr rfl
theorem ow_str {b : Str} : D.owned (.str b) = false := nr rfl
theorem ow_tup {b : List D} : D.owned (.tup b) = false := nr rfl
theorem ow_own {b : List D} : D.owned (.lst .own b) = true := nr rfl
theorem ow_shr {b : List D} : D.owned (.lst .shr b) = false := nr rfl
theorem ow_giv {b : List D} : D.owned (.lst .giv b) = false := nr rfl
theorem ow_oown {c : Nat} {ks : List Nat} {b : List D} : D.owned (.obj .own c ks b) = true := nr rfl
theorem ow_oshr {c : Nat} {ks : List Nat} {b : List D} : D.owned (.obj .shr c ks b) = false := nr rfl
theorem s_callA {f : Nat} {as : List Ar} : (callA F f as r).sat Q X = lendP as r fun ds r1 => (F f ds).out.sat (fun d ps => optP (back as ds ps r1) fun r2 => Q d r2) fun c w ps => optP (back as ds ps r1) fun r2 => X c w r2 := by
  show (match lend as r with
  | some (ds, r1) => backO as ds r1 (F f ds).out
  | none => .bad).sat Q X = _
  unfold lendP
  cases lend as r with
  | none => rfl
  | some p =>
    show (backO as p.1 p.2 (F f p.1).out).sat Q X = (F f p.1).out.sat _ _
    cases (F f p.1).out with
    | ok d ps =>
      show (match back as p.1 ps p.2 with
    | some r2 => Out.ok d r2
    | none => .bad).sat Q X = optP (back as p.1 ps p.2) _
      cases back as p.1 ps p.2 <;> rfl
    | exc c w ps =>
      show (match back as p.1 ps p.2 with
    | some r2 => Out.exc c w r2
    | none => .bad).sat Q X = optP (back as p.1 ps p.2) _
      cases back as p.1 ps p.2 <;> rfl
    | bad => rfl
/-- behind an __init__ -/
def madeP (d : D) (ps : En) (K : D → En → Prop) (_ : Tk K := ⟨⟩) : Prop := match d, ps with
  | .non, some o :: ps => K o.frz ps
  | _, _ => False
theorem madeP_some {o : D} {ps : En} {K : D → En → Prop} : madeP .non (some o :: ps) K = K o.frz ps := nr rfl
def xP (ps : En) (K : En → Prop) (_ : Tk K := ⟨⟩) : Prop := match ps with
  | _ :: ps => K ps
  | [] => False
theorem xP_cons {p : Option D} {ps : En} {K : En → Prop} : xP (p :: ps) K = K ps := nr rfl
theorem s_callC {c : Nat} {cl : Cl} {as : List Ar} (hc : P.cls[c]? = some cl) : (callC P F c as r).sat Q X = lendP as r fun ds r1 => (F cl.init (.obj .own c [] [] :: ds)).out.sat (fun d ps => madeP d ps fun d ps => optP (back as ds ps r1) fun r2 => Q d r2) fun c w ps => xP ps fun ps => optP (back as ds ps r1) fun r2 => X c w r2 := by
  show (match P.cls[c]? with
  | some cl => match lend as r with
    | some (ds, r1) => backO as ds r1 (made (F cl.init (.obj .own c [] [] :: ds)).out)
    | none => .bad
  | none => .bad).sat Q X = _
  rw [hc]
  show (match lend as r with
    | some (ds, r1) => backO as ds r1 (made (F cl.init (.obj .own c [] [] :: ds)).out)
    | none => .bad).sat Q X = _
  unfold lendP
  cases lend as r with
  | none => rfl
  | some p =>
    show (backO as p.1 p.2 (made (F cl.init (.obj .own c [] [] :: p.1)).out)).sat Q X = (F cl.init (.obj .own c [] [] :: p.1)).out.sat _ _
    cases (F cl.init (.obj .own c [] [] :: p.1)).out with
    | ok d ps =>
      cases d with
      | non =>
        match ps with
        | some o :: ps =>
          show (match back as p.1 ps p.2 with
    | some r2 => Out.ok o.frz r2
    | none => .bad).sat Q X = optP (back as p.1 ps p.2) _
          cases back as p.1 ps p.2 <;> rfl
        | none :: ps => rfl
        | [] => rfl
      | _ => rfl
    | exc c w ps =>
      match ps with
      | o :: ps =>
        show (match back as p.1 ps p.2 with
    | some r2 => Out.exc c w r2
    | none => .bad).sat Q X = optP (back as p.1 ps p.2) _
        cases back as p.1 ps p.2 <;> rfl
      | [] => rfl
    | bad => rfl
theorem bk_nil {ps : En} {K : En → Prop} : optP (back [] [] ps r) K = K r := nr rfl
theorem bk_v {d e : D} {p : Option D} {as : List Ar} {ds : List D} {ps : En} {K : En → Prop} : optP (back (.v d :: as) (e :: ds) (p :: ps) r) K = optP (back as ds ps r) K := nr rfl
theorem bk_r {i : Nat} {e : D} {p : Option D} {as : List Ar} {ds : List D} {ps : En} {K : En → Prop} : optP (back (.r i :: as) (e :: ds) (p :: ps) r) K = ifP e.owned (optP p fun p => optP (back as ds ps (r.set i (some p))) K) (optP (back as ds ps r) K) := by
  show optP (if e.owned then p.bind fun p' => back as ds ps (r.set i (some p')) else back as ds ps r) K = _
  cases e.owned with
  | true => rw [if_pos rfl, ifP_true, optP_bind]
  | false => rw [if_neg (by decide), ifP_false]

/-- parameters behind a def -/
def pgo (asg : List Nat) : Nat → Nat → En → En
  | 0, _, _ => []
  | n + 1, i, a :: r => (if asg.contains i then none else a) :: pgo asg n (i + 1) r
  | n + 1, i, [] => none :: pgo asg n (i + 1) []
theorem pgo_eq (asg : List Nat) : ∀ (n i : Nat) (r : En), (((r ++ List.replicate n none).take n).mapIdx fun j x => if asg.contains (j + i) then none else x) = pgo asg n i r
  | 0, _, _ => by simp [pgo]
  | n + 1, i, [] => by
    have ih := pgo_eq asg n (i + 1) []
    simp only [List.nil_append] at ih
    simp only [pgo, List.nil_append, List.replicate_succ, List.take_succ_cons, List.mapIdx_cons, Nat.zero_add, ite_self]
    rw [← ih]
    refine congrArg (none :: ·) ?_
    congr; funext j x
    rw [show j + 1 + i = j + (i + 1) by omega]
  | n + 1, i, a :: r => by
    have ih := pgo_eq asg n (i + 1) r
    simp only [pgo, List.cons_append, List.take_succ_cons, List.mapIdx_cons, Nat.zero_add]
    rw [← ih]
    refine congrArg (_ :: ·) ?_
    have : (r ++ List.replicate (n + 1) none).take n = (r ++ List.replicate n none).take n := by
      rw [List.take_append, List.take_append, List.take_replicate, List.take_replicate]
      congr 2; omega
    rw [this]
    congr; funext j x
    rw [show j + 1 + i = j + (i + 1) by omega]
theorem parsOf_eq {asg : List Nat} {np : Nat} : parsOf asg np r = pgo asg np 0 r := (pgo_eq asg np 0 r)
def retP (asg : List Nat) (np : Nat) (K : D → En → Prop) (f : Fl) (r : En) (_ : Tk K := ⟨⟩) : Prop := match f with
  | .ret d => K d (pgo asg np 0 r)
  | .next => K .non (pgo asg np 0 r)
  | _ => False
theorem retP_ret {asg : List Nat} {np : Nat} {K : D → En → Prop} {d : D} : retP asg np K (.ret d) r = K d (pgo asg np 0 r) := nr rfl
theorem retP_next {asg : List Nat} {np : Nat} {K : D → En → Prop} : retP asg np K .next r = K .non (pgo asg np 0 r) := nr rfl
theorem pgo_0 {asg : List Nat} {i : Nat} : pgo asg 0 i r = [] := nr (by unfold pgo; rfl)
theorem pgo_s {asg : List Nat} {n i : Nat} {a : Option D} : pgo asg (n + 1) i (a :: r) = (if asg.contains i then none else a) :: pgo asg n (i + 1) r := nr (by rw [pgo])
theorem mapS_nil : List.map (some : D → Option D) [] = [] := nr rfl
theorem mapS_cons {d : D} {ds : List D} : List.map (some : D → Option D) (d :: ds) = some d :: List.map some ds := nr rfl
/-- a call of a def, by its body -/
theorem s_run {n i : Nat} {fn : Fn} {ds : List D} (hi : P.fns[i]? = some fn) (hl : ds.length = fn.np) :
    (run P (n + 1) i ds).out.sat Q X = (evB P (run P n) fn.body (ds.map some ++ List.replicate (fn.nl - fn.np) none)).sat (retP fn.asg fn.np Q) fun c w r => X c w (pgo fn.asg fn.np 0 r) := by
  show (match P.fns[i]? with
    | some fn => if ds.length = fn.np then (match evB P (run P n) fn.body (ds.map some ++ List.replicate (fn.nl - fn.np) none) with
      | .ok .next r => FOut.ok .non (parsOf fn.asg fn.np r)
      | .ok (.ret d) r => FOut.ok d (parsOf fn.asg fn.np r)
      | .exc c w r => FOut.exc c w (parsOf fn.asg fn.np r)
      | _ => FOut.bad) else FOut.bad
    | none => FOut.bad).out.sat Q X = _
  rw [hi]
  dsimp only
  rw [if_pos hl]
  simp only [parsOf_eq]
  cases evB P (run P n) fn.body (ds.map some ++ List.replicate (fn.nl - fn.np) none) with
  | ok f r => cases f <;> rfl
  | exc c w r => rfl
  | bad => rfl
end
end Mv

/-! .. of values, loops, comprehensions -/
namespace Mv
open PySem
variable {P : Pg} {F : Nat → List D → FOut} {α β : Type} {X : Nat → D → En → Prop} {r : En}

/-- how things are laid: never owned, never an error -/
class Pl {α : Type} (f : α → D) : Prop where
  ow : ∀ x, (f x).owned = false
  frz : ∀ x, (f x).frz = f x
  nex : ∀ x c w, f x ≠ .exn c w
instance : Pl D.int := ⟨fun _ => rfl, fun _ => rfl, fun _ _ _ z => by cases z⟩
instance : Pl D.bl := ⟨fun _ => rfl, fun _ => rfl, fun _ _ _ z => by cases z⟩
instance : Pl D.str := ⟨fun _ => rfl, fun _ => rfl, fun _ _ _ z => by cases z⟩
instance : Pl prD := ⟨fun _ => rfl, fun _ => rfl, fun _ _ _ z => by cases z⟩
instance {g : α → List D} : Pl (fun x => D.tup (g x)) := ⟨fun _ => rfl, fun _ => rfl, fun _ _ _ z => by cases z⟩
instance {g : α → Int} : Pl (fun x => D.int (g x)) := ⟨fun _ => rfl, fun _ => rfl, fun _ _ _ z => by cases z⟩
instance {g : α → Bool} : Pl (fun x => D.bl (g x)) := ⟨fun _ => rfl, fun _ => rfl, fun _ _ _ z => by cases z⟩
/-- a tuple of ints -/
def wtupI (xs : List Int) : D := .tup (xs.map D.int)
def tupP (xs : List (Int × Int)) : D := .tup (xs.map prD)
instance : Pl wtupI := ⟨fun _ => rfl, fun _ => rfl, fun _ _ _ z => by cases z⟩
instance : Pl tupP := ⟨fun _ => rfl, fun _ => rfl, fun _ _ _ z => by cases z⟩
theorem wnoOwn_map {f : α → D} [h : Pl f] (xs : List α) : noOwn (xs.map f) = true := by
  unfold noOwn; simp only [List.all_map, List.all_eq_true]; intro x _; simp [Pl.ow]
theorem frzs_map' {f : α → D} [h : Pl f] (xs : List α) : D.frzs (xs.map f) = xs.map f := by
  rw [D.frzs_map, List.map_map]
  exact List.map_congr_left fun x _ => h.frz x
instance {f : α → D} [Pl f] : Pl (fun xs : List α => D.lst .shr (xs.map f)) := ⟨fun _ => rfl, fun x => by show D.lst .shr (D.frzs _) = _; rw [frzs_map'], fun _ _ _ z => by cases z⟩
theorem noOwn_nil : noOwn [] = true := nr rfl
theorem noOwn_cons {d : D} {ds : List D} : noOwn (d :: ds) = (!d.owned && noOwn ds) := nr rfl
theorem wnoOwn_app {a b : List D} : noOwn (a ++ b) = (noOwn a && noOwn b) := by unfold noOwn; rw [List.all_append]

def rng63 (j : Int) : Prop := -(2 ^ 63) ≤ j ∧ j < 2 ^ 63
theorem rng63_of {j : Int} (h : -1000000000 ≤ j) (h2 : j ≤ 1000000000) : rng63 j := by unfold rng63; omega
/-! ### operators -/
section
variable {K : D → Prop}
theorem add_i {i j : Int} : optP (binD .Add (.int i) (.int j)) K = K (.int (i + j)) := nr rfl
theorem sub_i {i j : Int} : optP (binD .Sub (.int i) (.int j)) K = K (.int (i - j)) := nr rfl
theorem mul_i {i j : Int} : optP (binD .Mult (.int i) (.int j)) K = (mulOk i j = true ∧ K (.int (i * j))) := by
  show optP ((if mulOk i j then some (i * j) else none).map D.int) K = _
  rw [optP_map, optP_ite]
theorem div_i {i j : Int} : optP (binD .FloorDiv (.int i) (.int j)) K = ((0 < j ∧ j.natAbs.log2 < 9000) ∧ K (.int (i / j))) := by
  show optP ((if 0 < j ∧ j.natAbs.log2 < 9000 then some (i / j) else none).map D.int) K = _
  rw [optP_map, optP_ite]
theorem mod_i {i j : Int} : optP (binD .Mod (.int i) (.int j)) K = (0 < j ∧ K (.int (i % j))) := by
  show optP ((if 0 < j then some (i % j) else none).map D.int) K = _
  rw [optP_map, optP_ite]
theorem pow_i {i j : Int} : optP (binD .Pow (.int i) (.int j)) K = ((0 ≤ j ∧ j ≤ 1000000 ∧ i.natAbs < 2 ^ 64) ∧ K (.int (i ^ j.toNat))) := by
  show optP ((if 0 ≤ j ∧ j ≤ 1000000 ∧ i.natAbs < 2 ^ 64 then some (i ^ j.toNat) else none).map D.int) K = _
  rw [optP_map, optP_ite]
theorem add_ib {i : Int} {b : Bool} : optP (binD .Add (.int i) (.bl b)) K = K (.int (i + if b then 1 else 0)) := nr rfl
theorem add_t {a b : List D} : optP (binD .Add (.tup a) (.tup b)) K = (a.length + b.length ≤ 16777216 ∧ K (.tup (a ++ b))) := by
  show optP (if decide (a.length + b.length ≤ 16777216) then some (D.tup (a ++ b)) else none) K = _
  rw [optP_ite, decide_eq_true_eq]
theorem add_l {k l : Kd} {a b : List D} : optP (binD .Add (.lst k a) (.lst l b)) K = ((k != Kd.giv && l != Kd.giv && noOwn a && noOwn b) = true ∧ a.length + b.length ≤ 16777216 ∧ K (.lst .own (a ++ b))) := by
  show optP (if k != .giv && l != .giv && noOwn a && noOwn b && decide (a.length + b.length ≤ 16777216) then some (D.lst .own (a ++ b)) else none) K = _
  rw [optP_ite, Bool.and_eq_true, decide_eq_true_eq, and_assoc]
theorem mul_l {l : Kd} {a : List D} {k : Int} : optP (binD .Mult (.lst l a) (.int k)) K = ((l != Kd.giv && noOwn a) = true ∧ rng63 k ∧ a.length * k.toNat ≤ 16777216 ∧ K (.lst .own (List.replicate k.toNat a).flatten)) := by
  show optP (if l != .giv && noOwn a && decide (-(2 ^ 63) ≤ k ∧ k < 2 ^ 63) && decide (a.length * k.toNat ≤ 16777216) then some (D.lst .own (List.replicate k.toNat a).flatten) else none) K = _
  rw [optP_ite, Bool.and_eq_true, decide_eq_true_eq, Bool.and_eq_true, decide_eq_true_eq, and_assoc, and_assoc]; rfl
theorem add_s {a b : Str} : optP (binD .Add (.str a) (.str b)) K = (a.length + b.length ≤ 16777216 ∧ K (.str (a ++ b))) := by
  show optP (if a.length + b.length ≤ 16777216 then some (.str (a ++ b)) else none) K = _
  rw [optP_ite]
/-- [x] * n -/
theorem rep_flat {x : D} : ∀ n : Nat, (List.replicate n [x]).flatten = List.replicate n x
  | 0 => rfl
  | n + 1 => by rw [List.replicate_succ, List.flatten_cons, rep_flat n]; rfl
end
section
variable {K : Bool → Prop}
theorem lt_i {i j : Int} : optP (cmpD .Lt (.int i) (.int j)) K = K (decide (i < j)) := nr rfl
theorem le_i {i j : Int} : optP (cmpD .LtE (.int i) (.int j)) K = K (decide (i ≤ j)) := nr rfl
theorem gt_i {i j : Int} : optP (cmpD .Gt (.int i) (.int j)) K = K (decide (j < i)) := nr rfl
theorem ge_i {i j : Int} : optP (cmpD .GtE (.int i) (.int j)) K = K (decide (j ≤ i)) := nr rfl
theorem eq_d {a b : D} : optP (cmpD .Eq a b) K = optP (eqD a b) K := nr rfl
theorem ne_d {a b : D} : optP (cmpD .NotEq a b) K = optP (eqD a b) fun k => K (!k) := by
  show optP ((eqD a b).map (!·)) K = _
  rw [optP_map]
theorem in_d {a b : D} : optP (cmpD .In a b) K = optP (inD a b) K := nr rfl
theorem ni_d {a b : D} : optP (cmpD .NotIn a b) K = optP (inD a b) fun k => K (!k) := by
  show optP ((inD a b).map (!·)) K = _
  rw [optP_map]
theorem is_non : optP (cmpD .Is .non .non) K = K true := nr rfl
theorem is_int {i : Int} : optP (cmpD .Is (.int i) .non) K = K false := nr rfl
theorem is_tup {i : List D} : optP (cmpD .Is (.tup i) .non) K = K false := nr rfl
theorem isn_non : optP (cmpD .IsNot .non .non) K = K false := nr rfl
theorem isn_int {i : Int} : optP (cmpD .IsNot (.int i) .non) K = K true := nr rfl
theorem isn_tup {i : List D} : optP (cmpD .IsNot (.tup i) .non) K = K true := nr rfl
/-- pairs in order -/
def ltP (p q : Int × Int) : Prop := p.1 < q.1 ∨ (p.1 = q.1 ∧ p.2 < q.2)
instance {p q : Int × Int} : Decidable (ltP p q) := by unfold ltP; infer_instance
theorem lexLt_iff {a b c d : Int} : HT.lexLt [a, b] [c, d] = true ↔ ltP (a, b) (c, d) := by
  unfold ltP
  rw [HT.lexLt_cons]
  by_cases h : a = c
  · rw [if_pos h, HT.lexLt_cons]
    by_cases h2 : b = d
    · rw [if_pos h2, HT.lexLt_nil_nil]
      simp only
      constructor
      · intro z; cases z
      · intro z; omega
    · rw [if_neg h2, decide_eq_true_eq]
      simp only
      omega
  · rw [if_neg h, decide_eq_true_eq]
    simp only
    omega
theorem lt_p {a b c d : Int} : optP (cmpD .Lt (.tup [.int a, .int b]) (.tup [.int c, .int d])) K = K (decide (ltP (a, b) (c, d))) := by
  show K (HT.lexLt [a, b] [c, d]) = _
  rw [show HT.lexLt [a, b] [c, d] = decide (ltP (a, b) (c, d)) from by
    cases h : HT.lexLt [a, b] [c, d] with
    | true => exact (decide_eq_true (lexLt_iff.mp h)).symm
    | false => exact (decide_eq_false fun z => by rw [lexLt_iff.mpr z] at h; cases h).symm]
/-! equality by content -/
/-- two things that are told alike, or not, by their contents; the depth -/
def EqD (n : Nat) (a b : D) (c : Bool) : Prop := ∃ x y, a.py = some x ∧ b.py = some y ∧ x.canLay0 = true ∧ y.canLay0 = true ∧ x.depth ≤ n ∧ y.depth ≤ n ∧ PyData.eqv x y = c
theorem EqD.eqD {n : Nat} {a b : D} {c : Bool} (h : EqD n a b c) (hn : n ≤ 64) : eqD a b = some c := by
  obtain ⟨x, y, e1, e2, l1, l2, d1, d2, q⟩ := h
  unfold Mv.eqD
  rw [e1, e2]
  have s1 : SeqAt.shaped x = true := by unfold SeqAt.shaped; rw [l1, decide_eq_true (Nat.le_trans d1 hn)]; rfl
  have s2 : SeqAt.shaped y = true := by unfold SeqAt.shaped; rw [l2, decide_eq_true (Nat.le_trans d2 hn)]; rfl
  dsimp only
  rw [s1, s2, q]; rfl
theorem EqD.pp {n : Nat} {a b : D} {c : Bool} (h : EqD n a b c) (hn : n ≤ 64) (k : K c) : optP (Mv.eqD a b) K := by rw [h.eqD hn]; exact k
theorem EqD.mono {m n : Nat} {a b : D} {c : Bool} (h : EqD m a b c) (hn : m ≤ n) : EqD n a b c := by
  obtain ⟨x, y, e1, e2, l1, l2, d1, d2, q⟩ := h
  exact ⟨x, y, e1, e2, l1, l2, Nat.le_trans d1 hn, Nat.le_trans d2 hn, q⟩
theorem EqD.int {a b : Int} : EqD 1 (.int a) (.int b) (decide (a = b)) := ⟨_, _, rfl, rfl, rfl, rfl, Nat.zero_le _, Nat.zero_le _, rfl⟩
theorem EqD.non : EqD 1 .non .non true := ⟨_, _, rfl, rfl, rfl, rfl, Nat.zero_le _, Nat.zero_le _, rfl⟩
theorem EqD.bl {a b : Bool} : EqD 1 (.bl a) (.bl b) (a == b) := ⟨_, _, rfl, rfl, rfl, rfl, Nat.zero_le _, Nat.zero_le _, rfl⟩
theorem EqD.str {a b : Str} (ha : PyData.strOk a = true) (hb : PyData.strOk b = true) : EqD 1 (.str a) (.str b) (a == b) := ⟨_, _, rfl, rfl, ha, hb, Nat.zero_le _, Nat.zero_le _, rfl⟩
theorem pys_map {f : α → D} {g : α → PyData} (h : ∀ x, (f x).py = some (g x)) : ∀ xs : List α, D.pys (xs.map f) = some (xs.map g)
  | [] => rfl
  | x :: xs => by
    show (match D.py (f x), D.pys (xs.map f) with
    | some a, some b => some (a :: b)
    | _, _ => none) = _
    rw [h, pys_map h xs]; rfl
/-- .. lists of them -/
def EqDs (n : Nat) (a b : List D) (c : Bool) : Prop := ∃ x y, D.pys a = some x ∧ D.pys b = some y ∧ PyData.canLayAll0 x = true ∧ PyData.canLayAll0 y = true ∧ PyData.depthAll x ≤ n ∧ PyData.depthAll y ≤ n ∧ PyData.eqvAll x y = c
theorem EqDs.nil : EqDs 0 [] [] true := ⟨_, _, rfl, rfl, rfl, rfl, Nat.le_refl _, Nat.le_refl _, rfl⟩
theorem EqDs.mono {m n : Nat} {a b : List D} {c : Bool} (h : EqDs m a b c) (hn : m ≤ n) : EqDs n a b c := by
  obtain ⟨x, y, e1, e2, l1, l2, d1, d2, q⟩ := h
  exact ⟨x, y, e1, e2, l1, l2, Nat.le_trans d1 hn, Nat.le_trans d2 hn, q⟩
theorem EqDs.cons {n : Nat} {a b : D} {as bs : List D} {c d : Bool} (h : EqD n a b c) (hs : EqDs n as bs d) : EqDs n (a :: as) (b :: bs) (c && d) := by
  obtain ⟨x, y, e1, e2, l1, l2, d1, d2, q⟩ := h
  obtain ⟨xs, ys, f1, f2, m1, m2, g1, g2, p⟩ := hs
  refine ⟨x :: xs, y :: ys, ?_, ?_, ?_, ?_, ?_, ?_, ?_⟩
  · show (match D.py a, D.pys as with
    | some a, some b => some (a :: b)
    | _, _ => none) = _
    rw [e1, f1]
  · show (match D.py b, D.pys bs with
    | some a, some b => some (a :: b)
    | _, _ => none) = _
    rw [e2, f2]
  · show (x.canLay0 && _) = true; rw [l1, m1]; rfl
  · show (y.canLay0 && _) = true; rw [l2, m2]; rfl
  · show max x.depth _ ≤ n; omega
  · show max y.depth _ ≤ n; omega
  · show (PyData.eqv x y && _) = _; rw [q, p]
theorem EqDs.tup {n : Nat} {a b : List D} {c : Bool} (h : EqDs n a b c) : EqD (n + 1) (.tup a) (.tup b) c := by
  obtain ⟨x, y, e1, e2, l1, l2, d1, d2, q⟩ := h
  refine ⟨.tuple x, .tuple y, ?_, ?_, l1, l2, ?_, ?_, q⟩
  · show (D.pys a).map _ = _; rw [e1]; rfl
  · show (D.pys b).map _ = _; rw [e2]; rfl
  · show _ ≤ _; simp only [PyData.depth]; omega
  · show _ ≤ _; simp only [PyData.depth]; omega
theorem EqDs.lst {n : Nat} {k l : Kd} {a b : List D} {c : Bool} (h : EqDs n a b c) : EqD (n + 1) (.lst k a) (.lst l b) c := by
  obtain ⟨x, y, e1, e2, l1, l2, d1, d2, q⟩ := h
  refine ⟨.list x, .list y, ?_, ?_, l1, l2, ?_, ?_, q⟩
  · show (D.pys a).map _ = _; rw [e1]; rfl
  · show (D.pys b).map _ = _; rw [e2]; rfl
  · show _ ≤ _; simp only [PyData.depth]; omega
  · show _ ≤ _; simp only [PyData.depth]; omega
/-- typed: what is laid alike is alike -/
class Eqd {α : Type} [DecidableEq α] (n : outParam Nat) (f : α → D) : Prop where
  eq : ∀ x y, EqD n (f x) (f y) (decide (x = y))
instance : Eqd 1 D.int := ⟨fun _ _ => EqD.int⟩
theorem eqds_map {n : Nat} [DecidableEq α] {f : α → D} [h : Eqd n f] : ∀ xs ys : List α, EqDs n (xs.map f) (ys.map f) (decide (xs = ys)) := by
  have lay : ∀ xs : List α, ∃ a, D.pys (xs.map f) = some a ∧ PyData.canLayAll0 a = true ∧ PyData.depthAll a ≤ n ∧ (xs ≠ [] → a ≠ []) := by
    intro xs
    induction xs with
    | nil => exact ⟨[], rfl, rfl, Nat.zero_le _, fun z => absurd rfl z⟩
    | cons x xs ih =>
      obtain ⟨a, e1, l1, d1, _⟩ := ih
      obtain ⟨c, d, f1, f2, m1, m2, g1, g2, p⟩ := h.eq x x
      refine ⟨c :: a, ?_, ?_, ?_, fun _ z => by cases z⟩
      · show (match D.py (f x), D.pys (xs.map f) with
        | some a, some b => some (a :: b)
        | _, _ => none) = _
        rw [f1, e1]
      · show (c.canLay0 && _) = true; rw [m1, l1]; rfl
      · show max c.depth _ ≤ n; omega
  intro xs
  induction xs with
  | nil =>
    intro ys
    cases ys with
    | nil => exact EqDs.nil.mono (Nat.zero_le _)
    | cons y ys =>
      obtain ⟨a, e1, l1, d1, ne⟩ := lay (y :: ys)
      refine ⟨[], a, rfl, e1, rfl, l1, Nat.zero_le _, d1, ?_⟩
      cases a with
      | nil => exact absurd rfl (ne (by simp))
      | cons c a => exact (decide_eq_false (by simp)).symm
  | cons x xs ih =>
    intro ys
    cases ys with
    | nil =>
      obtain ⟨a, e1, l1, d1, ne⟩ := lay (x :: xs)
      refine ⟨a, [], e1, rfl, l1, rfl, d1, Nat.zero_le _, ?_⟩
      cases a with
      | nil => exact absurd rfl (ne (by simp))
      | cons c a => exact (decide_eq_false (by simp)).symm
    | cons y ys =>
      have := EqDs.cons (h.eq x y) (ih ys)
      rw [show decide (x :: xs = y :: ys) = (decide (x = y) && decide (xs = ys)) by simp [List.cons.injEq, Bool.decide_and]]
      exact this
instance : Eqd 2 prD := ⟨fun x y => by
  have := (EqDs.cons (n := 1) (EqD.int (a := x.1) (b := y.1)) (EqDs.cons (EqD.int (a := x.2) (b := y.2)) (EqDs.nil.mono (Nat.zero_le _)))).tup
  rw [show decide (x = y) = (decide (x.1 = y.1) && (decide (x.2 = y.2) && true)) by rw [Bool.and_true, ← Bool.decide_and]; exact decide_eq_decide.mpr Prod.ext_iff]
  exact this⟩
instance : Eqd 2 wtupI := ⟨fun x y => (eqds_map x y).tup⟩
instance : Eqd 3 tupP := ⟨fun x y => (eqds_map x y).tup⟩
theorem eq_ii {a b : Int} : optP (eqD (.int a) (.int b)) K = K (decide (a = b)) := by rw [EqD.int.eqD (by decide)]; rfl
theorem eq_bb {a b : Bool} : optP (eqD (.bl a) (.bl b)) K = K (a == b) := by rw [EqD.bl.eqD (by decide)]; rfl
theorem eq_typed {n : Nat} [DecidableEq α] {f : α → D} [h : Eqd n f] {x y : α} (hn : n ≤ 64) : eqD (f x) (f y) = some (decide (x = y)) := (h.eq x y).eqD hn
theorem eq_prs {a b : Int × Int} : optP (eqD (prD a) (prD b)) K = K (decide (a = b)) := by rw [eq_typed (by decide)]; rfl
theorem eq_pr4 {a b c d : Int} : optP (eqD (.tup [.int a, .int b]) (.tup [.int c, .int d])) K = K (decide ((a, b) = (c, d))) := eq_prs (a := (a, b)) (b := (c, d))
theorem eq_tupI {a b : List Int} : optP (eqD (.tup (a.map D.int)) (.tup (b.map D.int))) K = K (decide (a = b)) := by
  rw [show D.tup (a.map D.int) = wtupI a from rfl, show D.tup (b.map D.int) = wtupI b from rfl, eq_typed (by decide)]; rfl
theorem eq_tupP {a b : List (Int × Int)} : optP (eqD (.tup (a.map prD)) (.tup (b.map prD))) K = K (decide (a = b)) := by
  rw [show D.tup (a.map prD) = tupP a from rfl, show D.tup (b.map prD) = tupP b from rfl, eq_typed (by decide)]; rfl
theorem eq_lstI {k l : Kd} {a b : List Int} : optP (eqD (.lst k (a.map D.int)) (.lst l (b.map D.int))) K = K (decide (a = b)) := by
  rw [((eqds_map (f := D.int) a b).lst).eqD (by decide)]; rfl
theorem eq_lstN {k l : Kd} {a : List Int} : optP (eqD (.lst k (a.map D.int)) (.lst l [])) K = K (decide (a = [])) := eq_lstI (b := [])
theorem eq_tupN {a : List Int} : optP (eqD (.tup (a.map D.int)) (.tup [])) K = K (decide (a = [])) := eq_tupI (b := [])
theorem eq_lstP {k l : Kd} {a b : List (Int × Int)} : optP (eqD (.lst k (a.map prD)) (.lst l (b.map prD))) K = K (decide (a = b)) := by
  rw [((eqds_map (f := prD) a b).lst).eqD (by decide)]; rfl
/-- in a tuple or list of typed things -/
theorem in_map {n : Nat} [DecidableEq α] {f : α → D} [h : Eqd n f] {x : α} : ∀ {xs : List α} {a : PyData} {ys : List PyData}, (f x).py = some a → D.pys (xs.map f) = some ys → (ys.any fun z => PyData.eqv z a) = decide (x ∈ xs)
  | [], a, ys, _, e => by cases e; exact (decide_eq_false (by simp)).symm
  | y :: xs, a, ys, ea, e => by
    obtain ⟨c, d, f1, f2, m1, m2, g1, g2, p⟩ := h.eq y x
    have e' : (match D.py (f y), D.pys (xs.map f) with
      | some a, some b => some (a :: b)
      | _, _ => none) = some ys := e
    rw [f1] at e'
    rw [ea] at f2
    cases f2
    cases hq : D.pys (xs.map f) with
    | none => rw [hq] at e'; cases e'
    | some zs =>
      rw [hq] at e'
      cases e'
      have ih := in_map (n := n) (f := f) ea hq
      show (PyData.eqv c a || _) = _
      rw [p, ih, ← Bool.decide_or]
      exact decide_eq_decide.mpr ⟨fun z => z.elim (fun z => z ▸ List.mem_cons_self) (fun z => List.mem_cons_of_mem _ z), fun z => (List.mem_cons.mp z).elim (fun z => .inl z.symm) .inr⟩
theorem in_typed {n : Nat} [DecidableEq α] {f : α → D} [h : Eqd n f] (hn : n ≤ 63) {x : α} {xs : List α} {l : D} (hl : l = .tup (xs.map f) ∨ ∃ k, l = .lst k (xs.map f)) : inD (f x) l = some (decide (x ∈ xs)) := by
  obtain ⟨a, _, e1, _, l1, _, d1, _, _⟩ := h.eq x x
  obtain ⟨ys, _, f1, _, m1, _, g1, _, _⟩ := eqds_map (n := n) (f := f) xs xs
  have s1 : SeqAt.shaped a = true := by unfold SeqAt.shaped; rw [l1, decide_eq_true (by omega)]; rfl
  have key := in_map (n := n) (x := x) e1 f1
  unfold inD
  rw [e1]
  rcases hl with rfl | ⟨k, rfl⟩
  · have e2 : (D.tup (xs.map f)).py = some (.tuple ys) := by
      show (D.pys (xs.map f)).map PyData.tuple = _
      rw [f1]; rfl
    rw [e2]
    have s2 : SeqAt.shaped (.tuple ys) = true := by
      unfold SeqAt.shaped
      rw [show (PyData.tuple ys).canLay0 = true from m1, decide_eq_true (by simp only [PyData.depth]; omega)]; rfl
    show (if SeqAt.shaped a && SeqAt.shaped (.tuple ys) then some (ys.any fun z => PyData.eqv z a) else none) = _
    rw [s1, s2, key]; rfl
  · have e2 : (D.lst k (xs.map f)).py = some (.list ys) := by
      show (D.pys (xs.map f)).map PyData.list = _
      rw [f1]; rfl
    rw [e2]
    have s2 : SeqAt.shaped (.list ys) = true := by
      unfold SeqAt.shaped
      rw [show (PyData.list ys).canLay0 = true from m1, decide_eq_true (by simp only [PyData.depth]; omega)]; rfl
    show (if SeqAt.shaped a && SeqAt.shaped (.list ys) then some (ys.any fun z => PyData.eqv z a) else none) = _
    rw [s1, s2, key]; rfl
theorem in_it {x : Int} {xs : List Int} : optP (inD (.int x) (.tup (xs.map D.int))) K = K (decide (x ∈ xs)) := by rw [in_typed (by decide) (.inl rfl)]; rfl
theorem in_il {x : Int} {k : Kd} {xs : List Int} : optP (inD (.int x) (.lst k (xs.map D.int))) K = K (decide (x ∈ xs)) := by rw [in_typed (by decide) (.inr ⟨k, rfl⟩)]; rfl
theorem in_pt {x : Int × Int} {xs : List (Int × Int)} : optP (inD (prD x) (.tup (xs.map prD))) K = K (decide (x ∈ xs)) := by rw [in_typed (by decide) (.inl rfl)]; show K _ = K _; congr
theorem in_pl {x : Int × Int} {k : Kd} {xs : List (Int × Int)} : optP (inD (prD x) (.lst k (xs.map prD))) K = K (decide (x ∈ xs)) := by rw [in_typed (by decide) (.inr ⟨k, rfl⟩)]; show K _ = K _; congr
theorem in_pt2 {a b : Int} {xs : List (Int × Int)} : optP (inD (.tup [.int a, .int b]) (.tup (xs.map prD))) K = K (decide ((a, b) ∈ xs)) := in_pt (x := (a, b))
theorem in_pl2 {a b : Int} {k : Kd} {xs : List (Int × Int)} : optP (inD (.tup [.int a, .int b]) (.lst k (xs.map prD))) K = K (decide ((a, b) ∈ xs)) := in_pl (x := (a, b))
end
/-! ### displays -/
theorem fits0 : fits [] = true := nr rfl
theorem fits1 {a0 : D} : fits [a0] = true := nr rfl
theorem fits2 {a0 a1 : D} : fits [a0, a1] = true := nr rfl
theorem fits3 {a0 a1 a2 : D} : fits [a0, a1, a2] = true := nr rfl
theorem fits4 {a0 a1 a2 a3 : D} : fits [a0, a1, a2, a3] = true := nr rfl
theorem fits5 {a0 a1 a2 a3 a4 : D} : fits [a0, a1, a2, a3, a4] = true := nr rfl
theorem fits6 {a0 a1 a2 a3 a4 a5 : D} : fits [a0, a1, a2, a3, a4, a5] = true := nr rfl
theorem fits7 {a0 a1 a2 a3 a4 a5 a6 : D} : fits [a0, a1, a2, a3, a4, a5, a6] = true := nr rfl
theorem fits8 {a0 a1 a2 a3 a4 a5 a6 a7 : D} : fits [a0, a1, a2, a3, a4, a5, a6, a7] = true := nr rfl
theorem fits9 {a0 a1 a2 a3 a4 a5 a6 a7 a8 : D} : fits [a0, a1, a2, a3, a4, a5, a6, a7, a8] = true := nr rfl
theorem fits10 {a0 a1 a2 a3 a4 a5 a6 a7 a8 a9 : D} : fits [a0, a1, a2, a3, a4, a5, a6, a7, a8, a9] = true := nr rfl
theorem fits11 {a0 a1 a2 a3 a4 a5 a6 a7 a8 a9 a10 : D} : fits [a0, a1, a2, a3, a4, a5, a6, a7, a8, a9, a10] = true := nr rfl
theorem fits12 {a0 a1 a2 a3 a4 a5 a6 a7 a8 a9 a10 a11 : D} : fits [a0, a1, a2, a3, a4, a5, a6, a7, a8, a9, a10, a11] = true := nr rfl
theorem fits13 {a0 a1 a2 a3 a4 a5 a6 a7 a8 a9 a10 a11 a12 : D} : fits [a0, a1, a2, a3, a4, a5, a6, a7, a8, a9, a10, a11, a12] = true := nr rfl
theorem fits14 {a0 a1 a2 a3 a4 a5 a6 a7 a8 a9 a10 a11 a12 a13 : D} : fits [a0, a1, a2, a3, a4, a5, a6, a7, a8, a9, a10, a11, a12, a13] = true := nr rfl
/-! ### items -/
def optIx (xs : List α) (n : Int) : Option α := (ixN xs.length n).bind fun j => xs[j]?
theorem optIx_nat {xs : List α} {k : Nat} : optIx xs (k : Int) = xs[k]? := by
  unfold optIx ixN
  rw [if_pos (by omega)]
  by_cases h : k < xs.length
  · rw [if_pos (by omega)]; rfl
  · rw [if_neg (by omega), List.getElem?_eq_none (by omega)]; rfl
theorem optIx_nn {xs : List α} {n : Int} (h : 0 ≤ n) : optIx xs n = xs[n.toNat]? := by
  have e : n = (n.toNat : Int) := by omega
  rw [e, optIx_nat]; rfl
theorem optIx_0 {xs : List α} : optIx xs 0 = xs[0]? := optIx_nat (k := 0)
theorem optIx_1 {xs : List α} : optIx xs 1 = xs[1]? := optIx_nat (k := 1)
theorem optIx_2 {xs : List α} : optIx xs 2 = xs[2]? := optIx_nat (k := 2)
theorem optIx_last {xs : List α} : optIx xs (-1) = xs[xs.length - 1]? := by
  unfold optIx ixN
  rw [if_neg (by decide)]
  by_cases h : 0 < xs.length
  · rw [if_pos (by omega)]
    have : (-1 + (xs.length : Int)).toNat = xs.length - 1 := by omega
    rw [this]; rfl
  · rw [if_neg (by omega), List.getElem?_eq_none (by omega)]; rfl
theorem optIx_map {f : α → D} {xs : List α} {n : Int} : optIx (xs.map f) n = (optIx xs n).map f := by
  unfold optIx; rw [List.length_map]
  cases ixN xs.length n with
  | none => rfl
  | some j => show (xs.map f)[j]? = (xs[j]?).map f; rw [List.getElem?_map]
theorem optP_get {xs : List α} {k : Nat} {K : α → Prop} (h : k < xs.length) (q : K xs[k]) : optP xs[k]? K := by rw [List.getElem?_eq_getElem h]; exact q
theorem optP_ix {xs : List α} {n : Int} {K : α → Prop} (h0 : 0 ≤ n) (h : n.toNat < xs.length) (q : K xs[n.toNat]) : optP (optIx xs n) K := by rw [optIx_nn h0]; exact optP_get h q
theorem item_l {k : Kd} {ds : List D} {n : Int} : itemD (.lst k ds) (.int n) = optIx ds n := nr rfl
theorem item_t {ds : List D} {n : Int} : itemD (.tup ds) (.int n) = optIx ds n := nr rfl
/-- an item that is read in a thing that is not owned -/
def itmP (e : D) (K : D → Prop) (_ : Tk K := ⟨⟩) : Prop := match e with
  | .exn _ _ => False
  | e => ifP e.owned False (K e)
section
variable {K : D → Prop}
theorem itm_non : itmP .non K = K .non := nr rfl
theorem itm_bl {i : Bool} : itmP (.bl i) K = K (.bl i) := nr rfl
theorem itm_int {i : Int} : itmP (.int i) K = K (.int i) := nr rfl
theorem itm_str {i : Str} : itmP (.str i) K = K (.str i) := nr rfl
theorem itm_tup {i : List D} : itmP (.tup i) K = K (.tup i) := nr rfl
theorem itm_pr {i : Int × Int} : itmP (prD i) K = K (prD i) := nr rfl
theorem itm_tupI {i : List Int} : itmP (wtupI i) K = K (wtupI i) := nr rfl
theorem itm_tupP {i : List (Int × Int)} : itmP (tupP i) K = K (tupP i) := nr rfl
theorem itm_shr {i : List D} : itmP (.lst .shr i) K = K (.lst .shr i) := nr rfl
theorem itm_obj {c : Nat} {ks : List Nat} {i : List D} : itmP (.obj .shr c ks i) K = K (.obj .shr c ks i) := nr rfl
theorem itm_pl {f : α → D} [h : Pl f] {x : α} : itmP (f x) K = K (f x) := by
  unfold itmP
  split
  · rename_i e; exact absurd e (h.nex _ _ _)
  · rename_i e; rw [h.ow]; rfl
end
section
variable {Q : D → En → Prop}
theorem rd_not {d : D} {i : Nat} {s : St1} {p : List St1} (hu : ∀ e, e.owned = true → getP d (s :: p) = some e → updP (fun x => some x.frz) d (s :: p) = none) : (rdS (some d) r i (s :: p)).sat Q X = optP (getP d (s :: p)) fun e => itmP e fun e => Q e r := by
  show (match getP d (s :: p) with
    | some (.exn _ _) => Out.bad
    | some e => if e.owned then (match updP (fun x => some x.frz) d (s :: p) with
        | some d' => .ok e.frz (r.set i (some d'))
        | none => .bad) else .ok e r
    | none => .bad).sat Q X = _
  cases h : getP d (s :: p) with
  | none => rfl
  | some e =>
    have hu' := fun o => hu e o h
    cases e with
    | exn c w => rfl
    | lst k ds =>
      cases k with
      | own => dsimp only; rw [hu' rfl]; rfl
      | shr => rfl
      | giv => rfl
    | obj k c ks ds =>
      cases k with
      | own => dsimp only; rw [hu' rfl]; rfl
      | shr => rfl
      | giv => rfl
    | _ => rfl
theorem rd_tupp {ds : List D} {i : Nat} {s : St1} {p : List St1} : (rdS (some (.tup ds)) r i (s :: p)).sat Q X = optP (getP (.tup ds) (s :: p)) fun e => itmP e fun e => Q e r := rd_not fun _ _ _ => by cases s <;> rfl
theorem rd_shrp {ds : List D} {i : Nat} {s : St1} {p : List St1} : (rdS (some (.lst .shr ds)) r i (s :: p)).sat Q X = optP (getP (.lst .shr ds) (s :: p)) fun e => itmP e fun e => Q e r := rd_not fun _ _ _ => by cases s <;> rfl
theorem rd_givp {ds : List D} {i : Nat} {s : St1} {p : List St1} : (rdS (some (.lst .giv ds)) r i (s :: p)).sat Q X = optP (getP (.lst .giv ds) (s :: p)) fun e => itmP e fun e => Q e r := rd_not fun _ _ _ => by cases s <;> rfl
theorem rd_objp {c : Nat} {ks : List Nat} {ds : List D} {i : Nat} {s : St1} {p : List St1} : (rdS (some (.obj .shr c ks ds)) r i (s :: p)).sat Q X = optP (getP (.obj .shr c ks ds) (s :: p)) fun e => itmP e fun e => Q e r := rd_not fun _ _ _ => by cases s <;> rfl
theorem rd_ownp {f : α → D} [h : Pl f] {xs : List α} {i : Nat} {n : Int} : (rdS (some (.lst .own (xs.map f))) r i [.ix n]).sat Q X = optP (optIx xs n) fun x => Q (f x) r := by
  have e : getP (.lst .own (xs.map f)) [.ix n] = (optIx xs n).map f := by
    show ((optIx (xs.map f) n).bind fun e => some e) = _
    rw [optIx_map]; cases optIx xs n <;> rfl
  show (match getP (.lst .own (xs.map f)) [.ix n] with
    | some (.exn _ _) => Out.bad
    | some e => if e.owned then (match updP (fun x => some x.frz) (.lst .own (xs.map f)) [.ix n] with
        | some d' => .ok e.frz (r.set i (some d'))
        | none => .bad) else .ok e r
    | none => .bad).sat Q X = _
  rw [e]
  cases optIx xs n with
  | none => rfl
  | some x =>
    show (match some (f x) with
    | some (.exn _ _) => Out.bad
    | some e => if e.owned then (match updP (fun x => some x.frz) (.lst .own (xs.map f)) [.ix n] with
        | some d' => .ok e.frz (r.set i (some d'))
        | none => .bad) else .ok e r
    | none => .bad).sat Q X = Q (f x) r
    split
    · rename_i q; exact absurd (Option.some.inj q) (h.nex _ _ _)
    · rename_i d _ q
      cases q
      rw [if_neg (by rw [h.ow]; decide)]; rfl
    · rename_i q; cases q
end
theorem rd_ownl {ds : List D} {i : Nat} {n : Int} {Q : D → En → Prop} (hn : noOwn ds = true) : (rdS (some (.lst .own ds)) r i [.ix n]).sat Q X = optP (optIx ds n) fun e => itmP e fun e => Q e r := by
  have e0 : (optP (getP (.lst .own ds) [.ix n]) fun e => itmP e fun e => Q e r) = optP (optIx ds n) fun e => itmP e fun e => Q e r := by
    show (optP ((optIx ds n).bind fun e => some e) _) = _
    cases optIx ds n <;> rfl
  rw [← e0]
  refine rd_not fun e he hg => ?_
  have hg : (optIx ds n).bind (fun e => some e) = some e := hg
  cases h : optIx ds n with
  | none => rw [h] at hg; cases hg
  | some d =>
    rw [h] at hg
    cases hg
    unfold optIx at h
    cases hj : ixN ds.length n with
    | none => rw [hj] at h; cases h
    | some j =>
      rw [hj] at h
      have hm : e ∈ ds := List.mem_of_getElem? h
      have := List.all_eq_true.mp hn e hm
      rw [he] at this; cases this
theorem getP_nil {d : D} : getP d [] = some d := nr rfl
theorem getP_ixl {k : Kd} {ds : List D} {n : Int} {p : List St1} : getP (.lst k ds) (.ix n :: p) = (optIx ds n).bind fun e => getP e p := nr rfl
theorem getP_ixt {ds : List D} {n : Int} {p : List St1} : getP (.tup ds) (.ix n :: p) = (optIx ds n).bind fun e => getP e p := nr rfl
theorem getP_fl {k : Kd} {c : Nat} {ks : List Nat} {ds : List D} {f : Nat} {p : List St1} : getP (.obj k c ks ds) (.fl f :: p) = (fldD (.obj k c ks ds) f).bind fun e => getP e p := nr rfl
theorem fld_cons {k : Kd} {c g f : Nat} {ks : List Nat} {d : D} {ds : List D} : fldD (.obj k c (g :: ks) (d :: ds)) f = if f = g then some d else fldD (.obj k c ks ds) f := by
  show List.lookup f ((g, d) :: ks.zip ds) = _
  rw [List.lookup_cons]
  by_cases h : f = g
  · rw [if_pos h, h]; simp
  · rw [if_neg h, beq_eq_false_iff_ne.mpr h]; rfl
theorem ixN_some {n : Nat} {i : Int} (h0 : 0 ≤ i) (h1 : i.toNat < n) : ixN n i = some i.toNat := by unfold ixN; rw [if_pos h0, if_pos (by omega)]
theorem optIx_some {xs : List α} {n : Int} (h0 : 0 ≤ n) (h : n.toNat < xs.length) : optIx xs n = some xs[n.toNat] := by rw [optIx_nn h0, List.getElem?_eq_getElem h]
/-- rows that may be shared one by one -/
def rowsK (n : Nat) (kf : Nat → Kd) (f : Nat → List Int) : List D := (List.range n).map fun (x : Nat) => D.lst (kf x) ((f x).map D.int)
def kUp (kf : Nat → Kd) (x : Nat) : Nat → Kd := fun y => if y = x then .shr else kf y
theorem rowsK_set {n x : Nat} {kf : Nat → Kd} {f : Nat → List Int} (hx : x < n) : (rowsK n kf f).set x (.lst .shr ((f x).map D.int)) = rowsK n (kUp kf x) f := by
  refine List.ext_getElem (by simp [rowsK]) fun i h1 h2 => ?_
  rw [List.getElem_set]
  by_cases e : x = i
  · rw [if_pos e]; subst e; simp [rowsK, kUp]
  · rw [if_neg e]
    have e' : ¬ i = x := fun z => e z.symm
    simp [rowsK, kUp, e']
theorem rowsK_same {n x : Nat} {kf : Nat → Kd} {f : Nat → List Int} (h : kf x = .shr) : rowsK n (kUp kf x) f = rowsK n kf f := by
  have : kUp kf x = kf := by
    funext y; unfold kUp
    by_cases e : y = x
    · rw [if_pos e, e, h]
    · rw [if_neg e]
  rw [this]
theorem rd_rowK {n : Nat} {kf : Nat → Kd} {f : Nat → List Int} {i : Nat} {x : Int} {Q : D → En → Prop} (h0 : 0 ≤ x) (h1 : x < n) (hk : kf x.toNat ≠ .giv) (hr : slot r i = some (.lst .own (rowsK n kf f))) :
    (rdS (some (.lst .own (rowsK n kf f))) r i [.ix x]).sat Q X = Q (.lst .shr ((f x.toNat).map D.int)) (r.set i (some (.lst .own (rowsK n (kUp kf x.toNat) f)))) := by
  have hx : x.toNat < n := by omega
  have hl : x.toNat < (rowsK n kf f).length := by simpa [rowsK] using hx
  have e0 : optIx (rowsK n kf f) x = some (.lst (kf x.toNat) ((f x.toNat).map D.int)) := by
    rw [optIx_some h0 hl]; simp [rowsK]
  have e1 : getP (.lst .own (rowsK n kf f)) [.ix x] = some (.lst (kf x.toNat) ((f x.toNat).map D.int)) := by
    show ((optIx (rowsK n kf f) x).bind fun e => some e) = _
    rw [e0]; rfl
  show (match getP (.lst .own (rowsK n kf f)) [.ix x] with
    | some (.exn _ _) => Out.bad
    | some e => if e.owned then (match updP (fun x => some x.frz) (.lst .own (rowsK n kf f)) [.ix x] with
        | some d' => .ok e.frz (r.set i (some d'))
        | none => .bad) else .ok e r
    | none => .bad).sat Q X = _
  rw [e1]
  dsimp only
  cases hkx : kf x.toNat with
  | giv => exact absurd hkx hk
  | shr =>
    rw [if_neg (show ¬ (D.lst .shr ((f x.toNat).map D.int)).owned = true from fun z => by cases z), rowsK_same hkx]
    have : r.set i (some (.lst .own (rowsK n kf f))) = r := by
      unfold slot at hr
      cases hg : r[i]? with
      | none => rw [hg] at hr; cases hr
      | some o =>
        rw [hg] at hr
        have hr : o = some (.lst .own (rowsK n kf f)) := hr
        subst hr
        obtain ⟨hi, e⟩ := List.getElem?_eq_some_iff.mp hg
        rw [← e, List.set_getElem_self]
    rw [this]; rfl
  | own =>
    rw [if_pos (show (D.lst .own ((f x.toNat).map D.int)).owned = true from rfl)]
    have e2 : updP (fun x => some x.frz) (.lst .own (rowsK n kf f)) [.ix x] = some (.lst .own (rowsK n (kUp kf x.toNat) f)) := by
      show ((ixN (rowsK n kf f).length x).bind fun j => ((rowsK n kf f)[j]?).bind fun e => ((fun x => some x.frz) e).map fun e' => D.lst .own ((rowsK n kf f).set j e')) = _
      rw [ixN_some h0 hl, Option.bind_some, List.getElem?_eq_getElem hl]
      have eg : (rowsK n kf f)[x.toNat] = .lst (kf x.toNat) ((f x.toNat).map D.int) := by simp [rowsK]
      rw [eg, hkx]
      show some (D.lst .own ((rowsK n kf f).set x.toNat (.lst .shr (D.frzs ((f x.toNat).map D.int))))) = _
      rw [frzs_map', rowsK_set hx]
    rw [e2]
    show Q (.lst .shr (D.frzs ((f x.toNat).map D.int))) _ = _
    rw [frzs_map']
/-! paths -/
theorem path_var {i : Nat} : path (.var i) r = some (i, []) := nr rfl
theorem path_idx {a i : E} : path (.idx a i) r = (path a r).bind fun p => (evI i r).map fun n => (p.1, p.2 ++ [.ix n]) := nr rfl
theorem path_attr {a : E} {f : Nat} : path (.attr a f) r = (path a r).map fun p => (p.1, p.2 ++ [.fl f]) := nr rfl
def evIv (o : Option D) : Option Int := match o with
  | some (.int n) => some n
  | _ => none
theorem evI_int {i : Int} : evI (.int i) r = some i := nr rfl
theorem evI_var {i : Nat} : evI (.var i) r = evIv (slot r i) := nr rfl
theorem evIv_int {i : Int} : evIv (some (.int i)) = some i := nr rfl
theorem evI_add {a b : E} : evI (.bin .Add a b) r = (evI a r).bind fun x => (evI b r).map fun y => x + y := nr rfl
theorem evI_sub {a b : E} : evI (.bin .Sub a b) r = (evI a r).bind fun x => (evI b r).map fun y => x - y := nr rfl
theorem evI_neg {a : E} : evI (.neg a) r = (evI a r).map fun x => -x := nr rfl
theorem evI_idx {a i : E} : evI (.idx a i) r = (path a r).bind fun p => (evI i r).bind fun n => evIv (peekP r p.1 (p.2 ++ [.ix n])) := nr rfl
theorem peekP_eq {i : Nat} {p : List St1} : peekP r i p = (slot r i).bind fun d => getP d p := nr rfl
/-! ### built-ins -/
section
variable {K : D → Prop}
theorem b_lenl {k : Kd} {ds : List D} : optP (bltD .len [.lst k ds]) K = K (.int ds.length) := nr rfl
theorem b_lent {ds : List D} : optP (bltD .len [.tup ds]) K = K (.int ds.length) := nr rfl
theorem b_inti {i : Int} : optP (bltD .int [.int i]) K = K (.int i) := nr rfl
theorem b_intb {i : Bool} : optP (bltD .int [.bl i]) K = K (.int (if i then 1 else 0)) := nr rfl
theorem b_booli {i : Int} : optP (bltD .bool [.int i]) K = K (.bl (i != 0)) := nr rfl
theorem b_boolb {i : Bool} : optP (bltD .bool [.bl i]) K = K (.bl i) := nr rfl
theorem b_tupl {k : Kd} {ds : List D} : optP (bltD .tuple [.lst k ds]) K = (noOwn ds = true ∧ K (.tup ds)) := by
  show optP (if noOwn ds then some (.tup ds) else none) K = _
  rw [optP_ite]
theorem b_tuplm {k : Kd} {f : α → D} [Pl f] {xs : List α} : optP (bltD .tuple [.lst k (xs.map f)]) K = K (.tup (xs.map f)) := by
  rw [b_tupl, wnoOwn_map]; simp
theorem b_tupt {ds : List D} : optP (bltD .tuple [.tup ds]) K = K (.tup ds) := nr rfl
theorem b_listl {k : Kd} {ds : List D} : optP (bltD .list [.lst k ds]) K = (noOwn ds = true ∧ K (.lst .own ds)) := by
  show optP (if noOwn ds then some (.lst .own ds) else none) K = _
  rw [optP_ite]
theorem b_listlm {k : Kd} {f : α → D} [Pl f] {xs : List α} : optP (bltD .list [.lst k (xs.map f)]) K = K (.lst .own (xs.map f)) := by
  rw [b_listl, wnoOwn_map]; simp
theorem b_listt {ds : List D} : optP (bltD .list [.tup ds]) K = K (.lst .own ds) := nr rfl
theorem b_max {i j : Int} : optP (bltD .max [.int i, .int j]) K = K (.int (max i j)) := by
  show K (.int (if j > i then j else i)) = _
  rw [Int.max_def]; congr 2
  by_cases h : j > i
  · rw [if_pos h, if_pos (by omega)]
  · rw [if_neg h]; split <;> omega
theorem b_min {i j : Int} : optP (bltD .min [.int i, .int j]) K = K (.int (min i j)) := by
  show K (.int (if j < i then j else i)) = _
  rw [Int.min_def]; congr 2
  by_cases h : j < i
  · rw [if_pos h, if_neg (by omega)]
  · rw [if_neg h, if_pos (by omega)]
theorem b_abs {i : Int} : optP (bltD .abs [.int i]) K = K (.int (if i < 0 then -i else i)) := nr rfl
theorem wintsOf_map : ∀ xs : List Int, intsOf (xs.map D.int) = some xs
  | [] => rfl
  | x :: xs => by show (intsOf (xs.map D.int)).map _ = _; rw [wintsOf_map xs]; rfl
theorem prsOf_map : ∀ xs : List (Int × Int), prsOf (xs.map prD) = some xs
  | [] => rfl
  | x :: xs => by show (prsOf (xs.map prD)).map _ = _; rw [prsOf_map xs]; rfl
theorem blsOf_map : ∀ xs : List Bool, blsOf (xs.map D.bl) = some xs
  | [] => rfl
  | x :: xs => by show (blsOf (xs.map D.bl)).map _ = _; rw [blsOf_map xs]; rfl
theorem b_suml {k : Kd} {xs : List Int} : optP (bltD .sum [.lst k (xs.map D.int)]) K = K (.int xs.sum) := by
  show optP ((intsOf (xs.map D.int)).map fun l => D.int l.sum) K = _
  rw [wintsOf_map]; rfl
theorem b_sumt {xs : List Int} : optP (bltD .sum [.tup (xs.map D.int)]) K = K (.int xs.sum) := by
  show optP ((intsOf (xs.map D.int)).map fun l => D.int l.sum) K = _
  rw [wintsOf_map]; rfl
theorem b_sorti {k : Kd} {xs : List Int} : optP (bltD .sorted [.lst k (xs.map D.int)]) K = K (.lst .own ((sortI xs).map D.int)) := by
  show optP (match intsOf (xs.map D.int) with
    | some l => some (D.lst .own ((sortI l).map .int))
    | none => (prsOf (xs.map D.int)).map fun l => .lst .own ((sortP l).map prD)) K = _
  rw [wintsOf_map]; rfl
theorem b_sortp {k : Kd} {xs : List (Int × Int)} : optP (bltD .sorted [.lst k (xs.map prD)]) K = K (.lst .own ((sortP xs).map prD)) := by
  cases xs with
  | nil =>
    show K (.lst .own ((sortI []).map .int)) = _
    rw [show sortI [] = [] from by simp [sortI], show sortP [] = [] from by simp [sortP]]; rfl
  | cons x xs =>
    show optP (match intsOf ((x :: xs).map prD) with
    | some l => some (D.lst .own ((sortI l).map .int))
    | none => (prsOf ((x :: xs).map prD)).map fun l => .lst .own ((sortP l).map prD)) K = _
    rw [prsOf_map]; rfl
theorem b_sortpt {xs : List (Int × Int)} : optP (bltD .sorted [.tup (xs.map prD)]) K = K (.lst .own ((sortP xs).map prD)) := by
  show optP ((prsOf (xs.map prD)).map fun l => D.lst .own ((sortP l).map prD)) K = _
  rw [prsOf_map]; rfl
theorem b_all {k : Kd} {xs : List Bool} : optP (bltD .all [.lst k (xs.map D.bl)]) K = K (.bl (xs.all id)) := by
  show optP ((blsOf (xs.map D.bl)).map fun l => D.bl (l.all id)) K = _
  rw [blsOf_map]; rfl
theorem b_any {k : Kd} {xs : List Bool} : optP (bltD .any [.lst k (xs.map D.bl)]) K = K (.bl (xs.any id)) := by
  show optP ((blsOf (xs.map D.bl)).map fun l => D.bl (l.any id)) K = _
  rw [blsOf_map]; rfl
end
section
variable {K : Bool → Prop} {t : Ty}
theorem ty_non : optP (isTy .non t) K = K (t == .none) := nr rfl
theorem ty_bl {b : Bool} : optP (isTy (.bl b) t) K = K (t == .bool || t == .int) := nr rfl
theorem ty_int {b : Int} : optP (isTy (.int b) t) K = K (t == .int) := nr rfl
theorem ty_str {b : Str} : optP (isTy (.str b) t) K = K (t == .str) := nr rfl
theorem ty_tup {b : List D} : optP (isTy (.tup b) t) K = K (t == .tuple) := nr rfl
theorem ty_lst {k : Kd} {b : List D} : optP (isTy (.lst k b) t) K = K (t == .list) := nr rfl
end
/-! ### list methods -/
section
variable {Q : D → En → Prop}
theorem lm_app {xs : List D} {x : Nat} {d : D} : (lmP .append (some (.lst .own xs)) r x [] [d]).sat Q X = (xs.length < 16777216 ∧ x < r.length ∧ Q .non (r.set x (some (.lst .own (xs ++ [d]))))) := by
  show (match (if xs.length < 16777216 then some (D.non, xs ++ [d]) else none) with
      | some (v, ys) => if x < r.length then Out.ok v (r.set x (some (.lst .own ys))) else .bad
      | none => .bad).sat Q X = _
  by_cases h : xs.length < 16777216
  · rw [if_pos h]
    dsimp only
    rw [if_and]; exact propext ⟨fun q => ⟨h, q⟩, fun q => q.2⟩
  · rw [if_neg h]; exact propext ⟨fun q => q.elim, fun q => h q.1⟩
theorem lm_pop {xs : List D} {x : Nat} : (lmP .pop (some (.lst .own xs)) r x [] []).sat Q X = optP xs[xs.length - 1]? fun d => x < r.length ∧ Q d (r.set x (some (.lst .own xs.dropLast))) := by
  show (match (xs[xs.length - 1]?).map fun d => (d, xs.dropLast) with
      | some (v, ys) => if x < r.length then Out.ok v (r.set x (some (.lst .own ys))) else .bad
      | none => .bad).sat Q X = _
  cases xs[xs.length - 1]? with
  | none => rfl
  | some d => exact if_and
theorem map_eraseIdx' {f : α → D} : ∀ (xs : List α) (j : Nat), (xs.map f).eraseIdx j = (xs.eraseIdx j).map f
  | [], _ => rfl
  | x :: xs, 0 => rfl
  | x :: xs, j + 1 => congrArg (f x :: ·) (map_eraseIdx' xs j)
theorem lm_popi {f : α → D} [Pl f] {xs : List α} {x : Nat} {i : Int} : (lmP .pop (some (.lst .own (xs.map f))) r x [] [.int i]).sat Q X = (rng63 i ∧ optP (ixN xs.length i) fun j => optP xs[j]? fun d => x < r.length ∧ Q (f d) (r.set x (some (.lst .own ((xs.eraseIdx j).map f))))) := by
  show (match (if noOwn (xs.map f) && decide (-(2 ^ 63) ≤ i ∧ i < 2 ^ 63) then (ixN (xs.map f).length i).bind fun j => ((xs.map f)[j]?).map fun d => (d, (xs.map f).eraseIdx j) else none) with
      | some (v, ys) => if x < r.length then Out.ok v (r.set x (some (.lst .own ys))) else .bad
      | none => .bad).sat Q X = _
  rw [wnoOwn_map, Bool.true_and, List.length_map]
  by_cases h : -(2 ^ 63) ≤ i ∧ i < 2 ^ 63
  · rw [decide_eq_true h, if_pos rfl]
    have : ∀ p : Prop, (rng63 i ∧ p) = p := fun p => propext ⟨fun q => q.2, fun q => ⟨h, q⟩⟩
    rw [this]
    cases ixN xs.length i with
    | none => rfl
    | some j =>
      show (match ((xs.map f)[j]?).map fun d => (d, (xs.map f).eraseIdx j) with
      | some (v, ys) => if x < r.length then Out.ok v (r.set x (some (.lst .own ys))) else .bad
      | none => .bad).sat Q X = optP xs[j]? _
      rw [List.getElem?_map]
      cases xs[j]? with
      | none => rfl
      | some d => 
        show (if x < r.length then Out.ok (f d) (r.set x (some (.lst .own ((xs.map f).eraseIdx j)))) else .bad).sat Q X = _
        rw [if_and, map_eraseIdx']; rfl
  · rw [decide_eq_false h, if_neg (by decide)]; exact propext ⟨fun q => q.elim, fun q => h q.1⟩
theorem lm_ext {xs es : List D} {k : Kd} {x : Nat} : (lmP .extend (some (.lst .own xs)) r x [] [.lst k es]).sat Q X = ((k != Kd.giv && noOwn es) = true ∧ xs.length + es.length ≤ 16777216 ∧ x < r.length ∧ Q .non (r.set x (some (.lst .own (xs ++ es))))) := by
  show (match (if k != Kd.giv && noOwn es && decide (xs.length + es.length ≤ 16777216) then some (D.non, xs ++ es) else none) with
      | some (v, ys) => if x < r.length then Out.ok v (r.set x (some (.lst .own ys))) else .bad
      | none => .bad).sat Q X = _
  by_cases h : (k != Kd.giv && noOwn es && decide (xs.length + es.length ≤ 16777216)) = true
  · rw [if_pos h]
    rw [Bool.and_eq_true, decide_eq_true_eq] at h
    dsimp only
    rw [if_and]; exact propext ⟨fun q => ⟨h.1, h.2, q⟩, fun q => q.2.2⟩
  · rw [if_neg h]
    rw [Bool.and_eq_true, decide_eq_true_eq] at h
    exact propext ⟨fun q => q.elim, fun q => h ⟨q.1, q.2.1⟩⟩
theorem lm_rev {xs : List D} {x : Nat} : (lmP .reverse (some (.lst .own xs)) r x [] []).sat Q X = (noOwn xs = true ∧ x < r.length ∧ Q .non (r.set x (some (.lst .own xs.reverse)))) := by
  show (match (if noOwn xs then some (D.non, xs.reverse) else none) with
      | some (v, ys) => if x < r.length then Out.ok v (r.set x (some (.lst .own ys))) else .bad
      | none => .bad).sat Q X = _
  by_cases h : noOwn xs = true
  · rw [if_pos h]
    dsimp only
    rw [if_and]; exact propext ⟨fun q => ⟨h, q⟩, fun q => q.2⟩
  · rw [if_neg h]; exact propext ⟨fun q => q.elim, fun q => h q.1⟩
/-- rows that are owned: an item is appended to one -/
def rowO (f : α → D) (xs : List α) : D := .lst .own (xs.map f)
def rowS (f : α → D) (xs : List α) : D := .lst .shr (xs.map f)
instance {f : α → D} [Pl f] : Pl (rowS f) := ⟨fun _ => rfl, fun x => by show D.lst .shr (D.frzs _) = _; rw [frzs_map']; rfl, fun _ _ _ z => by cases z⟩
theorem frzs_rowO {f : α → D} [Pl f] {rows : List (List α)} : D.frzs (rows.map (rowO f)) = rows.map (rowS f) := by
  rw [D.frzs_map, List.map_map]
  refine List.map_congr_left fun x _ => ?_
  show D.lst .shr (D.frzs (x.map f)) = _
  rw [frzs_map']; rfl
theorem lm_apprI {f : α → D} {rows : List (List α)} {x : Nat} {n : Int} {v : α} (h0 : 0 ≤ n) (h1 : n.toNat < rows.length) : (lmP .append (some (.lst .own (rows.map (rowO f)))) r x [.ix n] [f v]).sat Q X = (rows[n.toNat].length < 16777216 ∧ x < r.length ∧ Q .non (r.set x (some (.lst .own ((rows.set n.toNat (rows[n.toNat] ++ [v])).map (rowO f)))))) := by
  have e0 : optIx (rows.map (rowO f)) n = some (rowO f rows[n.toNat]) := by rw [optIx_nn h0, List.getElem?_map, List.getElem?_eq_getElem h1]; rfl
  have e1 : getP (.lst .own (rows.map (rowO f))) [.ix n] = some (rowO f rows[n.toNat]) := by
    show ((optIx (rows.map (rowO f)) n).bind fun e => some e) = _
    rw [e0]; rfl
  show (match getP (.lst .own (rows.map (rowO f))) [.ix n] with
    | some (.lst .own xs) => match lmD .append xs [f v] with
      | some (v, ys) => match updP (fun _ => some (.lst .own ys)) (.lst .own (rows.map (rowO f))) [.ix n] with
        | some d' => if x < r.length then Out.ok v (r.set x (some d')) else .bad
        | none => .bad
      | none => .bad
    | _ => .bad).sat Q X = _
  rw [e1]
  show (match (if (rows[n.toNat].map f).length < 16777216 then some (D.non, rows[n.toNat].map f ++ [f v]) else none) with
      | some (v, ys) => match updP (fun _ => some (.lst .own ys)) (.lst .own (rows.map (rowO f))) [.ix n] with
        | some d' => if x < r.length then Out.ok v (r.set x (some d')) else .bad
        | none => .bad
      | none => .bad).sat Q X = _
  rw [List.length_map]
  by_cases h : rows[n.toNat].length < 16777216
  · rw [if_pos h]
    have e2 : updP (fun _ => some (.lst .own (rows[n.toNat].map f ++ [f v]))) (.lst .own (rows.map (rowO f))) [.ix n] = some (.lst .own ((rows.set n.toNat (rows[n.toNat] ++ [v])).map (rowO f))) := by
      show ((ixN (rows.map (rowO f)).length n).bind fun j => ((rows.map (rowO f))[j]?).bind fun e => ((fun _ => some (D.lst .own (rows[n.toNat].map f ++ [f v]))) e).map fun e' => D.lst .own ((rows.map (rowO f)).set j e')) = _
      have : ixN (rows.map (rowO f)).length n = some n.toNat := by
        unfold ixN; rw [if_pos h0, if_pos (by rw [List.length_map]; omega)]
      rw [this, Option.bind_some, List.getElem?_map, List.getElem?_eq_getElem h1]
      show some (D.lst .own ((rows.map (rowO f)).set n.toNat _)) = _
      rw [List.map_set]
      show _ = some (D.lst .own ((rows.map (rowO f)).set n.toNat (.lst .own ((rows[n.toNat] ++ [v]).map f))))
      rw [List.map_append]; rfl
    dsimp only
    rw [e2]
    dsimp only
    rw [if_and]
    exact propext ⟨fun q => ⟨h, q⟩, fun q => q.2⟩
  · rw [if_neg h]; exact propext ⟨fun q => q.elim, fun q => h q.1⟩
end
/-! ### stores -/
section
variable {Q : Fl → En → Prop}
theorem upd_ix {f : α → D} {xs : List α} {n : Int} {v : α} {K : D → Prop} : optP (updP (fun _ => some (f v)) (.lst .own (xs.map f)) [.ix n]) K = optP (ixN xs.length n) fun j => j < xs.length ∧ K (.lst .own ((xs.set j v).map f)) := by
  show optP ((ixN (xs.map f).length n).bind fun j => ((xs.map f)[j]?).bind fun e => ((fun _ => some (f v)) e).map fun e' => D.lst .own ((xs.map f).set j e')) K = _
  rw [optP_bind, List.length_map]; refine optP_q fun j => ?_
  rw [List.getElem?_map]
  by_cases h : j < xs.length
  · rw [List.getElem?_eq_getElem h]
    show K (.lst .own ((xs.map f).set j (f v))) = _
    rw [← List.map_set]; exact propext ⟨fun q => ⟨h, q⟩, fun q => q.2⟩
  · rw [List.getElem?_eq_none (by omega)]; exact propext ⟨fun q => q.elim, fun q => h q.1⟩
theorem ixN_P {n : Nat} {i : Int} {K : Nat → Prop} (h0 : 0 ≤ i) (h1 : i.toNat < n) (k : K i.toNat) : optP (ixN n i) K := by
  unfold ixN; rw [if_pos h0, if_pos (by omega)]; exact k
theorem wixN_nat {n k : Nat} : ixN n (k : Int) = if k < n then some k else none := by
  unfold ixN; rw [if_pos (by omega)]
  by_cases h : k < n
  · rw [if_pos (by omega), if_pos h]; rfl
  · rw [if_neg (by omega), if_neg h]
theorem sS_setIv {x : Nat} {i e : E} : (evS P F (.setI (.var x) i e) r).sat Q X = ((ev P F e).v r).sat (fun d r => hasP (slot r x) (((ev P F i).v r).sat (fun k r => intP k fun n => optP (slot r x) fun o => optP (updP (fun _ => some d) o [.ix n]) fun d' => Q .next (r.set x (some d'))) X)) X := by
  show (((ev P F e).v r).bind fun d r => if has r x then (((ev P F i).v r).bind fun k r => match k with
      | .int n => match (slot r x).bind (updP (fun _ => some d) · [.ix n]) with
        | some d' => Out.ok Fl.next (r.set x (some d'))
        | none => .bad
      | _ => .bad) else .bad).sat Q X = _
  rw [sat_bind]; refine sat_q fun d r => ?_; rw [if_and]
  show (_ ∧ _) = (_ ∧ _)
  congr 1
  rw [sat_bind]; refine sat_q fun k r => ?_
  cases k with
  | int n =>
    show (match (slot r x).bind (updP (fun _ => some d) · [.ix n]) with
        | some d' => Out.ok Fl.next (r.set x (some d'))
        | none => .bad).sat Q X = optP (slot r x) _
    cases slot r x with
    | none => rfl
    | some o =>
      show (match updP (fun _ => some d) o [.ix n] with
        | some d' => Out.ok Fl.next (r.set x (some d'))
        | none => .bad).sat Q X = optP (updP (fun _ => some d) o [.ix n]) _
      cases updP (fun _ => some d) o [.ix n] <;> rfl
  | _ => rfl
theorem sS_setIp {a b i e : E} : (evS P F (.setI (.idx a b) i e) r).sat Q X = ((ev P F e).v r).sat (fun d r => pathP (path (.idx (.idx a b) i) r) (fun x p => optP (slot r x) fun o => optP (updP (fun _ => some d) o p) fun d' => Q .next (r.set x (some d'))) False) X := by
  show (((ev P F e).v r).bind fun d r => match path (.idx (.idx a b) i) r with
      | some (x, p) => match (slot r x).bind (updP (fun _ => some d) · p) with
        | some d' => Out.ok Fl.next (r.set x (some d'))
        | none => .bad
      | none => .bad).sat Q X = _
  rw [sat_bind]; refine sat_q fun d r => ?_
  cases path (.idx (.idx a b) i) r with
  | none => rfl
  | some q =>
    show (match (slot r q.1).bind (updP (fun _ => some d) · q.2) with
        | some d' => Out.ok Fl.next (r.set q.1 (some d'))
        | none => .bad).sat Q X = optP (slot r q.1) _
    cases slot r q.1 with
    | none => rfl
    | some o =>
      show (match updP (fun _ => some d) o q.2 with
        | some d' => Out.ok Fl.next (r.set q.1 (some d'))
        | none => .bad).sat Q X = optP (updP (fun _ => some d) o q.2) _
      cases updP (fun _ => some d) o q.2 <;> rfl
def oobjP (o : Option D) (K : Nat → List Nat → List D → Prop) (_ : Tk K := ⟨⟩) : Prop := match o with
  | some (.obj .own c ks ds) => K c ks ds
  | _ => False
theorem oobjP_obj {c : Nat} {ks : List Nat} {ds : List D} {K : Nat → List Nat → List D → Prop} : oobjP (some (.obj .own c ks ds)) K = K c ks ds := nr rfl
def putF (f : Nat) (d : D) (c : Nat) (ks : List Nat) (ds : List D) : D := match idxOf f ks with
  | some j => .obj .own c ks (ds.set j d)
  | none => .obj .own c (ks ++ [f]) (ds ++ [d])
theorem sS_setA {i f : Nat} {e : E} : (evS P F (.setA i f e) r).sat Q X = ((ev P F e).v r).sat (fun d r => oobjP (slot r i) fun c ks ds => (ks.length < 1000 ∧ ks.length = ds.length) ∧ Q .next (r.set i (some (putF f d c ks ds)))) X := by
  show (((ev P F e).v r).bind fun d r => match slot r i with
    | some (.obj .own c ks ds) => if decide (ks.length < 1000) && decide (ks.length = ds.length) then (match idxOf f ks with
      | some j => Out.ok Fl.next (r.set i (some (.obj .own c ks (ds.set j d))))
      | none => .ok .next (r.set i (some (.obj .own c (ks ++ [f]) (ds ++ [d]))))) else .bad
    | _ => .bad).sat Q X = _
  rw [sat_bind]; refine sat_q fun d r => ?_
  cases slot r i with
  | none => rfl
  | some o =>
    cases o with
    | obj k c ks ds =>
      cases k with
      | own =>
        show (if decide (ks.length < 1000) && decide (ks.length = ds.length) then (match idxOf f ks with
      | some j => Out.ok Fl.next (r.set i (some (.obj .own c ks (ds.set j d))))
      | none => .ok .next (r.set i (some (.obj .own c (ks ++ [f]) (ds ++ [d]))))) else .bad).sat Q X = (_ ∧ Q .next (r.set i (some (putF f d c ks ds))))
        rw [if_and, Bool.and_eq_true, decide_eq_true_eq, decide_eq_true_eq]
        congr 1
        unfold putF
        cases idxOf f ks <;> rfl
      | _ => rfl
    | _ => rfl
theorem sS_aug {i : Nat} {op : Operator} {e : E} : (evS P F (.aug i op e) r).sat Q X = optP (slot r i) fun _ => ((ev P F e).v r).sat (fun y r => optP (slot r i) fun x => intP x fun a => intP y fun b => optP (augOp op a b) fun z => Q .next (r.set i (some (.int z)))) X := by
  show (match slot r i with
    | some _ => ((ev P F e).v r).bind fun y r => match slot r i with
      | some x => match x, y with
        | .int a, .int b => match augOp op a b with
          | some z => Out.ok Fl.next (r.set i (some (.int z)))
          | none => .bad
        | _, _ => .bad
      | none => .bad
    | none => .bad).sat Q X = _
  cases slot r i with
  | none => rfl
  | some o =>
    show (((ev P F e).v r).bind fun y r => _).sat Q X = Out.sat _ _ X
    rw [sat_bind]; refine sat_q fun y r => ?_
    cases slot r i with
    | none => rfl
    | some x =>
      cases x with
      | int a =>
        cases y with
        | int b =>
          show (match augOp op a b with
          | some z => Out.ok Fl.next (r.set i (some (.int z)))
          | none => .bad).sat Q X = optP (augOp op a b) _
          cases augOp op a b <;> rfl
        | _ => rfl
      | _ => cases y <;> rfl
theorem aug_add {a b : Int} {K : Int → Prop} : optP (augOp .Add a b) K = K (a + b) := nr rfl
theorem aug_sub {a b : Int} {K : Int → Prop} : optP (augOp .Sub a b) K = K (a - b) := nr rfl
end
end Mv

/-! .. of loops and comprehensions -/
namespace Mv
open PySem
variable {P : Pg} {F : Nat → List D → FOut} {α β : Type} {X : Nat → D → En → Prop} {r : En}
section
variable {K : List Ar × En → Prop}
theorem pr_nil : optP (prep [] r) K = K ([], r) := nr rfl
theorem pr_v {d : D} {as : List Ar} : optP (prep (.v d :: as) r) K = optP (prep as r) fun x => K (.v d.frz :: x.1, x.2) := by
  show optP ((prep as r).map fun x => (Ar.v d.frz :: x.1, x.2)) K = _
  rw [optP_map]
def prS (o : Option D) (i : Nat) (as : List Ar) (r : En) (K : List Ar × En → Prop) (_ : Tk K := ⟨⟩) : Prop := match o with
  | some (.lst .own ds) => optP (prep as (r.set i (some (.lst .own (D.frzs ds))))) fun x => K (.r i :: x.1, x.2)
  | some (.exn _ _) => False
  | some _ => optP (prep as r) fun x => K (.r i :: x.1, x.2)
  | none => False
theorem pr_r {i : Nat} {as : List Ar} : optP (prep (.r i :: as) r) K = prS (slot r i) i as r K := by
  show optP (match slot r i with
    | some (.lst .own ds) => (prep as (r.set i (some (.lst .own (D.frzs ds))))).map fun x => (Ar.r i :: x.1, x.2)
    | some (.exn _ _) => none
    | some _ => (prep as r).map fun x => (.r i :: x.1, x.2)
    | none => none) K = _
  cases slot r i with
  | none => rfl
  | some d =>
    cases d with
    | lst k ds => cases k <;> exact optP_map
    | exn c w => rfl
    | _ => exact optP_map
variable {i : Nat} {as : List Ar}
theorem prS_own {ds : List D} : prS (some (.lst .own ds)) i as r K = optP (prep as (r.set i (some (.lst .own (D.frzs ds))))) fun x => K (.r i :: x.1, x.2) := nr rfl
theorem prS_shr {ds : List D} : prS (some (.lst .shr ds)) i as r K = optP (prep as r) fun x => K (.r i :: x.1, x.2) := nr rfl
theorem prS_giv {ds : List D} : prS (some (.lst .giv ds)) i as r K = optP (prep as r) fun x => K (.r i :: x.1, x.2) := nr rfl
theorem prS_tup {ds : List D} : prS (some (.tup ds)) i as r K = optP (prep as r) fun x => K (.r i :: x.1, x.2) := nr rfl
theorem prS_int {j : Int} : prS (some (.int j)) i as r K = optP (prep as r) fun x => K (.r i :: x.1, x.2) := nr rfl
end
theorem chks_nil : chks [] r = [] := nr rfl
theorem chks_v {d : D} {as : List Ar} : chks (.v d :: as) r = chks as r := nr rfl
theorem chks_r {i : Nat} {as : List Ar} : chks (.r i :: as) r = (i, slot r i) :: chks as r := nr rfl
theorem frz_non : D.frz .non = .non := nr rfl
/-! items -/
section
variable {K : List D → Prop}
theorem im_lst {k : Kd} {ds : List D} : optP (itemsN .val 1 [.lst k ds]) K = (noOwn ds = true ∧ K ds) := by
  show optP (if noOwn ds then some ds else none) K = _
  rw [optP_ite]
theorem im_lstm {k : Kd} {f : α → D} [Pl f] {xs : List α} : optP (itemsN .val 1 [.lst k (xs.map f)]) K = K (xs.map f) := by
  rw [im_lst, wnoOwn_map]; simp
theorem im_tup {ds : List D} : optP (itemsN .val 1 [.tup ds]) K = K ds := nr rfl
def natD (k : Nat) : D := .int (k : Int)
instance : Pl natD := ⟨fun _ => rfl, fun _ => rfl, fun _ _ _ z => by cases z⟩
def rngD (a : Int) (n : Nat) : List D := (List.range n).map fun (k : Nat) => D.int (a + (k : Int))
def rng62 (j : Int) : Prop := -(2 ^ 62) ≤ j ∧ j < 2 ^ 62
theorem rng62_of {j : Int} (h : -1000000000 ≤ j) (h2 : j ≤ 1000000000) : rng62 j := by unfold rng62; omega
theorem im_rng1 {j : Int} : optP (itemsN .rng 1 [.int j]) K = (rng62 j ∧ K ((List.range j.toNat).map natD)) := by
  show optP (if -(2 ^ 62) ≤ j ∧ j < 2 ^ 62 then some ((List.range j.toNat).map natD) else none) K = _
  rw [optP_ite]; rfl
theorem im_rng2 {i j : Int} : optP (itemsN .rng 2 [.int i, .int j]) K = (rng62 i ∧ rng62 j ∧ K (rngD i (j - i).toNat)) := by
  show optP (if -(2 ^ 62) ≤ i ∧ i < 2 ^ 62 ∧ -(2 ^ 62) ≤ j ∧ j < 2 ^ 62 then some (rngD i (j - i).toNat) else none) K = _
  rw [optP_ite]
  exact propext ⟨fun h => ⟨⟨h.1.1, h.1.2.1⟩, ⟨h.1.2.2.1, h.1.2.2.2⟩, h.2⟩, fun h => ⟨⟨h.1.1, h.1.2, h.2.1.1, h.2.1.2⟩, h.2.2⟩⟩
def enmD (ds : List D) : List D := ds.mapIdx fun k d => .tup [.int k, d]
theorem im_enmt {ds : List D} : optP (itemsN .enm 1 [.tup ds]) K = K (enmD ds) := nr rfl
theorem im_enml {k : Kd} {ds : List D} : optP (itemsN .enm 1 [.lst k ds]) K = (noOwn ds = true ∧ K (enmD ds)) := by
  show optP (if noOwn ds then some (enmD ds) else none) K = _
  rw [optP_ite]
theorem im_enmlm {k : Kd} {f : α → D} [Pl f] {xs : List α} : optP (itemsN .enm 1 [.lst k (xs.map f)]) K = K (enmD (xs.map f)) := by
  rw [im_enml, wnoOwn_map]; simp
theorem im_rev {k : Kd} {f : α → D} [Pl f] {xs : List α} : optP (itemsN .rev 1 [.lst k (xs.map f)]) K = K (xs.reverse.map f) := by
  show optP (if noOwn (xs.map f) then some (xs.map f).reverse else none) K = _
  rw [optP_ite, wnoOwn_map, List.map_reverse]; simp
theorem seqOf_l {k : Kd} {f : α → D} [Pl f] {xs : List α} : seqOf (.lst k (xs.map f)) = some (xs.map f) := by
  show (if noOwn (xs.map f) then some (xs.map f) else none) = _
  rw [wnoOwn_map]; rfl
theorem zp_map {f : α → D} {g : β → D} {xs : List α} {ys : List β} : ((xs.map f).zip (ys.map g)).map (fun x => D.tup [x.1, x.2]) = (xs.zip ys).map fun x => .tup [f x.1, g x.2] := by
  rw [List.zip_map, List.map_map]; rfl
theorem im_zp {k l : Kd} {f : α → D} {g : β → D} [Pl f] [Pl g] {xs : List α} {ys : List β} : optP (itemsN .zp 2 [.lst k (xs.map f), .lst l (ys.map g)]) K = K ((xs.zip ys).map fun x => .tup [f x.1, g x.2]) := by
  show optP ((seqOf (.lst k (xs.map f))).bind fun ds => (seqOf (.lst l (ys.map g))).map fun es => (ds.zip es).map fun x => D.tup [x.1, x.2]) K = _
  rw [seqOf_l, seqOf_l, ← zp_map]; rfl
theorem im_zptl {l : Kd} {f : α → D} {g : β → D} [Pl g] {xs : List α} {ys : List β} : optP (itemsN .zp 2 [.tup (xs.map f), .lst l (ys.map g)]) K = K ((xs.zip ys).map fun x => .tup [f x.1, g x.2]) := by
  show optP ((some (xs.map f)).bind fun ds => (seqOf (.lst l (ys.map g))).map fun es => (ds.zip es).map fun x => D.tup [x.1, x.2]) K = _
  rw [seqOf_l, ← zp_map]; rfl
theorem im_zplt {k : Kd} {f : α → D} {g : β → D} [Pl f] {xs : List α} {ys : List β} : optP (itemsN .zp 2 [.lst k (xs.map f), .tup (ys.map g)]) K = K ((xs.zip ys).map fun x => .tup [f x.1, g x.2]) := by
  show optP ((seqOf (.lst k (xs.map f))).bind fun ds => (some (ys.map g)).map fun es => (ds.zip es).map fun x => D.tup [x.1, x.2]) K = _
  rw [seqOf_l, ← zp_map]; rfl
theorem im_zpt {f : α → D} {g : β → D} {xs : List α} {ys : List β} : optP (itemsN .zp 2 [.tup (xs.map f), .tup (ys.map g)]) K = K ((xs.zip ys).map fun x => .tup [f x.1, g x.2]) := by
  rw [← zp_map]; rfl
end
/-! loops -/
theorem still_nil : still r [] = true := nr rfl
theorem still_one {i : Nat} {o : Option D} : (still r [(i, o)] = true) = (slot r i = o) := by
  show ((decide (slot r i = o) && true) = true) = _
  rw [Bool.and_true, decide_eq_true_eq]
theorem still_two {i j : Nat} {o p : Option D} : (still r [(i, o), (j, p)] = true) = (slot r i = o ∧ slot r j = p) := by
  show ((decide (slot r i = o) && (decide (slot r j = p) && true)) = true) = _
  rw [Bool.and_true, Bool.and_eq_true, decide_eq_true_eq, decide_eq_true_eq]
def okC (l : List (Nat × Option D)) (tg : Tg) (b : List S) : Prop := (l.all fun x => !(stT tg ++ stB b).contains x.1) = true
theorem okC_i {l : List (Nat × Option D)} {tg : Tg} {b : List S} (h : (l.all fun x => !(stT tg ++ stB b).contains x.1) = true) : okC l tg b := h
theorem okC_nil {tg : Tg} {b : List S} : okC [] tg b = True := propext ⟨fun _ => trivial, fun _ => rfl⟩
section
variable {Q : Fl → En → Prop}
@[irreducible] def forP (P : Pg) (F : Nat → List D → FOut) (l : List (Nat × Option D)) (tg : Tg) (b : List S) (ds : List D) (r : En) (Q : Fl → En → Prop) (X : Nat → D → En → Prop) (_ : Tk2 Q X := ⟨⟩) : Prop := (forL l tg (fun r => evB P F b r) ds r).sat Q X
theorem sS_for {tg : Tg} {k : ItK} {src : List E} {b : List S} : (evS P F (.forS tg k src b) r).sat Q X = (evAs (evs P F src) r).sat (fun as r => optP (prep as r) fun p => optP (peekA p.2 p.1) fun ds => optP (itemsN k src.length ds) fun ds => okC (chks p.1 p.2) tg b ∧ forP P F (chks p.1 p.2) tg b ds p.2 Q X) X := by
  show ((evAs (evs P F src) r).bind fun as r => match prep as r with
    | some (as1, r1) => match (peekA r1 as1).bind (itemsN k src.length) with
      | some ds => if (chks as1 r1).all fun x => !(stT tg ++ stB b).contains x.1 then forL (chks as1 r1) tg (fun r => evB P F b r) ds r1 else .bad
      | none => .bad
    | none => .bad).sat Q X = _
  rw [sat_bind]; refine sat_q fun as r => ?_
  cases prep as r with
  | none => rfl
  | some p =>
    show (match (peekA p.2 p.1).bind (itemsN k src.length) with
      | some ds => if (chks p.1 p.2).all fun x => !(stT tg ++ stB b).contains x.1 then forL (chks p.1 p.2) tg (fun r => evB P F b r) ds p.2 else .bad
      | none => .bad).sat Q X = optP (peekA p.2 p.1) _
    cases peekA p.2 p.1 with
    | none => rfl
    | some ds =>
      show (match itemsN k src.length ds with
      | some ds => if (chks p.1 p.2).all fun x => !(stT tg ++ stB b).contains x.1 then forL (chks p.1 p.2) tg (fun r => evB P F b r) ds p.2 else .bad
      | none => .bad).sat Q X = optP (itemsN k src.length ds) _
      cases itemsN k src.length ds with
      | none => rfl
      | some ds => unfold forP; exact if_and
/-- a turn's end -/
def kL (I : En → Prop) (Q : Fl → En → Prop) (f : Fl) (r : En) (_ : Tk2 I Q := ⟨⟩) : Prop := match f with
  | .next => I r
  | .cont => I r
  | .brk => Q .next r
  | .ret v => Q (.ret v) r
theorem kL_next {I : En → Prop} : kL I Q .next r = I r := nr rfl
theorem kL_cont {I : En → Prop} : kL I Q .cont r = I r := nr rfl
theorem kL_brk {I : En → Prop} : kL I Q .brk r = Q .next r := nr rfl
theorem kL_ret {I : En → Prop} {d : D} : kL I Q (.ret d) r = Q (.ret d) r := nr rfl
theorem forP_nil {l : List (Nat × Option D)} {tg : Tg} {b : List S} : forP P F l tg b [] r Q X = (still r l = true ∧ Q .next r) := by
  unfold forP
  show (if still r l then Out.ok Fl.next r else .bad).sat Q X = _
  rw [if_and]; rfl
theorem forP_cons {l : List (Nat × Option D)} {tg : Tg} {b : List S} {d : D} {ds : List D} : forP P F l tg b (d :: ds) r Q X = (still r l = true ∧ optP (asgT tg d r) fun r => (evB P F b r).sat (kL (fun r => forP P F l tg b ds r Q X) Q) X) := by
  unfold forP
  show (if still r l then (match asgT tg d r with
      | some r1 => match evB P F b r1 with
        | .ok .next r2 => forL l tg (fun r => evB P F b r) ds r2
        | .ok .cont r2 => forL l tg (fun r => evB P F b r) ds r2
        | .ok .brk r2 => .ok .next r2
        | .ok (.ret v) r2 => .ok (.ret v) r2
        | .exc c w r2 => .exc c w r2
        | .bad => .bad
      | none => .bad) else Out.bad).sat Q X = _
  rw [if_and]
  congr 1
  cases asgT tg d r with
  | none => rfl
  | some r1 =>
    show (match evB P F b r1 with
        | .ok .next r2 => forL l tg (fun r => evB P F b r) ds r2
        | .ok .cont r2 => forL l tg (fun r => evB P F b r) ds r2
        | .ok .brk r2 => Out.ok .next r2
        | .ok (.ret v) r2 => .ok (.ret v) r2
        | .exc c w r2 => .exc c w r2
        | .bad => .bad).sat Q X = (evB P F b r1).sat _ X
    cases evB P F b r1 with
    | ok f r2 => cases f <;> rfl
    | exc c w r2 => rfl
    | bad => rfl
theorem forP_mn {l : List (Nat × Option D)} {tg : Tg} {b : List S} {f : α → D} : forP P F l tg b (List.map f []) r Q X = (still r l = true ∧ Q .next r) := forP_nil
theorem forP_mc {l : List (Nat × Option D)} {tg : Tg} {b : List S} {f : α → D} {x : α} {xs : List α} : forP P F l tg b (List.map f (x :: xs)) r Q X = (still r l = true ∧ optP (asgT tg (f x) r) fun r => (evB P F b r).sat (kL (fun r => forP P F l tg b (List.map f xs) r Q X) Q) X) := forP_cons
theorem forP_ix {l : List (Nat × Option D)} {tg : Tg} {b : List S} {ds : List D} (I : Nat → En → Prop) (h0 : I 0 r) (hs : ∀ i r, i ≤ ds.length → I i r → still r l = true)
    (step : ∀ i (h : i < ds.length) r, I i r → optP (asgT tg ds[i] r) fun r => (evB P F b r).sat (kL (I (i + 1)) Q) X) (he : ∀ r, I ds.length r → Q .next r) : forP P F l tg b ds r Q X := by
  have go : ∀ n i r, i + n = ds.length → I i r → (forL l tg (fun r => evB P F b r) (ds.drop i) r).sat Q X := by
    intro n
    induction n with
    | zero =>
      intro i r hi hI
      have : i = ds.length := by omega
      subst this
      rw [List.drop_length]
      show (if still r l then Out.ok Fl.next r else .bad).sat Q X
      rw [if_pos (hs _ r (Nat.le_refl _) hI)]
      exact he r hI
    | succ n ih =>
      intro i r hi hI
      have lt : i < ds.length := by omega
      rw [List.drop_eq_getElem_cons lt]
      show (if still r l then (match asgT tg ds[i] r with
      | some r1 => match evB P F b r1 with
        | .ok .next r2 => forL l tg (fun r => evB P F b r) (ds.drop (i + 1)) r2
        | .ok .cont r2 => forL l tg (fun r => evB P F b r) (ds.drop (i + 1)) r2
        | .ok .brk r2 => .ok .next r2
        | .ok (.ret v) r2 => .ok (.ret v) r2
        | .exc c w r2 => .exc c w r2
        | .bad => .bad
      | none => .bad) else .bad).sat Q X
      rw [if_pos (hs _ r (by omega) hI)]
      have st := step i lt r hI
      cases ha : asgT tg ds[i] r with
      | none => rw [ha] at st; exact st.elim
      | some r1 =>
        rw [ha] at st
        replace st : (evB P F b r1).sat (kL (I (i + 1)) Q) X := st
        dsimp only
        cases he : evB P F b r1 with
        | ok f r2 =>
          rw [he] at st
          cases f with
          | next => exact ih (i + 1) r2 (by omega) st
          | cont => exact ih (i + 1) r2 (by omega) st
          | brk => exact st
          | ret v => exact st
        | exc c w r2 => rw [he] at st; exact st
        | bad => rw [he] at st; exact st.elim
  have := go ds.length 0 r (by omega) h0
  unfold forP
  rwa [List.drop_zero] at this
theorem forP_map {l : List (Nat × Option D)} {tg : Tg} {b : List S} {f : α → D} {xs : List α} (I : List α → En → Prop) (h0 : I [] r) (hs : ∀ pre r, I pre r → still r l = true)
    (step : ∀ pre x post, xs = pre ++ x :: post → ∀ r, I pre r → optP (asgT tg (f x) r) fun r => (evB P F b r).sat (kL (I (pre ++ [x])) Q) X) (he : ∀ r, I xs r → Q .next r) : forP P F l tg b (xs.map f) r Q X := by
  refine forP_ix (fun i r => I (xs.take i) r) h0 (fun i r _ => hs _ r) (fun i h r hI => ?_) fun r hI => ?_
  · have h' : i < xs.length := by simpa using h
    have e : xs.take (i + 1) = xs.take i ++ [xs[i]] := by rw [List.take_succ, List.getElem?_eq_getElem h']; rfl
    rw [List.getElem_map]
    show optP _ fun r => (evB P F b r).sat (kL (I (xs.take (i + 1))) Q) X
    rw [e]
    exact step (xs.take i) xs[i] (xs.drop (i + 1)) (by rw [← List.drop_eq_getElem_cons h', List.take_append_drop]) r hI
  · rw [List.length_map, List.take_length] at hI; exact he r hI
theorem forP_nat {l : List (Nat × Option D)} {tg : Tg} {b : List S} {n : Nat} (I : Nat → En → Prop) (h0 : I 0 r) (hs : ∀ i r, i ≤ n → I i r → still r l = true)
    (step : ∀ i, i < n → ∀ r, I i r → optP (asgT tg (.int (i : Int)) r) fun r => (evB P F b r).sat (kL (I (i + 1)) Q) X) (he : ∀ r, I n r → Q .next r) : forP P F l tg b ((List.range n).map natD) r Q X := by
  refine forP_ix I h0 (fun i r h => hs i r (by simpa using h)) (fun i h r hI => ?_) fun r hI => ?_
  · rw [List.getElem_map, List.getElem_range]
    exact step i (by simpa using h) r hI
  · rw [List.length_map, List.length_range] at hI; exact he r hI
theorem forP_rngD {l : List (Nat × Option D)} {tg : Tg} {b : List S} {a : Int} {n : Nat} (I : Nat → En → Prop) (h0 : I 0 r) (hs : ∀ i r, i ≤ n → I i r → still r l = true)
    (step : ∀ i, i < n → ∀ r, I i r → optP (asgT tg (.int (a + (i : Int))) r) fun r => (evB P F b r).sat (kL (I (i + 1)) Q) X) (he : ∀ r, I n r → Q .next r) : forP P F l tg b (rngD a n) r Q X := by
  refine forP_ix I h0 (fun i r h => hs i r (by simpa [rngD] using h)) (fun i h r hI => ?_) fun r hI => ?_
  · unfold rngD at h ⊢
    rw [List.getElem_map, List.getElem_range]
    exact step i (by simpa using h) r hI
  · unfold rngD at hI; rw [List.length_map, List.length_range] at hI; exact he r hI
theorem forP_enm {l : List (Nat × Option D)} {tg : Tg} {b : List S} {f : α → D} {xs : List α} (I : List α → En → Prop) (h0 : I [] r) (hs : ∀ pre r, I pre r → still r l = true)
    (step : ∀ pre x post, xs = pre ++ x :: post → ∀ r, I pre r → optP (asgT tg (.tup [.int (pre.length : Int), f x]) r) fun r => (evB P F b r).sat (kL (I (pre ++ [x])) Q) X) (he : ∀ r, I xs r → Q .next r) : forP P F l tg b (enmD (xs.map f)) r Q X := by
  refine forP_ix (fun i r => I (xs.take i) r) h0 (fun i r _ => hs _ r) (fun i h r hI => ?_) fun r hI => ?_
  · have h' : i < xs.length := by simpa [enmD] using h
    have e : xs.take (i + 1) = xs.take i ++ [xs[i]] := by rw [List.take_succ, List.getElem?_eq_getElem h']; rfl
    have e2 : (enmD (xs.map f))[i] = .tup [.int ((xs.take i).length : Int), f xs[i]] := by
      have : (xs.take i).length = i := by simp; omega
      simp [enmD, this]
    rw [e2]
    show optP _ fun r => (evB P F b r).sat (kL (I (xs.take (i + 1))) Q) X
    rw [e]
    exact step (xs.take i) xs[i] (xs.drop (i + 1)) (by rw [← List.drop_eq_getElem_cons h', List.take_append_drop]) r hI
  · have : (enmD (xs.map f)).length = xs.length := by simp [enmD]
    rw [this, List.take_length] at hI; exact he r hI
/-- while: k turns are left at most -/
theorem sS_whl {c : E} {b : List S} (I : Nat → En → Prop) {k : Nat} (hk : k < 1000000) (h0 : I k r)
    (step : ∀ k r, I k r → ((ev P F c).t r).sat (fun t r => ifP t ((evB P F b r).sat (kL (fun r => ∃ j, j < k ∧ I j r) Q) X) (Q .next r)) X) : (evS P F (.whl c b) r).sat Q X := by
  have go : ∀ n k r, k < n → I k r → (whlL (ev P F c).t (fun r => evB P F b r) n r).sat Q X := by
    intro n
    induction n with
    | zero => intro k r h; omega
    | succ n ih =>
      intro k r h hI
      show (((ev P F c).t r).bind fun k r1 => if k then (match evB P F b r1 with
      | .ok .next r2 => whlL (ev P F c).t (fun r => evB P F b r) n r2
      | .ok .cont r2 => whlL (ev P F c).t (fun r => evB P F b r) n r2
      | .ok .brk r2 => .ok .next r2
      | .ok (.ret v) r2 => .ok (.ret v) r2
      | .exc c w r2 => .exc c w r2
      | .bad => .bad) else .ok .next r1).sat Q X
      rw [sat_bind]
      refine (step k r hI).mono (fun t r1 z => ?_) fun _ _ _ z => z
      cases t with
      | false => exact z
      | true =>
        replace z : (evB P F b r1).sat (kL (fun r => ∃ j, j < k ∧ I j r) Q) X := z
        rw [if_pos rfl]
        cases he : evB P F b r1 with
        | ok f r2 =>
          rw [he] at z
          cases f with
          | next => obtain ⟨j, hj, hI⟩ := z; exact ih j r2 (by omega) hI
          | cont => obtain ⟨j, hj, hI⟩ := z; exact ih j r2 (by omega) hI
          | brk => exact z
          | ret v => exact z
        | exc c w r2 => rw [he] at z; exact z
        | bad => rw [he] at z; exact z.elim
  exact go LF k r hk h0
end
/-! comprehensions -/
section
variable {Q : List D → En → Prop}
@[irreducible] def compP (P : Pg) (F : Nat → List D → FOut) (l : List (Nat × Option D)) (own : List Nat) (tg : Tg) (ifs : List E) (elt : E) (ds : List D) (r : En) (Q : List D → En → Prop) (_ : Tk Q := ⟨⟩) : Prop := (compL l own tg (evTAnd (evs P F ifs)) (ev P F elt).v ds [] r).sat Q noX
theorem e_comp {elt : E} {tg : Tg} {k : ItK} {src ifs : List E} {own : List Nat} {Q : D → En → Prop} : ((ev P F (.comp elt tg k src ifs own)).v r).sat Q X = (evAs (evs P F src) r).sat (fun as r => optP (prep as r) fun p => optP (peekA p.2 p.1) fun ds => optP (itemsN k src.length ds) fun ds => (stT tg).all own.contains = true ∧ compP P F (chks p.1 p.2) own tg ifs elt ds (wipeE p.2 own) fun acc r => Q (.lst .own acc) r) X := by
  have e : (ev P F (.comp elt tg k src ifs own)).v r = ((evAs (evs P F src) r).bind fun as r => match prep as r with
    | some (as1, r1) => match (peekA r1 as1).bind (itemsN k src.length) with
      | some ds => if (stT tg).all own.contains then (match compL (chks as1 r1) own tg (evTAnd (evs P F ifs)) (ev P F elt).v ds [] (wipeE r1 own) with
        | .ok acc r2 => Out.ok (D.lst .own acc) r2
        | _ => Out.bad) else Out.bad
      | none => .bad
    | none => .bad) := by
    conv => lhs; unfold ev
    rfl
  rw [e, sat_bind]; refine sat_q fun as r => ?_
  cases prep as r with
  | none => rfl
  | some p =>
    show (match (peekA p.2 p.1).bind (itemsN k src.length) with
      | some ds => if (stT tg).all own.contains then (match compL (chks p.1 p.2) own tg (evTAnd (evs P F ifs)) (ev P F elt).v ds [] (wipeE p.2 own) with
        | .ok acc r2 => Out.ok (D.lst .own acc) r2
        | _ => Out.bad) else Out.bad
      | none => Out.bad).sat Q X = optP (peekA p.2 p.1) _
    cases peekA p.2 p.1 with
    | none => rfl
    | some ds =>
      show (match itemsN k src.length ds with
      | some ds => if (stT tg).all own.contains then (match compL (chks p.1 p.2) own tg (evTAnd (evs P F ifs)) (ev P F elt).v ds [] (wipeE p.2 own) with
        | .ok acc r2 => Out.ok (D.lst .own acc) r2
        | _ => Out.bad) else Out.bad
      | none => Out.bad).sat Q X = optP (itemsN k src.length ds) _
      cases itemsN k src.length ds with
      | none => rfl
      | some ds =>
        show (if (stT tg).all own.contains then _ else Out.bad).sat Q X = (_ ∧ _)
        rw [if_and]; congr 1
        unfold compP
        cases compL (chks p.1 p.2) own tg (evTAnd (evs P F ifs)) (ev P F elt).v ds [] (wipeE p.2 own) <;> rfl
theorem wipe_nil : wipeE r [] = r := nr rfl
theorem wipe_cons {v : Nat} {vs : List Nat} : wipeE r (v :: vs) = (wipeE r vs).set v none := nr rfl
theorem compP_ix {l : List (Nat × Option D)} {own : List Nat} {tg : Tg} {ifs : List E} {elt : E} {ds : List D} (I : Nat → List D → En → Prop) (hl : ds.length < 16777216) (h0 : I 0 [] r) (hs : ∀ i acc r, I i acc r → still r l = true)
    (step : ∀ i (h : i < ds.length) acc r, I i acc r → optP (asgT tg ds[i] r) fun r => (evTAnd (evs P F ifs) r).sat (fun b r => ifP b (((ev P F elt).v r).sat (fun v r => I (i + 1) (acc ++ [v]) (wipeE r own)) noX) (I (i + 1) acc (wipeE r own))) noX)
    (he : ∀ acc r, I ds.length acc r → Q acc r) : compP P F l own tg ifs elt ds r Q := by
  have go : ∀ n i acc r, i + n = ds.length → acc.length ≤ i → I i acc r → (compL l own tg (evTAnd (evs P F ifs)) (ev P F elt).v (ds.drop i) acc r).sat Q noX := by
    intro n
    induction n with
    | zero =>
      intro i acc r hi _ hI
      have : i = ds.length := by omega
      subst this
      rw [List.drop_length]
      show (if still r l then Out.ok acc r else .bad).sat Q noX
      rw [if_pos (hs _ _ r hI)]
      exact he acc r hI
    | succ n ih =>
      intro i acc r hi ha hI
      have lt : i < ds.length := by omega
      rw [List.drop_eq_getElem_cons lt]
      show (if still r l then (match asgT tg ds[i] r with
      | some r1 => match evTAnd (evs P F ifs) r1 with
        | .ok true r2 => match (ev P F elt).v r2 with
          | .ok v r3 => if acc.length < 16777216 then compL l own tg (evTAnd (evs P F ifs)) (ev P F elt).v (ds.drop (i + 1)) (acc ++ [v]) (wipeE r3 own) else .bad
          | _ => .bad
        | .ok false r2 => compL l own tg (evTAnd (evs P F ifs)) (ev P F elt).v (ds.drop (i + 1)) acc (wipeE r2 own)
        | _ => .bad
      | none => .bad) else .bad).sat Q noX
      rw [if_pos (hs _ _ r hI)]
      have st := step i lt acc r hI
      cases ha' : asgT tg ds[i] r with
      | none => rw [ha'] at st; exact st.elim
      | some r1 =>
        rw [ha'] at st
        replace st : (evTAnd (evs P F ifs) r1).sat (fun b r => ifP b (((ev P F elt).v r).sat (fun v r => I (i + 1) (acc ++ [v]) (wipeE r own)) noX) (I (i + 1) acc (wipeE r own))) noX := st
        dsimp only
        cases ht : evTAnd (evs P F ifs) r1 with
        | ok b r2 =>
          rw [ht] at st
          cases b with
          | true =>
            replace st : ((ev P F elt).v r2).sat (fun v r => I (i + 1) (acc ++ [v]) (wipeE r own)) noX := st
            dsimp only
            cases hv : (ev P F elt).v r2 with
            | ok v r3 =>
              rw [hv] at st
              dsimp only
              rw [if_pos (by omega)]
              exact ih (i + 1) (acc ++ [v]) _ (by omega) (by simp; omega) st
            | exc c w r3 => rw [hv] at st; exact st.elim
            | bad => rw [hv] at st; exact st.elim
          | false => exact ih (i + 1) acc _ (by omega) (by omega) st
        | exc c w r3 => rw [ht] at st; exact st.elim
        | bad => rw [ht] at st; exact st.elim
  have := go ds.length 0 [] r (by omega) (by simp) h0
  unfold compP
  rwa [List.drop_zero] at this
/-- .. without effects -/
theorem compP_fm {l : List (Nat × Option D)} {own : List Nat} {tg : Tg} {ifs : List E} {elt : E} {f : α → D} {xs : List α} {g : β → D} (p : α → Bool) (h : α → β) (hl : xs.length < 16777216) (hs : still r l = true)
    (step : ∀ x ∈ xs, optP (asgT tg (f x) r) fun r1 => (evTAnd (evs P F ifs) r1).sat (fun b r2 => b = p x ∧ (p x = true → ((ev P F elt).v r2).sat (fun v r3 => v = g (h x) ∧ wipeE r3 own = r) noX) ∧ (p x = false → wipeE r2 own = r)) noX)
    (he : Q (((xs.filter p).map h).map g) r) : compP P F l own tg ifs elt (xs.map f) r Q := by
  refine compP_ix (fun i acc r' => r' = r ∧ acc = (((xs.take i).filter p).map h).map g) (by simpa using hl) ⟨rfl, rfl⟩ (fun i acc r' z => z.1 ▸ hs) (fun i hi acc r' z => ?_) fun acc r' z => ?_
  · obtain ⟨rfl, rfl⟩ := z
    have h' : i < xs.length := by simpa using hi
    have e : xs.take (i + 1) = xs.take i ++ [xs[i]] := by rw [List.take_succ, List.getElem?_eq_getElem h']; rfl
    rw [List.getElem_map]
    have st := step xs[i] (List.getElem_mem h')
    cases ha : asgT tg (f xs[i]) r' with
    | none => rw [ha] at st; exact st.elim
    | some r1 =>
      rw [ha] at st
      refine Out.sat.mono (Q := fun b r2 => b = p xs[i] ∧ (p xs[i] = true → ((ev P F elt).v r2).sat (fun v r3 => v = g (h xs[i]) ∧ wipeE r3 own = r') noX) ∧ (p xs[i] = false → wipeE r2 own = r')) st (fun b r2 z => ?_) fun _ _ _ z => z
      obtain ⟨rfl, h1, h2⟩ := z
      cases hp : p xs[i] with
      | true =>
        refine Out.sat.mono (h1 hp) (fun v r3 z => ?_) fun _ _ _ z => z
        refine ⟨z.2, ?_⟩
        rw [e, List.filter_append, List.map_append, List.map_append, z.1]
        congr 1
        rw [List.filter_cons_of_pos hp]; rfl
      | false =>
        refine ⟨h2 hp, ?_⟩
        rw [e, List.filter_append, List.map_append, List.map_append, List.filter_cons_of_neg (by rw [hp]; decide)]
        simp
  · obtain ⟨rfl, rfl⟩ := z
    rw [List.length_map, List.take_length]
    exact he
/-- .. with a state that is kept -/
theorem compP_fI {l : List (Nat × Option D)} {own : List Nat} {tg : Tg} {ifs : List E} {elt : E} {f : α → D} {xs : List α} {g : β → D} (p : α → Prop) [DecidablePred p] (h : α → β) (J : En → Prop) (hl : xs.length < 16777216) (h0 : J r) (hs : ∀ r, J r → still r l = true)
    (step : ∀ x ∈ xs, p x → ∀ r, J r → optP (asgT tg (f x) r) fun r1 => (evTAnd (evs P F ifs) r1).sat (fun b r2 => b = true ∧ ((ev P F elt).v r2).sat (fun v r3 => v = g (h x) ∧ J (wipeE r3 own)) noX) noX)
    (stop : ∀ x ∈ xs, ¬ p x → ∀ r, J r → optP (asgT tg (f x) r) fun r1 => (evTAnd (evs P F ifs) r1).sat (fun b r2 => b = false ∧ J (wipeE r2 own)) noX)
    (he : ∀ r, J r → Q (((xs.filter fun x => decide (p x)).map h).map g) r) : compP P F l own tg ifs elt (xs.map f) r Q := by
  refine compP_ix (fun i acc r' => J r' ∧ acc = (((xs.take i).filter fun x => decide (p x)).map h).map g) (by simpa using hl) ⟨h0, rfl⟩ (fun i acc r' z => hs _ z.1) (fun i hi acc r' z => ?_) fun acc r' z => ?_
  · obtain ⟨hJ, rfl⟩ := z
    have h' : i < xs.length := by simpa using hi
    have e : xs.take (i + 1) = xs.take i ++ [xs[i]] := by rw [List.take_succ, List.getElem?_eq_getElem h']; rfl
    rw [List.getElem_map]
    by_cases hp : p xs[i]
    · have st := step xs[i] (List.getElem_mem h') hp r' hJ
      cases ha : asgT tg (f xs[i]) r' with
      | none => rw [ha] at st; exact st.elim
      | some r1 =>
        rw [ha] at st
        refine Out.sat.mono (Q := fun b r2 => b = true ∧ ((ev P F elt).v r2).sat (fun v r3 => v = g (h xs[i]) ∧ J (wipeE r3 own)) noX) st (fun b r2 z => ?_) fun _ _ _ z => z
        obtain ⟨rfl, z⟩ := z
        refine Out.sat.mono z (fun v r3 z => ?_) fun _ _ _ z => z
        refine ⟨z.2, ?_⟩
        rw [e, List.filter_append, List.map_append, List.map_append, z.1]
        congr 1
        rw [show List.filter (fun x => decide (p x)) [xs[i]] = [xs[i]] from by simp [hp]]; rfl
    · have st := stop xs[i] (List.getElem_mem h') hp r' hJ
      cases ha : asgT tg (f xs[i]) r' with
      | none => rw [ha] at st; exact st.elim
      | some r1 =>
        rw [ha] at st
        refine Out.sat.mono (Q := fun b r2 => b = false ∧ J (wipeE r2 own)) st (fun b r2 z => ?_) fun _ _ _ z => z
        obtain ⟨rfl, z⟩ := z
        refine ⟨z, ?_⟩
        rw [e, List.filter_append, List.map_append, List.map_append, show List.filter (fun x => decide (p x)) [xs[i]] = [] from by simp [hp]]
        simp
  · obtain ⟨hJ, rfl⟩ := z
    rw [List.length_map, List.take_length]
    exact he _ hJ
/-- .. that draws -/
theorem compP_I {l : List (Nat × Option D)} {own : List Nat} {tg : Tg} {elt : E} {f : α → D} {xs : List α} {g : β → D} (I : List α → List β → En → Prop) (hl : xs.length < 16777216) (h0 : I [] [] r) (hs : ∀ pre acc r, I pre acc r → still r l = true)
    (step : ∀ pre x post, xs = pre ++ x :: post → ∀ acc r, I pre acc r → optP (asgT tg (f x) r) fun r1 => ((ev P F elt).v r1).sat (fun v r3 => ∃ b, v = g b ∧ I (pre ++ [x]) (acc ++ [b]) (wipeE r3 own)) noX)
    (he : ∀ acc r, I xs acc r → Q (acc.map g) r) : compP P F l own tg [] elt (xs.map f) r Q := by
  refine compP_ix (fun i acc r' => ∃ bs, acc = List.map g bs ∧ I (xs.take i) bs r') (by simpa using hl) ⟨[], rfl, h0⟩ (fun i acc r' ⟨bs, _, z⟩ => hs _ _ _ z) (fun i hi acc r' z => ?_) fun acc r' z => ?_
  · obtain ⟨bs, rfl, hI⟩ := z
    have h' : i < xs.length := by simpa using hi
    have e : xs.take (i + 1) = xs.take i ++ [xs[i]] := by rw [List.take_succ, List.getElem?_eq_getElem h']; rfl
    rw [List.getElem_map]
    have st := step (xs.take i) xs[i] (xs.drop (i + 1)) (by rw [← List.drop_eq_getElem_cons h', List.take_append_drop]) bs r' hI
    cases ha : asgT tg (f xs[i]) r' with
    | none => rw [ha] at st; exact st.elim
    | some r1 =>
      rw [ha] at st
      show ((ev P F elt).v r1).sat (fun v r => ∃ bs1, List.map g bs ++ [v] = List.map g bs1 ∧ I (xs.take (i + 1)) bs1 (wipeE r own)) noX
      refine Out.sat.mono (Q := fun v r3 => ∃ b, v = g b ∧ I (xs.take i ++ [xs[i]]) (bs ++ [b]) (wipeE r3 own)) st (fun v r3 z => ?_) fun _ _ _ z => z
      obtain ⟨b, rfl, z⟩ := z
      exact ⟨bs ++ [b], by rw [List.map_append]; rfl, by rw [e]; exact z⟩
  · obtain ⟨bs, rfl, hI⟩ := z
    rw [List.length_map, List.take_length] at hI
    exact he _ _ hI
/-- .. by a test: for what passes it, for what does not -/
theorem compP_p {l : List (Nat × Option D)} {own : List Nat} {tg : Tg} {ifs : List E} {elt : E} {f : α → D} {xs : List α} {g : β → D} (p : α → Prop) [DecidablePred p] (h : α → β) (hl : xs.length < 16777216) (hs : still r l = true)
    (step : ∀ x ∈ xs, p x → optP (asgT tg (f x) r) fun r1 => (evTAnd (evs P F ifs) r1).sat (fun b r2 => b = true ∧ ((ev P F elt).v r2).sat (fun v r3 => v = g (h x) ∧ wipeE r3 own = r) noX) noX)
    (stop : ∀ x ∈ xs, ¬ p x → optP (asgT tg (f x) r) fun r1 => (evTAnd (evs P F ifs) r1).sat (fun b r2 => b = false ∧ wipeE r2 own = r) noX)
    (he : Q (((xs.filter fun x => decide (p x)).map h).map g) r) : compP P F l own tg ifs elt (xs.map f) r Q := by
  refine compP_fm (fun x => decide (p x)) h hl hs (fun x hx => ?_) he
  by_cases hp : p x
  · have st := step x hx hp
    cases ha : asgT tg (f x) r with
    | none => rw [ha] at st; exact st.elim
    | some r1 =>
      rw [ha] at st
      refine Out.sat.mono (Q := fun b r2 => b = true ∧ ((ev P F elt).v r2).sat (fun v r3 => v = g (h x) ∧ wipeE r3 own = r) noX) st (fun b r2 z => ?_) fun _ _ _ z => z
      exact ⟨z.1.trans (decide_eq_true hp).symm, fun _ => z.2, fun e => absurd hp (of_decide_eq_false e)⟩
  · have st := stop x hx hp
    cases ha : asgT tg (f x) r with
    | none => rw [ha] at st; exact st.elim
    | some r1 =>
      rw [ha] at st
      refine Out.sat.mono (Q := fun b r2 => b = false ∧ wipeE r2 own = r) st (fun b r2 z => ?_) fun _ _ _ z => z
      exact ⟨z.1.trans (decide_eq_false hp).symm, fun e => absurd (of_decide_eq_true e) hp, fun _ => z.2⟩
theorem compP_f {l : List (Nat × Option D)} {own : List Nat} {tg : Tg} {ifs : List E} {elt : E} {f : α → D} {xs : List α} (p : α → Prop) [DecidablePred p] (hl : xs.length < 16777216) (hs : still r l = true)
    (step : ∀ x ∈ xs, p x → optP (asgT tg (f x) r) fun r1 => (evTAnd (evs P F ifs) r1).sat (fun b r2 => b = true ∧ ((ev P F elt).v r2).sat (fun v r3 => v = f x ∧ wipeE r3 own = r) noX) noX)
    (stop : ∀ x ∈ xs, ¬ p x → optP (asgT tg (f x) r) fun r1 => (evTAnd (evs P F ifs) r1).sat (fun b r2 => b = false ∧ wipeE r2 own = r) noX)
    (he : Q ((xs.filter fun x => decide (p x)).map f) r) : compP P F l own tg ifs elt (xs.map f) r Q :=
  compP_p p (id : α → α) hl hs step stop (by rw [List.map_id]; exact he)
theorem compP_m {l : List (Nat × Option D)} {own : List Nat} {tg : Tg} {elt : E} {f : α → D} {xs : List α} {g : β → D} (h : α → β) (hl : xs.length < 16777216) (hs : still r l = true)
    (step : ∀ x ∈ xs, optP (asgT tg (f x) r) fun r1 => ((ev P F elt).v r1).sat (fun v r3 => v = g (h x) ∧ wipeE r3 own = r) noX)
    (he : Q ((xs.map h).map g) r) : compP P F l own tg [] elt (xs.map f) r Q := by
  refine compP_fm (fun _ => true) h hl hs (fun x hx => ?_) (by rw [List.filter_eq_self.mpr (by simp)]; exact he)
  have st := step x hx
  cases ha : asgT tg (f x) r with
  | none => rw [ha] at st; exact st.elim
  | some r1 => rw [ha] at st; exact ⟨rfl, fun _ => st, fun z => by cases z⟩
end
end Mv

/-! displays of ints and pairs, folded -/
namespace Mv
open PySem
theorem fo_i1 {k : Kd} {a0 : Int} : D.lst k [.int a0] = D.lst k (List.map D.int [a0]) := nr rfl
theorem fo_i2 {k : Kd} {a0 a1 : Int} : D.lst k [.int a0, .int a1] = D.lst k (List.map D.int [a0, a1]) := nr rfl
theorem fo_i3 {k : Kd} {a0 a1 a2 : Int} : D.lst k [.int a0, .int a1, .int a2] = D.lst k (List.map D.int [a0, a1, a2]) := nr rfl
theorem fo_i4 {k : Kd} {a0 a1 a2 a3 : Int} : D.lst k [.int a0, .int a1, .int a2, .int a3] = D.lst k (List.map D.int [a0, a1, a2, a3]) := nr rfl
theorem fo_i5 {k : Kd} {a0 a1 a2 a3 a4 : Int} : D.lst k [.int a0, .int a1, .int a2, .int a3, .int a4] = D.lst k (List.map D.int [a0, a1, a2, a3, a4]) := nr rfl
theorem fo_i6 {k : Kd} {a0 a1 a2 a3 a4 a5 : Int} : D.lst k [.int a0, .int a1, .int a2, .int a3, .int a4, .int a5] = D.lst k (List.map D.int [a0, a1, a2, a3, a4, a5]) := nr rfl
theorem fo_i7 {k : Kd} {a0 a1 a2 a3 a4 a5 a6 : Int} : D.lst k [.int a0, .int a1, .int a2, .int a3, .int a4, .int a5, .int a6] = D.lst k (List.map D.int [a0, a1, a2, a3, a4, a5, a6]) := nr rfl
theorem fo_i8 {k : Kd} {a0 a1 a2 a3 a4 a5 a6 a7 : Int} : D.lst k [.int a0, .int a1, .int a2, .int a3, .int a4, .int a5, .int a6, .int a7] = D.lst k (List.map D.int [a0, a1, a2, a3, a4, a5, a6, a7]) := nr rfl
theorem fo_i9 {k : Kd} {a0 a1 a2 a3 a4 a5 a6 a7 a8 : Int} : D.lst k [.int a0, .int a1, .int a2, .int a3, .int a4, .int a5, .int a6, .int a7, .int a8] = D.lst k (List.map D.int [a0, a1, a2, a3, a4, a5, a6, a7, a8]) := nr rfl
theorem fo_i10 {k : Kd} {a0 a1 a2 a3 a4 a5 a6 a7 a8 a9 : Int} : D.lst k [.int a0, .int a1, .int a2, .int a3, .int a4, .int a5, .int a6, .int a7, .int a8, .int a9] = D.lst k (List.map D.int [a0, a1, a2, a3, a4, a5, a6, a7, a8, a9]) := nr rfl
theorem fo_i11 {k : Kd} {a0 a1 a2 a3 a4 a5 a6 a7 a8 a9 a10 : Int} : D.lst k [.int a0, .int a1, .int a2, .int a3, .int a4, .int a5, .int a6, .int a7, .int a8, .int a9, .int a10] = D.lst k (List.map D.int [a0, a1, a2, a3, a4, a5, a6, a7, a8, a9, a10]) := nr rfl
theorem fo_i12 {k : Kd} {a0 a1 a2 a3 a4 a5 a6 a7 a8 a9 a10 a11 : Int} : D.lst k [.int a0, .int a1, .int a2, .int a3, .int a4, .int a5, .int a6, .int a7, .int a8, .int a9, .int a10, .int a11] = D.lst k (List.map D.int [a0, a1, a2, a3, a4, a5, a6, a7, a8, a9, a10, a11]) := nr rfl
theorem fo_i13 {k : Kd} {a0 a1 a2 a3 a4 a5 a6 a7 a8 a9 a10 a11 a12 : Int} : D.lst k [.int a0, .int a1, .int a2, .int a3, .int a4, .int a5, .int a6, .int a7, .int a8, .int a9, .int a10, .int a11, .int a12] = D.lst k (List.map D.int [a0, a1, a2, a3, a4, a5, a6, a7, a8, a9, a10, a11, a12]) := nr rfl
theorem fo_i14 {k : Kd} {a0 a1 a2 a3 a4 a5 a6 a7 a8 a9 a10 a11 a12 a13 : Int} : D.lst k [.int a0, .int a1, .int a2, .int a3, .int a4, .int a5, .int a6, .int a7, .int a8, .int a9, .int a10, .int a11, .int a12, .int a13] = D.lst k (List.map D.int [a0, a1, a2, a3, a4, a5, a6, a7, a8, a9, a10, a11, a12, a13]) := nr rfl
theorem fo_p1 {k : Kd} {a0 b0 : Int} : D.lst k [.tup [.int a0, .int b0]] = D.lst k (List.map prD [(a0, b0)]) := nr rfl
theorem fo_p2 {k : Kd} {a0 a1 b0 b1 : Int} : D.lst k [.tup [.int a0, .int b0], .tup [.int a1, .int b1]] = D.lst k (List.map prD [(a0, b0), (a1, b1)]) := nr rfl
theorem fo_p3 {k : Kd} {a0 a1 a2 b0 b1 b2 : Int} : D.lst k [.tup [.int a0, .int b0], .tup [.int a1, .int b1], .tup [.int a2, .int b2]] = D.lst k (List.map prD [(a0, b0), (a1, b1), (a2, b2)]) := nr rfl
theorem fo_p4 {k : Kd} {a0 a1 a2 a3 b0 b1 b2 b3 : Int} : D.lst k [.tup [.int a0, .int b0], .tup [.int a1, .int b1], .tup [.int a2, .int b2], .tup [.int a3, .int b3]] = D.lst k (List.map prD [(a0, b0), (a1, b1), (a2, b2), (a3, b3)]) := nr rfl
theorem fo_p5 {k : Kd} {a0 a1 a2 a3 a4 b0 b1 b2 b3 b4 : Int} : D.lst k [.tup [.int a0, .int b0], .tup [.int a1, .int b1], .tup [.int a2, .int b2], .tup [.int a3, .int b3], .tup [.int a4, .int b4]] = D.lst k (List.map prD [(a0, b0), (a1, b1), (a2, b2), (a3, b3), (a4, b4)]) := nr rfl
theorem fo_p6 {k : Kd} {a0 a1 a2 a3 a4 a5 b0 b1 b2 b3 b4 b5 : Int} : D.lst k [.tup [.int a0, .int b0], .tup [.int a1, .int b1], .tup [.int a2, .int b2], .tup [.int a3, .int b3], .tup [.int a4, .int b4], .tup [.int a5, .int b5]] = D.lst k (List.map prD [(a0, b0), (a1, b1), (a2, b2), (a3, b3), (a4, b4), (a5, b5)]) := nr rfl
theorem fo_p7 {k : Kd} {a0 a1 a2 a3 a4 a5 a6 b0 b1 b2 b3 b4 b5 b6 : Int} : D.lst k [.tup [.int a0, .int b0], .tup [.int a1, .int b1], .tup [.int a2, .int b2], .tup [.int a3, .int b3], .tup [.int a4, .int b4], .tup [.int a5, .int b5], .tup [.int a6, .int b6]] = D.lst k (List.map prD [(a0, b0), (a1, b1), (a2, b2), (a3, b3), (a4, b4), (a5, b5), (a6, b6)]) := nr rfl
theorem fo_p8 {k : Kd} {a0 a1 a2 a3 a4 a5 a6 a7 b0 b1 b2 b3 b4 b5 b6 b7 : Int} : D.lst k [.tup [.int a0, .int b0], .tup [.int a1, .int b1], .tup [.int a2, .int b2], .tup [.int a3, .int b3], .tup [.int a4, .int b4], .tup [.int a5, .int b5], .tup [.int a6, .int b6], .tup [.int a7, .int b7]] = D.lst k (List.map prD [(a0, b0), (a1, b1), (a2, b2), (a3, b3), (a4, b4), (a5, b5), (a6, b6), (a7, b7)]) := nr rfl
theorem fo_p9 {k : Kd} {a0 a1 a2 a3 a4 a5 a6 a7 a8 b0 b1 b2 b3 b4 b5 b6 b7 b8 : Int} : D.lst k [.tup [.int a0, .int b0], .tup [.int a1, .int b1], .tup [.int a2, .int b2], .tup [.int a3, .int b3], .tup [.int a4, .int b4], .tup [.int a5, .int b5], .tup [.int a6, .int b6], .tup [.int a7, .int b7], .tup [.int a8, .int b8]] = D.lst k (List.map prD [(a0, b0), (a1, b1), (a2, b2), (a3, b3), (a4, b4), (a5, b5), (a6, b6), (a7, b7), (a8, b8)]) := nr rfl
theorem fo_p10 {k : Kd} {a0 a1 a2 a3 a4 a5 a6 a7 a8 a9 b0 b1 b2 b3 b4 b5 b6 b7 b8 b9 : Int} : D.lst k [.tup [.int a0, .int b0], .tup [.int a1, .int b1], .tup [.int a2, .int b2], .tup [.int a3, .int b3], .tup [.int a4, .int b4], .tup [.int a5, .int b5], .tup [.int a6, .int b6], .tup [.int a7, .int b7], .tup [.int a8, .int b8], .tup [.int a9, .int b9]] = D.lst k (List.map prD [(a0, b0), (a1, b1), (a2, b2), (a3, b3), (a4, b4), (a5, b5), (a6, b6), (a7, b7), (a8, b8), (a9, b9)]) := nr rfl
theorem fo_p11 {k : Kd} {a0 a1 a2 a3 a4 a5 a6 a7 a8 a9 a10 b0 b1 b2 b3 b4 b5 b6 b7 b8 b9 b10 : Int} : D.lst k [.tup [.int a0, .int b0], .tup [.int a1, .int b1], .tup [.int a2, .int b2], .tup [.int a3, .int b3], .tup [.int a4, .int b4], .tup [.int a5, .int b5], .tup [.int a6, .int b6], .tup [.int a7, .int b7], .tup [.int a8, .int b8], .tup [.int a9, .int b9], .tup [.int a10, .int b10]] = D.lst k (List.map prD [(a0, b0), (a1, b1), (a2, b2), (a3, b3), (a4, b4), (a5, b5), (a6, b6), (a7, b7), (a8, b8), (a9, b9), (a10, b10)]) := nr rfl
theorem fo_p12 {k : Kd} {a0 a1 a2 a3 a4 a5 a6 a7 a8 a9 a10 a11 b0 b1 b2 b3 b4 b5 b6 b7 b8 b9 b10 b11 : Int} : D.lst k [.tup [.int a0, .int b0], .tup [.int a1, .int b1], .tup [.int a2, .int b2], .tup [.int a3, .int b3], .tup [.int a4, .int b4], .tup [.int a5, .int b5], .tup [.int a6, .int b6], .tup [.int a7, .int b7], .tup [.int a8, .int b8], .tup [.int a9, .int b9], .tup [.int a10, .int b10], .tup [.int a11, .int b11]] = D.lst k (List.map prD [(a0, b0), (a1, b1), (a2, b2), (a3, b3), (a4, b4), (a5, b5), (a6, b6), (a7, b7), (a8, b8), (a9, b9), (a10, b10), (a11, b11)]) := nr rfl
theorem fo_ai {l : List Int} {a : Int} : List.map D.int l ++ [.int a] = List.map D.int (l ++ [a]) := by rw [List.map_append]; rfl
theorem fo_ap {l : List (Int × Int)} {a b : Int} : List.map prD l ++ [.tup [.int a, .int b]] = List.map prD (l ++ [(a, b)]) := by rw [List.map_append]; rfl
theorem fo_app {l : List (Int × Int)} {a : Int × Int} : List.map prD l ++ [prD a] = List.map prD (l ++ [a]) := by rw [List.map_append]; rfl
theorem fo_mm {α : Type} {f : α → D} {l m : List α} : List.map f l ++ List.map f m = List.map f (l ++ m) := List.map_append.symm
end Mv

namespace Mv
open PySem

def takeB : List S := [(.ifS (.cmp (.idx (.var 0) (.int (0))) [.Gt] [(.int (0))]) [(.asg (.nm 2) (.bin .Mod (.blt .int [(.idx (.var 0) (.int (0)))]) (.var 1))), (.setI (.var 0) (.int (0)) (.bin .FloorDiv (.idx (.var 0) (.int (0))) (.var 1))), (.retV 2)] []), (.setI (.var 0) (.int (1)) (.bin .Mod (.blt .int [(.bin .Add (.bin .Mult (.idx (.var 0) (.int (1))) (.int (39373))) (.int (7)))]) (.int (2147483647)))), (.ret (.bin .Mod (.blt .int [(.bin .FloorDiv (.bin .Mod (.blt .int [(.bin .Mult (.idx (.var 0) (.int (1))) (.idx (.var 0) (.int (1))))]) (.int (2147483629))) (.int (32)))]) (.var 1)))]
def oneB : List S := [(.ret (.idx (.var 1) (.call 6 [(.var 0), (.blt .len [(.var 1)])])))]
/-- the script's drawing: the two numbers of a source -/
def stepB (B : Int) : Int := (B * 39373 + 7) % 2147483647
def takeR (A B T : Int) : Int := if 0 < A then A % T else ((stepB B * stepB B) % 2147483629 / 32) % T
def takeA (A T : Int) : Int := if 0 < A then A / T else A
def takeB2 (A B : Int) : Int := if 0 < A then B else stepB B
def src (A B : Int) : D := .lst .own [.int A, .int B]
theorem mulOk_l {i j : Int} (h : -(2 ^ 64) < i ∧ i < 2 ^ 64) : mulOk i j = true := by
  unfold mulOk; simp only [Bool.or_eq_true, decide_eq_true_eq]; exact .inl (.inl h)
theorem mulOk_r {i j : Int} (h : -(2 ^ 64) < j ∧ j < 2 ^ 64) : mulOk i j = true := by
  unfold mulOk; simp only [Bool.or_eq_true, decide_eq_true_eq]; exact .inl (.inr h)
theorem take_ok {P : Pg} {i n : Nat} (hf : P.fns[i]? = some ⟨2, 3, takeB, [2]⟩) {A B T : Int} (hT : 0 < T) (hT2 : T.natAbs.log2 < 9000) : run P (n + 1) i [src A B, .int T] = .ok (.int (takeR A B T)) [some (src (takeA A T) (takeB2 A B)), some (.int T)] := by
  unfold run
  rw [hf]
  by_cases h : 0 < A
  · simp [takeB, src, takeR, takeA, takeB2, h, hT, hT2, evB, evS, ev, evs, evC, evAs, Ev.mk1, Out.bind, Out.of, has, Ar.peek, slot, readP, getP, getS, itemD, ixN, cmpA, cmpD, binD, intOp, path, evI, updP, peekA, bltD, asgT, parsOf, D.owned, truD, List.replicate, List.mapIdx, List.mapIdx.go]
  · have m1 : mulOk B 39373 = true := mulOk_r (by decide)
    have b1 : 0 ≤ (B * 39373 + 7) % 2147483647 := Int.emod_nonneg _ (by decide)
    have b2 : (B * 39373 + 7) % 2147483647 < 2147483647 := Int.emod_lt_of_pos _ (by decide)
    have m2 : mulOk ((B * 39373 + 7) % 2147483647) ((B * 39373 + 7) % 2147483647) = true := mulOk_l (by constructor <;> omega)
    have l32 : Nat.log2 32 < 9000 := by decide +kernel
    simp [l32, takeB, src, takeR, takeA, takeB2, stepB, h, hT, hT2, m1, m2, evB, evS, ev, evs, evC, evAs, Ev.mk1, Out.bind, Out.of, has, Ar.peek, slot, readP, getP, getS, itemD, ixN, cmpA, cmpD, binD, intOp, path, evI, updP, peekA, bltD, asgT, parsOf, D.owned, truD, List.replicate, List.mapIdx, List.mapIdx.go]
theorem takeR_nn {A B T : Int} (hT : 0 < T) : 0 ≤ takeR A B T := by
  unfold takeR; split <;> exact Int.emod_nonneg _ (by omega)
theorem takeR_lt {A B T : Int} (hT : 0 < T) : takeR A B T < T := by
  unfold takeR; split <;> exact Int.emod_lt_of_pos _ hT
def oneBody (t : Nat) : List S := [(.ret (.idx (.var 1) (.call t [(.var 0), (.blt .len [(.var 1)])])))]
def oneR (A B : Int) (xs : List Int) : Int := xs.getD (takeR A B xs.length).toNat 0
theorem one_ok {P : Pg} {i t n : Nat} (hf : P.fns[t]? = some ⟨2, 3, takeB, [2]⟩) (hi : P.fns[i]? = some ⟨2, 2, oneBody t, []⟩) {A B : Int} {xs : List Int} (h0 : 0 < xs.length) (h1 : xs.length < 1000) :
    run P (n + 2) i [src A B, .lst .own (xs.map D.int)] = .ok (.int (oneR A B xs)) [some (src (takeA A xs.length) (takeB2 A B)), some (.lst .own (xs.map D.int))] := by
  have hT : (0 : Int) < (xs.length : Int) := by omega
  have tk := take_ok (n := n) hf (A := A) (B := B) hT (by
    have : ((xs.length : Int)).natAbs = xs.length := by simp
    rw [this]
    exact Nat.lt_of_lt_of_le (Nat.log2_lt (by omega) |>.mpr (Nat.lt_of_lt_of_le h1 (by decide : 1000 ≤ 2 ^ 10))) (by decide))
  have r0 := takeR_nn (A := A) (B := B) hT
  have r1 := takeR_lt (A := A) (B := B) hT
  have r2 : (takeR A B xs.length).toNat < xs.length := by omega
  have tk' : run P (n + 1) t [.lst .own [.int A, .int B], .int xs.length] = .ok (.int (takeR A B xs.length)) [some (src (takeA A xs.length) (takeB2 A B)), some (.int xs.length)] := tk
  unfold run
  rw [hi]
  simp [oneBody, src, oneR, tk', r0, r1, r2, evB, evS, ev, evs, evC, evAs, Ev.mk1, Out.bind, Out.of, has, Ar.peek, slot, readP, getP, getS, itemD, ixN, path, peekA, bltD, parsOf, D.owned, List.mapIdx, List.mapIdx.go, callA, lend, FOut.out, backO, back, List.getD, List.getElem?_eq_getElem]
theorem evB_step {P : Pg} {F : Nat → List D → FOut} {s : S} {ss : List S} {r r1 : En} (h : evS P F s r = .ok .next r1) : evB P F (s :: ss) r = evB P F ss r1 := by
  show (match evS P F s r with
    | .ok .next r1 => evB P F ss r1
    | x => x) = _
  rw [h]
theorem evB_ret {P : Pg} {F : Nat → List D → FOut} {s : S} {ss : List S} {r r1 : En} {d : D} (h : evS P F s r = .ok (.ret d) r1) : evB P F (s :: ss) r = .ok (.ret d) r1 := by
  show (match evS P F s r with
    | .ok .next r1 => evB P F ss r1
    | x => x) = _
  rw [h]
/-- a call, by its body's end -/
theorem run_ret {P : Pg} {n i : Nat} {fn : Fn} {ds : List D} {d : D} {r : En} (hi : P.fns[i]? = some fn) (hl : ds.length = fn.np) (h : evB P (run P n) fn.body (ds.map some ++ List.replicate (fn.nl - fn.np) none) = .ok (.ret d) r) : run P (n + 1) i ds = .ok d (parsOf fn.asg fn.np r) := by
  show (match P.fns[i]? with
    | some fn => _
    | none => _) = _
  rw [hi]
  dsimp only
  rw [if_pos hl, h]
def pool2 : S := .ifS (.cmp (.var 1) [.Lt] [(.blt .len [(.var 0)])]) [(.asg (.nm 2) (.idx (.var 0) (.var 1)))] [(.ifS (.var 0) [(.asg (.nm 2) (.idx (.var 0) (.int (0))))] [])]
def pool3 : S := .asg (.nm 3) (.blt .max [(.blt .int [(.var 2)]), (.blt .int [(.bin .Sub (.neg (.int (1))) (.var 2))])])
def pool4 : S := .asg (.nm 4) (.bin .Mod (.blt .int [(.bin .Mult (.bin .Add (.bin .Add (.bin .Add (.bin .Mod (.blt .int [(.var 3)]) (.int (2147483629))) (.bin .Mult (.bin .Mult (.int (7919)) (.var 1)) (.var 1))) (.bin .Mult (.int (31)) (.var 1))) (.int (17))) (.int (48271)))]) (.int (2147483647)))
def pool5 : S := .ret (.lst [(.bin .Mult (.var 3) (.blt .int [(.cmp (.var 3) [.GtE] [(.bin .Pow (.int (10)) (.int (18)))])])), (.var 4)])
def poolB : List S := [(.asg (.nm 2) (.int (0))), pool2, pool3, pool4, pool5]
/-- the cell that is drawn from -/
def cellR (ns : List Int) (k : Nat) : Int := if k < ns.length then ns.getD k 0 else ns.getD 0 0
def bigR (c : Int) : Int := if c < -1 - c then -1 - c else c
def poolA (c : Int) : Int := bigR c * if 10 ^ 18 ≤ bigR c then 1 else 0
def poolM (c : Int) (k : Nat) : Int := ((bigR c % 2147483629 + 7919 * k * k + 31 * k + 17) * 48271) % 2147483647
theorem pool_2 {P : Pg} {F : Nat → List D → FOut} {ns : List Int} {k : Nat} : evS P F pool2 [some (.lst .giv (ns.map D.int)), some (.int k), some (.int 0), none, none] = .ok .next [some (.lst .giv (ns.map D.int)), some (.int k), some (.int (cellR ns k)), none, none] := by
  by_cases h : k < ns.length
  · simp [pool2, h, cellR, List.getD, evB, evS, ev, evs, evC, evAs, evEs, Ev.mk1, Out.bind, Out.of, has, Ar.peek, slot, readP, getP, getS, itemD, ixN, cmpA, cmpD, binD, intOp, peekA, bltD, asgT, D.owned, truD, fits]
  · cases ns with
    | nil =>
      have hk0 : ¬ ((k : Int) < 0) := by omega
      simp [pool2, hk0, cellR, List.getD, evB, evS, ev, evs, evC, evAs, evEs, Ev.mk1, Out.bind, Out.of, has, Ar.peek, slot, readP, getP, getS, itemD, ixN, cmpA, cmpD, binD, intOp, peekA, bltD, asgT, D.owned, truD, fits]
    | cons c ns =>
      have hk0 : ¬ ((k : Int) < (ns.length : Int) + 1) := by simp only [List.length_cons] at h; omega
      have hc : cellR (c :: ns) k = c := by unfold cellR; rw [if_neg h]; rfl
      rw [hc]
      simp [pool2, hk0, List.getD, evB, evS, ev, evs, evC, evAs, evEs, Ev.mk1, Out.bind, Out.of, has, Ar.peek, slot, readP, getP, getS, itemD, ixN, cmpA, cmpD, binD, intOp, peekA, bltD, asgT, D.owned, truD, fits]
theorem pool_3 {P : Pg} {F : Nat → List D → FOut} {s : D} {k c : Int} : evS P F pool3 [some s, some (.int k), some (.int c), none, none] = .ok .next [some s, some (.int k), some (.int c), some (.int (bigR c)), none] := by
  simp [pool3, bigR, evS, ev, evs, evC, evAs, evEs, Ev.mk1, Out.bind, Out.of, has, Ar.peek, slot, readP, getP, getS, itemD, ixN, cmpA, cmpD, binD, intOp, peekA, bltD, asgT, D.owned, truD, fits]
theorem pool_4g {P : Pg} {F : Nat → List D → FOut} {s : D} {k c b p q x y z w : Int} (hp : 0 < p) (hq : 0 < q) (k1 : mulOk x k = true) (k2 : mulOk (x * k) k = true) (k3 : mulOk y k = true) (k4 : ∀ u : Int, mulOk u w = true) :
    evS P F (.asg (.nm 4) (.bin .Mod (.blt .int [(.bin .Mult (.bin .Add (.bin .Add (.bin .Add (.bin .Mod (.blt .int [(.var 3)]) (.int p)) (.bin .Mult (.bin .Mult (.int x) (.var 1)) (.var 1))) (.bin .Mult (.int y) (.var 1))) (.int z)) (.int w))]) (.int q))) [some s, some (.int k), some (.int c), some (.int b), none] =
      .ok .next [some s, some (.int k), some (.int c), some (.int b), some (.int (((b % p + x * k * k + y * k + z) * w) % q))] := by
  simp [hp, hq, k1, k2, k3, k4, evS, ev, evs, evC, evAs, evEs, Ev.mk1, Out.bind, Out.of, has, Ar.peek, slot, readP, getP, getS, itemD, ixN, cmpA, cmpD, binD, intOp, peekA, bltD, asgT, D.owned, truD, fits]
theorem pool_4 {P : Pg} {F : Nat → List D → FOut} {s : D} {k : Nat} {c b : Int} (hk : k < 1000) : evS P F pool4 [some s, some (.int k), some (.int c), some (.int b), none] = .ok .next [some s, some (.int k), some (.int c), some (.int b), some (.int (((b % 2147483629 + 7919 * k * k + 31 * k + 17) * 48271) % 2147483647))] :=
  pool_4g (by decide) (by decide) (mulOk_r (by constructor <;> omega)) (mulOk_r (by constructor <;> omega)) (mulOk_r (by constructor <;> omega)) fun z => mulOk_r (by decide)
theorem pool_5 {P : Pg} {F : Nat → List D → FOut} {s : D} {k c b m : Int} : evS P F pool5 [some s, some (.int k), some (.int c), some (.int b), some (.int m)] = .ok (.ret (src (b * if 10 ^ 18 ≤ b then 1 else 0) m)) [some s, some (.int k), some (.int c), some (.int b), some (.int m)] := by
  have k8 : ∀ (z : Int) (p : Prop) [Decidable p], mulOk z (if p then 1 else 0) = true := fun z p _ => mulOk_r (by split <;> decide)
  simp [pool5, src, k8, evS, ev, evs, evC, evAs, evEs, Ev.mk1, Out.bind, Out.of, has, Ar.peek, slot, readP, getP, getS, itemD, ixN, cmpA, cmpD, binD, intOp, peekA, bltD, asgT, D.owned, truD, fits]
theorem pool_ok {P : Pg} {i n : Nat} (hi : P.fns[i]? = some ⟨2, 5, poolB, [2, 3, 4]⟩) {ns : List Int} {k : Nat} (hk : k < 1000) :
    run P (n + 1) i [.lst .giv (ns.map D.int), .int k] = .ok (src (poolA (cellR ns k)) (poolM (cellR ns k) k)) [some (.lst .giv (ns.map D.int)), some (.int k)] := by
  refine (run_ret hi rfl (d := src (poolA (cellR ns k)) (poolM (cellR ns k) k)) (r := [some (.lst .giv (ns.map D.int)), some (.int k), some (.int (cellR ns k)), some (.int (bigR (cellR ns k))), some (.int (poolM (cellR ns k) k))]) ?_).trans (by simp [parsOf, List.mapIdx, List.mapIdx.go])
  refine (evB_step (r1 := [some (.lst .giv (ns.map D.int)), some (.int k), some (.int 0), none, none]) (by simp [evS, ev, Ev.mk1, Out.bind, asgT, List.replicate])).trans ?_
  exact (evB_step pool_2).trans ((evB_step pool_3).trans ((evB_step (pool_4 hk)).trans (evB_ret pool_5)))
end Mv

/-! the laws' drawing, by continuations -/
namespace Mv
open PySem
theorem ow_src {A B : Int} : (src A B).owned = true := nr rfl
theorem pk_src {A B : Int} : pk (some (src A B)) = some (src A B) := nr rfl
theorem hasP_src {A B : Int} {p : Prop} : hasP (some (src A B)) p = p := hasP_of rfl
local macro_rules | `(tactic| walk_at "mv") => `(tactic| try simp only [ow_src, pk_src, hasP_src, sat_ok, sat_exc, sat_bind, sat_of, optP_some, optP_none, optP_map, optP_bind, optP_ite, ifP_true, ifP_false, ifP_not, dec_beq, slot_zero, slot_succ, set_zero, set_succ, wpeek_v, peek_r, pk_non, pk_bl, pk_int, pk_str, pk_tup, pk_lst, pk_obj, stP_zero, stP_succ, asg_nm, asg_tp, asgs_nil, asgs_cons, kB_next, kB_brk, kB_cont, kB_ret, sB_nil, sB_cons, sS_pass, sS_brk, sS_cont, sS_expr, sS_asg, sS_par, sS_ret, sS_retV, kJ_next, kJ_ret, kJ_brk, kJ_cont, sS_raise, sS_try, sH_nil, sH_none, sH_some, clean_nil, clean_non, clean_int, clean_bl, clean_nn, clean_str, clean_tup, clean_lst, clean_obj, readP_rd, rd_non, rd_bl, rd_int, rd_str, rd_tup, rd_own, rd_shr, rd_giv, rd_obj, e_int, e_bl, e_str, e_non, e_var, e_bin, intP_int, blP_bl, e_neg, e_not, e_and1, e_or1, e_and, e_or, e_ite, e_cmp, e_tup, e_lst, pathP_some, pathP_none, hasP_non, hasP_bl, hasP_int, hasP_str, hasP_tup, hasP_lst, hasP_obj, e_idxv, e_idxi, e_idxa, e_idxc, e_idxm, e_idxl, e_attr, exnP_exn, e_what, e_call, e_callk, e_mk, e_mkk, objP_obj, e_meth, e_blt, lstP_lst, e_lmv, e_lmi, e_isi, t_int, t_bl, t_var, t_bin, t_not, t_and0, t_and, t_or0, t_or, t_ite, t_cmp, t_idx, t_attr, t_call, t_meth, t_blt, t_isi, tAnd_nil, tAnd_cons, tru_bl, tru_int, tru_non, tru_tup, tru_lst, c_one, c_two, a_var, a_int, a_bl, a_str, a_non, a_bin, a_neg, a_not, a_and, a_or, a_ite, a_cmp, a_tup, a_lst, a_idx, a_attr, a_what, a_call, a_callk, a_mk, a_mkk, a_meth, a_blt, a_lm, a_isi, a_comp, es_nil, es_cons, as_nil, as_cons, pA_nil, pA_cons, lend_nil, wlend_v, lend_r, ow_non, ow_bl, ow_int, ow_str, ow_tup, ow_own, ow_shr, ow_giv, ow_oown, ow_oshr, s_callA, madeP_some, xP_cons, bk_nil, bk_v, bk_r, parsOf_eq, retP_ret, retP_next, pgo_0, pgo_s, mapS_nil, mapS_cons, wnoOwn_map, noOwn_nil, add_i, sub_i, mul_i, div_i, mod_i, pow_i, add_ib, add_t, mul_l, add_s, lt_i, le_i, gt_i, ge_i, eq_d, ne_d, in_d, ni_d, is_non, is_int, is_tup, isn_non, isn_int, isn_tup, lt_p, eq_ii, eq_bb, eq_pr4, eq_tupI, eq_tupP, eq_lstI, eq_lstN, eq_tupN, eq_lstP, in_it, in_il, in_pt2, in_pl2, fits0, fits1, fits2, fits3, fits4, fits5, fits6, fits7, fits8, fits9, fits10, fits11, fits12, fits13, fits14, optIx_nat, optIx_0, optIx_1, optIx_2, optIx_last, optIx_map, item_l, item_t, itm_non, itm_bl, itm_int, itm_str, itm_tup, itm_pr, itm_tupI, itm_tupP, itm_shr, itm_obj, rd_tupp, rd_shrp, rd_givp, rd_objp, rd_ownp, getP_nil, getP_ixl, getP_ixt, getP_fl, path_var, path_idx, path_attr, evI_int, evI_var, evIv_int, evI_add, evI_sub, evI_neg, evI_idx, peekP_eq, b_lenl, b_lent, b_inti, b_intb, b_booli, b_boolb, b_tupl, b_tuplm, b_tupt, b_listl, b_listlm, b_listt, b_max, b_min, b_abs, b_suml, b_sumt, b_sorti, b_sortp, b_sortpt, b_all, b_any, ty_non, ty_bl, ty_int, ty_str, ty_tup, ty_lst, lm_app, lm_pop, lm_popi, lm_ext, lm_rev, frzs_rowO, upd_ix, sS_setIv, sS_setIp, oobjP_obj, sS_setA, sS_aug, aug_add, aug_sub, pr_nil, pr_v, pr_r, prS_own, prS_shr, prS_giv, prS_tup, prS_int, chks_nil, chks_v, chks_r, im_lst, im_lstm, im_tup, im_rng1, im_rng2, im_enmt, im_enml, im_enmlm, im_rev, im_zp, im_zptl, im_zplt, im_zpt, still_nil, still_one, still_two, okC_nil, sS_for, kL_next, kL_cont, kL_brk, kL_ret, forP_nil, forP_cons, forP_mn, forP_mc, e_comp, wipe_nil, wipe_cons, natD, eq_self, Option.bind_some, Option.bind_none, prD, wtupI, tupP, rowO, rowS, frzs_rowO, putF, idxOf, Option.map_none, Option.map_some, fld_cons, add_l, noOwn_cons, frzs_map', eq_prs, in_pt, in_pl, Kd.frz_own, Kd.frz_shr, Kd.frz_giv, D.frz_non, D.frz_bl, D.frz_int, D.frz_str, D.frz_tup, D.frz_lst, D.frz_obj, D.frzs_nil, D.frzs_cons, List.getElem?_cons_zero, List.getElem?_cons_succ, List.set_cons_zero, List.set_cons_succ, List.length_cons, List.length_nil, List.length_map, List.contains_cons, List.contains_nil, List.cons_append, List.nil_append, List.replicate_succ, List.replicate_zero, Int.toNat_natCast, fo_i1, fo_i2, fo_i3, fo_i4, fo_i5, fo_i6, fo_i7, fo_i8, fo_i9, fo_i10, fo_i11, fo_i12, fo_i13, fo_i14, fo_p1, fo_p2, fo_p3, fo_p4, fo_p5, fo_p6, fo_p7, fo_p8, fo_p9, fo_p10, fo_p11, fo_p12, fo_ai, fo_ap, fo_app, fo_mm, true_and, and_true, Nat.reduceSub, Nat.reduceAdd, Nat.reduceLT, Nat.reduceLeDiff, Nat.reduceEqDiff, Nat.reduceBEq, Int.reduceLT, Int.reduceLE, Int.reduceNeg, Int.reduceToNat, Bool.not_true, Bool.not_false, Bool.true_and, Bool.and_true, Bool.false_and, Bool.true_or, Bool.or_true, Bool.false_or, Bool.or_false, if_false, if_true, reduceIte, reduceCtorEq, decide_true, decide_false, Bool.false_eq_true, ↓reduceIte, beq_self_eq_true])
local macro_rules | `(tactic| walk_at "si") => `(tactic| first | assumption | (refine okC_i ?_; rfl) | (refine rng62_of ?_ ?_ <;> omega) | (refine rng63_of ?_ ?_ <;> omega) | omega | decide | rfl | (intros; rfl))
local macro_rules | `(tactic| walk_at "ms") => `(tactic| first | ((with_reducible refine And.intro ?mca ?mcb); (case mca => walk_at "si"); (walk_at "mv")) | ((with_reducible refine ifP_pos ?mca ?mcb); (case mca => first | assumption | omega); (walk_at "mv")) | ((with_reducible refine ifP_neg ?mca ?mcb); (case mca => first | assumption | omega); (walk_at "mv")) | fail "no step")
local macro_rules | `(tactic| walk_at "mi") => `(tactic| ((with_reducible refine sS_ifI ?_); (walk_at "mv")))
local macro_rules | `(tactic| walk_at "mn") => `(tactic| ((walk_at "mv"); repeat' (walk_at "ms")))
local macro_rules | `(tactic| walk_at "mc") => `(tactic| ((walk_at "mv"); repeat' (first | walk_at "ms" | walk_at "mi")))
variable {P : Pg} {X : Nat → D → En → Prop} {K : D → En → Prop}
theorem sat_eq {o : FOut} {d : D} {ps : En} (h : o = .ok d ps) (k : K d ps) : o.out.sat K X := by rw [h]; exact k
theorem take_s {i n : Nat} {A B T : Int} (hf : P.fns[i]? = some ⟨2, 3, takeB, [2]⟩) (hT : 0 < T) (hT2 : T < 2 ^ 8000) (k : ∀ x A' B', 0 ≤ x → x < T → K (.int x) [some (src A' B'), some (.int T)]) : (run P (n + 1) i [src A B, .int T]).out.sat K X := by
  refine sat_eq (take_ok hf hT ?_) (k _ _ _ (takeR_nn hT) (takeR_lt hT))
  have h1 : T.natAbs < 2 ^ 8000 := by omega
  exact Nat.lt_of_lt_of_le ((Nat.log2_lt (by omega)).mpr h1) (by decide)
theorem big8 {T : Int} (h : T < 2 ^ 62) : T < 2 ^ 8000 := Int.lt_of_lt_of_le h (by decide +kernel)
theorem one_s {α : Type} {g : α → D} [Pl g] {i t n : Nat} {A B : Int} {kd : Kd} {xs : List α} (hf : P.fns[t]? = some ⟨2, 3, takeB, [2]⟩) (hi : P.fns[i]? = some ⟨2, 2, oneBody t, []⟩) (h0 : xs ≠ []) (h1 : xs.length < 1000000)
    (k : ∀ x A' B', x ∈ xs → K (g x) [some (src A' B'), some (.lst kd (xs.map g))]) : (run P (n + 2) i [src A B, .lst kd (xs.map g)]).out.sat K X := by
  have hl : 0 < xs.length := List.length_pos_iff.mpr h0
  rw [s_run hi rfl]
  unfold oneBody
  walk_at "mv"
  refine take_s hf (by omega) (big8 (by omega)) fun x A' B' x0 x1 => ?_
  walk_at "mv"
  have hx : x.toNat < xs.length := by omega
  cases kd <;> walk_at "mv"
  · exact optP_ix x0 hx (k _ _ _ (List.getElem_mem hx))
  · refine optP_ix x0 hx ?_; walk_at "mv"; rw [itm_pl]; walk_at "mv"; exact k _ _ _ (List.getElem_mem hx)
  · refine optP_ix x0 hx ?_; walk_at "mv"; rw [itm_pl]; walk_at "mv"; exact k _ _ _ (List.getElem_mem hx)
/-- .. from a tuple -/
theorem one_t {α : Type} {g : α → D} [Pl g] {i t n : Nat} {A B : Int} {xs : List α} (hf : P.fns[t]? = some ⟨2, 3, takeB, [2]⟩) (hi : P.fns[i]? = some ⟨2, 2, oneBody t, []⟩) (h0 : xs ≠ []) (h1 : xs.length < 1000000)
    (k : ∀ x A' B', x ∈ xs → K (g x) [some (src A' B'), some (.tup (xs.map g))]) : (run P (n + 2) i [src A B, .tup (xs.map g)]).out.sat K X := by
  have hl : 0 < xs.length := List.length_pos_iff.mpr h0
  rw [s_run hi rfl]
  unfold oneBody
  walk_at "mv"
  refine take_s hf (by omega) (big8 (by omega)) fun x A' B' x0 x1 => ?_
  walk_at "mv"
  have hx : x.toNat < xs.length := by omega
  refine optP_ix x0 hx ?_; walk_at "mv"; rw [itm_pl]; walk_at "mv"; exact k _ _ _ (List.getElem_mem hx)
/-! links -/
def linkB : List S := [(.ret (.tup [(.blt .min [(.var 0), (.var 1)]), (.blt .max [(.var 0), (.var 1)])]))]
theorem link_s {i n : Nat} {a b : Int} (hi : P.fns[i]? = some ⟨2, 2, linkB, []⟩) (k : K (prD (min a b, max a b)) [some (.int a), some (.int b)]) : (run P (n + 1) i [.int a, .int b]).out.sat K X := by
  rw [s_run hi rfl]
  unfold linkB
  walk_at "mc"
  exact k
/-- pairs of cells, the lesser first, each one once -/
structure Lks (n : Nat) (l : List (Int × Int)) : Prop where
  rng : ∀ q ∈ l, 0 ≤ q.1 ∧ q.1 < q.2 ∧ q.2 < n
  nd : l.Nodup
def anyB (t : Nat) : List S := [(.asg (.nm 2) (.lst [])), (.forS (.nm 3) .rng [(.var 1)] [(.forS (.nm 4) .rng [(.var 3)] [(.ifS (.cmp (.call t [(.var 0), (.int (5))]) [.Lt] [(.int (2))]) [(.expr (.lm .append (.var 2) [(.tup [(.var 4), (.var 3)])]))] [])])]), (.ret (.tup [(.var 1), (.blt .sorted [(.var 2)])]))]
theorem any_s {i t n : Nat} {A B : Int} {c : Nat} (hf : P.fns[t]? = some ⟨2, 3, takeB, [2]⟩) (hi : P.fns[i]? = some ⟨2, 5, anyB t, [2, 3, 4]⟩) (hc : c ≤ 18)
    (k : ∀ l A' B', Lks c l → l.length ≤ c * 18 → K (.tup [.int c, .lst .shr ((sortP l).map prD)]) [some (src A' B'), some (.int c)]) : (run P (n + 2) i [src A B, .int c]).out.sat K X := by
  rw [s_run hi rfl]
  unfold anyB
  walk_at "mc"
  refine forP_nat (fun i r => ∃ A B l z3 z4, Lks i l ∧ l.length ≤ i * 18 ∧ r = [some (src A B), some (.int c), some (.lst .own (l.map prD)), z3, z4]) ⟨A, B, [], none, none, ⟨by simp, by simp⟩, by simp, rfl⟩ ?_ ?_ ?_
  · rintro i r _ ⟨A, B, l, z3, z4, _, _, rfl⟩; walk_at "mv"
  · rintro b hb _ ⟨A, B, l, z3, z4, hl, hn, rfl⟩
    walk_at "mc"
    refine forP_nat (fun i r => ∃ A B l z4, (∀ q ∈ l, 0 ≤ q.1 ∧ q.1 < q.2 ∧ q.2 ≤ (b : Int) ∧ (q.2 = (b : Int) → q.1 < (i : Int))) ∧ l.Nodup ∧ l.length ≤ b * 18 + i ∧ r = [some (src A B), some (.int c), some (.lst .own (l.map prD)), some (.int b), z4]) ⟨A, B, l, z4, fun q hq => ?_, hl.nd, by omega, rfl⟩ ?_ ?_ ?_
    · obtain ⟨h1, h2, h3⟩ := hl.rng q hq
      exact ⟨h1, h2, by omega, by omega⟩
    · rintro i r _ ⟨A, B, l, z4, _, _, _, rfl⟩; walk_at "mv"
    · rintro a ha _ ⟨A, B, l, z4, h1, h2, h3, rfl⟩
      walk_at "mc"
      refine take_s hf (by decide) (by decide +kernel) fun x A B x0 x1 => ?_
      walk_at "mc"
      refine ifP_D (fun _ => ?_) fun _ => ?_
      · walk_at "mc"
        refine ⟨A, B, _, _, fun q hq => ?_, ?_, ?_, rfl⟩
        · rcases List.mem_append.mp hq with h | h
          · obtain ⟨p1, p2, p3, p4⟩ := h1 q h
            exact ⟨p1, p2, p3, by omega⟩
          · cases List.mem_singleton.mp h
            exact ⟨by omega, by omega, by omega, by omega⟩
        · refine List.nodup_append.mpr ⟨h2, by simp, fun q hq p hp e => ?_⟩
          cases List.mem_singleton.mp hp
          subst e
          have := (h1 _ hq).2.2.2 rfl
          omega
        · simp; omega
      · exact ⟨A, B, l, _, fun q hq => by obtain ⟨p1, p2, p3, p4⟩ := h1 q hq; exact ⟨p1, p2, p3, by omega⟩, h2, by omega, rfl⟩
    · rintro _ ⟨A, B, l, z4, h1, h2, h3, rfl⟩
      walk_at "mv"
      exact ⟨A, B, l, _, _, ⟨fun q hq => by obtain ⟨p1, p2, p3, p4⟩ := h1 q hq; exact ⟨p1, p2, by omega⟩, h2⟩, by omega, rfl⟩
  · rintro _ ⟨A, B, l, z3, z4, h1, h2, rfl⟩
    walk_at "mc"
    exact k l A B h1 h2
theorem pool_s {i n : Nat} {ns : List Int} {k : Nat} (hi : P.fns[i]? = some ⟨2, 5, poolB, [2, 3, 4]⟩) (hk : k < 1000) (q : ∀ A B, K (src A B) [some (.lst .giv (ns.map D.int)), some (.int k)]) : (run P (n + 1) i [.lst .giv (ns.map D.int), .int k]).out.sat K X :=
  sat_eq (pool_ok hi hk) (q _ _)
theorem sat_done {o : Out D} (h : o.sat (fun d _ => d = .bl true) noX) : ∃ ps, o = .ok (.bl true) ps := by
  cases o with
  | ok d r => exact ⟨r, by rw [show d = .bl true from h]⟩
  | exc c w r => exact h.elim
  | bad => exact h.elim
end Mv

/-! webs -/
namespace Mv
open PySem
structure WebOk (n : Int) (l : List (Int × Int)) : Prop where
  n1 : 1 ≤ n
  n40 : n ≤ 40
  few : l.length ≤ 160
  rng : ∀ q ∈ l, 0 ≤ q.1 ∧ q.1 < q.2 ∧ q.2 < n
  asc : l.Pairwise ltP
/-- the cells near x, by the order of the links -/
def adj (l : List (Int × Int)) (x : Int) : List Int := l.flatMap fun q => (if q.1 = x then [q.2] else []) ++ (if q.2 = x then [q.1] else [])
def nbr (l : List (Int × Int)) (x : Int) : List Int := sortI (adj l x)
def rowsU (n : Nat) (l : List (Int × Int)) : List (List Int) := (List.range n).map fun (x : Nat) => adj l x
def rowsOf (n : Nat) (l : List (Int × Int)) : List (List Int) := (List.range n).map fun (x : Nat) => nbr l x
def webD (c : Nat) (n : Int) (l : List (Int × Int)) : D := .obj .shr c [0, 1, 2] [.int n, .tup (l.map prD), .lst .shr ((rowsOf n.toNat l).map wtupI)]
theorem adj_app {l m : List (Int × Int)} {x : Int} : adj (l ++ m) x = adj l x ++ adj m x := by unfold adj; rw [List.flatMap_append]
theorem adj_len (l : List (Int × Int)) (x : Int) : (adj l x).length ≤ 2 * l.length := by
  induction l with
  | nil => simp [adj]
  | cons q l ih =>
    have : adj (q :: l) x = adj [q] x ++ adj l x := adj_app (l := [q])
    rw [this, List.length_append, List.length_cons]
    have : (adj [q] x).length ≤ 2 := by
      simp only [adj, List.flatMap_cons, List.flatMap_nil, List.append_nil, List.length_append]
      split <;> split <;> simp
    omega
theorem rowsU_len {n : Nat} {l : List (Int × Int)} : (rowsU n l).length = n := by simp [rowsU]
theorem rowsOf_len {n : Nat} {l : List (Int × Int)} : (rowsOf n l).length = n := by simp [rowsOf]
theorem rowsU_get {n x : Nat} {l : List (Int × Int)} (h : x < (rowsU n l).length) : (rowsU n l)[x] = adj l x := by simp [rowsU]
theorem rowsOf_get {n x : Nat} {l : List (Int × Int)} (h : x < (rowsOf n l).length) : (rowsOf n l)[x] = nbr l x := by simp [rowsOf]
/-- a link is put down at both ends -/
theorem rowsU_put {n : Nat} {l : List (Int × Int)} {q : Int × Int} (h0 : 0 ≤ q.1) (h1 : q.1 < q.2) (h2 : q.2 < n) :
    ((rowsU n l).set q.1.toNat (adj l q.1 ++ [q.2])).set q.2.toNat (adj l q.2 ++ [q.1]) = rowsU n (l ++ [q]) := by
  refine List.ext_getElem (by simp [rowsU]) fun i hi hj => ?_
  have hi' : i < n := by simpa [rowsU] using hi
  rw [List.getElem_set, List.getElem_set, rowsU_get hj, adj_app]
  have one : adj [q] (i : Int) = (if q.1 = (i : Int) then [q.2] else []) ++ (if q.2 = (i : Int) then [q.1] else []) := by simp [adj]
  rw [one]
  by_cases a : q.2.toNat = i
  · have a' : q.2 = (i : Int) := by omega
    have b' : q.1 ≠ (i : Int) := by omega
    rw [if_pos a, if_neg b', if_pos a', a']; rfl
  · have a' : q.2 ≠ (i : Int) := by omega
    rw [if_neg a, if_neg a']
    by_cases b : q.1.toNat = i
    · have b' : q.1 = (i : Int) := by omega
      rw [if_pos b, if_pos b', b', List.append_nil]
    · have b' : q.1 ≠ (i : Int) := by omega
      rw [if_neg b, if_neg b', rowsU_get]; simp
theorem rowsOf_eq {n : Nat} {l : List (Int × Int)} : (rowsU n l).map sortI = rowsOf n l := by simp [rowsU, rowsOf, nbr]
theorem rows_nil {n : Nat} : (List.range n).map (fun _ => ([] : List Int)) = rowsU n [] := by simp [rowsU, adj]
section
variable {P : Pg} {F : Nat → List D → FOut} {X : Nat → D → En → Prop} {r : En} {c : Nat} {n : Int} {l : List (Int × Int)}
theorem pk_web : pk (some (webD c n l)) = some (webD c n l) := nr rfl
theorem hasP_web {p : Prop} : hasP (some (webD c n l)) p = p := hasP_of rfl
theorem ow_web : (webD c n l).owned = false := nr rfl
theorem objP_web {K : Nat → Prop} : objP (some (webD c n l)) K = K c := nr rfl
theorem clean_web : clean (some (webD c n l) :: r) = clean r := nr rfl
theorem frz_web : (webD c n l).frz = webD c n l := by
  show D.obj .shr c [0, 1, 2] (D.frzs [.int n, .tup (l.map prD), .lst .shr ((rowsOf n.toNat l).map wtupI)]) = _
  rw [D.frzs_cons, D.frzs_cons, D.frzs_cons, D.frz_lst, frzs_map']; rfl
theorem itm_web {K : D → Prop} : itmP (webD c n l) K = K (webD c n l) := nr rfl
variable {Q : D → En → Prop} {i : Nat}
theorem rd_web : (rdS (some (webD c n l)) r i []).sat Q X = Q (webD c n l) r := nr rfl
theorem rd_web0 : (rdS (some (webD c n l)) r i [.fl 0]).sat Q X = Q (.int n) r := nr rfl
theorem rd_web1 : (rdS (some (webD c n l)) r i [.fl 1]).sat Q X = Q (.tup (l.map prD)) r := nr rfl
theorem rd_web2 {x : Int} : (rdS (some (webD c n l)) r i [.fl 2, .ix x]).sat Q X = optP (optIx (rowsOf n.toNat l) x) fun u => Q (wtupI u) r := by
  show (rdS (some (.obj .shr c [0, 1, 2] [.int n, .tup (l.map prD), .lst .shr ((rowsOf n.toNat l).map wtupI)])) r i [.fl 2, .ix x]).sat Q X = _
  rw [rd_objp, show getP (.obj .shr c [0, 1, 2] [.int n, .tup (l.map prD), .lst .shr ((rowsOf n.toNat l).map wtupI)]) [.fl 2, .ix x] = (optIx ((rowsOf n.toNat l).map wtupI) x).bind some from rfl, optIx_map, optP_bind, optP_map]
  rfl
theorem fld_web0 : fldD (webD c n l) 0 = some (.int n) := nr rfl
theorem fld_web1 : fldD (webD c n l) 1 = some (.tup (l.map prD)) := nr rfl
end
local macro_rules | `(tactic| walk_at "mv") => `(tactic| try simp only [pk_web, hasP_web, ow_web, objP_web, clean_web, frz_web, itm_web, rd_web, rd_web0, rd_web1, rd_web2, fld_web0, fld_web1, ow_src, pk_src, hasP_src, sat_ok, sat_exc, sat_bind, sat_of, optP_some, optP_none, optP_map, optP_bind, optP_ite, ifP_true, ifP_false, ifP_not, dec_beq, slot_zero, slot_succ, set_zero, set_succ, wpeek_v, peek_r, pk_non, pk_bl, pk_int, pk_str, pk_tup, pk_lst, pk_obj, stP_zero, stP_succ, asg_nm, asg_tp, asgs_nil, asgs_cons, kB_next, kB_brk, kB_cont, kB_ret, sB_nil, sB_cons, sS_pass, sS_brk, sS_cont, sS_expr, sS_asg, sS_par, sS_ret, sS_retV, kJ_next, kJ_ret, kJ_brk, kJ_cont, sS_raise, sS_try, sH_nil, sH_none, sH_some, clean_nil, clean_non, clean_int, clean_bl, clean_nn, clean_str, clean_tup, clean_lst, clean_obj, readP_rd, rd_non, rd_bl, rd_int, rd_str, rd_tup, rd_own, rd_shr, rd_giv, rd_obj, e_int, e_bl, e_str, e_non, e_var, e_bin, intP_int, blP_bl, e_neg, e_not, e_and1, e_or1, e_and, e_or, e_ite, e_cmp, e_tup, e_lst, pathP_some, pathP_none, hasP_non, hasP_bl, hasP_int, hasP_str, hasP_tup, hasP_lst, hasP_obj, e_idxv, e_idxi, e_idxa, e_idxc, e_idxm, e_idxl, e_attr, exnP_exn, e_what, e_call, e_callk, e_mk, e_mkk, objP_obj, e_meth, e_blt, lstP_lst, e_lmv, e_lmi, e_isi, t_int, t_bl, t_var, t_bin, t_not, t_and0, t_and, t_or0, t_or, t_ite, t_cmp, t_idx, t_attr, t_call, t_meth, t_blt, t_isi, tAnd_nil, tAnd_cons, tru_bl, tru_int, tru_non, tru_tup, tru_lst, c_one, c_two, a_var, a_int, a_bl, a_str, a_non, a_bin, a_neg, a_not, a_and, a_or, a_ite, a_cmp, a_tup, a_lst, a_idx, a_attr, a_what, a_call, a_callk, a_mk, a_mkk, a_meth, a_blt, a_lm, a_isi, a_comp, es_nil, es_cons, as_nil, as_cons, pA_nil, pA_cons, lend_nil, wlend_v, lend_r, ow_non, ow_bl, ow_int, ow_str, ow_tup, ow_own, ow_shr, ow_giv, ow_oown, ow_oshr, s_callA, madeP_some, xP_cons, bk_nil, bk_v, bk_r, parsOf_eq, retP_ret, retP_next, pgo_0, pgo_s, mapS_nil, mapS_cons, wnoOwn_map, noOwn_nil, add_i, sub_i, mul_i, div_i, mod_i, pow_i, add_ib, add_t, mul_l, add_s, lt_i, le_i, gt_i, ge_i, eq_d, ne_d, in_d, ni_d, is_non, is_int, is_tup, isn_non, isn_int, isn_tup, lt_p, eq_ii, eq_bb, eq_pr4, eq_tupI, eq_tupP, eq_lstI, eq_lstN, eq_tupN, eq_lstP, in_it, in_il, in_pt2, in_pl2, fits0, fits1, fits2, fits3, fits4, fits5, fits6, fits7, fits8, fits9, fits10, fits11, fits12, fits13, fits14, optIx_nat, optIx_0, optIx_1, optIx_2, optIx_last, optIx_map, item_l, item_t, itm_non, itm_bl, itm_int, itm_str, itm_tup, itm_pr, itm_tupI, itm_tupP, itm_shr, itm_obj, rd_tupp, rd_shrp, rd_givp, rd_objp, rd_ownp, getP_nil, getP_ixl, getP_ixt, getP_fl, path_var, path_idx, path_attr, evI_int, evI_var, evIv_int, evI_add, evI_sub, evI_neg, evI_idx, peekP_eq, b_lenl, b_lent, b_inti, b_intb, b_booli, b_boolb, b_tupl, b_tuplm, b_tupt, b_listl, b_listlm, b_listt, b_max, b_min, b_abs, b_suml, b_sumt, b_sorti, b_sortp, b_sortpt, b_all, b_any, ty_non, ty_bl, ty_int, ty_str, ty_tup, ty_lst, lm_app, lm_pop, lm_popi, lm_ext, lm_rev, frzs_rowO, upd_ix, sS_setIv, sS_setIp, oobjP_obj, sS_setA, sS_aug, aug_add, aug_sub, pr_nil, pr_v, pr_r, prS_own, prS_shr, prS_giv, prS_tup, prS_int, chks_nil, chks_v, chks_r, im_lst, im_lstm, im_tup, im_rng1, im_rng2, im_enmt, im_enml, im_enmlm, im_rev, im_zp, im_zptl, im_zplt, im_zpt, still_nil, still_one, still_two, okC_nil, sS_for, kL_next, kL_cont, kL_brk, kL_ret, forP_nil, forP_cons, forP_mn, forP_mc, e_comp, wipe_nil, wipe_cons, natD, eq_self, Option.bind_some, Option.bind_none, prD, wtupI, tupP, rowO, rowS, frzs_rowO, putF, idxOf, Option.map_none, Option.map_some, fld_cons, add_l, noOwn_cons, frzs_map', eq_prs, in_pt, in_pl, Kd.frz_own, Kd.frz_shr, Kd.frz_giv, D.frz_non, D.frz_bl, D.frz_int, D.frz_str, D.frz_tup, D.frz_lst, D.frz_obj, D.frzs_nil, D.frzs_cons, List.getElem?_cons_zero, List.getElem?_cons_succ, List.set_cons_zero, List.set_cons_succ, List.length_cons, List.length_nil, List.length_map, List.contains_cons, List.contains_nil, List.cons_append, List.nil_append, List.replicate_succ, List.replicate_zero, Int.toNat_natCast, fo_i1, fo_i2, fo_i3, fo_i4, fo_i5, fo_i6, fo_i7, fo_i8, fo_i9, fo_i10, fo_i11, fo_i12, fo_i13, fo_i14, fo_p1, fo_p2, fo_p3, fo_p4, fo_p5, fo_p6, fo_p7, fo_p8, fo_p9, fo_p10, fo_p11, fo_p12, fo_ai, fo_ap, fo_app, fo_mm, true_and, and_true, Nat.reduceSub, Nat.reduceAdd, Nat.reduceLT, Nat.reduceLeDiff, Nat.reduceEqDiff, Nat.reduceBEq, Int.reduceLT, Int.reduceLE, Int.reduceNeg, Int.reduceToNat, Bool.not_true, Bool.not_false, Bool.true_and, Bool.and_true, Bool.false_and, Bool.true_or, Bool.or_true, Bool.false_or, Bool.or_false, if_false, if_true, reduceIte, reduceCtorEq, decide_true, decide_false, Bool.false_eq_true, ↓reduceIte, beq_self_eq_true])
local macro_rules | `(tactic| walk_at "si") => `(tactic| first | assumption | (refine okC_i ?_; rfl) | (refine rng62_of ?_ ?_ <;> omega) | (refine rng63_of ?_ ?_ <;> omega) | omega | decide | rfl | (intros; rfl))
local macro_rules | `(tactic| walk_at "ms") => `(tactic| first | ((with_reducible refine And.intro ?mca ?mcb); (case mca => walk_at "si"); (walk_at "mv")) | ((with_reducible refine ifP_pos ?mca ?mcb); (case mca => first | assumption | omega); (walk_at "mv")) | ((with_reducible refine ifP_neg ?mca ?mcb); (case mca => first | assumption | omega); (walk_at "mv")) | fail "no step")
local macro_rules | `(tactic| walk_at "mi") => `(tactic| ((with_reducible refine sS_ifI ?_); (walk_at "mv")))
local macro_rules | `(tactic| walk_at "mn") => `(tactic| ((walk_at "mv"); repeat' (walk_at "ms")))
local macro_rules | `(tactic| walk_at "mc") => `(tactic| ((walk_at "mv"); repeat' (first | walk_at "ms" | walk_at "mi")))
variable {P : Pg} {X : Nat → D → En → Prop} {K : D → En → Prop}
def webB (eS eL eM : Nat) : List S := [(.ifS (.notE (.cmp (.int (1)) [.LtE, .LtE] [(.var 1), (.int (40))])) [(.raise eS (.var 1))] []), (.ifS (.cmp (.blt .len [(.var 2)]) [.Gt] [(.int (160))]) [(.raise eM (.blt .len [(.var 2)]))] []), (.asg (.nm 3) (.tup [(.neg (.int (1))), (.neg (.int (1)))])), (.forS (.tp [(.nm 5), (.nm 6)]) .enm [(.var 2)] [(.ifS (.orE [(.cmp (.blt .len [(.var 6)]) [.NotEq] [(.int (2))]), (.notE (.cmp (.int (0)) [.LtE, .Lt, .Lt] [(.idx (.var 6) (.int (0))), (.idx (.var 6) (.int (1))), (.var 1)])), (.notE (.cmp (.var 3) [.Lt] [(.var 6)]))]) [(.raise eL (.var 5))] []), (.asg (.nm 3) (.var 6))]), (.setA 0 0 (.var 1)), (.setA 0 1 (.var 2)), (.asg (.nm 4) (.comp (.lst []) (.nm 9) .rng [(.var 1)] [] [9])), (.forS (.tp [(.nm 7), (.nm 8)]) .val [(.var 2)] [(.expr (.lm .append (.idx (.var 4) (.var 7)) [(.var 8)])), (.expr (.lm .append (.idx (.var 4) (.var 8)) [(.var 7)]))]), (.setA 0 2 (.comp (.blt .tuple [(.blt .sorted [(.var 10)])]) (.nm 10) .val [(.var 4)] [] [10]))]
/-- a web is made -/
theorem webI_s {i m c eS eL eM : Nat} {n : Int} {l : List (Int × Int)} (hi : P.fns[i]? = some ⟨3, 11, webB eS eL eM, [3, 5, 6, 4, 7, 8]⟩) (h : WebOk n l)
    (k : K .non [some (.obj .own c [0, 1, 2] [.int n, .tup (l.map prD), .lst .own ((rowsOf n.toNat l).map wtupI)]), some (.int n), some (.tup (l.map prD))]) : (run P (m + 1) i [.obj .own c [] [], .int n, .tup (l.map prD)]).out.sat K X := by
  obtain ⟨n1, n40, few, rng, asc⟩ := h
  rw [s_run hi rfl]
  unfold webB
  walk_at "mc"
  refine forP_enm (fun pre r => ∃ z5 z6, r = [some (.obj .own c [] []), some (.int n), some (.tup (l.map prD)), some (prD (pre.getLast?.getD (-1, -1))), none, z5, z6, none, none, none, none]) ⟨none, none, rfl⟩ ?_ ?_ ?_
  · rintro pre _ ⟨z5, z6, rfl⟩; walk_at "mv"
  · rintro pre x post e _ ⟨z5, z6, rfl⟩
    obtain ⟨q1, q2, q3⟩ := rng x (by rw [e]; simp)
    have q4 : ltP (pre.getLast?.getD (-1, -1)) x := by
      cases hp : pre.getLast? with
      | none => exact .inl (by show (-1 : Int) < x.1; omega)
      | some y =>
        have hy : y ∈ pre := List.mem_of_getLast? hp
        rw [e] at asc
        exact (List.pairwise_append.mp asc).2.2 y hy x (by simp)
    walk_at "mc"
    have gl : (pre ++ [x]).getLast?.getD (-1, -1) = x := by simp
    rw [gl]; exact ⟨_, _, rfl⟩
  · rintro _ ⟨z5, z6, rfl⟩
    walk_at "mc"
    refine compP_m (g := rowO D.int) (fun _ => ([] : List Int)) (by simp; omega) (by walk_at "mv") (fun x _ => ?_) ?_
    · walk_at "mv"; rfl
    rw [rows_nil]
    walk_at "mc"
    refine forP_map (fun pre r => ∃ z7 z8, r = [some (.obj .own c [0, 1] [.int n, .tup (l.map prD)]), some (.int n), some (.tup (l.map prD)), some (prD (l.getLast?.getD (-1, -1))), some (.lst .own ((rowsU n.toNat pre).map (rowO D.int))), z5, z6, z7, z8, none, none]) ⟨none, none, rfl⟩ ?_ ?_ ?_
    · rintro pre _ ⟨z7, z8, rfl⟩; walk_at "mv"
    · rintro pre x post e _ ⟨z7, z8, rfl⟩
      obtain ⟨q1, q2, q3⟩ := rng x (by rw [e]; simp)
      have l1 : x.1.toNat < (rowsU n.toNat pre).length := by rw [rowsU_len]; omega
      have l2 : x.2.toNat < (rowsU n.toNat pre).length := by rw [rowsU_len]; omega
      have o1 : optIx (rowsU n.toNat pre) x.1 = some (adj pre x.1) := by rw [optIx_some q1 l1, rowsU_get]; congr; omega
      walk_at "mc"
      simp only [o1]
      walk_at "mc"
      rw [lm_apprI (f := D.int) q1 l1]
      rw [rowsU_get l1]
      have c1 : ((x.1.toNat : Nat) : Int) = x.1 := by omega
      have c2 : ((x.2.toNat : Nat) : Int) = x.2 := by omega
      have a1 := adj_len pre x.1
      have a2 := adj_len pre x.2
      have pl : pre.length ≤ 160 := by rw [e] at few; simp at few; omega
      rw [c1]
      refine ⟨by omega, by simp, ?_⟩
      let rw1 := (rowsU n.toNat pre).set x.1.toNat (adj pre x.1 ++ [x.2])
      have l2' : x.2.toNat < rw1.length := by simpa [rw1] using l2
      have g2 : rw1[x.2.toNat] = adj pre x.2 := by
        show ((rowsU n.toNat pre).set x.1.toNat (adj pre x.1 ++ [x.2]))[x.2.toNat] = _
        rw [List.getElem_set_ne (by omega), rowsU_get, c2]
      have o2 : optIx rw1 x.2 = some (adj pre x.2) := by rw [optIx_some (by omega) l2', g2]
      walk_at "mc"
      simp only [show optIx ((rowsU n.toNat pre).set x.1.toNat (adj pre x.1 ++ [x.2])) x.2 = some (adj pre x.2) from o2]
      walk_at "mc"
      rw [lm_apprI (f := D.int) (by omega) l2']
      rw [g2]
      refine ⟨by omega, by simp, ?_⟩
      rw [rowsU_put q1 q2 (by omega)]
      exact ⟨_, _, rfl⟩
    · rintro _ ⟨z7, z8, rfl⟩
      walk_at "mc"
      refine compP_m (g := wtupI) sortI (by rw [rowsU_len]; omega) (by walk_at "mv") (fun x _ => ?_) ?_
      · walk_at "mc"
      rw [rowsOf_eq]
      walk_at "mc"
      exact k
/-- .. or refused: its size, the number of its links -/
theorem webI_size {i m c eS eL eM : Nat} {n : Int} {d : D} (hi : P.fns[i]? = some ⟨3, 11, webB eS eL eM, [3, 5, 6, 4, 7, 8]⟩) (h : ¬ (1 ≤ n ∧ n ≤ 40))
    (k : X eS (.int n) [some (.obj .own c [] []), some (.int n), some d]) : (run P (m + 1) i [.obj .own c [] [], .int n, d]).out.sat K X := by
  rw [s_run hi rfl]
  unfold webB
  walk_at "mc"
  refine ifP_D (fun h1 => ?_) fun _ => ?_
  · walk_at "mc"; exact k
  · exact k
theorem webI_many {i m c eS eL eM : Nat} {n : Int} {l : List (Int × Int)} (hi : P.fns[i]? = some ⟨3, 11, webB eS eL eM, [3, 5, 6, 4, 7, 8]⟩) (h1 : 1 ≤ n) (h2 : n ≤ 40) (h : 160 < l.length)
    (k : X eM (.int l.length) [some (.obj .own c [] []), some (.int n), some (.tup (l.map prD))]) : (run P (m + 1) i [.obj .own c [] [], .int n, .tup (l.map prD)]).out.sat K X := by
  rw [s_run hi rfl]
  unfold webB
  walk_at "mc"
  exact k
theorem rows_ix {n x : Int} {l : List (Int × Int)} (h0 : 0 ≤ x) (h1 : x < n) : optIx (rowsOf n.toNat l) x = some (nbr l x) := by
  have h : x.toNat < (rowsOf n.toNat l).length := by rw [rowsOf_len]; omega
  have c1 : ((x.toNat : Nat) : Int) = x := by omega
  rw [optIx_some h0 h, rowsOf_get, c1]
theorem mem_sortI {x : Int} {l : List Int} : x ∈ sortI l ↔ x ∈ l := (List.mergeSort_perm _ _).mem_iff
theorem mem_nbr {x y : Int} {l : List (Int × Int)} : y ∈ nbr l x ↔ (x, y) ∈ l ∨ (y, x) ∈ l := by
  unfold nbr
  rw [mem_sortI]
  unfold adj
  rw [List.mem_flatMap]
  constructor
  · rintro ⟨q, hq, h⟩
    rcases List.mem_append.mp h with h | h
    · split at h
      · rename_i e; cases List.mem_singleton.mp h; subst e; exact .inl hq
      · cases h
    · split at h
      · rename_i e; cases List.mem_singleton.mp h; subst e; exact .inr hq
      · cases h
  · rintro (h | h)
    · exact ⟨_, h, by simp⟩
    · exact ⟨_, h, by simp⟩
/-- linked, either way round -/
theorem WebOk.mem_nbr {n : Int} {l : List (Int × Int)} (h : WebOk n l) {x y : Int} : y ∈ nbr l x ↔ (min x y, max x y) ∈ l := by
  rw [Mv.mem_nbr]
  by_cases e : x ≤ y
  · rw [Int.min_eq_left e, Int.max_eq_right e]
    refine ⟨fun z => z.elim id fun z => ?_, .inl⟩
    have := (h.rng _ z).2.1
    simp only at this
    omega
  · rw [Int.min_eq_right (by omega), Int.max_eq_left (by omega)]
    refine ⟨fun z => z.elim (fun z => ?_) id, .inr⟩
    have := (h.rng _ z).2.1
    simp only at this
    omega
def wantB (eC : Nat) : List S := [(.ifS (.notE (.cmp (.int (0)) [.LtE, .Lt] [(.var 1), (.attr (.var 0) 0)])) [(.raise eC (.var 1))] [])]
theorem want_s {i m c eC : Nat} {n x : Int} {l : List (Int × Int)} (hi : P.fns[i]? = some ⟨2, 2, wantB eC, []⟩) (k : 0 ≤ x → x < n → K .non [some (webD c n l), some (.int x)]) (kx : ¬ (0 ≤ x ∧ x < n) → X eC (.int x) [some (webD c n l), some (.int x)]) : (run P (m + 1) i [webD c n l, .int x]).out.sat K X := by
  rw [s_run hi rfl]
  unfold wantB
  walk_at "mc"
  refine ifP_D (fun h1 => ?_) fun h1 => ?_ <;> walk_at "mc"
  · refine ifP_D (fun h2 => ?_) fun h2 => ?_ <;> walk_at "mc"
    · exact k h1 h2
    · exact kx fun z => h2 z.2
  · exact kx fun z => h1 z.1
def nearB (w : Nat) : List S := [(.expr (.call w [(.var 0), (.var 1)])), (.ret (.idx (.attr (.var 0) 2) (.var 1)))]
theorem near_s {i w m c eC : Nat} {n x : Int} {l : List (Int × Int)} (hw : P.fns[w]? = some ⟨2, 2, wantB eC, []⟩) (hi : P.fns[i]? = some ⟨2, 2, nearB w, []⟩) (h0 : 0 ≤ x) (h1 : x < n) (k : K (.tup ((nbr l x).map D.int)) [some (webD c n l), some (.int x)]) : (run P (m + 2) i [webD c n l, .int x]).out.sat K X := by
  rw [s_run hi rfl]
  unfold nearB
  walk_at "mc"
  refine want_s hw (fun _ _ => ?_) fun z => absurd ⟨h0, h1⟩ z
  walk_at "mc"
  rw [rows_ix h0 h1]
  walk_at "mc"
  exact k
def linkedB : List S := [(.ret (.andE [(.cmp (.int (0)) [.LtE, .Lt] [(.var 1), (.attr (.var 0) 0)]), (.cmp (.var 2) [.In] [(.idx (.attr (.var 0) 2) (.var 1))])]))]
theorem linked_s {i m c : Nat} {n x y : Int} {l : List (Int × Int)} (hi : P.fns[i]? = some ⟨3, 3, linkedB, []⟩) (k : K (.bl (decide ((0 ≤ x ∧ x < n) ∧ y ∈ nbr l x))) [some (webD c n l), some (.int x), some (.int y)]) : (run P (m + 1) i [webD c n l, .int x, .int y]).out.sat K X := by
  rw [s_run hi rfl]
  unfold linkedB
  walk_at "mc"
  refine ifP_D (fun h1 => ?_) fun h1 => ?_ <;> walk_at "mc"
  refine ifP_D (fun h2 => ?_) fun h2 => ?_ <;> walk_at "mc"
  · rw [rows_ix h1 h2]
    walk_at "mc"
    rw [show decide ((0 ≤ x ∧ x < n) ∧ y ∈ nbr l x) = decide (y ∈ nbr l x) from decide_eq_decide.mpr ⟨fun z => z.2, fun z => ⟨⟨h1, h2⟩, z⟩⟩] at k
    exact k
  · rw [decide_eq_false fun z => h2 z.1.2] at k
    exact k
  · rw [decide_eq_false fun z => h1 z.1.1] at k
    exact k
/-- made by its class: the instance as it is handed back -/
theorem webM_s {i m c eS eL eM : Nat} {n : Int} {l : List (Int × Int)} (hi : P.fns[i]? = some ⟨3, 11, webB eS eL eM, [3, 5, 6, 4, 7, 8]⟩) (h : WebOk n l)
    (k : K (webD c n l) [some (.int n), some (.tup (l.map prD))]) : (run P (m + 1) i [.obj .own c [] [], .int n, .tup (l.map prD)]).out.sat (fun d ps => madeP d ps K) X := by
  refine webI_s hi h ?_
  rw [madeP_some]
  have e : (D.obj .own c [0, 1, 2] [.int n, .tup (l.map prD), .lst .own ((rowsOf n.toNat l).map wtupI)]).frz = webD c n l := by
    show D.obj .shr c [0, 1, 2] (D.frzs [.int n, .tup (l.map prD), .lst .own ((rowsOf n.toNat l).map wtupI)]) = _
    rw [D.frzs_cons, D.frzs_cons, D.frzs_cons, D.frz_lst, frzs_map']; rfl
  rw [e]; exact k
theorem eq_tag {s : Str} {x : Int} (hs : PyData.strOk s = true) {K : Bool → Prop} : optP (eqD (.tup [.str s, .int x]) (.tup [.str s, .int x])) K = K true := by
  rw [((EqDs.cons (n := 1) (EqD.mono (EqD.str hs hs) (by decide)) (EqDs.cons EqD.int (EqDs.nil.mono (by decide)))).tup).eqD (by decide)]
  simp [optP]
end Mv

/-! webs' plain law -/
namespace Mv
open PySem
theorem ltP_of {p q : Int × Int} (h : SrtO.lexB q p = false) (n : p ≠ q) : ltP p q := by
  have := SrtO.lexB_no.mp h
  unfold ltP
  have n' : ¬ (p.1 = q.1 ∧ p.2 = q.2) := fun z => n (Prod.ext z.1 z.2)
  omega
theorem ltP_no {p q : Int × Int} (h : ltP p q) : SrtO.lexB q p = false := by
  unfold ltP at h
  exact SrtO.lexB_no.mpr (by omega)
theorem ltP_irr {p : Int × Int} (h : ltP p p) : False := by unfold ltP at h; omega
theorem ltP_tr {p q r : Int × Int} (h : ltP p q) (h2 : ltP q r) : ltP p r := by unfold ltP at *; omega
theorem mem_sortP {x : Int × Int} {l : List (Int × Int)} : x ∈ sortP l ↔ x ∈ l := (sortP_perm l).mem_iff
theorem len_sortP (l : List (Int × Int)) : (sortP l).length = l.length := (sortP_perm l).length_eq
theorem sortP_asc {l : List (Int × Int)} (nd : l.Nodup) : (sortP l).Pairwise ltP := by
  have nd' : (sortP l).Nodup := (sortP_perm l).symm.nodup nd
  have both := (sortP_pw l).and nd'
  exact both.imp fun h => ltP_of h.1 h.2
theorem asc_nd {l : List (Int × Int)} (h : l.Pairwise ltP) : l.Nodup := h.imp fun h e => by subst e; exact ltP_irr h
theorem sortP_of {l m : List (Int × Int)} (h : m.Perm l) (s : m.Pairwise ltP) : m = sortP l := sortP_uniq h (s.imp ltP_no)
theorem WebOk.sorted {n : Int} {l : List (Int × Int)} (n1 : 1 ≤ n) (n40 : n ≤ 40) (few : l.length ≤ 160) (rng : ∀ q ∈ l, 0 ≤ q.1 ∧ q.1 < q.2 ∧ q.2 < n) (nd : l.Nodup) : WebOk n (sortP l) :=
  ⟨n1, n40, by rw [len_sortP]; exact few, fun q hq => rng q (mem_sortP.mp hq), sortP_asc nd⟩
theorem Lks.web {n : Nat} {l : List (Int × Int)} (h : Lks n l) (n1 : 1 ≤ n) (n40 : n ≤ 40) (few : l.length ≤ 160) : WebOk (n : Int) (sortP l) := .sorted (by omega) (by omega) few h.rng h.nd
/-- a link more: sorted in -/
theorem put_out {l : List (Int × Int)} {q : Int × Int} (asc : l.Pairwise ltP) (hq : q ∉ l) : (sortP (l ++ [q])).filter (fun p => decide (p ≠ q)) = l := by
  have p1 : ((sortP (l ++ [q])).filter fun p => decide (p ≠ q)).Perm l := by
    have h1 := (sortP_perm (l ++ [q])).filter fun p => decide (p ≠ q)
    rw [List.filter_append] at h1
    have h2 : l.filter (fun p => decide (p ≠ q)) = l := List.filter_eq_self.mpr fun p hp => decide_eq_true fun e => hq (e ▸ hp)
    have h3 : [q].filter (fun p => decide (p ≠ q)) = [] := by simp
    rw [h2, h3, List.append_nil] at h1
    exact h1
  have nd : (l ++ [q]).Nodup := List.nodup_append.mpr ⟨asc_nd asc, by simp, fun a ha b hb e => by cases List.mem_singleton.mp hb; exact hq (e ▸ ha)⟩
  have a1 := (sortP_asc nd).filter fun p => decide (p ≠ q)
  rw [sortP_of p1 a1]
  exact (sortP_of (List.Perm.refl _) asc).symm
theorem out_put {l : List (Int × Int)} {q : Int × Int} (asc : l.Pairwise ltP) (hq : q ∈ l) : sortP (l.filter (fun p => decide (p ≠ q)) ++ [q]) = l := by
  symm
  refine sortP_of ?_ asc
  have nd := asc_nd asc
  have e : l.filter (fun p => decide (p ≠ q)) = l.erase q := by
    rw [nd.erase_eq_filter]
    refine List.filter_congr fun p _ => ?_
    by_cases h : p = q <;> simp [h]
  rw [e]
  exact (List.perm_cons_erase hq).trans (List.perm_append_comm (l₁ := [q])) 
theorem sortI_perm (l : List Int) : (sortI l).Perm l := List.mergeSort_perm _ _
theorem sortI_pw (l : List Int) : (sortI l).Pairwise (· ≤ ·) := by
  have q := List.pairwise_mergeSort (le := fun a b : Int => decide (a ≤ b)) (by intro a b c h1 h2; simp at *; omega) (by intro a b; simp; omega) l
  exact q.imp fun h => of_decide_eq_true h
theorem sortI_congr {l m : List Int} (h : l.Perm m) : sortI l = sortI m := sortI_ok m (sortI l) ((sortI_perm l).trans h) (sortI_pw l)
theorem adj_perm (l : List (Int × Int)) (x : Int) : (((l.filter fun q => decide (q.1 = x)).map fun q => q.2) ++ ((l.filter fun q => decide (q.2 = x)).map fun q => q.1)).Perm (adj l x) := by
  induction l with
  | nil => exact List.Perm.refl _
  | cons q l ih =>
    have e : adj (q :: l) x = ((if q.1 = x then [q.2] else []) ++ (if q.2 = x then [q.1] else [])) ++ adj l x := rfl
    rw [e]
    by_cases a : q.1 = x <;> by_cases b : q.2 = x
    · rw [if_pos a, if_pos b, List.filter_cons_of_pos (by simpa using a), List.filter_cons_of_pos (by simpa using b)]
      simp only [List.map_cons, List.cons_append, List.nil_append]
      exact ((List.perm_middle).trans (ih.cons _)).cons _
    · rw [if_pos a, if_neg b, List.filter_cons_of_pos (by simpa using a), List.filter_cons_of_neg (by simpa using b)]
      exact ih.cons _
    · rw [if_neg a, if_pos b, List.filter_cons_of_neg (by simpa using a), List.filter_cons_of_pos (by simpa using b)]
      exact (List.perm_middle).trans (ih.cons _)
    · rw [if_neg a, if_neg b, List.filter_cons_of_neg (by simpa using a), List.filter_cons_of_neg (by simpa using b)]
      exact ih
/-- the law's own list of near cells -/
theorem near_own {l : List (Int × Int)} {x : Int} : sortI (((l.filter fun q => decide (q.1 = x)).map fun q => q.2) ++ ((l.filter fun q => decide (q.2 = x)).map fun q => q.1)) = nbr l x := sortI_congr (adj_perm l x)
end Mv

/-! the laws' webs -/
namespace Mv
open PySem
local macro_rules | `(tactic| walk_at "mv") => `(tactic| try simp only [pk_web, hasP_web, ow_web, objP_web, clean_web, frz_web, itm_web, rd_web, rd_web0, rd_web1, rd_web2, fld_web0, fld_web1, ow_src, pk_src, hasP_src, sat_ok, sat_exc, sat_bind, sat_of, optP_some, optP_none, optP_map, optP_bind, optP_ite, ifP_true, ifP_false, ifP_not, dec_beq, slot_zero, slot_succ, set_zero, set_succ, wpeek_v, peek_r, pk_non, pk_bl, pk_int, pk_str, pk_tup, pk_lst, pk_obj, stP_zero, stP_succ, asg_nm, asg_tp, asgs_nil, asgs_cons, kB_next, kB_brk, kB_cont, kB_ret, sB_nil, sB_cons, sS_pass, sS_brk, sS_cont, sS_expr, sS_asg, sS_par, sS_ret, sS_retV, kJ_next, kJ_ret, kJ_brk, kJ_cont, sS_raise, sS_try, sH_nil, sH_none, sH_some, clean_nil, clean_non, clean_int, clean_bl, clean_nn, clean_str, clean_tup, clean_lst, clean_obj, readP_rd, rd_non, rd_bl, rd_int, rd_str, rd_tup, rd_own, rd_shr, rd_giv, rd_obj, e_int, e_bl, e_str, e_non, e_var, e_bin, intP_int, blP_bl, e_neg, e_not, e_and1, e_or1, e_and, e_or, e_ite, e_cmp, e_tup, e_lst, pathP_some, pathP_none, hasP_non, hasP_bl, hasP_int, hasP_str, hasP_tup, hasP_lst, hasP_obj, e_idxv, e_idxi, e_idxa, e_idxc, e_idxm, e_idxl, e_attr, exnP_exn, e_what, e_call, e_callk, e_mk, e_mkk, objP_obj, e_meth, e_blt, lstP_lst, e_lmv, e_lmi, e_isi, t_int, t_bl, t_var, t_bin, t_not, t_and0, t_and, t_or0, t_or, t_ite, t_cmp, t_idx, t_attr, t_call, t_meth, t_blt, t_isi, tAnd_nil, tAnd_cons, tru_bl, tru_int, tru_non, tru_tup, tru_lst, c_one, c_two, a_var, a_int, a_bl, a_str, a_non, a_bin, a_neg, a_not, a_and, a_or, a_ite, a_cmp, a_tup, a_lst, a_idx, a_attr, a_what, a_call, a_callk, a_mk, a_mkk, a_meth, a_blt, a_lm, a_isi, a_comp, es_nil, es_cons, as_nil, as_cons, pA_nil, pA_cons, lend_nil, wlend_v, lend_r, ow_non, ow_bl, ow_int, ow_str, ow_tup, ow_own, ow_shr, ow_giv, ow_oown, ow_oshr, s_callA, madeP_some, xP_cons, bk_nil, bk_v, bk_r, parsOf_eq, retP_ret, retP_next, pgo_0, pgo_s, mapS_nil, mapS_cons, wnoOwn_map, noOwn_nil, add_i, sub_i, mul_i, div_i, mod_i, pow_i, add_ib, add_t, mul_l, add_s, lt_i, le_i, gt_i, ge_i, eq_d, ne_d, in_d, ni_d, is_non, is_int, is_tup, isn_non, isn_int, isn_tup, lt_p, eq_ii, eq_bb, eq_pr4, eq_tupI, eq_tupP, eq_lstI, eq_lstN, eq_tupN, eq_lstP, in_it, in_il, in_pt2, in_pl2, fits0, fits1, fits2, fits3, fits4, fits5, fits6, fits7, fits8, fits9, fits10, fits11, fits12, fits13, fits14, optIx_nat, optIx_0, optIx_1, optIx_2, optIx_last, optIx_map, item_l, item_t, itm_non, itm_bl, itm_int, itm_str, itm_tup, itm_pr, itm_tupI, itm_tupP, itm_shr, itm_obj, rd_tupp, rd_shrp, rd_givp, rd_objp, rd_ownp, getP_nil, getP_ixl, getP_ixt, getP_fl, path_var, path_idx, path_attr, evI_int, evI_var, evIv_int, evI_add, evI_sub, evI_neg, evI_idx, peekP_eq, b_lenl, b_lent, b_inti, b_intb, b_booli, b_boolb, b_tupl, b_tuplm, b_tupt, b_listl, b_listlm, b_listt, b_max, b_min, b_abs, b_suml, b_sumt, b_sorti, b_sortp, b_sortpt, b_all, b_any, ty_non, ty_bl, ty_int, ty_str, ty_tup, ty_lst, lm_app, lm_pop, lm_popi, lm_ext, lm_rev, frzs_rowO, upd_ix, sS_setIv, sS_setIp, oobjP_obj, sS_setA, sS_aug, aug_add, aug_sub, pr_nil, pr_v, pr_r, prS_own, prS_shr, prS_giv, prS_tup, prS_int, chks_nil, chks_v, chks_r, im_lst, im_lstm, im_tup, im_rng1, im_rng2, im_enmt, im_enml, im_enmlm, im_rev, im_zp, im_zptl, im_zplt, im_zpt, still_nil, still_one, still_two, okC_nil, sS_for, kL_next, kL_cont, kL_brk, kL_ret, forP_nil, forP_cons, forP_mn, forP_mc, e_comp, wipe_nil, wipe_cons, natD, eq_self, Option.bind_some, Option.bind_none, prD, wtupI, tupP, rowO, rowS, frzs_rowO, putF, idxOf, Option.map_none, Option.map_some, fld_cons, add_l, noOwn_cons, frzs_map', eq_prs, in_pt, in_pl, Kd.frz_own, Kd.frz_shr, Kd.frz_giv, D.frz_non, D.frz_bl, D.frz_int, D.frz_str, D.frz_tup, D.frz_lst, D.frz_obj, D.frzs_nil, D.frzs_cons, List.getElem?_cons_zero, List.getElem?_cons_succ, List.set_cons_zero, List.set_cons_succ, List.length_cons, List.length_nil, List.length_map, List.contains_cons, List.contains_nil, List.cons_append, List.nil_append, List.replicate_succ, List.replicate_zero, Int.toNat_natCast, fo_i1, fo_i2, fo_i3, fo_i4, fo_i5, fo_i6, fo_i7, fo_i8, fo_i9, fo_i10, fo_i11, fo_i12, fo_i13, fo_i14, fo_p1, fo_p2, fo_p3, fo_p4, fo_p5, fo_p6, fo_p7, fo_p8, fo_p9, fo_p10, fo_p11, fo_p12, fo_ai, fo_ap, fo_app, fo_mm, true_and, and_true, Nat.reduceSub, Nat.reduceAdd, Nat.reduceLT, Nat.reduceLeDiff, Nat.reduceEqDiff, Nat.reduceBEq, Int.reduceLT, Int.reduceLE, Int.reduceNeg, Int.reduceToNat, Bool.not_true, Bool.not_false, Bool.true_and, Bool.and_true, Bool.false_and, Bool.true_or, Bool.or_true, Bool.false_or, Bool.or_false, if_false, if_true, reduceIte, reduceCtorEq, decide_true, decide_false, Bool.false_eq_true, ↓reduceIte, beq_self_eq_true])
local macro_rules | `(tactic| walk_at "si") => `(tactic| first | assumption | (refine okC_i ?_; rfl) | (refine rng62_of ?_ ?_ <;> omega) | (refine rng63_of ?_ ?_ <;> omega) | omega | decide | rfl | (intros; rfl))
local macro_rules | `(tactic| walk_at "ms") => `(tactic| first | ((with_reducible refine And.intro ?mca ?mcb); (case mca => walk_at "si"); (walk_at "mv")) | ((with_reducible refine ifP_pos ?mca ?mcb); (case mca => first | assumption | omega); (walk_at "mv")) | ((with_reducible refine ifP_neg ?mca ?mcb); (case mca => first | assumption | omega); (walk_at "mv")) | fail "no step")
local macro_rules | `(tactic| walk_at "mi") => `(tactic| ((with_reducible refine sS_ifI ?_); (walk_at "mv")))
local macro_rules | `(tactic| walk_at "mn") => `(tactic| ((walk_at "mv"); repeat' (walk_at "ms")))
local macro_rules | `(tactic| walk_at "mc") => `(tactic| ((walk_at "mv"); repeat' (first | walk_at "ms" | walk_at "mi")))
variable {P : Pg} {X : Nat → D → En → Prop} {K : D → En → Prop}
/-- links as they are handed about: within the cells, strictly ascending -/
structure Gw (n : Int) (l : List (Int × Int)) : Prop where
  n1 : 1 ≤ n
  rng : ∀ q ∈ l, 0 ≤ q.1 ∧ q.1 < q.2 ∧ q.2 < n
  asc : l.Pairwise ltP
theorem Gw.web {n : Int} {l : List (Int × Int)} (h : Gw n l) (n40 : n ≤ 40) (few : l.length ≤ 160) : WebOk n l := ⟨h.n1, n40, few, h.rng, h.asc⟩
theorem Gw.sorted {n : Int} {l : List (Int × Int)} (n1 : 1 ≤ n) (rng : ∀ q ∈ l, 0 ≤ q.1 ∧ q.1 < q.2 ∧ q.2 < n) (nd : l.Nodup) : Gw n (sortP l) := ⟨n1, fun q hq => rng q (mem_sortP.mp hq), sortP_asc nd⟩
/-- the numbers of the cells, in any order -/
def cellsI (n : Nat) : List Int := (List.range n).map fun (k : Nat) => (k : Int)
theorem mem_cellsI {n : Nat} {x : Int} : x ∈ cellsI n ↔ 0 ≤ x ∧ x < n := by
  unfold cellsI
  rw [List.mem_map]
  constructor
  · rintro ⟨k, hk, rfl⟩; have := List.mem_range.mp hk; omega
  · intro h; exact ⟨x.toNat, List.mem_range.mpr (by omega), by omega⟩
theorem cellsI_nd (n : Nat) : (cellsI n).Nodup := by
  unfold cellsI
  refine List.Pairwise.map _ (fun a b h => ?_) (List.nodup_range (n := n))
  intro e; exact h (by omega)
theorem cellsI_len (n : Nat) : (cellsI n).length = n := by simp [cellsI]
/-- few links -/
theorem Gw.few {n : Nat} {l : List (Int × Int)} (h : Gw n l) : l.length ≤ n * n := by
  have s : l ⊆ (cellsI n).flatMap fun a => (cellsI n).map fun b => (a, b) := by
    intro q hq
    obtain ⟨r1, r2, r3⟩ := h.rng q hq
    rw [List.mem_flatMap]
    exact ⟨q.1, mem_cellsI.mpr ⟨r1, by omega⟩, List.mem_map.mpr ⟨q.2, mem_cellsI.mpr ⟨by omega, r3⟩, rfl⟩⟩
  have := (asc_nd h.asc).length_le_of_subset s
  rw [List.length_flatMap] at this
  have e : ∀ (k : Nat) (xs : List Int), (xs.map fun a => ((cellsI k).map fun b => (a, b)).length).sum = xs.length * k := by
    intro k xs
    induction xs with
    | nil => simp
    | cons x xs ih => rw [List.map_cons, List.sum_cons, ih, List.length_map, cellsI_len, List.length_cons, Nat.succ_mul, Nat.add_comm]
  rw [e, cellsI_len] at this
  exact this
theorem erase_perm {α : Type} : ∀ {l : List α} {j : Nat} (h : j < l.length), (l[j] :: l.eraseIdx j).Perm l
  | x :: l, 0, _ => List.Perm.refl _
  | x :: l, j + 1, h => (List.Perm.swap _ _ _).trans ((erase_perm (l := l) (j := j) (by simpa using h)).cons x)
def shufB (t : Nat) : List S := [(.par [(.nm 3), (.nm 4)] [(.comp (.var 5) (.nm 5) .rng [(.var 1)] [] [5]), (.lst [])]), (.forS (.nm 2) .rng [(.var 1)] [(.expr (.lm .append (.var 4) [(.lm .pop (.var 3) [(.call t [(.var 0), (.blt .len [(.var 3)])])])]))]), (.retV 4)]
theorem shuf_s {i t m c : Nat} {A B : Int} (hf : P.fns[t]? = some ⟨2, 3, takeB, [2]⟩) (hi : P.fns[i]? = some ⟨2, 6, shufB t, [3, 4, 2]⟩) (hc : c ≤ 1000)
    (k : ∀ (xs : List Int) (A' B' : Int), xs.Perm (cellsI c) → K (.lst .own (xs.map D.int)) [some (src A' B'), some (.int c)]) : (run P (m + 2) i [src A B, .int c]).out.sat K X := by
  rw [s_run hi rfl]
  unfold shufB
  walk_at "mc"
  refine compP_m (g := D.int) (fun k : Nat => (k : Int)) (by simp; omega) (by walk_at "mv") (fun x _ => ?_) ?_
  · walk_at "mc"
  walk_at "mc"
  refine forP_nat (fun i r => ∃ A B left found z2, left.length = c - i ∧ found.length = i ∧ (found ++ left).Perm (cellsI c) ∧ r = [some (src A B), some (.int c), z2, some (.lst .own (left.map D.int)), some (.lst .own (found.map D.int)), none]) ⟨A, B, cellsI c, [], none, by rw [cellsI_len]; rfl, rfl, List.Perm.refl _, rfl⟩ ?_ ?_ ?_
  · rintro i r _ ⟨A, B, left, found, z2, _, _, _, rfl⟩; walk_at "mv"
  · rintro i hi _ ⟨A, B, left, found, z2, h1, h2, h3, rfl⟩
    walk_at "mc"
    refine take_s hf (by omega) (big8 (by omega)) fun x A B x0 x1 => ?_
    walk_at "mc"
    have hx : x.toNat < left.length := by omega
    refine ixN_P x0 hx ?_
    refine optP_get hx ?_
    walk_at "mc"
    refine ⟨A, B, _, _, _, by rw [List.length_eraseIdx, if_pos hx]; omega, by rw [List.length_append, h2]; rfl, ?_, rfl⟩
    refine List.Perm.trans ?_ h3
    rw [List.append_assoc]
    exact List.Perm.append_left found (erase_perm hx)
  · rintro _ ⟨A, B, left, found, z2, h1, h2, h3, rfl⟩
    walk_at "mc"
    have : left = [] := List.eq_nil_of_length_eq_zero (by omega)
    subst this
    rw [List.append_nil] at h3
    exact k found A B h3
def nearLB : List S := [(.ret (.blt .sorted [(.bin .Add (.comp (.var 3) (.tp [(.nm 2), (.nm 3)]) .val [(.var 0)] [(.cmp (.var 2) [.Eq] [(.var 1)])] [2, 3]) (.comp (.var 2) (.tp [(.nm 2), (.nm 3)]) .val [(.var 0)] [(.cmp (.var 3) [.Eq] [(.var 1)])] [2, 3]))]))]
theorem nearL_s {i m : Nat} {kd : Kd} {l : List (Int × Int)} {x : Int} (hi : P.fns[i]? = some ⟨2, 4, nearLB, []⟩) (hl : l.length ≤ 1000)
    (k : K (.lst .own ((nbr l x).map D.int)) [some (.lst kd (l.map prD)), some (.int x)]) : (run P (m + 1) i [.lst kd (l.map prD), .int x]).out.sat K X := by
  rw [s_run hi rfl]
  unfold nearLB
  cases kd
  all_goals (
    walk_at "mc"
    refine compP_p (g := D.int) (fun q => q.1 = x) (fun q => q.2) (by omega) (by walk_at "mv") (fun q hq hp => ?_) (fun q hq hp => ?_) ?_
    · walk_at "mc"
    · walk_at "mc"
    walk_at "mc"
    refine compP_p (g := D.int) (fun q => q.2 = x) (fun q => q.1) (by omega) (by walk_at "mv") (fun q hq hp => ?_) (fun q hq hp => ?_) ?_
    · walk_at "mc"
    · walk_at "mc"
    walk_at "mc"
    have l1 := List.length_filter_le (fun q : Int × Int => decide (q.1 = x)) l
    have l2 := List.length_filter_le (fun q : Int × Int => decide (q.2 = x)) l
    refine ⟨by omega, ?_⟩
    walk_at "mc"
    rw [near_own]
    exact k)
theorem nbr_len (l : List (Int × Int)) (x : Int) : (nbr l x).length = (adj l x).length := (sortI_perm _).length_eq
/-- the cells near x are unlike -/
theorem Gw.nbr_nd {n : Int} {l : List (Int × Int)} (h : Gw n l) (x : Int) : (nbr l x).Nodup := by
  refine ((sortI_perm (adj l x)).nodup_iff).mpr ?_
  have nd := asc_nd h.asc
  have rng := h.rng
  clear h
  induction l with
  | nil => exact List.nodup_nil
  | cons q l ih =>
    have e : adj (q :: l) x = ((if q.1 = x then [q.2] else []) ++ (if q.2 = x then [q.1] else [])) ++ adj l x := rfl
    rw [e]
    obtain ⟨nq, nl⟩ := List.nodup_cons.mp nd
    obtain ⟨r1, r2, r3⟩ := rng q List.mem_cons_self
    have ih' := ih nl fun p hp => rng p (List.mem_cons_of_mem _ hp)
    have key : ∀ y, y ∈ adj l x ↔ (x, y) ∈ l ∨ (y, x) ∈ l := fun y => by
      have := Mv.mem_nbr (x := x) (y := y) (l := l)
      unfold nbr at this
      rwa [mem_sortI] at this
    by_cases a : q.1 = x
    · have b : q.2 ≠ x := by omega
      rw [if_pos a, if_neg b, List.append_nil]
      refine List.nodup_cons.mpr ⟨fun z => ?_, ih'⟩
      rcases (key _).mp z with z | z
      · exact nq (by rw [← a] at z; exact z)
      · have := rng _ (List.mem_cons_of_mem _ z); simp only at this; omega
    · by_cases b : q.2 = x
      · rw [if_neg a, if_pos b, List.nil_append]
        refine List.nodup_cons.mpr ⟨fun z => ?_, ih'⟩
        rcases (key _).mp z with z | z
        · have := rng _ (List.mem_cons_of_mem _ z); simp only at this; omega
        · exact nq (by rw [← b] at z; exact z)
      · rw [if_neg a, if_neg b]; exact ih'
theorem Gw.nbr_rng {n : Int} {l : List (Int × Int)} (h : Gw n l) {x y : Int} (hy : y ∈ nbr l x) : (0 ≤ y ∧ y < n) ∧ (0 ≤ x ∧ x < n) ∧ x ≠ y ∧ (min x y, max x y) ∈ l := by
  rcases Mv.mem_nbr.mp hy with z | z
  · obtain ⟨r1, r2, r3⟩ := h.rng _ z
    simp only at r1 r2 r3
    exact ⟨⟨by omega, by omega⟩, ⟨by omega, by omega⟩, by omega, by rw [Int.min_eq_left (by omega), Int.max_eq_right (by omega)]; exact z⟩
  · obtain ⟨r1, r2, r3⟩ := h.rng _ z
    simp only at r1 r2 r3
    exact ⟨⟨by omega, by omega⟩, ⟨by omega, by omega⟩, by omega, by rw [Int.min_eq_right (by omega), Int.max_eq_left (by omega)]; exact z⟩
theorem nbr_sym {l : List (Int × Int)} {x y : Int} : y ∈ nbr l x ↔ x ∈ nbr l y := by
  rw [Mv.mem_nbr, Mv.mem_nbr]; exact ⟨Or.symm, Or.symm⟩
theorem Gw.mem_nbr {n : Int} {l : List (Int × Int)} (h : Gw n l) {x y : Int} : y ∈ nbr l x ↔ (min x y, max x y) ∈ l := by
  refine ⟨fun z => (h.nbr_rng z).2.2.2, fun z => ?_⟩
  by_cases e : x ≤ y
  · rw [Int.min_eq_left e, Int.max_eq_right e] at z; exact Mv.mem_nbr.mpr (.inl z)
  · rw [Int.min_eq_right (by omega), Int.max_eq_left (by omega)] at z; exact Mv.mem_nbr.mpr (.inr z)
/-- cells have two near them -/
def Deg2 (n : Int) (l : List (Int × Int)) : Prop := ∀ x, 0 ≤ x → x < n → 2 ≤ (nbr l x).length
def cornB (near take : Nat) : List S := [(.asg (.nm 3) (.call near [(.var 2), (.call take [(.var 0), (.var 1)])])), (.asg (.nm 4) (.lm .pop (.var 3) [(.call take [(.var 0), (.blt .len [(.var 3)])])])), (.asg (.nm 5) (.lm .pop (.var 3) [(.call take [(.var 0), (.blt .len [(.var 3)])])])), (.ret (.tup [(.bin .Add (.var 1) (.int (1))), (.blt .sorted [(.bin .Add (.var 2) (.lst [(.tup [(.var 4), (.var 1)]), (.tup [(.var 5), (.var 1)])]))])]))]
theorem corn_s {i t g m : Nat} {A B n : Int} {l : List (Int × Int)} (hf : P.fns[t]? = some ⟨2, 3, takeB, [2]⟩) (hg : P.fns[g]? = some ⟨2, 4, nearLB, []⟩) (hi : P.fns[i]? = some ⟨3, 6, cornB g t, [3, 4, 5]⟩) (hw : Gw n l) (hn : n ≤ 1000) (hl : l.length ≤ 500) (h2 : Deg2 n l)
    (k : ∀ (a x z A' B' : Int), x ∈ nbr l a → z ∈ nbr l a → x ≠ z → K (.tup [.int (n + 1), .lst .shr ((sortP (l ++ [(x, n), (z, n)])).map prD)]) [some (src A' B'), some (.int n), some (.lst .shr (l.map prD))]) : (run P (m + 2) i [src A B, .int n, .lst .shr (l.map prD)]).out.sat K X := by
  have n1 := hw.n1
  rw [s_run hi rfl]
  unfold cornB
  walk_at "mc"
  refine take_s hf (by omega) (big8 (by omega)) fun a A B a0 a1 => ?_
  walk_at "mc"
  refine nearL_s hg (by omega) ?_
  walk_at "mc"
  have d := h2 a a0 a1
  have nd := hw.nbr_nd a
  have nl : (nbr l a).length ≤ 1000 := by rw [nbr_len]; have := adj_len l a; omega
  refine take_s hf (by omega) (big8 (by omega)) fun u A B u0 u1 => ?_
  walk_at "mc"
  have hu : u.toNat < (nbr l a).length := by omega
  refine ixN_P u0 hu ?_
  refine optP_get hu ?_
  walk_at "mc"
  have el : ((nbr l a).eraseIdx u.toNat).length = (nbr l a).length - 1 := by rw [List.length_eraseIdx, if_pos hu]
  refine take_s hf (by omega) (big8 (by omega)) fun v A B v0 v1 => ?_
  walk_at "mc"
  have hv : v.toNat < ((nbr l a).eraseIdx u.toNat).length := by omega
  refine ixN_P v0 hv ?_
  refine optP_get hv ?_
  walk_at "mc"
  have pm := erase_perm hu
  have ndp := pm.nodup_iff.mpr nd
  have zin := List.getElem_mem hv
  refine k a _ _ A B (List.getElem_mem hu) (List.mem_of_mem_eraseIdx zin) fun e => ?_
  exact (List.nodup_cons.mp ndp).1 (e ▸ zin)
def brdB (near take one lk : Nat) : List S := [(.asg (.nm 3) (.call take [(.var 0), (.var 1)])), (.asg (.nm 4) (.call one [(.var 0), (.call near [(.var 2), (.var 3)])])), (.asg (.nm 5) (.call one [(.var 0), (.call near [(.var 2), (.var 4)])])), (.asg (.nm 6) (.call one [(.var 0), (.call near [(.var 2), (.var 5)])])), (.ifS (.orE [(.cmp (.var 3) [.Eq] [(.var 5)]), (.cmp (.var 3) [.Eq] [(.var 6)]), (.cmp (.var 4) [.Eq] [(.var 6)]), (.cmp (.call lk [(.var 3), (.var 6)]) [.In] [(.var 2)])]) [(.ret (.tup [(.var 1), (.var 2)]))] []), (.ret (.tup [(.var 1), (.blt .sorted [(.bin .Add (.var 2) (.lst [(.call lk [(.var 3), (.var 6)])]))])]))]
/-- the ends of a walk of three links -/
structure Brd (l : List (Int × Int)) (a b : Int) : Prop where
  ab : a ≠ b
  no : (min a b, max a b) ∉ l
  wk : ∃ x y, x ∈ nbr l a ∧ y ∈ nbr l x ∧ b ∈ nbr l y ∧ a ≠ y ∧ x ≠ b
theorem brd_s {i t o g q m : Nat} {A B n : Int} {l : List (Int × Int)} (hf : P.fns[t]? = some ⟨2, 3, takeB, [2]⟩) (ho : P.fns[o]? = some ⟨2, 2, oneBody t, []⟩) (hg : P.fns[g]? = some ⟨2, 4, nearLB, []⟩) (hq : P.fns[q]? = some ⟨2, 2, linkB, []⟩) (hi : P.fns[i]? = some ⟨3, 7, brdB g t o q, [3, 4, 5, 6]⟩) (hw : Gw n l) (hn : n ≤ 1000) (hl : l.length ≤ 500) (h2 : Deg2 n l)
    (k0 : ∀ (A' B' : Int), K (.tup [.int n, .lst .shr (l.map prD)]) [some (src A' B'), some (.int n), some (.lst .shr (l.map prD))])
    (k : ∀ (a b A' B' : Int), Brd l a b → K (.tup [.int n, .lst .shr ((sortP (l ++ [(min a b, max a b)])).map prD)]) [some (src A' B'), some (.int n), some (.lst .shr (l.map prD))]) : (run P (m + 3) i [src A B, .int n, .lst .shr (l.map prD)]).out.sat K X := by
  have n1 := hw.n1
  have few : ∀ x, (nbr l x).length ≤ 1000 := fun x => by rw [nbr_len]; have := adj_len l x; omega
  have ne : ∀ x, 0 ≤ x → x < n → nbr l x ≠ [] := fun x h0 h1 e => by have := h2 x h0 h1; rw [e] at this; simp at this
  rw [s_run hi rfl]
  unfold brdB
  walk_at "mc"
  refine take_s hf (by omega) (big8 (by omega)) fun a A B a0 a1 => ?_
  walk_at "mc"
  refine nearL_s hg (by omega) ?_
  walk_at "mc"
  refine one_s (g := D.int) hf ho (ne a a0 a1) (by have := few a; omega) fun x A B hx => ?_
  walk_at "mc"
  obtain ⟨x0, _, xa, _⟩ := hw.nbr_rng hx
  refine nearL_s hg (by omega) ?_
  walk_at "mc"
  refine one_s (g := D.int) hf ho (ne x x0.1 x0.2) (by have := few x; omega) fun y A B hy => ?_
  walk_at "mc"
  obtain ⟨y0, _, yx, _⟩ := hw.nbr_rng hy
  refine nearL_s hg (by omega) ?_
  walk_at "mc"
  refine one_s (g := D.int) hf ho (ne y y0.1 y0.2) (by have := few y; omega) fun b A B hb => ?_
  walk_at "mc"
  refine ifP_D (fun _ => ?_) fun e1 => ?_ <;> walk_at "mc"
  · exact k0 _ _
  refine ifP_D (fun _ => ?_) fun e2 => ?_ <;> walk_at "mc"
  · exact k0 _ _
  refine ifP_D (fun _ => ?_) fun e3 => ?_ <;> walk_at "mc"
  · exact k0 _ _
  refine link_s hq ?_
  walk_at "mc"
  refine ifP_D (fun _ => ?_) fun e4 => ?_ <;> walk_at "mc"
  · exact k0 _ _
  refine link_s hq ?_
  walk_at "mc"
  exact k a b A B ⟨e2, e4, x, y, hx, hy, hb, e1, e3⟩
/-- names for cells -/
def nmF (xs : List Int) (x : Int) : Int := xs.getD x.toNat 0
def ren (xs : List Int) (q : Int × Int) : Int × Int := (min (nmF xs q.1) (nmF xs q.2), max (nmF xs q.1) (nmF xs q.2))
theorem nm_get {n : Nat} {xs : List Int} (h : xs.Perm (cellsI n)) {x : Int} (h0 : 0 ≤ x) (h1 : x < n) : ∃ hx : x.toNat < xs.length, nmF xs x = xs[x.toNat] := by
  have : xs.length = n := by rw [h.length_eq, cellsI_len]
  have hx : x.toNat < xs.length := by omega
  exact ⟨hx, by unfold nmF; rw [List.getD_eq_getElem?_getD, List.getElem?_eq_getElem hx]; rfl⟩
theorem nm_rng {n : Nat} {xs : List Int} (h : xs.Perm (cellsI n)) {x : Int} (h0 : 0 ≤ x) (h1 : x < n) : 0 ≤ nmF xs x ∧ nmF xs x < n := by
  obtain ⟨hx, e⟩ := nm_get h h0 h1
  rw [e]
  exact mem_cellsI.mp (h.mem_iff.mp (List.getElem_mem hx))
theorem nm_inj {n : Nat} {xs : List Int} (h : xs.Perm (cellsI n)) {x y : Int} (h0 : 0 ≤ x) (h1 : x < n) (g0 : 0 ≤ y) (g1 : y < n) (e : nmF xs x = nmF xs y) : x = y := by
  obtain ⟨hx, ex⟩ := nm_get h h0 h1
  obtain ⟨hy, ey⟩ := nm_get h g0 g1
  have nd : xs.Nodup := h.nodup_iff.mpr (cellsI_nd n)
  rw [ex, ey] at e
  have pw := List.pairwise_iff_getElem.mp nd
  rcases Nat.lt_trichotomy x.toNat y.toNat with z | z | z
  · exact absurd e (pw _ _ hx hy z)
  · omega
  · exact absurd e.symm (pw _ _ hy hx z)
theorem Gw.ren {n : Nat} {l : List (Int × Int)} {xs : List Int} (hw : Gw n l) (h : xs.Perm (cellsI n)) : Gw n (sortP (l.map (ren xs))) := by
  refine .sorted hw.n1 (fun q hq => ?_) ?_
  · obtain ⟨p, hp, rfl⟩ := List.mem_map.mp hq
    obtain ⟨r1, r2, r3⟩ := hw.rng p hp
    have a := nm_rng h r1 (Int.lt_trans r2 r3)
    have b := nm_rng h (Int.le_trans r1 (Int.le_of_lt r2)) r3
    have ne : nmF xs p.1 ≠ nmF xs p.2 := fun e => by have := nm_inj h r1 (by omega) (by omega) r3 e; omega
    simp only [Mv.ren]
    omega
  · have nd := asc_nd hw.asc
    refine List.pairwise_map.mpr (List.Pairwise.imp_of_mem ?_ nd)
    intro p q hp hq ne e
    obtain ⟨r1, r2, r3⟩ := hw.rng p hp
    obtain ⟨s1, s2, s3⟩ := hw.rng q hq
    simp only [Mv.ren, Prod.mk.injEq] at e
    refine ne ?_
    have c : (nmF xs p.1 = nmF xs q.1 ∧ nmF xs p.2 = nmF xs q.2) ∨ (nmF xs p.1 = nmF xs q.2 ∧ nmF xs p.2 = nmF xs q.1) := by omega
    rcases c with ⟨e1, e2⟩ | ⟨e1, e2⟩
    · exact Prod.ext (nm_inj h r1 (by omega) s1 (by omega) e1) (nm_inj h (by omega) r3 (by omega) s3 e2)
    · have f1 := nm_inj h r1 (by omega) (by omega) s3 e1
      have f2 := nm_inj h (by omega) r3 s1 (by omega) e2
      omega
def renB (sh lk : Nat) : List S := [(.asg (.nm 3) (.call sh [(.var 0), (.var 1)])), (.ret (.tup [(.var 1), (.blt .sorted [(.comp (.call lk [(.idx (.var 3) (.var 4)), (.idx (.var 3) (.var 5))]) (.tp [(.nm 4), (.nm 5)]) .val [(.var 2)] [] [4, 5])])]))]
theorem ren_s {i t s q m n : Nat} {A B : Int} {kd : Kd} {l : List (Int × Int)} (hf : P.fns[t]? = some ⟨2, 3, takeB, [2]⟩) (hs : P.fns[s]? = some ⟨2, 6, shufB t, [3, 4, 2]⟩) (hq : P.fns[q]? = some ⟨2, 2, linkB, []⟩) (hi : P.fns[i]? = some ⟨3, 6, renB s q, [3]⟩) (hn : n ≤ 1000) (hl : l.length ≤ 100000) (rng : ∀ q ∈ l, 0 ≤ q.1 ∧ q.1 < q.2 ∧ q.2 < (n : Int))
    (k : ∀ (xs : List Int) (A' B' : Int), xs.Perm (cellsI n) → K (.tup [.int n, .lst .shr ((sortP (l.map (ren xs))).map prD)]) [some (src A' B'), some (.int n), some (.lst kd (l.map prD))]) : (run P (m + 3) i [src A B, .int n, .lst kd (l.map prD)]).out.sat K X := by
  rw [s_run hi rfl]
  unfold renB
  cases kd
  all_goals (
    walk_at "mc"
    refine shuf_s hf hs hn fun xs A B hp => ?_
    walk_at "mc"
    refine compP_m (g := prD) (ren xs) (by omega) (by walk_at "mv") (fun p hpm => ?_) ?_
    · obtain ⟨r1, r2, r3⟩ := rng p hpm
      obtain ⟨h1, e1⟩ := nm_get hp r1 (Int.lt_trans r2 r3)
      obtain ⟨h2, e2⟩ := nm_get hp (Int.le_trans r1 (Int.le_of_lt r2)) r3
      walk_at "mc"
      rw [optIx_some r1 h1]
      walk_at "mc"
      rw [optIx_some (by omega) h2]
      walk_at "mc"
      refine link_s hq ?_
      walk_at "mc"
      unfold ren
      rw [e1, e2]
    walk_at "mc"
    exact k xs A B hp)
end Mv

/-! the laws' webs: grown, round, trees, side by side -/
namespace Mv
open PySem
local macro_rules | `(tactic| walk_at "mv") => `(tactic| try simp only [pk_web, hasP_web, ow_web, objP_web, clean_web, frz_web, itm_web, rd_web, rd_web0, rd_web1, rd_web2, fld_web0, fld_web1, ow_src, pk_src, hasP_src, sat_ok, sat_exc, sat_bind, sat_of, optP_some, optP_none, optP_map, optP_bind, optP_ite, ifP_true, ifP_false, ifP_not, dec_beq, slot_zero, slot_succ, set_zero, set_succ, wpeek_v, peek_r, pk_non, pk_bl, pk_int, pk_str, pk_tup, pk_lst, pk_obj, stP_zero, stP_succ, asg_nm, asg_tp, asgs_nil, asgs_cons, kB_next, kB_brk, kB_cont, kB_ret, sB_nil, sB_cons, sS_pass, sS_brk, sS_cont, sS_expr, sS_asg, sS_par, sS_ret, sS_retV, kJ_next, kJ_ret, kJ_brk, kJ_cont, sS_raise, sS_try, sH_nil, sH_none, sH_some, clean_nil, clean_non, clean_int, clean_bl, clean_nn, clean_str, clean_tup, clean_lst, clean_obj, readP_rd, rd_non, rd_bl, rd_int, rd_str, rd_tup, rd_own, rd_shr, rd_giv, rd_obj, e_int, e_bl, e_str, e_non, e_var, e_bin, intP_int, blP_bl, e_neg, e_not, e_and1, e_or1, e_and, e_or, e_ite, e_cmp, e_tup, e_lst, pathP_some, pathP_none, hasP_non, hasP_bl, hasP_int, hasP_str, hasP_tup, hasP_lst, hasP_obj, e_idxv, e_idxi, e_idxa, e_idxc, e_idxm, e_idxl, e_attr, exnP_exn, e_what, e_call, e_callk, e_mk, e_mkk, objP_obj, e_meth, e_blt, lstP_lst, e_lmv, e_lmi, e_isi, t_int, t_bl, t_var, t_bin, t_not, t_and0, t_and, t_or0, t_or, t_ite, t_cmp, t_idx, t_attr, t_call, t_meth, t_blt, t_isi, tAnd_nil, tAnd_cons, tru_bl, tru_int, tru_non, tru_tup, tru_lst, c_one, c_two, a_var, a_int, a_bl, a_str, a_non, a_bin, a_neg, a_not, a_and, a_or, a_ite, a_cmp, a_tup, a_lst, a_idx, a_attr, a_what, a_call, a_callk, a_mk, a_mkk, a_meth, a_blt, a_lm, a_isi, a_comp, es_nil, es_cons, as_nil, as_cons, pA_nil, pA_cons, lend_nil, wlend_v, lend_r, ow_non, ow_bl, ow_int, ow_str, ow_tup, ow_own, ow_shr, ow_giv, ow_oown, ow_oshr, s_callA, madeP_some, xP_cons, bk_nil, bk_v, bk_r, parsOf_eq, retP_ret, retP_next, pgo_0, pgo_s, mapS_nil, mapS_cons, wnoOwn_map, noOwn_nil, add_i, sub_i, mul_i, div_i, mod_i, pow_i, add_ib, add_t, mul_l, add_s, lt_i, le_i, gt_i, ge_i, eq_d, ne_d, in_d, ni_d, is_non, is_int, is_tup, isn_non, isn_int, isn_tup, lt_p, eq_ii, eq_bb, eq_pr4, eq_tupI, eq_tupP, eq_lstI, eq_lstN, eq_tupN, eq_lstP, in_it, in_il, in_pt2, in_pl2, fits0, fits1, fits2, fits3, fits4, fits5, fits6, fits7, fits8, fits9, fits10, fits11, fits12, fits13, fits14, optIx_nat, optIx_0, optIx_1, optIx_2, optIx_last, optIx_map, item_l, item_t, itm_non, itm_bl, itm_int, itm_str, itm_tup, itm_pr, itm_tupI, itm_tupP, itm_shr, itm_obj, rd_tupp, rd_shrp, rd_givp, rd_objp, rd_ownp, getP_nil, getP_ixl, getP_ixt, getP_fl, path_var, path_idx, path_attr, evI_int, evI_var, evIv_int, evI_add, evI_sub, evI_neg, evI_idx, peekP_eq, b_lenl, b_lent, b_inti, b_intb, b_booli, b_boolb, b_tupl, b_tuplm, b_tupt, b_listl, b_listlm, b_listt, b_max, b_min, b_abs, b_suml, b_sumt, b_sorti, b_sortp, b_sortpt, b_all, b_any, ty_non, ty_bl, ty_int, ty_str, ty_tup, ty_lst, lm_app, lm_pop, lm_popi, lm_ext, lm_rev, frzs_rowO, upd_ix, sS_setIv, sS_setIp, oobjP_obj, sS_setA, sS_aug, aug_add, aug_sub, pr_nil, pr_v, pr_r, prS_own, prS_shr, prS_giv, prS_tup, prS_int, chks_nil, chks_v, chks_r, im_lst, im_lstm, im_tup, im_rng1, im_rng2, im_enmt, im_enml, im_enmlm, im_rev, im_zp, im_zptl, im_zplt, im_zpt, still_nil, still_one, still_two, okC_nil, sS_for, kL_next, kL_cont, kL_brk, kL_ret, forP_nil, forP_cons, forP_mn, forP_mc, e_comp, wipe_nil, wipe_cons, natD, eq_self, Option.bind_some, Option.bind_none, prD, wtupI, tupP, rowO, rowS, frzs_rowO, putF, idxOf, Option.map_none, Option.map_some, fld_cons, add_l, noOwn_cons, frzs_map', eq_prs, in_pt, in_pl, Kd.frz_own, Kd.frz_shr, Kd.frz_giv, D.frz_non, D.frz_bl, D.frz_int, D.frz_str, D.frz_tup, D.frz_lst, D.frz_obj, D.frzs_nil, D.frzs_cons, List.getElem?_cons_zero, List.getElem?_cons_succ, List.set_cons_zero, List.set_cons_succ, List.length_cons, List.length_nil, List.length_map, List.contains_cons, List.contains_nil, List.cons_append, List.nil_append, List.replicate_succ, List.replicate_zero, Int.toNat_natCast, fo_i1, fo_i2, fo_i3, fo_i4, fo_i5, fo_i6, fo_i7, fo_i8, fo_i9, fo_i10, fo_i11, fo_i12, fo_i13, fo_i14, fo_p1, fo_p2, fo_p3, fo_p4, fo_p5, fo_p6, fo_p7, fo_p8, fo_p9, fo_p10, fo_p11, fo_p12, fo_ai, fo_ap, fo_app, fo_mm, true_and, and_true, Nat.reduceSub, Nat.reduceAdd, Nat.reduceLT, Nat.reduceLeDiff, Nat.reduceEqDiff, Nat.reduceBEq, Int.reduceLT, Int.reduceLE, Int.reduceNeg, Int.reduceToNat, Bool.not_true, Bool.not_false, Bool.true_and, Bool.and_true, Bool.false_and, Bool.true_or, Bool.or_true, Bool.false_or, Bool.or_false, if_false, if_true, reduceIte, reduceCtorEq, decide_true, decide_false, Bool.false_eq_true, ↓reduceIte, beq_self_eq_true])
local macro_rules | `(tactic| walk_at "si") => `(tactic| first | assumption | (refine okC_i ?_; rfl) | (refine rng62_of ?_ ?_ <;> omega) | (refine rng63_of ?_ ?_ <;> omega) | omega | decide | rfl | (intros; rfl))
local macro_rules | `(tactic| walk_at "ms") => `(tactic| first | ((with_reducible refine And.intro ?mca ?mcb); (case mca => walk_at "si"); (walk_at "mv")) | ((with_reducible refine ifP_pos ?mca ?mcb); (case mca => first | assumption | omega); (walk_at "mv")) | ((with_reducible refine ifP_neg ?mca ?mcb); (case mca => first | assumption | omega); (walk_at "mv")) | fail "no step")
local macro_rules | `(tactic| walk_at "mi") => `(tactic| ((with_reducible refine sS_ifI ?_); (walk_at "mv")))
local macro_rules | `(tactic| walk_at "mn") => `(tactic| ((walk_at "mv"); repeat' (walk_at "ms")))
local macro_rules | `(tactic| walk_at "mc") => `(tactic| ((walk_at "mv"); repeat' (first | walk_at "ms" | walk_at "mi")))
variable {P : Pg} {X : Nat → D → En → Prop} {K : D → En → Prop}
def sqL : List (Int × Int) := [(0, 1), (0, 2), (1, 3), (2, 3)]
def foL : List (Int × Int) := [(0, 1), (0, 2), (0, 3), (1, 2), (1, 3), (2, 3)]
def prL : List (Int × Int) := [(0, 1), (0, 2), (0, 4), (1, 3), (1, 5), (2, 3), (2, 4), (3, 5), (4, 5)]
/-- webs grown by corners and bridges; two-sided or not -/
inductive Grow : Bool → Nat → List (Int × Int) → Prop
  | square : Grow true 4 sqL
  | fours : Grow false 4 foL
  | prism : Grow false 6 prL
  | corner {b : Bool} {n : Nat} {l : List (Int × Int)} {a x z : Int} : Grow b n l → x ∈ nbr l a → z ∈ nbr l a → x ≠ z → Grow b (n + 1) (sortP (l ++ [(x, (n : Int)), (z, (n : Int))]))
  | bridge {b : Bool} {n : Nat} {l : List (Int × Int)} {x y : Int} : Grow b n l → Brd l x y → Grow b n (sortP (l ++ [(min x y, max x y)]))
theorem adj_pl {l m : List (Int × Int)} (h : l.Perm m) (x : Int) : (adj l x).length = (adj m x).length := (h.flatMap_right _).length_eq
theorem deg2_of {n : Nat} {l : List (Int × Int)} (h : ∀ x : Nat, x < n → 2 ≤ (adj l (x : Int)).length) : Deg2 n l := fun x h0 h1 => by
  rw [nbr_len]
  have := h x.toNat (by omega)
  rwa [show ((x.toNat : Nat) : Int) = x by omega] at this
theorem Grow.ok {b : Bool} {n : Nat} {l : List (Int × Int)} (h : Grow b n l) : Gw n l ∧ Deg2 n l ∧ 4 ≤ n := by
  induction h with
  | square => exact ⟨⟨by decide, by decide, by decide⟩, deg2_of (by decide), by decide⟩
  | fours => exact ⟨⟨by decide, by decide, by decide⟩, deg2_of (by decide), by decide⟩
  | prism => exact ⟨⟨by decide, by decide, by decide⟩, deg2_of (by decide), by decide⟩
  | @corner b n l a x z g hx hz ne ih =>
    obtain ⟨gw, d2, n4⟩ := ih
    obtain ⟨x0, _, _, _⟩ := gw.nbr_rng hx
    obtain ⟨z0, _, _, _⟩ := gw.nbr_rng hz
    refine ⟨.sorted (by omega) (fun q hq => ?_) ?_, fun y h0 h1 => ?_, by omega⟩
    · rcases List.mem_append.mp hq with hq | hq
      · have := gw.rng q hq; omega
      · simp only [List.mem_cons, List.not_mem_nil, or_false] at hq
        rcases hq with rfl | rfl
        · simp only; omega
        · simp only; omega
    · refine List.nodup_append.mpr ⟨asc_nd gw.asc, ?_, fun p hp q hq e => ?_⟩
      · simp [ne]
      · have := gw.rng p hp
        simp only [List.mem_cons, List.not_mem_nil, or_false] at hq
        rcases hq with rfl | rfl
        · subst e; simp only at this; omega
        · subst e; simp only at this; omega
    · rw [nbr_len, adj_pl (sortP_perm _), adj_app, List.length_append]
      by_cases e : y < n
      · have := d2 y h0 e
        rw [nbr_len] at this
        omega
      · have e : y = n := by omega
        subst e
        have : (adj [(x, (n : Int)), (z, (n : Int))] n).length = 2 := by
          have a1 : x ≠ (n : Int) := by omega
          have a2 : z ≠ (n : Int) := by omega
          simp [adj, a1, a2]
        omega
  | @bridge b n l x y g br ih =>
    obtain ⟨gw, d2, n4⟩ := ih
    obtain ⟨u, v, hu, hv, hy, _, _⟩ := br.wk
    obtain ⟨_, x0, _, _⟩ := gw.nbr_rng hu
    obtain ⟨y0, _, _, _⟩ := gw.nbr_rng hy
    have ab := br.ab
    refine ⟨.sorted (by omega) (fun q hq => ?_) ?_, fun y h0 h1 => ?_, n4⟩
    · rcases List.mem_append.mp hq with hq | hq
      · exact gw.rng q hq
      · cases List.mem_singleton.mp hq
        simp only
        omega
    · exact List.nodup_append.mpr ⟨asc_nd gw.asc, by simp, fun p hp q hq e => by cases List.mem_singleton.mp hq; exact br.no (e ▸ hp)⟩
    · rw [nbr_len, adj_pl (sortP_perm _), adj_app, List.length_append]
      have := d2 y h0 h1
      rw [nbr_len] at this
      omega
/-- grown, and renamed -/
def StoW (b : Bool) (n : Nat) (l : List (Int × Int)) : Prop := ∃ (m : List (Int × Int)) (xs : List Int), Grow b n m ∧ xs.Perm (cellsI n) ∧ l = sortP (m.map (ren xs))
theorem StoW.gw {b : Bool} {n : Nat} {l : List (Int × Int)} (h : StoW b n l) : Gw n l := by
  obtain ⟨m, xs, g, p, rfl⟩ := h
  exact g.ok.1.ren p
def stoB (take corn brd rn : Nat) : List S := [(.asg (.nm 3) (.lst [(.tup [(.int (0)), (.int (1))]), (.tup [(.int (0)), (.int (2))]), (.tup [(.int (1)), (.int (3))]), (.tup [(.int (2)), (.int (3))])])), (.asg (.nm 4) (.lst [(.tup [(.int (0)), (.int (1))]), (.tup [(.int (0)), (.int (2))]), (.tup [(.int (0)), (.int (3))]), (.tup [(.int (1)), (.int (2))]), (.tup [(.int (1)), (.int (3))]), (.tup [(.int (2)), (.int (3))])])), (.asg (.nm 5) (.lst [(.tup [(.int (0)), (.int (1))]), (.tup [(.int (0)), (.int (2))]), (.tup [(.int (0)), (.int (4))]), (.tup [(.int (1)), (.int (3))]), (.tup [(.int (1)), (.int (5))]), (.tup [(.int (2)), (.int (3))]), (.tup [(.int (2)), (.int (4))]), (.tup [(.int (3)), (.int (5))]), (.tup [(.int (4)), (.int (5))])])), (.par [(.nm 7), (.nm 8)] [(.int (4)), (.var 3)]), (.ifS (.orE [(.cmp (.var 2) [.Eq] [(.int (2))]), (.andE [(.cmp (.var 2) [.Eq] [(.int (3))]), (.cmp (.call take [(.var 0), (.int (3))]) [.Eq] [(.int (0))])])]) [(.asg (.nm 8) (.var 4)), (.ifS (.andE [(.cmp (.var 1) [.GtE] [(.int (6))]), (.cmp (.call take [(.var 0), (.int (2))]) [.Eq] [(.int (0))])]) [(.par [(.nm 7), (.nm 8)] [(.int (6)), (.var 5)])] [])] []), (.forS (.nm 6) .rng [(.call take [(.var 0), (.var 1)])] [(.ifS (.andE [(.cmp (.var 7) [.Lt] [(.var 1)]), (.cmp (.call take [(.var 0), (.int (3))]) [.Lt] [(.int (2))])]) [(.asg (.tp [(.nm 7), (.nm 8)]) (.call corn [(.var 0), (.var 7), (.var 8)]))] [(.asg (.tp [(.nm 7), (.nm 8)]) (.call brd [(.var 0), (.var 7), (.var 8)]))])]), (.ret (.call rn [(.var 0), (.var 7), (.var 8)]))]
theorem sto_s {i t o g q s c d e m : Nat} {A B M kk : Int} (hf : P.fns[t]? = some ⟨2, 3, takeB, [2]⟩) (ho : P.fns[o]? = some ⟨2, 2, oneBody t, []⟩) (hg : P.fns[g]? = some ⟨2, 4, nearLB, []⟩) (hq : P.fns[q]? = some ⟨2, 2, linkB, []⟩) (hs : P.fns[s]? = some ⟨2, 6, shufB t, [3, 4, 2]⟩)
    (hc : P.fns[c]? = some ⟨3, 6, cornB g t, [3, 4, 5]⟩) (hd : P.fns[d]? = some ⟨3, 7, brdB g t o q, [3, 4, 5, 6]⟩) (he : P.fns[e]? = some ⟨3, 6, renB s q, [3]⟩) (hi : P.fns[i]? = some ⟨3, 9, stoB t c d e, [3, 4, 5, 7, 8, 6]⟩) (M4 : 4 ≤ M) (M40 : M ≤ 40)
    (k : ∀ (b : Bool) (n : Nat) (l : List (Int × Int)) (A' B' : Int), StoW b n l → (n : Int) ≤ M → l.length ≤ 89 → (kk = 1 → b = true) → (kk = 2 → b = false) → K (.tup [.int n, .lst .shr (l.map prD)]) [some (src A' B'), some (.int M), some (.int kk)]) : (run P (m + 4) i [src A B, .int M, .int kk]).out.sat K X := by
  rw [s_run hi rfl]
  unfold stoB
  walk_at "mn"
  refine sS_ifJ (fun r => ∃ A B b n l z3 z4 z5, Grow b n l ∧ (n : Int) ≤ M ∧ l.length ≤ 9 ∧ (kk = 1 → b = true) ∧ (kk = 2 → b = false) ∧ r = [some (src A B), some (.int M), some (.int kk), z3, z4, z5, none, some (.int (n : Int)), some (.lst .shr (l.map prD))]) ?_ ?_
  · walk_at "mc"
    refine ifP_D (fun h2 => ?_) fun h2 => ?_ <;> walk_at "mc"
    · refine ifP_D (fun h6 => ?_) fun h6 => ?_ <;> walk_at "mc"
      · refine take_s hf (by decide) (by decide +kernel) fun y A B _ _ => ?_
        walk_at "mc"
        refine ifP_D (fun _ => ?_) fun _ => ?_ <;> walk_at "mc"
        · exact ⟨A, B, false, 6, prL, _, _, _, .prism, by omega, by decide, by omega, fun _ => rfl, rfl⟩
        · exact ⟨A, B, false, 4, foL, _, _, _, .fours, by omega, by decide, by omega, fun _ => rfl, rfl⟩
      · exact ⟨_, _, false, 4, foL, _, _, _, .fours, by omega, by decide, by omega, fun _ => rfl, rfl⟩
    refine ifP_D (fun h3 => ?_) fun h3 => ?_ <;> walk_at "mc"
    · refine take_s hf (by decide) (by decide +kernel) fun y A B _ _ => ?_
      walk_at "mc"
      refine ifP_D (fun _ => ?_) fun _ => ?_ <;> walk_at "mc"
      · refine ifP_D (fun h6 => ?_) fun h6 => ?_ <;> walk_at "mc"
        · refine take_s hf (by decide) (by decide +kernel) fun y A B _ _ => ?_
          walk_at "mc"
          refine ifP_D (fun _ => ?_) fun _ => ?_ <;> walk_at "mc"
          · exact ⟨A, B, false, 6, prL, _, _, _, .prism, by omega, by decide, by omega, fun _ => rfl, rfl⟩
          · exact ⟨A, B, false, 4, foL, _, _, _, .fours, by omega, by decide, by omega, fun _ => rfl, rfl⟩
        · exact ⟨_, _, false, 4, foL, _, _, _, .fours, by omega, by decide, by omega, fun _ => rfl, rfl⟩
      · exact ⟨_, _, true, 4, sqL, _, _, _, .square, by omega, by decide, fun _ => rfl, fun z => absurd z h2, rfl⟩
    · exact ⟨_, _, true, 4, sqL, _, _, _, .square, by omega, by decide, fun _ => rfl, fun z => absurd z h2, rfl⟩
  · rintro _ ⟨A, B, b, n, l, z3, z4, z5, gr, nM, len, k1, k2, rfl⟩
    walk_at "mn"
    refine take_s hf (by omega) (big8 (by omega)) fun y A B y0 y1 => ?_
    walk_at "mn"
    refine forP_nat (fun i r => ∃ A B n l z6, Grow b n l ∧ (n : Int) ≤ M ∧ l.length ≤ 9 + 2 * i ∧ r = [some (src A B), some (.int M), some (.int kk), z3, z4, z5, z6, some (.int (n : Int)), some (.lst .shr (l.map prD))]) ⟨A, B, n, l, none, gr, nM, len, rfl⟩ ?_ ?_ ?_
    · rintro i r _ ⟨A, B, n, l, z6, _, _, _, rfl⟩; walk_at "mv"
    · rintro i hi _ ⟨A, B, n, l, z6, gr, nM, len, rfl⟩
      obtain ⟨gw, d2, n4⟩ := gr.ok
      have bridge : ∀ A B : Int, (run P (m + 3) d [src A B, .int (n : Int), .lst .shr (l.map prD)]).out.sat (fun v ps => ∃ A B l', Grow b n l' ∧ l'.length ≤ 9 + 2 * (i + 1) ∧ v = .tup [.int (n : Int), .lst .shr (l'.map prD)] ∧ ps = [some (src A B), some (.int (n : Int)), some (.lst .shr (l.map prD))]) noX := fun A B => by
        refine brd_s (n := n) hf ho hg hq hd gw (by omega) (by omega) d2 (fun A B => ?_) fun x y A B br => ?_
        · exact ⟨A, B, l, gr, by omega, rfl, rfl⟩
        · exact ⟨A, B, _, .bridge gr br, by rw [len_sortP, List.length_append, List.length_singleton]; omega, rfl, rfl⟩
      walk_at "mc"
      refine ifP_D (fun h1 => ?_) fun h1 => ?_ <;> walk_at "mc"
      · refine take_s hf (by decide) (by decide +kernel) fun y A B _ _ => ?_
        walk_at "mc"
        refine ifP_D (fun _ => ?_) fun _ => ?_ <;> walk_at "mc"
        · refine corn_s (n := n) hf hg hc gw (by omega) (by omega) d2 fun a x z A B hx hz ne => ?_
          walk_at "mc"
          exact ⟨A, B, n + 1, _, _, .corner gr hx hz ne, by omega, by rw [len_sortP, List.length_append]; simp only [List.length_cons, List.length_nil]; omega, rfl⟩
        · refine (bridge A B).mono (fun v ps z => ?_) fun c w r z => ?_
          · obtain ⟨A, B, l', g, len', rfl, rfl⟩ := z
            walk_at "mc"
            exact ⟨A, B, n, l', _, g, nM, len', rfl⟩
          · exact z.elim
      · refine (bridge A B).mono (fun v ps z => ?_) fun c w r z => ?_
        · obtain ⟨A, B, l', g, len', rfl, rfl⟩ := z
          walk_at "mc"
          exact ⟨A, B, n, l', _, g, nM, len', rfl⟩
        · exact z.elim
    · rintro _ ⟨A, B, n, l, z6, gr, nM, len, rfl⟩
      obtain ⟨gw, d2, n4⟩ := gr.ok
      walk_at "mc"
      refine ren_s (n := n) hf hs hq he (by omega) (by omega) gw.rng fun xs A B hp => ?_
      walk_at "mc"
      exact k b n _ A B ⟨l, xs, gr, hp, rfl⟩ nM (by rw [len_sortP, List.length_map]; omega) k1 k2
/-! rounds -/
def ringL (n : Nat) : List (Int × Int) := ((List.range (n - 1)).map fun (k : Nat) => ((k : Int), (k : Int) + 1)) ++ [(0, (n : Int) - 1)]
theorem ringL_rng {n : Nat} (h : 3 ≤ n) : ∀ q ∈ ringL n, 0 ≤ q.1 ∧ q.1 < q.2 ∧ q.2 < (n : Int) := fun q hq => by
  rcases List.mem_append.mp hq with hq | hq
  · obtain ⟨k, hk, rfl⟩ := List.mem_map.mp hq
    have := List.mem_range.mp hk
    simp only; omega
  · cases List.mem_singleton.mp hq
    simp only; omega
theorem ringL_nd {n : Nat} (h : 3 ≤ n) : (ringL n).Nodup := by
  refine List.nodup_append.mpr ⟨List.pairwise_map.mpr (List.nodup_range.imp fun ne e => ?_), by simp, fun p hp q hq e => ?_⟩
  · simp only [Prod.mk.injEq] at e; omega
  · obtain ⟨k, hk, rfl⟩ := List.mem_map.mp hp
    have := List.mem_range.mp hk
    cases List.mem_singleton.mp hq
    simp only [Prod.mk.injEq] at e; omega
theorem ringL_len {n : Nat} : (ringL n).length = n - 1 + 1 := by simp [ringL]
/-- a list without an order, renamed and put in order -/
theorem Gw.renU {n : Nat} {l : List (Int × Int)} {xs : List Int} (n1 : 1 ≤ n) (rng : ∀ q ∈ l, 0 ≤ q.1 ∧ q.1 < q.2 ∧ q.2 < (n : Int)) (nd : l.Nodup) (h : xs.Perm (cellsI n)) : Gw n (sortP (l.map (Mv.ren xs))) := by
  have g := (Gw.sorted (n := n) (by omega) rng nd).ren h
  have e : sortP ((sortP l).map (Mv.ren xs)) = sortP (l.map (Mv.ren xs)) := by
    refine sortP_of ?_ g.asc
    exact (sortP_perm _).trans ((sortP_perm l).map _)
  rw [e] at g
  exact g
def RndW (n : Nat) (l : List (Int × Int)) : Prop := ∃ xs : List Int, xs.Perm (cellsI n) ∧ l = sortP ((ringL n).map (ren xs))
theorem RndW.gw {n : Nat} {l : List (Int × Int)} (h3 : 3 ≤ n) (h : RndW n l) : Gw n l := by
  obtain ⟨xs, p, rfl⟩ := h
  exact .renU (by omega) (ringL_rng h3) (ringL_nd h3) p
theorem RndW.len {n : Nat} {l : List (Int × Int)} (h3 : 3 ≤ n) (h : RndW n l) : l.length = n := by
  obtain ⟨xs, p, rfl⟩ := h
  rw [len_sortP, List.length_map, ringL_len]; omega
def rndB (rn : Nat) : List S := [(.ret (.call rn [(.var 0), (.var 1), (.bin .Add (.comp (.tup [(.var 2), (.bin .Add (.var 2) (.int (1)))]) (.nm 2) .rng [(.bin .Sub (.var 1) (.int (1)))] [] [2]) (.lst [(.tup [(.int (0)), (.bin .Sub (.var 1) (.int (1)))])]))]))]
theorem rnd_s {i t q s e m n : Nat} {A B : Int} (hf : P.fns[t]? = some ⟨2, 3, takeB, [2]⟩) (hq : P.fns[q]? = some ⟨2, 2, linkB, []⟩) (hs : P.fns[s]? = some ⟨2, 6, shufB t, [3, 4, 2]⟩) (he : P.fns[e]? = some ⟨3, 6, renB s q, [3]⟩) (hi : P.fns[i]? = some ⟨2, 3, rndB e, []⟩) (h3 : 3 ≤ n) (hn : n ≤ 100)
    (k : ∀ (l : List (Int × Int)) (A' B' : Int), RndW n l → K (.tup [.int n, .lst .shr (l.map prD)]) [some (src A' B'), some (.int n)]) : (run P (m + 4) i [src A B, .int n]).out.sat K X := by
  rw [s_run hi rfl]
  unfold rndB
  walk_at "mc"
  refine compP_m (g := prD) (fun k : Nat => ((k : Int), (k : Int) + 1)) (by rw [List.length_range]; omega) (by walk_at "mv") (fun x _ => ?_) ?_
  · walk_at "mc"
  have c1 : ((n : Int) - 1).toNat = n - 1 := by omega
  rw [c1]
  walk_at "mc"
  refine ⟨by simp only [List.length_range]; omega, ?_⟩
  walk_at "mc"
  refine ren_s (l := ringL n) hf hs hq he (by omega) (by rw [ringL_len]; omega) (ringL_rng h3) fun xs A B hp => ?_
  walk_at "mc"
  exact k _ A B ⟨xs, hp, rfl⟩
/-! trees -/
/-- each cell but 0 has one link down -/
inductive TreL : Nat → List (Int × Int) → Prop
  | one : TreL 1 []
  | more {n : Nat} {l : List (Int × Int)} {p : Int} : TreL n l → 0 ≤ p → p < n → TreL (n + 1) (l ++ [(p, (n : Int))])
theorem TreL.ok {n : Nat} {l : List (Int × Int)} (h : TreL n l) : 1 ≤ n ∧ (∀ q ∈ l, 0 ≤ q.1 ∧ q.1 < q.2 ∧ q.2 < (n : Int)) ∧ l.Nodup ∧ l.length = n - 1 := by
  induction h with
  | one => exact ⟨by decide, by simp, by simp, rfl⟩
  | @more n l p g h0 h1 ih =>
    obtain ⟨n1, rng, nd, len⟩ := ih
    refine ⟨by omega, fun q hq => ?_, ?_, by rw [List.length_append, len, List.length_singleton]; omega⟩
    · rcases List.mem_append.mp hq with hq | hq
      · have := rng q hq; omega
      · cases List.mem_singleton.mp hq; simp only; omega
    · refine List.nodup_append.mpr ⟨nd, by simp, fun a ha b hb e => ?_⟩
      cases List.mem_singleton.mp hb
      have := rng a ha
      subst e
      simp only at this; omega
def TreW (n : Nat) (l : List (Int × Int)) : Prop := ∃ (m : List (Int × Int)) (xs : List Int), TreL n m ∧ xs.Perm (cellsI n) ∧ l = sortP ((sortP m).map (ren xs))
theorem TreW.gw {n : Nat} {l : List (Int × Int)} (h : TreW n l) : Gw n l := by
  obtain ⟨m, xs, t, p, rfl⟩ := h
  obtain ⟨n1, rng, nd, _⟩ := t.ok
  exact (Gw.sorted (by omega) rng nd).ren p
theorem TreW.len {n : Nat} {l : List (Int × Int)} (h : TreW n l) : l.length = n - 1 ∧ 1 ≤ n := by
  obtain ⟨m, xs, t, p, rfl⟩ := h
  exact ⟨by rw [len_sortP, List.length_map, len_sortP]; exact t.ok.2.2.2, t.ok.1⟩
def treB (one take rn : Nat) : List S := [(.asg (.nm 2) (.lst [])), (.forS (.nm 3) .rng [(.int (1)), (.var 1)] [(.expr (.lm .append (.var 2) [(.tup [(.call one [(.var 0), (.lst [(.bin .Sub (.var 3) (.int (1))), (.call take [(.var 0), (.var 3)])])]), (.var 3)])]))]), (.ret (.call rn [(.var 0), (.var 1), (.blt .sorted [(.var 2)])]))]
theorem tre_s {i t o q s e m n : Nat} {A B : Int} (hf : P.fns[t]? = some ⟨2, 3, takeB, [2]⟩) (ho : P.fns[o]? = some ⟨2, 2, oneBody t, []⟩) (hq : P.fns[q]? = some ⟨2, 2, linkB, []⟩) (hs : P.fns[s]? = some ⟨2, 6, shufB t, [3, 4, 2]⟩) (he : P.fns[e]? = some ⟨3, 6, renB s q, [3]⟩) (hi : P.fns[i]? = some ⟨2, 4, treB o t e, [2, 3]⟩) (n1 : 1 ≤ n) (hn : n ≤ 100)
    (k : ∀ (l : List (Int × Int)) (A' B' : Int), TreW n l → K (.tup [.int n, .lst .shr (l.map prD)]) [some (src A' B'), some (.int n)]) : (run P (m + 4) i [src A B, .int n]).out.sat K X := by
  rw [s_run hi rfl]
  unfold treB
  walk_at "mc"
  refine forP_rngD (fun i r => ∃ A B l z3, TreL (i + 1) l ∧ r = [some (src A B), some (.int n), some (.lst .own (l.map prD)), z3]) ⟨A, B, [], none, .one, rfl⟩ ?_ ?_ ?_
  · rintro i r _ ⟨A, B, l, z3, _, rfl⟩; walk_at "mv"
  · rintro i hi _ ⟨A, B, l, z3, tl, rfl⟩
    have len := tl.ok.2.2.2
    walk_at "mc"
    refine take_s hf (by omega) (big8 (by omega)) fun x A B x0 x1 => ?_
    walk_at "mc"
    refine one_s (g := D.int) hf ho (by simp) (by simp) fun p A B hp => ?_
    have hp : 0 ≤ p ∧ p < 1 + (i : Int) := by
      simp only [List.mem_cons, List.not_mem_nil, or_false] at hp
      rcases hp with rfl | rfl <;> omega
    walk_at "mc"
    have e : 1 + (i : Int) = ((i + 1 : Nat) : Int) := by omega
    rw [e]
    exact ⟨A, B, _, _, .more tl hp.1 (by omega), rfl⟩
  · rintro _ ⟨A, B, l, z3, tl, rfl⟩
    have e : ((n : Int) - 1).toNat + 1 = n := by omega
    rw [e] at tl
    obtain ⟨_, rng, nd, len⟩ := tl.ok
    walk_at "mc"
    refine ren_s (n := n) hf hs hq he (by omega) (by rw [len_sortP]; omega) (fun q hq => rng q (mem_sortP.mp hq)) fun xs A B hp => ?_
    walk_at "mc"
    exact k _ A B ⟨l, xs, tl, hp, rfl⟩
/-! side by side -/
def besL (n : Nat) (l m : List (Int × Int)) : List (Int × Int) := l ++ m.map fun q => (q.1 + (n : Int), q.2 + (n : Int))
theorem besL_ok {n k : Nat} {l m : List (Int × Int)} (g : Gw n l) (h : Gw k m) : Gw ((n + k : Nat) : Int) (besL n l m) := by
  have a := g.n1
  have b := h.n1
  refine ⟨by omega, fun q hq => ?_, List.pairwise_append.mpr ⟨g.asc, List.pairwise_map.mpr (h.asc.imp fun z => ?_), fun p hp q hq => ?_⟩⟩
  · rcases List.mem_append.mp hq with hq | hq
    · have := g.rng q hq; omega
    · obtain ⟨p, hp, rfl⟩ := List.mem_map.mp hq
      have := h.rng p hp
      simp only; omega
  · unfold ltP at z ⊢; simp only; omega
  · obtain ⟨r, hr, rfl⟩ := List.mem_map.mp hq
    have := g.rng p hp
    have := h.rng r hr
    unfold ltP; simp only; omega
def BesW (n k : Nat) (l m w : List (Int × Int)) : Prop := ∃ xs : List Int, xs.Perm (cellsI (n + k)) ∧ w = sortP ((besL n l m).map (ren xs))
theorem BesW.gw {n k : Nat} {l m w : List (Int × Int)} (g : Gw n l) (h : Gw k m) (b : BesW n k l m w) : Gw ((n + k : Nat) : Int) w := by
  obtain ⟨xs, p, rfl⟩ := b
  exact (besL_ok g h).ren p
theorem BesW.len {n k : Nat} {l m w : List (Int × Int)} (b : BesW n k l m w) : w.length = l.length + m.length := by
  obtain ⟨xs, p, rfl⟩ := b
  rw [len_sortP, List.length_map, besL, List.length_append, List.length_map]
def besB (rn : Nat) : List S := [(.asg (.nm 3) (.bin .Add (.idx (.var 1) (.int (1))) (.comp (.tup [(.bin .Add (.var 4) (.idx (.var 1) (.int (0)))), (.bin .Add (.var 5) (.idx (.var 1) (.int (0))))]) (.tp [(.nm 4), (.nm 5)]) .val [(.idx (.var 2) (.int (1)))] [] [4, 5]))), (.ret (.call rn [(.var 0), (.bin .Add (.idx (.var 1) (.int (0))) (.idx (.var 2) (.int (0)))), (.var 3)]))]
theorem bes_s {i t q s e m n c : Nat} {A B : Int} {l u : List (Int × Int)} (hf : P.fns[t]? = some ⟨2, 3, takeB, [2]⟩) (hq : P.fns[q]? = some ⟨2, 2, linkB, []⟩) (hs : P.fns[s]? = some ⟨2, 6, shufB t, [3, 4, 2]⟩) (he : P.fns[e]? = some ⟨3, 6, renB s q, [3]⟩) (hi : P.fns[i]? = some ⟨3, 6, besB e, [3]⟩) (g : Gw n l) (h : Gw c u) (hn : n + c ≤ 100) (hl : l.length + u.length ≤ 1000)
    (k : ∀ (w : List (Int × Int)) (A' B' : Int), BesW n c l u w → K (.tup [.int ((n + c : Nat) : Int), .lst .shr (w.map prD)]) [some (src A' B'), some (.tup [.int n, .lst .shr (l.map prD)]), some (.tup [.int c, .lst .shr (u.map prD)])]) :
    (run P (m + 4) i [src A B, .tup [.int n, .lst .shr (l.map prD)], .tup [.int c, .lst .shr (u.map prD)]]).out.sat K X := by
  rw [s_run hi rfl]
  unfold besB
  walk_at "mc"
  refine compP_m (g := prD) (fun q => (q.1 + (n : Int), q.2 + (n : Int))) (by omega) (by walk_at "mv") (fun x _ => ?_) ?_
  · walk_at "mc"
  walk_at "mc"
  refine ren_s (n := n + c) (l := besL n l u) hf hs hq he (by omega) (by rw [besL, List.length_append, List.length_map]; omega) (besL_ok g h).rng fun xs A B hp => ?_
  walk_at "mc"
  exact k _ A B ⟨xs, hp, rfl⟩
end Mv

/-! rows of numbers, one for each cell -/
namespace Mv
open PySem
variable {P : Pg} {F : Nat → List D → FOut} {X : Nat → D → En → Prop} {r : En}
def tb (n : Nat) (f : Int → Int) : List Int := (cellsI n).map f
def tbI (n : Nat) (f : Int → Int) : List D := (tb n f).map D.int
def upF (f : Int → Int) (x v : Int) : Int → Int := fun y => if y = x then v else f y
theorem upF_same {f : Int → Int} {x v : Int} : upF f x v x = v := if_pos rfl
theorem upF_ne {f : Int → Int} {x y v : Int} (h : y ≠ x) : upF f x v y = f y := if_neg h
theorem tb_len {n : Nat} {f : Int → Int} : (tb n f).length = n := by unfold tb; rw [List.length_map, cellsI_len]
theorem tbI_len {n : Nat} {f : Int → Int} : (tbI n f).length = n := by unfold tbI; rw [List.length_map, tb_len]
theorem tb_get {n : Nat} {f : Int → Int} {i : Nat} (h : i < (tb n f).length) : (tb n f)[i] = f i := by simp [tb, cellsI]
theorem tb_ix {n : Nat} {f : Int → Int} {x : Int} (h0 : 0 ≤ x) (h1 : x < n) : optIx (tb n f) x = some (f x) := by
  have h : x.toNat < (tb n f).length := by rw [tb_len]; omega
  rw [optIx_some h0 h, tb_get, show ((x.toNat : Nat) : Int) = x by omega]
theorem tb_set {n : Nat} {f : Int → Int} {x v : Int} (h0 : 0 ≤ x) (h1 : x < n) : (tb n f).set x.toNat v = tb n (upF f x v) := by
  refine List.ext_getElem (by rw [List.length_set, tb_len, tb_len]) fun i a b => ?_
  rw [List.getElem_set, tb_get b]
  unfold upF
  by_cases e : x.toNat = i
  · rw [if_pos e, if_pos (by omega)]
  · rw [if_neg e, if_neg (by omega), tb_get]
theorem tb_mem {n : Nat} {f : Int → Int} {v : Int} : v ∈ tb n f ↔ ∃ x, 0 ≤ x ∧ x < (n : Int) ∧ f x = v := by
  unfold tb
  rw [List.mem_map]
  exact ⟨fun ⟨x, h, e⟩ => ⟨x, (mem_cellsI.mp h).1, (mem_cellsI.mp h).2, e⟩, fun ⟨x, h0, h1, e⟩ => ⟨x, mem_cellsI.mpr ⟨h0, h1⟩, e⟩⟩
theorem tb_congr {n : Nat} {f g : Int → Int} (h : ∀ x, 0 ≤ x → x < (n : Int) → f x = g x) : tb n f = tb n g := by
  unfold tb
  exact List.map_congr_left fun x hx => h x (mem_cellsI.mp hx).1 (mem_cellsI.mp hx).2
theorem rep_tb {n : Nat} {v : Int} : (List.replicate n (List.map D.int [v])).flatten = tbI n fun _ => v := by
  rw [show List.map D.int [v] = [D.int v] from rfl, rep_flat]
  unfold tbI tb
  rw [List.map_map]
  refine List.ext_getElem (by simp [cellsI_len]) fun i a b => by simp
theorem noOwn_tb {n : Nat} {f : Int → Int} : noOwn (tbI n f) = true := wnoOwn_map _
theorem frzs_tb {n : Nat} {f : Int → Int} : D.frzs (tbI n f) = tbI n f := frzs_map' _
theorem rd_tb {n : Nat} {f : Int → Int} {kd : Kd} {i : Nat} {x : Int} {Q : D → En → Prop} (h0 : 0 ≤ x) (h1 : x < n) (q : Q (.int (f x)) r) : (rdS (some (.lst kd (tbI n f))) r i [.ix x]).sat Q X := by
  cases kd with
  | own => unfold tbI; rw [rd_ownp, tb_ix h0 h1]; exact q
  | shr => rw [rd_shrp, getP_ixl, show optIx (tbI n f) x = some (.int (f x)) from by unfold tbI; rw [optIx_map, tb_ix h0 h1]; rfl]; exact q
  | giv => rw [rd_givp, getP_ixl, show optIx (tbI n f) x = some (.int (f x)) from by unfold tbI; rw [optIx_map, tb_ix h0 h1]; rfl]; exact q
theorem rd_tbt {n : Nat} {f : Int → Int} {i : Nat} {x : Int} {Q : D → En → Prop} (h0 : 0 ≤ x) (h1 : x < n) (q : Q (.int (f x)) r) : (rdS (some (.tup (tbI n f))) r i [.ix x]).sat Q X := by
  rw [rd_tupp, getP_ixt, show optIx (tbI n f) x = some (.int (f x)) from by unfold tbI; rw [optIx_map, tb_ix h0 h1]; rfl]; exact q
theorem it_tb {n : Nat} {f : Int → Int} {x : Int} {K : D → Prop} (h0 : 0 ≤ x) (h1 : x < n) (q : K (.int (f x))) : optP (optIx (tbI n f) x) K := by
  rw [show optIx (tbI n f) x = some (.int (f x)) from by unfold tbI; rw [optIx_map, tb_ix h0 h1]; rfl]; exact q
theorem up_tb {n : Nat} {f : Int → Int} {x v : Int} {K : D → Prop} (h0 : 0 ≤ x) (h1 : x < n) (q : K (.lst .own (tbI n (upF f x v)))) : optP (updP (fun _ => some (.int v)) (.lst .own (tbI n f)) [.ix x]) K := by
  unfold tbI
  rw [upd_ix]
  refine ixN_P h0 (by rw [tb_len]; omega) ⟨by rw [tb_len]; omega, ?_⟩
  rw [tb_set h0 h1]; exact q
theorem in_tb {n : Nat} {f : Int → Int} {kd : Kd} {v : Int} {K : Bool → Prop} : optP (inD (.int v) (.lst kd (tbI n f))) K = K (decide (v ∈ tb n f)) := in_il
theorem eq_tb {n m : Nat} {f g : Int → Int} {kd ld : Kd} {K : Bool → Prop} : optP (eqD (.lst kd (tbI n f)) (.lst ld (tbI m g))) K = K (decide (tb n f = tb m g)) := eq_lstI
/-- walks -/
inductive Wk (l : List (Int × Int)) (x : Int) : Nat → Int → Prop
  | nil : Wk l x 0 x
  | snoc {k : Nat} {y z : Int} : Wk l x k y → z ∈ nbr l y → Wk l x (k + 1) z
/-- the row of the least numbers of links -/
structure Dst (l : List (Int × Int)) (n : Nat) (x : Int) (t : Int → Int) : Prop where
  low : ∀ y, 0 ≤ y → y < (n : Int) → t y = -1 ∨ ∃ k : Nat, t y = (k : Int) ∧ Wk l x k y
  up : ∀ y k, Wk l x k y → 0 ≤ y → y < (n : Int) → 0 ≤ t y ∧ t y ≤ (k : Int)
theorem Dst.uniq {l : List (Int × Int)} {n : Nat} {x : Int} {t u : Int → Int} (a : Dst l n x t) (b : Dst l n x u) {y : Int} (h0 : 0 ≤ y) (h1 : y < (n : Int)) : t y = u y := by
  rcases a.low y h0 h1 with e | ⟨k, e, w⟩
  · rcases b.low y h0 h1 with e2 | ⟨j, e2, w2⟩
    · rw [e, e2]
    · have := (a.up y j w2 h0 h1).1; omega
  · rcases b.low y h0 h1 with e2 | ⟨j, e2, w2⟩
    · have := (b.up y k w h0 h1).1; omega
    · have p := (a.up y j w2 h0 h1).2
      have q := (b.up y k w h0 h1).2
      omega
theorem Wk.rng {l : List (Int × Int)} {n : Int} {x y : Int} {k : Nat} (g : Gw n l) (h0 : 0 ≤ x) (h1 : x < n) (w : Wk l x k y) : 0 ≤ y ∧ y < n := by
  induction w with
  | nil => exact ⟨h0, h1⟩
  | snoc _ h _ => exact (g.nbr_rng h).1
theorem Wk.cons {l : List (Int × Int)} {x y z : Int} {k : Nat} (h : y ∈ nbr l x) (w : Wk l y k z) : Wk l x (k + 1) z := by
  induction w with
  | nil => exact .snoc .nil h
  | snoc _ h2 ih => exact .snoc ih h2
theorem Wk.rev {l : List (Int × Int)} {x y : Int} {k : Nat} (w : Wk l x k y) : Wk l y k x := by
  induction w with
  | nil => exact .nil
  | snoc _ h ih => exact .cons (nbr_sym.mp h) ih
theorem Dst.sym {l : List (Int × Int)} {n : Nat} {x y : Int} {t u : Int → Int} (a : Dst l n x t) (b : Dst l n y u) (x0 : 0 ≤ x) (x1 : x < (n : Int)) (y0 : 0 ≤ y) (y1 : y < (n : Int)) : t y = u x := by
  rcases a.low y y0 y1 with e | ⟨k, e, w⟩
  · rcases b.low x x0 x1 with e2 | ⟨j, e2, w2⟩
    · rw [e, e2]
    · have := (a.up y j w2.rev y0 y1).1; omega
  · have q := b.up x k w.rev x0 x1
    rcases b.low x x0 x1 with e2 | ⟨j, e2, w2⟩
    · omega
    · have p := (a.up y j w2.rev y0 y1).2
      omega
/-! breadth first -/
/-- between two turns of the queue: `at` cells are done -/
structure Bfs (l : List (Int × Int)) (n : Nat) (x : Int) (t : Int → Int) (q : List Int) (a : Nat) : Prop where
  nd : q.Nodup
  le : a ≤ q.length
  inq : ∀ y, 0 ≤ y → y < (n : Int) → (y ∈ q ↔ t y ≠ -1)
  rng : ∀ y ∈ q, 0 ≤ y ∧ y < (n : Int)
  wk : ∀ y ∈ q, ∃ k : Nat, t y = (k : Int) ∧ Wk l x k y
  mono : q.Pairwise fun y z => t y ≤ t z
  near : ∀ (i : Nat) (hi : i < q.length), a ≤ i → ∀ y ∈ q, t y ≤ t q[i] + 1
  done : ∀ (i : Nat) (hi : i < q.length), i < a → ∀ z ∈ nbr l q[i], z ∈ q ∧ t z ≤ t q[i] + 1
  x0 : x ∈ q ∧ t x = 0
end Mv

/-! the least numbers of links, by a queue and by rounds -/
namespace Mv
open PySem
variable {l : List (Int × Int)} {n : Nat} {x : Int} {t : Int → Int} {q : List Int} {a : Nat}
theorem Bfs.start (x0 : 0 ≤ x) (x1 : x < (n : Int)) : Bfs l n x (upF (fun _ => -1) x 0) [x] 0 where
  nd := by simp
  le := by simp
  inq y y0 y1 := by
    unfold upF
    by_cases e : y = x
    · simp [e]
    · simp [e]
  rng y hy := by cases List.mem_singleton.mp hy; exact ⟨x0, x1⟩
  wk y hy := by cases List.mem_singleton.mp hy; exact ⟨0, upF_same, .nil⟩
  mono := by simp
  near i hi _ y hy := by
    cases List.mem_singleton.mp hy
    have : i = 0 := by simpa using hi
    subst this
    simp
    omega
  done i _ h := by omega
  x0 := ⟨by simp, upF_same⟩
theorem nd_len {q : List Int} (nd : q.Nodup) (rng : ∀ y ∈ q, 0 ≤ y ∧ y < (n : Int)) : q.length ≤ n := by
  have := nd.length_le_of_subset (l₂ := cellsI n) fun y hy => mem_cellsI.mpr (rng y hy)
  rw [cellsI_len] at this; exact this
theorem Bfs.new (b : Bfs l n x t q a) (ha : a < q.length) {o : Int} (ho : o ∈ nbr l q[a]) (g : Gw n l) (h : t o = -1) : Bfs l n x (upF t o (t q[a] + 1)) (q ++ [o]) a := by
  have orng := (g.nbr_rng ho).1
  have oq : o ∉ q := fun m => (b.inq o orng.1 orng.2).mp m h
  have keep : ∀ y ∈ q, upF t o (t q[a] + 1) y = t y := fun y hy => upF_ne fun e => oq (e ▸ hy)
  obtain ⟨k, tk, wk⟩ := b.wk q[a] (List.getElem_mem ha)
  have gt : ∀ (i : Nat) (hi : i < (q ++ [o]).length), i < q.length → ∃ hi : i < q.length, (q ++ [o])[i] = q[i] := fun i hi h => ⟨h, List.getElem_append_left h⟩
  constructor
  · rw [List.nodup_append]
    exact ⟨b.nd, by simp, fun y hy z hz e => by cases List.mem_singleton.mp hz; exact oq (e ▸ hy)⟩
  · rw [List.length_append]; have := b.le; omega
  · intro y y0 y1
    by_cases e : y = o
    · subst e
      rw [upF_same]
      exact ⟨fun _ => by omega, fun _ => by simp⟩
    · rw [upF_ne e, ← b.inq y y0 y1]
      simp [e]
  · intro y hy
    rcases List.mem_append.mp hy with hy | hy
    · exact b.rng y hy
    · cases List.mem_singleton.mp hy; exact orng
  · intro y hy
    rcases List.mem_append.mp hy with hy | hy
    · rw [keep y hy]; exact b.wk y hy
    · cases List.mem_singleton.mp hy
      rw [upF_same]
      exact ⟨k + 1, by omega, .snoc wk ho⟩
  · rw [List.pairwise_append]
    refine ⟨b.mono.imp_of_mem fun h1 h2 h => by rw [keep _ h1, keep _ h2]; exact h, by simp, fun y hy z hz => ?_⟩
    cases List.mem_singleton.mp hz
    rw [keep y hy, upF_same]
    exact b.near a ha (Nat.le_refl _) y hy
  · intro i hi ai y hy
    have le : t q[a] ≤ upF t o (t q[a] + 1) (q ++ [o])[i] := by
      by_cases h : i < q.length
      · rw [(gt i hi h).2, keep _ (List.getElem_mem _)]
        by_cases e : i = a
        · subst e; exact Int.le_refl _
        · exact List.pairwise_iff_getElem.mp b.mono a i ha h (by omega)
      · have : i = q.length := by rw [List.length_append] at hi; simp at hi; omega
        subst this
        rw [List.getElem_append_right (Nat.le_refl _)]
        simp [upF_same]
        omega
    rcases List.mem_append.mp hy with hy | hy
    · rw [keep y hy]
      by_cases h : i < q.length
      · rw [(gt i hi h).2, keep _ (List.getElem_mem _)]
        exact b.near i h ai y hy
      · have := b.near a ha (Nat.le_refl _) y hy
        omega
    · cases List.mem_singleton.mp hy
      rw [upF_same]; omega
  · intro i hi ia z hz
    have h : i < q.length := by omega
    have e := (gt i hi h).2
    rw [e] at hz ⊢
    obtain ⟨zq, zt⟩ := b.done i h ia z hz
    rw [keep _ zq, keep _ (List.getElem_mem _)]
    exact ⟨List.mem_append_left _ zq, zt⟩
  · exact ⟨List.mem_append_left _ b.x0.1, by rw [keep _ b.x0.1]; exact b.x0.2⟩
theorem Bfs.next (b : Bfs l n x t q a) (ha : a < q.length) (h : ∀ z ∈ nbr l q[a], z ∈ q ∧ t z ≤ t q[a] + 1) : Bfs l n x t q (a + 1) where
  nd := b.nd
  le := ha
  inq := b.inq
  rng := b.rng
  wk := b.wk
  mono := b.mono
  near i hi ai := b.near i hi (by omega)
  done i hi ia := by
    by_cases e : i = a
    · subst e; exact h
    · exact b.done i hi (by omega)
  x0 := b.x0
theorem Bfs.fin (g : Gw n l) (b : Bfs l n x t q a) (ha : ¬ a < q.length) : Dst l n x t where
  low y y0 y1 := by
    by_cases h : t y = -1
    · exact .inl h
    · exact .inr (b.wk y ((b.inq y y0 y1).mpr h))
  up y k w y0 y1 := by
    have go : y ∈ q ∧ t y ≤ (k : Int) := by
      clear y0 y1
      induction w with
      | nil => exact ⟨b.x0.1, by rw [b.x0.2]; omega⟩
      | @snoc k y z _ hz ih =>
        obtain ⟨yq, yt⟩ := ih
        obtain ⟨i, hi, e⟩ := List.getElem_of_mem yq
        have := b.done i hi (by omega) z (by rw [e]; exact hz)
        rw [e] at this
        exact ⟨this.1, by have := this.2; omega⟩
    obtain ⟨j, tj, _⟩ := b.wk y go.1
    exact ⟨by omega, go.2⟩
/-- after k rounds -/
structure Rnd (l : List (Int × Int)) (n : Nat) (x : Int) (k : Nat) (t : Int → Int) : Prop where
  low : ∀ y, 0 ≤ y → y < (n : Int) → t y = -1 ∨ ∃ j : Nat, t y = (j : Int) ∧ j ≤ k ∧ Wk l x j y
  up : ∀ y j, Wk l x j y → j ≤ k → 0 ≤ t y ∧ t y ≤ (j : Int)
theorem Rnd.start : Rnd l n x 0 (upF (fun _ => -1) x 0) where
  low y _ _ := by
    by_cases e : y = x
    · subst e; exact .inr ⟨0, upF_same, Nat.le_refl _, .nil⟩
    · exact .inl (upF_ne e)
  up y j w h := by
    have : j = 0 := by omega
    subst this
    cases w
    rw [upF_same]; exact ⟨Int.le_refl _, Int.le_refl _⟩
theorem Rnd.fin {k : Nat} (g : Gw n l) (x0 : 0 ≤ x) (x1 : x < (n : Int)) (r : Rnd l n x k t) (h : ∀ y, 0 ≤ y → y < (n : Int) → t y ≠ (k : Int)) : Dst l n x t where
  low y y0 y1 := by
    rcases r.low y y0 y1 with e | ⟨j, e, _, w⟩
    · exact .inl e
    · exact .inr ⟨j, e, w⟩
  up y m w y0 y1 := by
    have go : 0 ≤ t y ∧ t y ≤ (m : Int) ∧ t y < (k : Int) := by
      clear y0 y1
      induction w with
      | nil =>
        have := r.up x 0 .nil (Nat.zero_le _)
        have := h x x0 x1
        omega
      | @snoc m y z w hz ih =>
        have yr := w.rng g x0 x1
        have zr := (g.nbr_rng hz).1
        rcases r.low y yr.1 yr.2 with e | ⟨j, e, hj, wj⟩
        · omega
        · have := r.up z (j + 1) (.snoc wj hz) (by omega)
          have := h z zr.1 zr.2
          omega
    exact ⟨go.1, go.2.1⟩
theorem Rnd.all {k : Nat} (g : Gw n l) (x0 : 0 ≤ x) (x1 : x < (n : Int)) (r : Rnd l n x k t) : ∀ (j : Nat) (y : Int), 0 ≤ y → y < (n : Int) → t y = (j : Int) → ∀ i ≤ j, ∃ z, 0 ≤ z ∧ z < (n : Int) ∧ t z = (i : Int)
  | 0, y, y0, y1, e, i, hi => ⟨y, y0, y1, by rw [e]; omega⟩
  | j + 1, y, y0, y1, e, i, hi => by
    by_cases hij : i = j + 1
    · exact ⟨y, y0, y1, by rw [e, hij]⟩
    rcases r.low y y0 y1 with e2 | ⟨j', e2, hj, w⟩
    · omega
    · have : j' = j + 1 := by omega
      subst this
      cases w with
      | @snoc _ z _ w hz =>
        have zr := w.rng g x0 x1
        have u1 := r.up z j w (by omega)
        have : t z = (j : Int) := by
          rcases r.low z zr.1 zr.2 with e3 | ⟨m, e3, hm, wm⟩
          · omega
          · by_cases c : m < j
            · have := r.up y (m + 1) (.snoc wm hz) (by omega)
              omega
            · omega
        exact Rnd.all g x0 x1 r j z zr.1 zr.2 this i (by omega)
theorem Rnd.last (g : Gw n l) (x0 : 0 ≤ x) (x1 : x < (n : Int)) (r : Rnd l n x n t) : Dst l n x t := by
  refine r.fin g x0 x1 fun y y0 y1 e => ?_
  have s : cellsI (n + 1) ⊆ tb n t := fun i hi => by
    obtain ⟨i0, i1⟩ := mem_cellsI.mp hi
    obtain ⟨z, z0, z1, ez⟩ := r.all g x0 x1 n y y0 y1 e i.toNat (by omega)
    exact tb_mem.mpr ⟨z, z0, z1, by omega⟩
  have := (cellsI_nd (n + 1)).length_le_of_subset s
  rw [cellsI_len, tb_len] at this
  omega
/-- within a round: the links of pre are done -/
structure Rnm (l : List (Int × Int)) (n : Nat) (x : Int) (k : Nat) (pre : List (Int × Int)) (t : Int → Int) : Prop where
  low : ∀ y, 0 ≤ y → y < (n : Int) → t y = -1 ∨ ∃ j : Nat, t y = (j : Int) ∧ j ≤ k + 1 ∧ Wk l x j y
  up : ∀ y j, Wk l x j y → j ≤ k → 0 ≤ t y ∧ t y ≤ (j : Int)
  pr : ∀ p ∈ pre, (t p.1 = (k : Int) → t p.2 ≠ -1) ∧ (t p.2 = (k : Int) → t p.1 ≠ -1)
theorem Rnd.mid {k : Nat} (r : Rnd l n x k t) : Rnm l n x k [] t where
  low y y0 y1 := (r.low y y0 y1).imp_right fun ⟨j, e, h, w⟩ => ⟨j, e, by omega, w⟩
  up := r.up
  pr := by simp
theorem Rnm.put {k : Nat} {pre : List (Int × Int)} {b c : Int} (x0 : 0 ≤ x) (x1 : x < (n : Int)) (g : Gw n l) (r : Rnm l n x k pre t) (hb : c ∈ nbr l b) (e : t b = (k : Int)) (e2 : t c = -1) : Rnm l n x k pre (upF t c ((k : Int) + 1)) ∧ upF t c ((k : Int) + 1) b = (k : Int) := by
  have bc := g.nbr_rng hb
  have ne : b ≠ c := fun h => by rw [h, e2] at e; omega
  refine ⟨⟨fun y y0 y1 => ?_, fun y j w hj => ?_, fun p hp => ?_⟩, by rw [upF_ne ne]; exact e⟩
  · by_cases h : y = c
    · subst h
      rw [upF_same]
      rcases r.low b bc.2.1.1 bc.2.1.2 with e3 | ⟨j, e3, _, w⟩
      · omega
      · have : j = k := by omega
        subst this
        exact .inr ⟨j + 1, by omega, Nat.le_refl _, .snoc w hb⟩
    · rw [upF_ne h]; exact r.low y y0 y1
  · have := r.up y j w hj
    by_cases h : y = c
    · subst h; omega
    · rw [upF_ne h]; exact this
  · have q := r.pr p hp
    constructor
    · intro h1
      by_cases h : p.2 = c
      · rw [h, upF_same]; omega
      · rw [upF_ne h]
        by_cases h3 : p.1 = c
        · rw [h3, upF_same] at h1; omega
        · rw [upF_ne h3] at h1; exact q.1 h1
    · intro h1
      by_cases h : p.1 = c
      · rw [h, upF_same]; omega
      · rw [upF_ne h]
        by_cases h3 : p.2 = c
        · rw [h3, upF_same] at h1; omega
        · rw [upF_ne h3] at h1; exact q.2 h1
theorem Rnm.add {k : Nat} {pre : List (Int × Int)} {p : Int × Int} (r : Rnm l n x k pre t) (h : (t p.1 = (k : Int) → t p.2 ≠ -1) ∧ (t p.2 = (k : Int) → t p.1 ≠ -1)) : Rnm l n x k (pre ++ [p]) t where
  low := r.low
  up := r.up
  pr q hq := by
    rcases List.mem_append.mp hq with hq | hq
    · exact r.pr q hq
    · cases List.mem_singleton.mp hq; exact h
theorem Rnm.end {k : Nat} (x0 : 0 ≤ x) (x1 : x < (n : Int)) (g : Gw n l) (r : Rnm l n x k l t) : Rnd l n x (k + 1) t where
  low := r.low
  up y j w hj := by
    by_cases c : j ≤ k
    · exact r.up y j w c
    have : j = k + 1 := by omega
    subst this
    cases w with
    | @snoc _ z _ w hz =>
      have zr := w.rng g x0 x1
      have yr := (g.nbr_rng hz).1
      have u := r.up z k w (Nat.le_refl _)
      by_cases c : t z = (k : Int)
      · have ny : t y ≠ -1 := by
          rcases mem_nbr.mp hz with h | h
          · exact (r.pr _ h).1 c
          · exact (r.pr _ h).2 c
        rcases r.low y yr.1 yr.2 with e | ⟨j, e, h, _⟩
        · exact absurd e ny
        · omega
      · rcases r.low z zr.1 zr.2 with e | ⟨j, e, h, wj⟩
        · omega
        · have := r.up y (j + 1) (.snoc wj hz) (by omega)
          omega
end Mv

/-! rows of truth values; parts, by a stack -/
namespace Mv
open PySem
variable {P : Pg} {F : Nat → List D → FOut} {X : Nat → D → En → Prop} {r : En}
def tbB (n : Nat) (f : Int → Bool) : List Bool := (cellsI n).map f
def tbBD (n : Nat) (f : Int → Bool) : List D := (tbB n f).map D.bl
def upB (f : Int → Bool) (x : Int) (v : Bool) : Int → Bool := fun y => if y = x then v else f y
theorem upB_same {f : Int → Bool} {x : Int} {v : Bool} : upB f x v x = v := if_pos rfl
theorem upB_ne {f : Int → Bool} {x y : Int} {v : Bool} (h : y ≠ x) : upB f x v y = f y := if_neg h
theorem tbB_len {n : Nat} {f : Int → Bool} : (tbB n f).length = n := by unfold tbB; rw [List.length_map, cellsI_len]
theorem tbBD_len {n : Nat} {f : Int → Bool} : (tbBD n f).length = n := by unfold tbBD; rw [List.length_map, tbB_len]
theorem tbB_get {n : Nat} {f : Int → Bool} {i : Nat} (h : i < (tbB n f).length) : (tbB n f)[i] = f i := by simp [tbB, cellsI]
theorem tbB_ix {n : Nat} {f : Int → Bool} {x : Int} (h0 : 0 ≤ x) (h1 : x < n) : optIx (tbB n f) x = some (f x) := by
  have h : x.toNat < (tbB n f).length := by rw [tbB_len]; omega
  rw [optIx_some h0 h, tbB_get, show ((x.toNat : Nat) : Int) = x by omega]
theorem tbB_set {n : Nat} {f : Int → Bool} {x : Int} {v : Bool} (h0 : 0 ≤ x) (h1 : x < n) : (tbB n f).set x.toNat v = tbB n (upB f x v) := by
  refine List.ext_getElem (by rw [List.length_set, tbB_len, tbB_len]) fun i a b => ?_
  rw [List.getElem_set, tbB_get b]
  unfold upB
  by_cases e : x.toNat = i
  · rw [if_pos e, if_pos (by omega)]
  · rw [if_neg e, if_neg (by omega), tbB_get]
theorem rep_tbB {n : Nat} {v : Bool} : (List.replicate n [D.bl v]).flatten = tbBD n fun _ => v := by
  rw [rep_flat]
  unfold tbBD tbB
  rw [List.map_map]
  refine List.ext_getElem (by simp [cellsI_len]) fun i a b => by simp
theorem noOwn_tbB {n : Nat} {f : Int → Bool} : noOwn (tbBD n f) = true := wnoOwn_map _
theorem frzs_tbB {n : Nat} {f : Int → Bool} : D.frzs (tbBD n f) = tbBD n f := frzs_map' _
theorem rd_tbB {n : Nat} {f : Int → Bool} {kd : Kd} {i : Nat} {x : Int} {Q : D → En → Prop} (h0 : 0 ≤ x) (h1 : x < n) (q : Q (.bl (f x)) r) : (rdS (some (.lst kd (tbBD n f))) r i [.ix x]).sat Q X := by
  cases kd with
  | own => unfold tbBD; rw [rd_ownp, tbB_ix h0 h1]; exact q
  | shr => rw [rd_shrp, getP_ixl, show optIx (tbBD n f) x = some (.bl (f x)) from by unfold tbBD; rw [optIx_map, tbB_ix h0 h1]; rfl]; exact q
  | giv => rw [rd_givp, getP_ixl, show optIx (tbBD n f) x = some (.bl (f x)) from by unfold tbBD; rw [optIx_map, tbB_ix h0 h1]; rfl]; exact q
theorem up_tbB {n : Nat} {f : Int → Bool} {x : Int} {v : Bool} {K : D → Prop} (h0 : 0 ≤ x) (h1 : x < n) (q : K (.lst .own (tbBD n (upB f x v)))) : optP (updP (fun _ => some (.bl v)) (.lst .own (tbBD n f)) [.ix x]) K := by
  unfold tbBD
  rw [upd_ix]
  refine ixN_P h0 (by rw [tbB_len]; omega) ⟨by rw [tbB_len]; omega, ?_⟩
  rw [tbB_set h0 h1]; exact q
/-- two cells hang together -/
def Cn (l : List (Int × Int)) (x y : Int) : Prop := ∃ k, Wk l x k y
theorem Wk.app {l : List (Int × Int)} {x y z : Int} {j k : Nat} (a : Wk l x j y) (b : Wk l y k z) : Wk l x (j + k) z := by
  induction b with
  | nil => exact a
  | snoc _ h ih => exact .snoc ih h
theorem Cn.refl {l : List (Int × Int)} {x : Int} : Cn l x x := ⟨0, .nil⟩
theorem Cn.sym {l : List (Int × Int)} {x y : Int} (h : Cn l x y) : Cn l y x := let ⟨k, w⟩ := h; ⟨k, w.rev⟩
theorem Cn.trans {l : List (Int × Int)} {x y z : Int} (h : Cn l x y) (h2 : Cn l y z) : Cn l x z := let ⟨_, w⟩ := h; let ⟨_, u⟩ := h2; ⟨_, w.app u⟩
theorem Cn.step {l : List (Int × Int)} {x y : Int} (h : y ∈ nbr l x) : Cn l x y := ⟨1, .snoc .nil h⟩
theorem Cn.rng {l : List (Int × Int)} {n : Int} {x y : Int} (g : Gw n l) (h0 : 0 ≤ x) (h1 : x < n) (h : Cn l x y) : 0 ≤ y ∧ y < n := let ⟨_, w⟩ := h; w.rng g h0 h1
/-- how many cells are not yet inside -/
def out (n : Nat) (f : Int → Bool) : Nat := (cellsI n).countP fun y => !f y
theorem out_up {n : Nat} {f : Int → Bool} {x : Int} (h0 : 0 ≤ x) (h1 : x < (n : Int)) (h : f x = false) : out n (upB f x true) + 1 = out n f := by
  have mem : x ∈ cellsI n := mem_cellsI.mpr ⟨h0, h1⟩
  have nd := cellsI_nd n
  unfold out
  generalize cellsI n = xs at mem nd
  induction xs with
  | nil => cases mem
  | cons a xs ih =>
    rw [List.nodup_cons] at nd
    rw [List.countP_cons, List.countP_cons]
    by_cases e : x = a
    · subst e
      have same : xs.countP (fun y => !upB f x true y) = xs.countP fun y => !f y := List.countP_congr fun y hy => by
        rw [upB_ne (show y ≠ x from fun e => nd.1 (e ▸ hy))]
      rw [same, upB_same, h]; simp
    · have := ih (by simpa [e] using mem) nd.2
      rw [upB_ne (fun q => e q.symm)]; omega
/-- the stack's way -/
structure Dfs (l : List (Int × Int)) (n : Nat) (x : Int) (f : Int → Bool) (w : List Int) : Prop where
  x0 : f x = true
  rng : ∀ y ∈ w, 0 ≤ y ∧ y < (n : Int) ∧ f y = true
  cn : ∀ y, 0 ≤ y → y < (n : Int) → f y = true → Cn l x y
  done : ∀ y, 0 ≤ y → y < (n : Int) → f y = true → y ∈ w ∨ ∀ z ∈ nbr l y, f z = true
variable {l : List (Int × Int)} {n : Nat} {x : Int} {f : Int → Bool} {w : List Int}
theorem Dfs.start : Dfs l n x (upB (fun _ => false) x true) [x] ↔ (0 ≤ x ∧ x < (n : Int)) := by
  constructor
  · intro d; have := d.rng x (by simp); exact ⟨this.1, this.2.1⟩
  · intro ⟨x0, x1⟩
    refine ⟨upB_same, fun y hy => ?_, fun y _ _ h => ?_, fun y _ _ h => ?_⟩
    · cases List.mem_singleton.mp hy; exact ⟨x0, x1, upB_same⟩
    · by_cases e : y = x
      · subst e; exact .refl
      · rw [upB_ne e] at h; cases h
    · by_cases e : y = x
      · exact .inl (by simp [e])
      · rw [upB_ne e] at h; cases h
/-- within a turn: c is taken off, its neighbours pre are inside -/
structure Dfm (l : List (Int × Int)) (n : Nat) (x : Int) (c : Int) (pre : List Int) (f : Int → Bool) (w : List Int) : Prop where
  x0 : f x = true
  c0 : Cn l x c
  rng : ∀ y ∈ w, 0 ≤ y ∧ y < (n : Int) ∧ f y = true
  cn : ∀ y, 0 ≤ y → y < (n : Int) → f y = true → Cn l x y
  done : ∀ y, 0 ≤ y → y < (n : Int) → f y = true → y ∈ w ∨ y = c ∨ ∀ z ∈ nbr l y, f z = true
  pr : ∀ z ∈ pre, f z = true
theorem Dfs.pop {c : Int} (d : Dfs l n x f (w ++ [c])) : Dfm l n x c [] f w where
  x0 := d.x0
  c0 := by have := d.rng c (by simp); exact d.cn c this.1 this.2.1 this.2.2
  rng y hy := d.rng y (by simp [hy])
  cn := d.cn
  done y y0 y1 h := by
    rcases d.done y y0 y1 h with q | q
    · rcases List.mem_append.mp q with q | q
      · exact .inl q
      · exact .inr (.inl (List.mem_singleton.mp q))
    · exact .inr (.inr q)
  pr := by simp
theorem Dfm.put {c o : Int} {pre : List Int} (g : Gw n l) (d : Dfm l n x c pre f w) (ho : o ∈ nbr l c) : Dfm l n x c (pre ++ [o]) (upB f o true) (w ++ [o]) := by
  have orng := (g.nbr_rng ho).1
  have up : ∀ y, f y = true → upB f o true y = true := fun y h => by
    unfold upB; split
    · rfl
    · exact h
  refine ⟨up x d.x0, d.c0, fun y hy => ?_, fun y y0 y1 h => ?_, fun y y0 y1 h => ?_, fun z hz => ?_⟩
  · rcases List.mem_append.mp hy with hy | hy
    · obtain ⟨a, b, c⟩ := d.rng y hy; exact ⟨a, b, up y c⟩
    · cases List.mem_singleton.mp hy; exact ⟨orng.1, orng.2, upB_same⟩
  · by_cases e : y = o
    · subst e; exact d.c0.trans (.step ho)
    · rw [upB_ne e] at h; exact d.cn y y0 y1 h
  · by_cases e : y = o
    · exact .inl (by simp [e])
    · rw [upB_ne e] at h
      rcases d.done y y0 y1 h with q | q | q
      · exact .inl (by simp [q])
      · exact .inr (.inl q)
      · exact .inr (.inr fun z hz => up z (q z hz))
  · rcases List.mem_append.mp hz with hz | hz
    · exact up z (d.pr z hz)
    · cases List.mem_singleton.mp hz; exact upB_same
theorem Dfm.skip {c o : Int} {pre : List Int} (d : Dfm l n x c pre f w) (h : f o = true) : Dfm l n x c (pre ++ [o]) f w :=
  ⟨d.x0, d.c0, d.rng, d.cn, d.done, fun z hz => by
    rcases List.mem_append.mp hz with hz | hz
    · exact d.pr z hz
    · cases List.mem_singleton.mp hz; exact h⟩
theorem Dfm.next {c : Int} (d : Dfm l n x c (nbr l c) f w) : Dfs l n x f w where
  x0 := d.x0
  rng := d.rng
  cn := d.cn
  done y y0 y1 h := by
    rcases d.done y y0 y1 h with q | q | q
    · exact .inl q
    · subst q; exact .inr d.pr
    · exact .inr q
theorem Dfs.fin (g : Gw n l) (x0 : 0 ≤ x) (x1 : x < (n : Int)) (d : Dfs l n x f []) {y : Int} (y0 : 0 ≤ y) (y1 : y < (n : Int)) : f y = true ↔ Cn l x y := by
  refine ⟨d.cn y y0 y1, fun h => ?_⟩
  obtain ⟨k, w⟩ := h
  clear y0 y1
  induction w with
  | nil => exact d.x0
  | @snoc k y z w hz ih =>
    have yr := w.rng g x0 x1
    rcases d.done y yr.1 yr.2 ih with q | q
    · cases q
    · exact q z hz
open Classical in
/-- the cells of a part, in order -/
noncomputable def part (l : List (Int × Int)) (n : Nat) (x : Int) : List Int := (cellsI n).filter fun y => decide (Cn l x y)
theorem mem_part {y : Int} : y ∈ part l n x ↔ (0 ≤ y ∧ y < (n : Int)) ∧ Cn l x y := by
  unfold part; rw [List.mem_filter, mem_cellsI]; simp
theorem Dfs.part (g : Gw n l) (x0 : 0 ≤ x) (x1 : x < (n : Int)) (d : Dfs l n x f []) : (cellsI n).filter f = part l n x := by
  unfold Mv.part
  refine List.filter_congr fun y hy => ?_
  obtain ⟨y0, y1⟩ := mem_cellsI.mp hy
  have := d.fin g x0 x1 y0 y1
  rw [Bool.eq_iff_iff]; simpa using this
end Mv

/-! the least cells of the parts -/
namespace Mv
open PySem
variable {l : List (Int × Int)} {n : Nat}
theorem cellsI_succ {i : Nat} : cellsI (i + 1) = cellsI i ++ [(i : Int)] := by
  unfold cellsI; rw [List.range_succ, List.map_append]; rfl
/-- no lesser cell hangs together with x -/
def Least (l : List (Int × Int)) (x : Int) : Prop := ∀ y, 0 ≤ y → y < x → ¬ Cn l x y
open Classical in
noncomputable def heads (l : List (Int × Int)) (i : Nat) : List Int := (cellsI i).filter fun x => decide (Least l x)
theorem heads_succ_pos {i : Nat} (h : Least l (i : Int)) : heads l (i + 1) = heads l i ++ [(i : Int)] := by
  unfold heads; rw [cellsI_succ, List.filter_append]; congr 1; simp [h]
theorem heads_succ_neg {i : Nat} (h : ¬ Least l (i : Int)) : heads l (i + 1) = heads l i := by
  unfold heads; rw [cellsI_succ, List.filter_append]
  refine (congrArg _ ?_).trans (List.append_nil _)
  simp [h]
theorem mem_heads {i : Nat} {x : Int} : x ∈ heads l i ↔ (0 ≤ x ∧ x < (i : Int)) ∧ Least l x := by
  unfold heads; rw [List.mem_filter, mem_cellsI]; simp
theorem heads_len {i : Nat} : (heads l i).length ≤ i := by
  unfold heads; refine Nat.le_trans (List.length_filter_le _ _) ?_; rw [cellsI_len]; exact Nat.le_refl _
/-- the cells that are done before x -/
def Dn (l : List (Int × Int)) (i : Int) (f : Int → Bool) (n : Nat) : Prop := ∀ y, 0 ≤ y → y < (n : Int) → (f y = true ↔ ∃ x, 0 ≤ x ∧ x < i ∧ Cn l x y)
theorem Dn.least {i : Int} {f : Int → Bool} (d : Dn l i f n) (i0 : 0 ≤ i) (i1 : i < (n : Int)) : f i = false ↔ Least l i := by
  rw [← Bool.not_eq_true, d i i0 i1]
  exact ⟨fun h y y0 y1 c => h ⟨y, y0, y1, c.sym⟩, fun h ⟨x, x0, x1, c⟩ => h x x0 x1 c.sym⟩
theorem Dn.skip {i : Int} {f : Int → Bool} (d : Dn l i f n) (i0 : 0 ≤ i) (i1 : i < (n : Int)) (h : f i = true) : Dn l (i + 1) f n := fun y y0 y1 => by
  rw [d y y0 y1]
  constructor
  · exact fun ⟨x, x0, x1, c⟩ => ⟨x, x0, by omega, c⟩
  · rintro ⟨x, x0, x1, c⟩
    by_cases e : x = i
    · subst e
      obtain ⟨z, z0, z1, cz⟩ := (d x i0 i1).mp h
      exact ⟨z, z0, z1, cz.trans c⟩
    · exact ⟨x, x0, by omega, c⟩
theorem Dn.add {i : Int} {f g : Int → Bool} (d : Dn l i f n) (i0 : 0 ≤ i) (h : ∀ y, 0 ≤ y → y < (n : Int) → (g y = true ↔ f y = true ∨ Cn l i y)) : Dn l (i + 1) g n := fun y y0 y1 => by
  rw [h y y0 y1, d y y0 y1]
  constructor
  · rintro (⟨x, x0, x1, c⟩ | c)
    · exact ⟨x, x0, by omega, c⟩
    · exact ⟨i, i0, by omega, c⟩
  · rintro ⟨x, x0, x1, c⟩
    by_cases e : x = i
    · subst e; exact .inr c
    · exact .inl ⟨x, x0, by omega, c⟩
end Mv

/-! two sides, by a queue -/
namespace Mv
open PySem
variable {l : List (Int × Int)} {n : Nat} {x : Int} {t : Int → Int} {q : List Int} {a : Nat}
/-- a closed walk of odd length -/
def OddW (l : List (Int × Int)) (x : Int) : Prop := ∃ k, k % 2 = 1 ∧ Wk l x k x
/-- the row of sides of x's part -/
structure Sd (l : List (Int × Int)) (n : Nat) (x : Int) (t : Int → Int) : Prop where
  off : ∀ y, 0 ≤ y → y < (n : Int) → ¬ Cn l x y → t y = -1
  on : ∀ y k, Wk l x k y → t y = ((k % 2 : Nat) : Int)
structure Bip (l : List (Int × Int)) (n : Nat) (x : Int) (t : Int → Int) (q : List Int) (a : Nat) : Prop where
  nd : q.Nodup
  le : a ≤ q.length
  inq : ∀ y, 0 ≤ y → y < (n : Int) → (y ∈ q ↔ t y ≠ -1)
  rng : ∀ y ∈ q, 0 ≤ y ∧ y < (n : Int)
  wk : ∀ y ∈ q, ∃ k : Nat, t y = ((k % 2 : Nat) : Int) ∧ Wk l x k y
  done : ∀ (i : Nat) (hi : i < q.length), i < a → ∀ z ∈ nbr l q[i], z ∈ q ∧ t z = 1 - t q[i]
  x0 : x ∈ q ∧ t x = 0
theorem Bip.start (x0 : 0 ≤ x) (x1 : x < (n : Int)) : Bip l n x (upF (fun _ => -1) x 0) [x] 0 where
  nd := by simp
  le := by simp
  inq y y0 y1 := by
    unfold upF
    by_cases e : y = x
    · simp [e]
    · simp [e]
  rng y hy := by cases List.mem_singleton.mp hy; exact ⟨x0, x1⟩
  wk y hy := by cases List.mem_singleton.mp hy; exact ⟨0, upF_same, .nil⟩
  done i _ h := by omega
  x0 := ⟨by simp, upF_same⟩
theorem Bip.new (b : Bip l n x t q a) {c o : Int} (hc : c ∈ q) (ho : o ∈ nbr l c) (g : Gw n l) (h : t o = -1) : Bip l n x (upF t o (1 - t c)) (q ++ [o]) a := by
  have orng := (g.nbr_rng ho).1
  have oq : o ∉ q := fun m => (b.inq o orng.1 orng.2).mp m h
  have keep : ∀ y ∈ q, upF t o (1 - t c) y = t y := fun y hy => upF_ne fun e => oq (e ▸ hy)
  obtain ⟨k, tk, wk⟩ := b.wk c hc
  constructor
  · rw [List.nodup_append]
    exact ⟨b.nd, by simp, fun y hy z hz e => by cases List.mem_singleton.mp hz; exact oq (e ▸ hy)⟩
  · rw [List.length_append]; have := b.le; omega
  · intro y y0 y1
    by_cases e : y = o
    · subst e
      rw [upF_same]
      exact ⟨fun _ => by omega, fun _ => by simp⟩
    · rw [upF_ne e, ← b.inq y y0 y1]
      simp [e]
  · intro y hy
    rcases List.mem_append.mp hy with hy | hy
    · exact b.rng y hy
    · cases List.mem_singleton.mp hy; exact orng
  · intro y hy
    rcases List.mem_append.mp hy with hy | hy
    · rw [keep y hy]; exact b.wk y hy
    · cases List.mem_singleton.mp hy
      rw [upF_same]
      exact ⟨k + 1, by omega, .snoc wk ho⟩
  · intro i hi ia z hz
    have h : i < q.length := by have := b.le; omega
    have e : (q ++ [o])[i] = q[i] := List.getElem_append_left h
    rw [e] at hz ⊢
    obtain ⟨zq, zt⟩ := b.done i h ia z hz
    rw [keep _ zq, keep _ (List.getElem_mem _)]
    exact ⟨List.mem_append_left _ zq, zt⟩
  · exact ⟨List.mem_append_left _ b.x0.1, by rw [keep _ b.x0.1]; exact b.x0.2⟩
theorem Bip.next (b : Bip l n x t q a) (ha : a < q.length) (h : ∀ z ∈ nbr l q[a], z ∈ q ∧ t z = 1 - t q[a]) : Bip l n x t q (a + 1) where
  nd := b.nd
  le := ha
  inq := b.inq
  rng := b.rng
  wk := b.wk
  done i hi ia := by
    by_cases e : i = a
    · subst e; exact h
    · exact b.done i hi (by omega)
  x0 := b.x0
theorem Bip.fin (g : Gw n l) (b : Bip l n x t q a) (ha : ¬ a < q.length) : Sd l n x t := by
  have go : ∀ y k, Wk l x k y → y ∈ q ∧ t y = ((k % 2 : Nat) : Int) := fun y k w => by
    induction w with
    | nil => exact ⟨b.x0.1, b.x0.2⟩
    | @snoc k y z _ hz ih =>
      obtain ⟨yq, yt⟩ := ih
      obtain ⟨i, hi, e⟩ := List.getElem_of_mem yq
      have := b.done i hi (by omega) z (by rw [e]; exact hz)
      rw [e] at this
      exact ⟨this.1, by have := this.2; omega⟩
  refine ⟨fun y y0 y1 h => ?_, fun y k w => (go y k w).2⟩
  refine Decidable.byContradiction fun ne => ?_
  obtain ⟨k, _, w⟩ := b.wk y ((b.inq y y0 y1).mpr ne)
  exact h ⟨k, w⟩
theorem Bip.odd (b : Bip l n x t q a) {c o : Int} (hc : c ∈ q) (ho : o ∈ q) (hn : o ∈ nbr l c) (h : t o = t c) : OddW l x := by
  obtain ⟨k, tk, wk⟩ := b.wk c hc
  obtain ⟨j, tj, wj⟩ := b.wk o ho
  exact ⟨k + 1 + j, by omega, (Wk.snoc wk hn).app wj.rev⟩
theorem Bip.val (b : Bip l n x t q a) {y : Int} (h : y ∈ q) : t y = 0 ∨ t y = 1 := by
  obtain ⟨k, e, _⟩ := b.wk y h; omega
theorem Sd.even (s : Sd l n x t) : ¬ OddW l x := fun ⟨k, h, w⟩ => by
  have := s.on x k w
  have := s.on x 0 .nil
  omega
end Mv

/-! the sides of all cells -/
namespace Mv
open PySem
variable {l : List (Int × Int)} {n : Nat} {x : Int} {t u : Int → Int}
theorem cellsI_split {i : Nat} (h : i < n) : ∃ rest, cellsI n = cellsI i ++ (i : Int) :: rest := by
  refine ⟨((List.range n).drop (i + 1)).map fun (k : Nat) => (k : Int), ?_⟩
  have e : List.range n = List.range i ++ i :: (List.range n).drop (i + 1) := by
    have h1 := (List.take_append_drop i (List.range n)).symm
    rw [List.drop_eq_getElem_cons (by simpa using h), List.getElem_range, List.take_range, Nat.min_eq_left (Nat.le_of_lt h)] at h1
    exact h1
  unfold cellsI
  conv => lhs; rw [e]
  rw [List.map_append, List.map_cons]
theorem part_head (x0 : 0 ≤ x) (x1 : x < (n : Int)) (h : Least l x) : (part l n x)[0]? = some x := by
  obtain ⟨rest, e⟩ := cellsI_split (n := n) (i := x.toNat) (by omega)
  unfold part
  rw [e, List.filter_append, List.filter_eq_nil_iff.mpr fun y hy => ?_, List.nil_append, show ((x.toNat : Nat) : Int) = x by omega, List.filter_cons_of_pos (by simpa using (Cn.refl : Cn l x x))]
  · rfl
  · obtain ⟨y0, y1⟩ := mem_cellsI.mp hy
    have := h y y0 (by omega)
    simpa using this
/-- what stands for y, h the least of its part -/
def Sy (l : List (Int × Int)) (h y v : Int) : Prop := (OddW l h → v = -1) ∧ (¬ OddW l h → ∀ k, Wk l h k y → v = ((k % 2 : Nat) : Int))
/-- the row of all sides -/
def Sds (l : List (Int × Int)) (n : Nat) (t : Int → Int) : Prop := ∀ y, 0 ≤ y → y < (n : Int) → ∀ h, 0 ≤ h → Least l h → Cn l h y → Sy l h y (t y)
structure Sdp (l : List (Int × Int)) (n : Nat) (pre : List Int) (t : Int → Int) : Prop where
  on : ∀ y, 0 ≤ y → y < (n : Int) → ∀ h ∈ pre, Cn l h y → Sy l h y (t y)
  off : ∀ y, 0 ≤ y → y < (n : Int) → (∀ h ∈ pre, ¬ Cn l h y) → t y = -1
theorem Least.eq {x y : Int} (h0 : 0 ≤ x) (h1 : 0 ≤ y) (a : Least l x) (b : Least l y) (c : Cn l x y) : x = y := by
  by_cases h : x < y
  · exact absurd c.sym (b x h0 h)
  · by_cases h2 : y < x
    · exact absurd c (a y h1 h2)
    · omega
theorem Sdp.fin (g : Gw n l) (s : Sdp l n (heads l n) t) : Sds l n t := fun y y0 y1 h h0 hl hc => by
  have hr := hc.sym.rng g y0 y1
  exact s.on y y0 y1 h (mem_heads.mpr ⟨hr, hl⟩) hc
theorem Sdp.skip {pre : List Int} {h : Int} (s : Sdp l n pre t) (hp : ∀ z ∈ pre, 0 ≤ z ∧ Least l z) (h0 : 0 ≤ h) (hl : Least l h) (hn : h ∉ pre) (o : OddW l h) : Sdp l n (pre ++ [h]) t where
  on y y0 y1 z hz c := by
    rcases List.mem_append.mp hz with hz | hz
    · exact s.on y y0 y1 z hz c
    · cases List.mem_singleton.mp hz
      have : t y = -1 := s.off y y0 y1 fun z hz cz => hn (by
        have e := Least.eq (hp z hz).1 h0 (hp z hz).2 hl (cz.trans c.sym)
        exact e ▸ hz)
      exact ⟨fun _ => this, fun q => absurd o q⟩
  off y y0 y1 q := s.off y y0 y1 fun z hz => q z (by simp [hz])
theorem Sdp.add {pre : List Int} {h : Int} {v : Int → Int} (s : Sdp l n pre t) (hp : ∀ z ∈ pre, 0 ≤ z ∧ Least l z) (h0 : 0 ≤ h) (hl : Least l h) (hn : h ∉ pre) (d : Sd l n h u) (hv1 : ∀ y, 0 ≤ y → y < (n : Int) → Cn l h y → v y = u y) (hv2 : ∀ y, 0 ≤ y → y < (n : Int) → ¬ Cn l h y → v y = t y) : Sdp l n (pre ++ [h]) v where
  on y y0 y1 z hz c := by
    rcases List.mem_append.mp hz with hz | hz
    · have nc : ¬ Cn l h y := fun cy => hn (by
        have e := Least.eq (hp z hz).1 h0 (hp z hz).2 hl (c.trans cy.sym)
        exact e ▸ hz)
      rw [hv2 y y0 y1 nc]
      exact s.on y y0 y1 z hz c
    · cases List.mem_singleton.mp hz
      rw [hv1 y y0 y1 c]
      exact ⟨fun o => absurd o d.even, fun _ k w => d.on y k w⟩
  off y y0 y1 q := by
    rw [hv2 y y0 y1 (q h (by simp))]
    exact s.off y y0 y1 fun z hz => q z (by simp [hz])
end Mv

/-! labels: the least cell of each class, by rounds -/
namespace Mv
open PySem
variable {L : List (Int × Int)} {N : Nat} {t : Int → Int}
/-- links in range -/
def RgL (N : Nat) (L : List (Int × Int)) : Prop := ∀ q ∈ L, 0 ≤ q.1 ∧ q.1 < q.2 ∧ q.2 < (N : Int)
theorem RgL.nbr {x y : Int} (g : RgL N L) (h : y ∈ nbr L x) : (0 ≤ y ∧ y < (N : Int)) ∧ 0 ≤ x ∧ x < (N : Int) := by
  rcases mem_nbr.mp h with h | h
  · have := g _ h; simp at this; omega
  · have := g _ h; simp at this; omega
theorem RgL.wk {x y : Int} {k : Nat} (g : RgL N L) (h0 : 0 ≤ x) (h1 : x < (N : Int)) (w : Wk L x k y) : 0 ≤ y ∧ y < (N : Int) := by
  induction w with
  | nil => exact ⟨h0, h1⟩
  | snoc _ h _ => exact (g.nbr h).1
theorem least_ex {p : Nat → Prop} : ∀ k, p k → ∃ j, p j ∧ ∀ i, i < j → ¬ p i := by
  intro k
  induction k using Nat.strongRecOn with
  | ind k ih =>
    intro h
    by_cases c : ∃ i, i < k ∧ p i
    · obtain ⟨i, hi, pi⟩ := c; exact ih i hi pi
    · exact ⟨k, h, fun i hi pi => c ⟨i, hi, pi⟩⟩
def Lst (L : List (Int × Int)) (x : Int) (k : Nat) (y : Int) : Prop := Wk L x k y ∧ ∀ i, i < k → ¬ Wk L x i y
theorem Lst.down {x : Int} : ∀ (k : Nat) (y : Int), Lst L x k y → ∀ i, i ≤ k → ∃ z, Lst L x i z
  | 0, y, h, i, hi => ⟨y, by rw [show i = 0 by omega]; exact h⟩
  | k + 1, y, h, i, hi => by
    by_cases e : i = k + 1
    · exact ⟨y, by rw [e]; exact h⟩
    obtain ⟨w, no⟩ := h
    cases w with
    | @snoc _ z _ w hz => exact Lst.down k z ⟨w, fun j hj wj => no (j + 1) (by omega) (.snoc wj hz)⟩ i (by omega)
theorem Lst.uniq {x y : Int} {i j : Nat} (a : Lst L x i y) (b : Lst L x j y) : i = j := by
  by_cases h : i < j
  · exact absurd a.1 (b.2 i h)
  · by_cases h2 : j < i
    · exact absurd b.1 (a.2 j h2)
    · omega
theorem Cn.short {x y : Int} (g : RgL N L) (h0 : 0 ≤ x) (h1 : x < (N : Int)) (h : Cn L x y) : ∃ k, k < N ∧ Wk L x k y := by
  obtain ⟨k, w⟩ := h
  obtain ⟨k, w, no⟩ := least_ex (p := fun k => Wk L x k y) k w
  refine ⟨k, ?_, w⟩
  have ex : ∀ i, i ≤ k → ∃ z, Lst L x i z := Lst.down k y ⟨w, no⟩
  obtain ⟨f, hf⟩ : ∃ f : Nat → Int, ∀ i, i ≤ k → Lst L x i (f i) := ⟨fun i => Classical.epsilon fun z => Lst L x i z, fun i hi => Classical.epsilon_spec (ex i hi)⟩
  have nd : ((List.range (k + 1)).map f).Nodup := by
    refine List.pairwise_map.mpr ((List.nodup_range (n := k + 1)).imp_of_mem fun {a b} ha hb ne e => ne ?_)
    have la := hf a (by have := List.mem_range.mp ha; omega)
    have lb := hf b (by have := List.mem_range.mp hb; omega)
    rw [e] at la
    exact la.uniq lb
  have := nd.length_le_of_subset (l₂ := cellsI N) fun z hz => by
    obtain ⟨i, hi, rfl⟩ := List.mem_map.mp hz
    exact mem_cellsI.mpr (g.wk h0 h1 (hf i (by have := List.mem_range.mp hi; omega)).1)
  rw [List.length_map, List.length_range, cellsI_len] at this
  omega
/-- a walk's first link -/
theorem Wk.first {x z : Int} {k : Nat} (w : Wk L x (k + 1) z) : ∃ y, y ∈ nbr L x ∧ Wk L y k z := by
  cases w.rev with
  | @snoc _ y _ w hy => exact ⟨y, nbr_sym.mp hy, w.rev⟩
/-- after i rounds -/
structure Lbr (L : List (Int × Int)) (N i : Nat) (t : Int → Int) : Prop where
  cn : ∀ y, 0 ≤ y → y < (N : Int) → Cn L y (t y)
  low : ∀ y z k, 0 ≤ y → y < (N : Int) → k ≤ i → Wk L y k z → t y ≤ z
/-- within a round that began with b -/
structure Lbm (L : List (Int × Int)) (N i : Nat) (b : Int → Int) (pre : List (Int × Int)) (t : Int → Int) : Prop where
  cn : ∀ y, 0 ≤ y → y < (N : Int) → Cn L y (t y)
  dec : ∀ y, 0 ≤ y → y < (N : Int) → t y ≤ b y
  low : ∀ y z k, 0 ≤ y → y < (N : Int) → k ≤ i → Wk L y k z → t y ≤ z
  pr : ∀ p ∈ pre, t p.1 ≤ b p.2 ∧ t p.2 ≤ b p.1
  far : ∀ p ∈ pre, ∀ z k, k ≤ i → (Wk L p.2 k z → t p.1 ≤ z) ∧ (Wk L p.1 k z → t p.2 ≤ z)
/-- the labels of the classes -/
structure Lab (L : List (Int × Int)) (N : Nat) (t : Int → Int) : Prop where
  cn : ∀ y, 0 ≤ y → y < (N : Int) → Cn L y (t y)
  low : ∀ y z, 0 ≤ y → y < (N : Int) → Cn L y z → t y ≤ z
theorem Lbr.start : Lbr L N 0 (fun y => y) where
  cn _ _ _ := .refl
  low y z k _ _ hk w := by
    have : k = 0 := by omega
    subst this
    cases w
    exact Int.le_refl _
theorem Lbr.mid {i : Nat} (r : Lbr L N i t) : Lbm L N i t [] t := ⟨r.cn, fun _ _ _ => Int.le_refl _, r.low, by simp, by simp⟩
theorem Lbr.last (g : RgL N L) (r : Lbr L N N t) : Lab L N t := ⟨r.cn, fun y z y0 y1 c => by
  obtain ⟨k, hk, w⟩ := c.short g y0 y1
  exact r.low y z k y0 y1 (by omega) w⟩
theorem Lbm.put {i : Nat} {b : Int → Int} {pre : List (Int × Int)} {p : Int × Int} (g : RgL N L) (hp : p ∈ L) (r : Lbm L N i b pre t) : Lbm L N i b (pre ++ [p]) (upF (upF t p.1 (min (t p.1) (t p.2))) p.2 (min (t p.1) (t p.2))) := by
  obtain ⟨a0, ab, b1⟩ := g p hp
  have ha : p.1 < (N : Int) := by omega
  have hb : 0 ≤ p.2 := by omega
  have hn : p.2 ∈ nbr L p.1 := mem_nbr.mpr (.inl hp)
  have val : ∀ y, upF (upF t p.1 (min (t p.1) (t p.2))) p.2 (min (t p.1) (t p.2)) y = if y = p.1 ∨ y = p.2 then min (t p.1) (t p.2) else t y := fun y => by
    unfold upF
    by_cases e : y = p.2
    · simp [e]
    · by_cases e2 : y = p.1
      · simp [e2]
      · simp [e, e2]
  have cm : ∀ y, y = p.1 ∨ y = p.2 → Cn L y (min (t p.1) (t p.2)) := fun y hy => by
    have c1 := r.cn p.1 a0 ha
    have c2 := r.cn p.2 hb b1
    have c12 : Cn L p.1 p.2 := .step hn
    rcases Int.le_total (t p.1) (t p.2) with h | h
    · rw [Int.min_eq_left h]
      rcases hy with rfl | rfl
      · exact c1
      · exact c12.sym.trans c1
    · rw [Int.min_eq_right h]
      rcases hy with rfl | rfl
      · exact c12.trans c2
      · exact c2
  have le : ∀ y, upF (upF t p.1 (min (t p.1) (t p.2))) p.2 (min (t p.1) (t p.2)) y ≤ t y := fun y => by
    rw [val y]
    split
    · rename_i h
      rcases h with rfl | rfl
      · exact Int.min_le_left _ _
      · exact Int.min_le_right _ _
    · exact Int.le_refl _
  have v1 := val p.1
  have v2 := val p.2
  rw [if_pos (Or.inl rfl)] at v1
  rw [if_pos (Or.inr rfl)] at v2
  have d1 := r.dec p.1 a0 ha
  have d2 := r.dec p.2 hb b1
  refine ⟨fun y y0 y1 => ?_, fun y y0 y1 => Int.le_trans (le y) (r.dec y y0 y1), fun y z k y0 y1 hk w => Int.le_trans (le y) (r.low y z k y0 y1 hk w), fun q hq => ?_, fun q hq z k hk => ?_⟩
  · rw [val y]
    split
    · rename_i h; exact cm y h
    · exact r.cn y y0 y1
  · rcases List.mem_append.mp hq with hq | hq
    · obtain ⟨x1, x2⟩ := r.pr q hq
      exact ⟨Int.le_trans (le _) x1, Int.le_trans (le _) x2⟩
    · cases List.mem_singleton.mp hq
      rw [v1, v2]
      omega
  · rcases List.mem_append.mp hq with hq | hq
    · obtain ⟨x1, x2⟩ := r.far q hq z k hk
      exact ⟨fun w => Int.le_trans (le _) (x1 w), fun w => Int.le_trans (le _) (x2 w)⟩
    · cases List.mem_singleton.mp hq
      rw [v1, v2]
      exact ⟨fun w => by have := r.low p.2 z k hb b1 hk w; omega, fun w => by have := r.low p.1 z k a0 ha hk w; omega⟩
theorem Lbm.end {i : Nat} {b : Int → Int} (g : RgL N L) (r : Lbm L N i b L t) : Lbr L N (i + 1) t where
  cn := r.cn
  low y z k y0 y1 hk w := by
    by_cases c : k ≤ i
    · exact r.low y z k y0 y1 c w
    have : k = i + 1 := by omega
    subst this
    obtain ⟨x, hx, wx⟩ := w.first
    rcases mem_nbr.mp hx with h | h
    · exact (r.far _ h z i (Nat.le_refl _)).1 wx
    · exact (r.far _ h z i (Nat.le_refl _)).2 wx
theorem Lbm.brk {i : Nat} {b : Int → Int} (g : RgL N L) (r : Lbm L N i b L t) (h : ∀ y, 0 ≤ y → y < (N : Int) → t y = b y) : Lab L N t where
  cn := r.cn
  low y z y0 y1 c := by
    obtain ⟨k, w⟩ := c
    have same : t y = t z := by
      induction w with
      | nil => rfl
      | @snoc k v z w hz ih =>
        obtain ⟨zr, vr⟩ := g.nbr hz
        have hv := h v vr.1 vr.2
        have hz' := h z zr.1 zr.2
        rcases mem_nbr.mp hz with q | q
        · have := r.pr _ q; simp only at this; omega
        · have := r.pr _ q; simp only at this; omega
    have zr := g.wk y0 y1 w
    rw [same]
    exact r.low z z 0 zr.1 zr.2 (Nat.zero_le _) .nil
theorem Lab.const {x y : Int} (g : RgL N L) (a : Lab L N t) (x0 : 0 ≤ x) (x1 : x < (N : Int)) (c : Cn L x y) : t x = t y := by
  obtain ⟨k, w⟩ := c
  have yr := g.wk x0 x1 w
  have c : Cn L x y := ⟨k, w⟩
  have h1 := a.low x (t y) x0 x1 (c.trans (a.cn y yr.1 yr.2))
  have h2 := a.low y (t x) yr.1 yr.2 (c.sym.trans (a.cn x x0 x1))
  omega
theorem Lab.iff {x y : Int} (g : RgL N L) (a : Lab L N t) (x0 : 0 ≤ x) (x1 : x < (N : Int)) (y0 : 0 ≤ y) (y1 : y < (N : Int)) : t x = t y ↔ Cn L x y := by
  refine ⟨fun e => ?_, a.const g x0 x1⟩
  have h1 := a.cn x x0 x1
  rw [e] at h1
  exact h1.trans (a.cn y y0 y1).sym
end Mv

/-! each cell twice -/
namespace Mv
open PySem
variable {l : List (Int × Int)} {n : Nat}
def twL (n : Nat) (l : List (Int × Int)) : List (Int × Int) := l.map (fun q => (q.1, q.2 + (n : Int))) ++ l.map fun q => (q.2, q.1 + (n : Int))
theorem twL_rg (g : RgL n l) : RgL (n + n) (twL n l) := fun q hq => by
  rcases List.mem_append.mp hq with h | h
  · obtain ⟨p, hp, rfl⟩ := List.mem_map.mp h
    have := g p hp
    simp only
    omega
  · obtain ⟨p, hp, rfl⟩ := List.mem_map.mp h
    have := g p hp
    simp only
    omega
theorem mem_twL {x y : Int} : (x, y) ∈ twL n l ↔ (x, y - n) ∈ l ∨ (y - n, x) ∈ l := by
  unfold twL
  rw [List.mem_append, List.mem_map, List.mem_map]
  constructor
  · rintro (⟨p, hp, e⟩ | ⟨p, hp, e⟩)
    · have e1 := congrArg Prod.fst e
      have e2 := congrArg Prod.snd e
      simp only at e1 e2
      exact .inl (by rw [← e1, show y - (n : Int) = p.2 by omega]; exact hp)
    · have e1 := congrArg Prod.fst e
      have e2 := congrArg Prod.snd e
      simp only at e1 e2
      exact .inr (by rw [← e1, show y - (n : Int) = p.1 by omega]; exact hp)
  · rintro (h | h)
    · exact .inl ⟨_, h, by simp⟩
    · exact .inr ⟨_, h, by simp⟩
theorem tw_up {x y : Int} (h : y ∈ nbr l x) : y + n ∈ nbr (twL n l) x ∧ y ∈ nbr (twL n l) (x + n) := by
  have q := mem_nbr.mp h
  refine ⟨mem_nbr.mpr (.inl (mem_twL.mpr ?_)), mem_nbr.mpr (.inr (mem_twL.mpr ?_))⟩
  · rw [show y + (n : Int) - n = y by omega]; exact q
  · rw [show x + (n : Int) - n = x by omega]; exact q.symm
theorem Wk.tw {x y : Int} {k : Nat} (w : Wk l x k y) : Wk (twL n l) x k (y + ((k % 2 : Nat) : Int) * n) := by
  induction w with
  | nil => simpa using (Wk.nil : Wk (twL n l) x 0 x)
  | @snoc k y z _ hz ih =>
    obtain ⟨u1, u2⟩ := tw_up (n := n) hz
    rcases Nat.mod_two_eq_zero_or_one k with e | e
    · rw [e] at ih
      rw [show (k + 1) % 2 = 1 by omega]
      simp only [Int.natCast_zero, Int.zero_mul, Int.add_zero] at ih
      simpa using Wk.snoc ih u1
    · rw [e] at ih
      rw [show (k + 1) % 2 = 0 by omega]
      simp only [Int.natCast_one, Int.one_mul] at ih
      simpa using Wk.snoc ih u2
theorem Wk.un {x y : Int} {k : Nat} (g : RgL n l) (x0 : 0 ≤ x) (x1 : x < (n : Int)) (w : Wk (twL n l) x k y) : Wk l x k (y - ((k % 2 : Nat) : Int) * n) := by
  induction w with
  | nil => simpa using (Wk.nil : Wk l x 0 x)
  | @snoc k y z _ hz ih =>
    have yr := g.wk x0 x1 ih
    rcases Nat.mod_two_eq_zero_or_one k with e | e
    · rw [e] at ih yr
      rw [show (k + 1) % 2 = 1 by omega]
      simp only [Int.natCast_zero, Int.zero_mul, Int.sub_zero, Int.natCast_one, Int.one_mul] at ih yr ⊢
      refine .snoc ih ?_
      rcases mem_nbr.mp hz with h | h
      · exact mem_nbr.mpr (mem_twL.mp h)
      · have := mem_twL.mp h
        rcases this with h | h
        · have := g _ h; simp only at this; omega
        · have := g _ h; simp only at this; omega
    · rw [e] at ih yr
      rw [show (k + 1) % 2 = 0 by omega]
      simp only [Int.natCast_zero, Int.zero_mul, Int.sub_zero, Int.natCast_one, Int.one_mul] at ih yr ⊢
      refine .snoc ih ?_
      rcases mem_nbr.mp hz with h | h
      · have := mem_twL.mp h
        rcases this with h | h
        · have := g _ h; simp only at this; omega
        · have := g _ h; simp only at this; omega
      · exact mem_nbr.mpr (mem_twL.mp h).symm
theorem Gw.rg (g : Gw n l) : RgL n l := g.rng
theorem odd_tw {x : Int} (g : RgL n l) (x0 : 0 ≤ x) (x1 : x < (n : Int)) : Cn (twL n l) x (x + n) ↔ OddW l x := by
  constructor
  · rintro ⟨k, w⟩
    have w := w.un g x0 x1
    have r := g.wk x0 x1 w
    rcases Nat.mod_two_eq_zero_or_one k with e | e
    · rw [e] at r
      simp only [Int.natCast_zero, Int.zero_mul, Int.sub_zero] at r
      omega
    · rw [e] at w
      simp only [Int.natCast_one, Int.one_mul] at w
      rw [show x + (n : Int) - n = x by omega] at w
      exact ⟨k, e, w⟩
  · rintro ⟨k, e, w⟩
    have w := w.tw (n := n)
    rw [e] at w
    simp only [Int.natCast_one, Int.one_mul] at w
    exact ⟨k, w⟩
theorem even_tw {x y : Int} (g : RgL n l) (x0 : 0 ≤ x) (x1 : x < (n : Int)) (y1 : y < (n : Int)) : Cn (twL n l) x y ↔ ∃ k, k % 2 = 0 ∧ Wk l x k y := by
  constructor
  · rintro ⟨k, w⟩
    have w := w.un g x0 x1
    have r := g.wk x0 x1 w
    rcases Nat.mod_two_eq_zero_or_one k with e | e
    · rw [e] at w
      simp only [Int.natCast_zero, Int.zero_mul, Int.sub_zero] at w
      exact ⟨k, e, w⟩
    · rw [e] at r
      simp only [Int.natCast_one, Int.one_mul] at r
      omega
  · rintro ⟨k, e, w⟩
    have w := w.tw (n := n)
    rw [e] at w
    simp only [Int.natCast_zero, Int.zero_mul, Int.add_zero] at w
    exact ⟨k, w⟩
theorem OddW.move {x y : Int} (o : OddW l x) (c : Cn l x y) : OddW l y := by
  obtain ⟨k, e, w⟩ := o
  obtain ⟨j, u⟩ := c
  exact ⟨j + k + j, by omega, (u.rev.app w).app u⟩
theorem Lab.least {t : Int → Int} {y : Int} (g : RgL n l) (a : Lab l n t) (y0 : 0 ≤ y) (y1 : y < (n : Int)) : (0 ≤ t y ∧ t y < (n : Int)) ∧ Least l (t y) ∧ Cn l (t y) y := by
  have c := a.cn y y0 y1
  obtain ⟨k, w⟩ := c
  refine ⟨g.wk y0 y1 w, fun z z0 z1 cz => ?_, Cn.sym ⟨k, w⟩⟩
  have := a.low y z y0 y1 (Cn.trans ⟨k, w⟩ cz)
  omega
theorem sides_eq {t u v : Int → Int} {y : Int} (g : RgL n l) (a : Lab l n t) (b : Lab (twL n l) (n + n) u) (s : Sds l n v) (y0 : 0 ≤ y) (y1 : y < (n : Int)) : v y = if u y = u (y + n) then -1 else if u y = u (t y) then 0 else 1 := by
  obtain ⟨hr, hl, hc⟩ := a.least g y0 y1
  have sy := s y y0 y1 (t y) hr.1 hl hc
  have g2 := twL_rg g
  have e1 : u y = u (y + n) ↔ OddW l y := (b.iff g2 y0 (by omega) (by omega) (by omega)).trans (odd_tw g y0 y1)
  have e2 : u y = u (t y) ↔ ∃ k, k % 2 = 0 ∧ Wk l y k (t y) := (b.iff g2 y0 (by omega) hr.1 (by omega)).trans (even_tw g y0 y1 hr.2)
  by_cases o : OddW l y
  · rw [if_pos (e1.mpr o)]
    exact sy.1 (o.move hc.sym)
  · rw [if_neg fun q => o (e1.mp q)]
    have no : ¬ OddW l (t y) := fun q => o (q.move hc)
    obtain ⟨k, w⟩ := hc
    have vy := sy.2 no k w
    rcases Nat.mod_two_eq_zero_or_one k with e | e
    · rw [if_pos (e2.mpr ⟨k, e, w.rev⟩), vy, e]; rfl
    · have ne : ¬ u y = u (t y) := fun q => by
        obtain ⟨j, ej, wj⟩ := e2.mp q
        have := sy.2 no j wj.rev
        omega
      rw [if_neg ne, vy, e]; rfl
end Mv

namespace Mv.K02
open PySem
/-- Web.__init__(self, size, links); 0:self 1:size 2:links 3:before 4:rows 5:index 6:link 7:low 8:high 9:_ 10:row -/
def b0 : List S := [(.ifS (.notE (.cmp (.int (1)) [.LtE, .LtE] [(.var 1), (.int (40))])) [(.raise 1 (.var 1))] []), (.ifS (.cmp (.blt .len [(.var 2)]) [.Gt] [(.int (160))]) [(.raise 3 (.blt .len [(.var 2)]))] []), (.asg (.nm 3) (.tup [(.neg (.int (1))), (.neg (.int (1)))])), (.forS (.tp [(.nm 5), (.nm 6)]) .enm [(.var 2)] [(.ifS (.orE [(.cmp (.blt .len [(.var 6)]) [.NotEq] [(.int (2))]), (.notE (.cmp (.int (0)) [.LtE, .Lt, .Lt] [(.idx (.var 6) (.int (0))), (.idx (.var 6) (.int (1))), (.var 1)])), (.notE (.cmp (.var 3) [.Lt] [(.var 6)]))]) [(.raise 2 (.var 5))] []), (.asg (.nm 3) (.var 6))]), (.setA 0 0 (.var 1)), (.setA 0 1 (.var 2)), (.asg (.nm 4) (.comp (.lst []) (.nm 9) .rng [(.var 1)] [] [9])), (.forS (.tp [(.nm 7), (.nm 8)]) .val [(.var 2)] [(.expr (.lm .append (.idx (.var 4) (.var 7)) [(.var 8)])), (.expr (.lm .append (.idx (.var 4) (.var 8)) [(.var 7)]))]), (.setA 0 2 (.comp (.blt .tuple [(.blt .sorted [(.var 10)])]) (.nm 10) .val [(.var 4)] [] [10]))]
/-- Web.near(self, x); 0:self 1:x -/
def b1 : List S := [(.expr (.call 3 [(.var 0), (.var 1)])), (.ret (.idx (.attr (.var 0) 2) (.var 1)))]
/-- Web.linked(self, x, y); 0:self 1:x 2:y -/
def b2 : List S := [(.ret (.andE [(.cmp (.int (0)) [.LtE, .Lt] [(.var 1), (.attr (.var 0) 0)]), (.cmp (.var 2) [.In] [(.idx (.attr (.var 0) 2) (.var 1))])]))]
/-- want_cell(web, x); 0:web 1:x -/
def b3 : List S := [(.ifS (.notE (.cmp (.int (0)) [.LtE, .Lt] [(.var 1), (.attr (.var 0) 0)])) [(.raise 4 (.var 1))] [])]
/-- part_of(web, x); 0:web 1:x 2:inside 3:waiting 4:cell 5:other -/
def b4 : List S := [(.expr (.call 3 [(.var 0), (.var 1)])), (.asg (.nm 2) (.bin .Mult (.lst [(.bl false)]) (.attr (.var 0) 0))), (.setI (.var 2) (.var 1) (.bl true)), (.asg (.nm 3) (.lst [(.var 1)])), (.whl (.var 3) [(.asg (.nm 4) (.lm .pop (.var 3) [])), (.forS (.nm 5) .val [(.meth 0 (.var 0) [(.var 4)])] [(.ifS (.notE (.idx (.var 2) (.var 5))) [(.setI (.var 2) (.var 5) (.bl true)), (.expr (.lm .append (.var 3) [(.var 5)]))] [])])]), (.ret (.blt .tuple [(.comp (.var 4) (.nm 4) .rng [(.attr (.var 0) 0)] [(.idx (.var 2) (.var 4))] [4])]))]
/-- parts(web); 0:web 1:told 2:done 3:x 4:part 5:cell -/
def b5 : List S := [(.asg (.nm 1) (.lst [])), (.asg (.nm 2) (.bin .Mult (.lst [(.bl false)]) (.attr (.var 0) 0))), (.forS (.nm 3) .rng [(.attr (.var 0) 0)] [(.ifS (.notE (.idx (.var 2) (.var 3))) [(.asg (.nm 4) (.call 4 [(.var 0), (.var 3)])), (.forS (.nm 5) .val [(.var 4)] [(.setI (.var 2) (.var 5) (.bl true))]), (.expr (.lm .append (.var 1) [(.var 4)]))] [])]), (.ret (.blt .tuple [(.var 1)]))]
/-- side_row(web, start); 0:web 1:start 2:row 3:queue 4:at 5:cell 6:other -/
def b6 : List S := [(.asg (.nm 2) (.bin .Mult (.lst [(.neg (.int (1)))]) (.attr (.var 0) 0))), (.setI (.var 2) (.var 1) (.int (0))), (.asg (.nm 3) (.lst [(.var 1)])), (.asg (.nm 4) (.int (0))), (.whl (.cmp (.var 4) [.Lt] [(.blt .len [(.var 3)])]) [(.asg (.nm 5) (.idx (.var 3) (.var 4))), (.aug 4 .Add (.int (1))), (.forS (.nm 6) .val [(.meth 0 (.var 0) [(.var 5)])] [(.ifS (.cmp (.idx (.var 2) (.var 6)) [.Eq] [(.neg (.int (1)))]) [(.setI (.var 2) (.var 6) (.bin .Sub (.int (1)) (.idx (.var 2) (.var 5)))), (.expr (.lm .append (.var 3) [(.var 6)]))] [(.ifS (.cmp (.idx (.var 2) (.var 6)) [.Eq] [(.idx (.var 2) (.var 5))]) [(.ret .non)] [])])])]), (.retV 2)]
/-- sides(web); 0:web 1:told 2:part 3:row 4:cell -/
def b7 : List S := [(.asg (.nm 1) (.bin .Mult (.lst [(.neg (.int (1)))]) (.attr (.var 0) 0))), (.forS (.nm 2) .val [(.call 5 [(.var 0)])] [(.asg (.nm 3) (.call 6 [(.var 0), (.idx (.var 2) (.int (0)))])), (.ifS (.cmp (.var 3) [.IsNot] [.non]) [(.forS (.nm 4) .val [(.var 2)] [(.setI (.var 1) (.var 4) (.idx (.var 3) (.var 4)))])] [])]), (.ret (.blt .tuple [(.var 1)]))]
/-- _law_pool(_law_script, _law_k); 0:_law_script 1:_law_k 2:_law_cell 3:_law_big 4:_law_mixed_here -/
def b8 : List S := [(.asg (.nm 2) (.int (0))), (.ifS (.cmp (.var 1) [.Lt] [(.blt .len [(.var 0)])]) [(.asg (.nm 2) (.idx (.var 0) (.var 1)))] [(.ifS (.var 0) [(.asg (.nm 2) (.idx (.var 0) (.int (0))))] [])]), (.asg (.nm 3) (.blt .max [(.blt .int [(.var 2)]), (.blt .int [(.bin .Sub (.neg (.int (1))) (.var 2))])])), (.asg (.nm 4) (.bin .Mod (.blt .int [(.bin .Mult (.bin .Add (.bin .Add (.bin .Add (.bin .Mod (.blt .int [(.var 3)]) (.int (2147483629))) (.bin .Mult (.bin .Mult (.int (7919)) (.var 1)) (.var 1))) (.bin .Mult (.int (31)) (.var 1))) (.int (17))) (.int (48271)))]) (.int (2147483647)))), (.ret (.lst [(.bin .Mult (.var 3) (.blt .int [(.cmp (.var 3) [.GtE] [(.bin .Pow (.int (10)) (.int (18)))])])), (.var 4)]))]
/-- _law_take(_law_source, _law_top); 0:_law_source 1:_law_top 2:_law_drawn -/
def b9 : List S := [(.ifS (.cmp (.idx (.var 0) (.int (0))) [.Gt] [(.int (0))]) [(.asg (.nm 2) (.bin .Mod (.blt .int [(.idx (.var 0) (.int (0)))]) (.var 1))), (.setI (.var 0) (.int (0)) (.bin .FloorDiv (.idx (.var 0) (.int (0))) (.var 1))), (.retV 2)] []), (.setI (.var 0) (.int (1)) (.bin .Mod (.blt .int [(.bin .Add (.bin .Mult (.idx (.var 0) (.int (1))) (.int (39373))) (.int (7)))]) (.int (2147483647)))), (.ret (.bin .Mod (.blt .int [(.bin .FloorDiv (.bin .Mod (.blt .int [(.bin .Mult (.idx (.var 0) (.int (1))) (.idx (.var 0) (.int (1))))]) (.int (2147483629))) (.int (32)))]) (.var 1)))]
/-- _law_one(_law_source, _law_things); 0:_law_source 1:_law_things -/
def b10 : List S := [(.ret (.idx (.var 1) (.call 9 [(.var 0), (.blt .len [(.var 1)])])))]
/-- _law_shuffled(_law_source, _law_count); 0:_law_source 1:_law_count 2:_law_turn 3:_law_left 4:_law_found 5:_law_x -/
def b11 : List S := [(.par [(.nm 3), (.nm 4)] [(.comp (.var 5) (.nm 5) .rng [(.var 1)] [] [5]), (.lst [])]), (.forS (.nm 2) .rng [(.var 1)] [(.expr (.lm .append (.var 4) [(.lm .pop (.var 3) [(.call 9 [(.var 0), (.blt .len [(.var 3)])])])]))]), (.retV 4)]
/-- _law_near(_law_links, _law_x); 0:_law_links 1:_law_x 2:_law_a 3:_law_b -/
def b12 : List S := [(.ret (.blt .sorted [(.bin .Add (.comp (.var 3) (.tp [(.nm 2), (.nm 3)]) .val [(.var 0)] [(.cmp (.var 2) [.Eq] [(.var 1)])] [2, 3]) (.comp (.var 2) (.tp [(.nm 2), (.nm 3)]) .val [(.var 0)] [(.cmp (.var 3) [.Eq] [(.var 1)])] [2, 3]))]))]
/-- _law_link(_law_a, _law_b); 0:_law_a 1:_law_b -/
def b13 : List S := [(.ret (.tup [(.blt .min [(.var 0), (.var 1)]), (.blt .max [(.var 0), (.var 1)])]))]
/-- _law_corner(_law_source, _law_size, _law_links); 0:_law_source 1:_law_size 2:_law_links 3:_law_around 4:_law_x 5:_law_z -/
def b14 : List S := [(.asg (.nm 3) (.call 12 [(.var 2), (.call 9 [(.var 0), (.var 1)])])), (.asg (.nm 4) (.lm .pop (.var 3) [(.call 9 [(.var 0), (.blt .len [(.var 3)])])])), (.asg (.nm 5) (.lm .pop (.var 3) [(.call 9 [(.var 0), (.blt .len [(.var 3)])])])), (.ret (.tup [(.bin .Add (.var 1) (.int (1))), (.blt .sorted [(.bin .Add (.var 2) (.lst [(.tup [(.var 4), (.var 1)]), (.tup [(.var 5), (.var 1)])]))])]))]
/-- _law_bridge(_law_source, _law_size, _law_links); 0:_law_source 1:_law_size 2:_law_links 3:_law_a 4:_law_x 5:_law_y 6:_law_b -/
def b15 : List S := [(.asg (.nm 3) (.call 9 [(.var 0), (.var 1)])), (.asg (.nm 4) (.call 10 [(.var 0), (.call 12 [(.var 2), (.var 3)])])), (.asg (.nm 5) (.call 10 [(.var 0), (.call 12 [(.var 2), (.var 4)])])), (.asg (.nm 6) (.call 10 [(.var 0), (.call 12 [(.var 2), (.var 5)])])), (.ifS (.orE [(.cmp (.var 3) [.Eq] [(.var 5)]), (.cmp (.var 3) [.Eq] [(.var 6)]), (.cmp (.var 4) [.Eq] [(.var 6)]), (.cmp (.call 13 [(.var 3), (.var 6)]) [.In] [(.var 2)])]) [(.ret (.tup [(.var 1), (.var 2)]))] []), (.ret (.tup [(.var 1), (.blt .sorted [(.bin .Add (.var 2) (.lst [(.call 13 [(.var 3), (.var 6)])]))])]))]
/-- _law_renamed(_law_source, _law_size, _law_links); 0:_law_source 1:_law_size 2:_law_links 3:_law_names 4:_law_a 5:_law_b -/
def b16 : List S := [(.asg (.nm 3) (.call 11 [(.var 0), (.var 1)])), (.ret (.tup [(.var 1), (.blt .sorted [(.comp (.call 13 [(.idx (.var 3) (.var 4)), (.idx (.var 3) (.var 5))]) (.tp [(.nm 4), (.nm 5)]) .val [(.var 2)] [] [4, 5])])]))]
/-- _law_stout(_law_source, _law_most, _law_kinds); 0:_law_source 1:_law_most 2:_law_kinds 3:_law_square 4:_law_fours 5:_law_prism 6:_law_turn 7:_law_size 8:_law_links -/
def b17 : List S := [(.asg (.nm 3) (.lst [(.tup [(.int (0)), (.int (1))]), (.tup [(.int (0)), (.int (2))]), (.tup [(.int (1)), (.int (3))]), (.tup [(.int (2)), (.int (3))])])), (.asg (.nm 4) (.lst [(.tup [(.int (0)), (.int (1))]), (.tup [(.int (0)), (.int (2))]), (.tup [(.int (0)), (.int (3))]), (.tup [(.int (1)), (.int (2))]), (.tup [(.int (1)), (.int (3))]), (.tup [(.int (2)), (.int (3))])])), (.asg (.nm 5) (.lst [(.tup [(.int (0)), (.int (1))]), (.tup [(.int (0)), (.int (2))]), (.tup [(.int (0)), (.int (4))]), (.tup [(.int (1)), (.int (3))]), (.tup [(.int (1)), (.int (5))]), (.tup [(.int (2)), (.int (3))]), (.tup [(.int (2)), (.int (4))]), (.tup [(.int (3)), (.int (5))]), (.tup [(.int (4)), (.int (5))])])), (.par [(.nm 7), (.nm 8)] [(.int (4)), (.var 3)]), (.ifS (.orE [(.cmp (.var 2) [.Eq] [(.int (2))]), (.andE [(.cmp (.var 2) [.Eq] [(.int (3))]), (.cmp (.call 9 [(.var 0), (.int (3))]) [.Eq] [(.int (0))])])]) [(.asg (.nm 8) (.var 4)), (.ifS (.andE [(.cmp (.var 1) [.GtE] [(.int (6))]), (.cmp (.call 9 [(.var 0), (.int (2))]) [.Eq] [(.int (0))])]) [(.par [(.nm 7), (.nm 8)] [(.int (6)), (.var 5)])] [])] []), (.forS (.nm 6) .rng [(.call 9 [(.var 0), (.var 1)])] [(.ifS (.andE [(.cmp (.var 7) [.Lt] [(.var 1)]), (.cmp (.call 9 [(.var 0), (.int (3))]) [.Lt] [(.int (2))])]) [(.asg (.tp [(.nm 7), (.nm 8)]) (.call 14 [(.var 0), (.var 7), (.var 8)]))] [(.asg (.tp [(.nm 7), (.nm 8)]) (.call 15 [(.var 0), (.var 7), (.var 8)]))])]), (.ret (.call 16 [(.var 0), (.var 7), (.var 8)]))]
/-- _law_round(_law_source, _law_count); 0:_law_source 1:_law_count 2:_law_x -/
def b18 : List S := [(.ret (.call 16 [(.var 0), (.var 1), (.bin .Add (.comp (.tup [(.var 2), (.bin .Add (.var 2) (.int (1)))]) (.nm 2) .rng [(.bin .Sub (.var 1) (.int (1)))] [] [2]) (.lst [(.tup [(.int (0)), (.bin .Sub (.var 1) (.int (1)))])]))]))]
/-- _law_tree(_law_source, _law_count); 0:_law_source 1:_law_count 2:_law_links 3:_law_x -/
def b19 : List S := [(.asg (.nm 2) (.lst [])), (.forS (.nm 3) .rng [(.int (1)), (.var 1)] [(.expr (.lm .append (.var 2) [(.tup [(.call 10 [(.var 0), (.lst [(.bin .Sub (.var 3) (.int (1))), (.call 9 [(.var 0), (.var 3)])])]), (.var 3)])]))]), (.ret (.call 16 [(.var 0), (.var 1), (.blt .sorted [(.var 2)])]))]
/-- _law_any(_law_source, _law_count); 0:_law_source 1:_law_count 2:_law_links 3:_law_b 4:_law_a -/
def b20 : List S := [(.asg (.nm 2) (.lst [])), (.forS (.nm 3) .rng [(.var 1)] [(.forS (.nm 4) .rng [(.var 3)] [(.ifS (.cmp (.call 9 [(.var 0), (.int (5))]) [.Lt] [(.int (2))]) [(.expr (.lm .append (.var 2) [(.tup [(.var 4), (.var 3)])]))] [])])]), (.ret (.tup [(.var 1), (.blt .sorted [(.var 2)])]))]
/-- _law_beside(_law_source, _law_one_here, _law_other); 0:_law_source 1:_law_one_here 2:_law_other 3:_law_links 4:_law_a 5:_law_b -/
def b21 : List S := [(.asg (.nm 3) (.bin .Add (.idx (.var 1) (.int (1))) (.comp (.tup [(.bin .Add (.var 4) (.idx (.var 1) (.int (0)))), (.bin .Add (.var 5) (.idx (.var 1) (.int (0))))]) (.tp [(.nm 4), (.nm 5)]) .val [(.idx (.var 2) (.int (1)))] [] [4, 5]))), (.ret (.call 16 [(.var 0), (.bin .Add (.idx (.var 1) (.int (0))) (.idx (.var 2) (.int (0)))), (.var 3)]))]
/-- _law_some(_law_source, _law_most); 0:_law_source 1:_law_most 2:_law_kind -/
def b22 : List S := [(.asg (.nm 2) (.call 9 [(.var 0), (.int (5))])), (.ifS (.cmp (.var 2) [.Eq] [(.int (0))]) [(.ret (.call 20 [(.var 0), (.bin .Add (.int (1)) (.call 9 [(.var 0), (.var 1)]))]))] []), (.ifS (.cmp (.var 2) [.Eq] [(.int (1))]) [(.ret (.call 19 [(.var 0), (.bin .Add (.int (1)) (.call 9 [(.var 0), (.var 1)]))]))] []), (.ifS (.cmp (.var 2) [.Eq] [(.int (2))]) [(.ret (.call 18 [(.var 0), (.bin .Add (.int (3)) (.call 9 [(.var 0), (.bin .Sub (.var 1) (.int (2)))]))]))] []), (.ret (.call 17 [(.var 0), (.var 1), (.int (3))]))]
/-- _law_mixed(_law_source, _law_most); 0:_law_source 1:_law_most 2:_law_web 3:_law_turn -/
def b23 : List S := [(.asg (.nm 2) (.call 22 [(.var 0), (.var 1)])), (.forS (.nm 3) .rng [(.call 10 [(.var 0), (.lst [(.int (0)), (.int (1)), (.int (1)), (.int (2))])])] [(.asg (.nm 2) (.call 21 [(.var 0), (.var 2), (.call 22 [(.var 0), (.var 1)])]))]), (.retV 2)]
/-- _law_large(_law_source); 0:_law_source 1:_law_size 2:_law_kind -/
def b24 : List S := [(.par [(.nm 1), (.nm 2)] [(.bin .Sub (.int (40)) (.call 10 [(.var 0), (.lst [(.int (0)), (.int (0)), (.int (1)), (.call 9 [(.var 0), (.int (9))])])])), (.call 9 [(.var 0), (.int (3))])]), (.ifS (.cmp (.var 2) [.Eq] [(.int (0))]) [(.ret (.call 19 [(.var 0), (.var 1)]))] []), (.ifS (.cmp (.var 2) [.Eq] [(.int (1))]) [(.ret (.call 18 [(.var 0), (.var 1)]))] []), (.ret (.call 17 [(.var 0), (.var 1), (.int (3))]))]
/-- _law_classes(_law_count, _law_links); 0:_law_count 1:_law_links 2:_law_label 3:_law_turn 4:_law_before 5:_law_x 6:_law_a 7:_law_b 8:_law_low -/
def b25 : List S := [(.asg (.nm 2) (.comp (.var 5) (.nm 5) .rng [(.var 0)] [] [5])), (.forS (.nm 3) .rng [(.var 0)] [(.asg (.nm 4) (.blt .list [(.var 2)])), (.forS (.tp [(.nm 6), (.nm 7)]) .val [(.var 1)] [(.asg (.nm 8) (.blt .min [(.idx (.var 2) (.var 6)), (.idx (.var 2) (.var 7))])), (.setI (.var 2) (.var 6) (.var 8)), (.setI (.var 2) (.var 7) (.var 8))]), (.ifS (.cmp (.var 2) [.Eq] [(.var 4)]) [.brk] [])]), (.retV 2)]
/-- _law_sides(_law_size, _law_links); 0:_law_size 1:_law_links 2:_law_part 3:_law_twice 4:_law_told 5:_law_x 6:_law_a 7:_law_b -/
def b26 : List S := [(.asg (.nm 2) (.call 25 [(.var 0), (.var 1)])), (.asg (.nm 3) (.call 25 [(.bin .Mult (.int (2)) (.var 0)), (.bin .Add (.comp (.tup [(.var 6), (.bin .Add (.var 7) (.var 0))]) (.tp [(.nm 6), (.nm 7)]) .val [(.var 1)] [] [6, 7]) (.comp (.tup [(.var 7), (.bin .Add (.var 6) (.var 0))]) (.tp [(.nm 6), (.nm 7)]) .val [(.var 1)] [] [6, 7]))])), (.asg (.nm 4) (.lst [])), (.forS (.nm 5) .rng [(.var 0)] [(.ifS (.cmp (.idx (.var 3) (.var 5)) [.Eq] [(.idx (.var 3) (.bin .Add (.var 5) (.var 0)))]) [(.expr (.lm .append (.var 4) [(.neg (.int (1)))]))] [(.expr (.lm .append (.var 4) [(.blt .int [(.cmp (.idx (.var 3) (.var 5)) [.NotEq] [(.idx (.var 3) (.idx (.var 2) (.var 5)))])])]))])]), (.retV 4)]
/-- _law_number(_law_thing); 0:_law_thing -/
def b27 : List S := [(.ret (.andE [(.isi (.var 0) .int), (.notE (.isi (.var 0) .bool))]))]
/-- _law_row(_law_told, _law_due); 0:_law_told 1:_law_due 2:_law_a 3:_law_b -/
def b28 : List S := [(.ifS (.orE [(.notE (.isi (.var 0) .tuple)), (.cmp (.blt .len [(.var 0)]) [.NotEq] [(.blt .len [(.var 1)])])]) [(.ret (.bl false))] []), (.forS (.tp [(.nm 2), (.nm 3)]) .zp [(.var 0), (.var 1)] [(.ifS (.orE [(.notE (.call 27 [(.var 2)])), (.cmp (.var 2) [.NotEq] [(.var 3)])]) [(.ret (.bl false))] [])]), (.ret (.bl true))]
/-- _law_right(_law_source); 0:_law_source 1:_law_told 2:_law_x 3:_law_size 4:_law_links 5:_law_web 6:_law_due 7:_law_label 8:_law_a 9:_law_b -/
def b29 : List S := [(.asg (.tp [(.nm 3), (.nm 4)]) (.call 23 [(.var 0), (.call 10 [(.var 0), (.lst [(.int (4)), (.int (4)), (.int (5)), (.int (6))])])])), (.ifS (.cmp (.call 9 [(.var 0), (.int (15))]) [.Eq] [(.int (0))]) [(.asg (.tp [(.nm 3), (.nm 4)]) (.call 24 [(.var 0)]))] []), (.par [(.nm 5), (.nm 6), (.nm 7)] [(.mk 5 [(.var 3), (.blt .tuple [(.var 4)])]), (.call 26 [(.var 3), (.var 4)]), (.call 25 [(.var 3), (.var 4)])]), (.asg (.nm 1) (.call 7 [(.var 5)])), (.ifS (.notE (.call 28 [(.var 1), (.var 6)])) [(.ret (.bl false))] []), (.forS (.nm 2) .rng [(.var 3)] [(.ifS (.andE [(.cmp (.idx (.var 7) (.var 2)) [.Eq] [(.var 2)]), (.cmp (.idx (.var 1) (.var 2)) [.Eq] [(.int (1))])]) [(.ret (.bl false))] [])]), (.forS (.tp [(.nm 8), (.nm 9)]) .val [(.var 4)] [(.ifS (.andE [(.cmp (.idx (.var 1) (.var 8)) [.NotEq] [(.neg (.int (1)))]), (.cmp (.bin .Add (.idx (.var 1) (.var 8)) (.idx (.var 1) (.var 9))) [.NotEq] [(.int (1))])]) [(.ret (.bl false))] [])]), (.ret (.cmp (.attr (.var 5) 1) [.Eq] [(.blt .tuple [(.var 4)])]))]
/-- law(_law_script); 0:_law_script 1:_law_k -/
def b30 : List S := [(.forS (.nm 1) .rng [(.blt .max [(.int (1)), (.blt .min [(.blt .len [(.var 0)]), (.int (4))])])] [(.ifS (.notE (.call 29 [(.call 8 [(.var 0), (.var 1)])])) [(.ret (.bl false))] [])]), (.ret (.bl true))]
class Ok (P : Pg) : Prop where
  f0 : P.fns[0]? = some ⟨3, 11, b0, [3, 5, 6, 4, 7, 8]⟩
  f1 : P.fns[1]? = some ⟨2, 2, b1, []⟩
  f2 : P.fns[2]? = some ⟨3, 3, b2, []⟩
  f3 : P.fns[3]? = some ⟨2, 2, b3, []⟩
  f4 : P.fns[4]? = some ⟨2, 6, b4, [2, 3, 4, 5]⟩
  f5 : P.fns[5]? = some ⟨1, 6, b5, [1, 2, 3, 4, 5]⟩
  f6 : P.fns[6]? = some ⟨2, 7, b6, [2, 3, 4, 5, 6]⟩
  f7 : P.fns[7]? = some ⟨1, 5, b7, [1, 2, 3, 4]⟩
  f8 : P.fns[8]? = some ⟨2, 5, b8, [2, 3, 4]⟩
  f9 : P.fns[9]? = some ⟨2, 3, b9, [2]⟩
  f10 : P.fns[10]? = some ⟨2, 2, b10, []⟩
  f11 : P.fns[11]? = some ⟨2, 6, b11, [3, 4, 2]⟩
  f12 : P.fns[12]? = some ⟨2, 4, b12, []⟩
  f13 : P.fns[13]? = some ⟨2, 2, b13, []⟩
  f14 : P.fns[14]? = some ⟨3, 6, b14, [3, 4, 5]⟩
  f15 : P.fns[15]? = some ⟨3, 7, b15, [3, 4, 5, 6]⟩
  f16 : P.fns[16]? = some ⟨3, 6, b16, [3]⟩
  f17 : P.fns[17]? = some ⟨3, 9, b17, [3, 4, 5, 7, 8, 6]⟩
  f18 : P.fns[18]? = some ⟨2, 3, b18, []⟩
  f19 : P.fns[19]? = some ⟨2, 4, b19, [2, 3]⟩
  f20 : P.fns[20]? = some ⟨2, 5, b20, [2, 3, 4]⟩
  f21 : P.fns[21]? = some ⟨3, 6, b21, [3]⟩
  f22 : P.fns[22]? = some ⟨2, 3, b22, [2]⟩
  f23 : P.fns[23]? = some ⟨2, 4, b23, [2, 3]⟩
  f24 : P.fns[24]? = some ⟨1, 3, b24, [1, 2]⟩
  f25 : P.fns[25]? = some ⟨2, 9, b25, [2, 3, 4, 6, 7, 8]⟩
  f26 : P.fns[26]? = some ⟨2, 8, b26, [2, 3, 4, 5]⟩
  f27 : P.fns[27]? = some ⟨1, 1, b27, []⟩
  f28 : P.fns[28]? = some ⟨2, 4, b28, [2, 3]⟩
  f29 : P.fns[29]? = some ⟨1, 10, b29, [3, 4, 5, 6, 7, 1, 2, 8, 9]⟩
  f30 : P.fns[30]? = some ⟨1, 2, b30, [1]⟩
  u0_0 : upOf P 0 0 = true
  u0_1 : upOf P 0 1 = false
  u0_2 : upOf P 0 2 = false
  u0_3 : upOf P 0 3 = false
  u0_4 : upOf P 0 4 = false
  u1_0 : upOf P 1 0 = true
  u1_1 : upOf P 1 1 = true
  u1_2 : upOf P 1 2 = false
  u1_3 : upOf P 1 3 = false
  u1_4 : upOf P 1 4 = false
  u2_0 : upOf P 2 0 = true
  u2_1 : upOf P 2 1 = false
  u2_2 : upOf P 2 2 = true
  u2_3 : upOf P 2 3 = false
  u2_4 : upOf P 2 4 = false
  u3_0 : upOf P 3 0 = true
  u3_1 : upOf P 3 1 = false
  u3_2 : upOf P 3 2 = false
  u3_3 : upOf P 3 3 = true
  u3_4 : upOf P 3 4 = false
  u4_0 : upOf P 4 0 = true
  u4_1 : upOf P 4 1 = false
  u4_2 : upOf P 4 2 = false
  u4_3 : upOf P 4 3 = false
  u4_4 : upOf P 4 4 = true
  c5 : P.cls[5]? = some ⟨0, [(0, 1), (1, 2)], []⟩
  m0_5 : methOf P 0 5 = some 1
  m1_5 : methOf P 1 5 = some 2
end Mv.K02

namespace Mv.K02
open PySem
local macro_rules | `(tactic| walk_at "mv") => `(tactic| try simp only [Ok.u0_0, Ok.u0_1, Ok.u0_2, Ok.u0_3, Ok.u0_4, Ok.u1_0, Ok.u1_1, Ok.u1_2, Ok.u1_3, Ok.u1_4, Ok.u2_0, Ok.u2_1, Ok.u2_2, Ok.u2_3, Ok.u2_4, Ok.u3_0, Ok.u3_1, Ok.u3_2, Ok.u3_3, Ok.u3_4, Ok.u4_0, Ok.u4_1, Ok.u4_2, Ok.u4_3, Ok.u4_4, s_callC Ok.c5, Ok.m0_5, Ok.m1_5, pk_web, hasP_web, ow_web, objP_web, clean_web, frz_web, itm_web, rd_web, rd_web0, rd_web1, rd_web2, fld_web0, fld_web1, ow_src, pk_src, hasP_src, sat_ok, sat_exc, sat_bind, sat_of, optP_some, optP_none, optP_map, optP_bind, optP_ite, ifP_true, ifP_false, ifP_not, dec_beq, slot_zero, slot_succ, set_zero, set_succ, wpeek_v, peek_r, pk_non, pk_bl, pk_int, pk_str, pk_tup, pk_lst, pk_obj, stP_zero, stP_succ, asg_nm, asg_tp, asgs_nil, asgs_cons, kB_next, kB_brk, kB_cont, kB_ret, sB_nil, sB_cons, sS_pass, sS_brk, sS_cont, sS_expr, sS_asg, sS_par, sS_ret, sS_retV, kJ_next, kJ_ret, kJ_brk, kJ_cont, sS_raise, sS_try, sH_nil, sH_none, sH_some, clean_nil, clean_non, clean_int, clean_bl, clean_nn, clean_str, clean_tup, clean_lst, clean_obj, readP_rd, rd_non, rd_bl, rd_int, rd_str, rd_tup, rd_own, rd_shr, rd_giv, rd_obj, e_int, e_bl, e_str, e_non, e_var, e_bin, intP_int, blP_bl, e_neg, e_not, e_and1, e_or1, e_and, e_or, e_ite, e_cmp, e_tup, e_lst, pathP_some, pathP_none, hasP_non, hasP_bl, hasP_int, hasP_str, hasP_tup, hasP_lst, hasP_obj, e_idxv, e_idxi, e_idxa, e_idxc, e_idxm, e_idxl, e_attr, exnP_exn, e_what, e_call, e_callk, e_mk, e_mkk, objP_obj, e_meth, e_blt, lstP_lst, e_lmv, e_lmi, e_isi, t_int, t_bl, t_var, t_bin, t_not, t_and0, t_and, t_or0, t_or, t_ite, t_cmp, t_idx, t_attr, t_call, t_meth, t_blt, t_isi, tAnd_nil, tAnd_cons, tru_bl, tru_int, tru_non, tru_tup, tru_lst, c_one, c_two, a_var, a_int, a_bl, a_str, a_non, a_bin, a_neg, a_not, a_and, a_or, a_ite, a_cmp, a_tup, a_lst, a_idx, a_attr, a_what, a_call, a_callk, a_mk, a_mkk, a_meth, a_blt, a_lm, a_isi, a_comp, es_nil, es_cons, as_nil, as_cons, pA_nil, pA_cons, lend_nil, wlend_v, lend_r, ow_non, ow_bl, ow_int, ow_str, ow_tup, ow_own, ow_shr, ow_giv, ow_oown, ow_oshr, s_callA, madeP_some, xP_cons, bk_nil, bk_v, bk_r, parsOf_eq, retP_ret, retP_next, pgo_0, pgo_s, mapS_nil, mapS_cons, wnoOwn_map, noOwn_nil, add_i, sub_i, mul_i, div_i, mod_i, pow_i, add_ib, add_t, mul_l, add_s, lt_i, le_i, gt_i, ge_i, eq_d, ne_d, in_d, ni_d, is_non, is_int, is_tup, isn_non, isn_int, isn_tup, lt_p, eq_ii, eq_bb, eq_pr4, eq_tupI, eq_tupP, eq_lstI, eq_lstN, eq_tupN, eq_lstP, in_it, in_il, in_pt2, in_pl2, fits0, fits1, fits2, fits3, fits4, fits5, fits6, fits7, fits8, fits9, fits10, fits11, fits12, fits13, fits14, optIx_nat, optIx_0, optIx_1, optIx_2, optIx_last, optIx_map, item_l, item_t, itm_non, itm_bl, itm_int, itm_str, itm_tup, itm_pr, itm_tupI, itm_tupP, itm_shr, itm_obj, rd_tupp, rd_shrp, rd_givp, rd_objp, rd_ownp, getP_nil, getP_ixl, getP_ixt, getP_fl, path_var, path_idx, path_attr, evI_int, evI_var, evIv_int, evI_add, evI_sub, evI_neg, evI_idx, peekP_eq, b_lenl, b_lent, b_inti, b_intb, b_booli, b_boolb, b_tupl, b_tuplm, b_tupt, b_listl, b_listlm, b_listt, b_max, b_min, b_abs, b_suml, b_sumt, b_sorti, b_sortp, b_sortpt, b_all, b_any, ty_non, ty_bl, ty_int, ty_str, ty_tup, ty_lst, lm_app, lm_pop, lm_popi, lm_ext, lm_rev, frzs_rowO, upd_ix, sS_setIv, sS_setIp, oobjP_obj, sS_setA, sS_aug, aug_add, aug_sub, pr_nil, pr_v, pr_r, prS_own, prS_shr, prS_giv, prS_tup, prS_int, chks_nil, chks_v, chks_r, im_lst, im_lstm, im_tup, im_rng1, im_rng2, im_enmt, im_enml, im_enmlm, im_rev, im_zp, im_zptl, im_zplt, im_zpt, still_nil, still_one, still_two, okC_nil, sS_for, kL_next, kL_cont, kL_brk, kL_ret, forP_nil, forP_cons, forP_mn, forP_mc, e_comp, wipe_nil, wipe_cons, natD, eq_self, Option.bind_some, Option.bind_none, prD, wtupI, tupP, rowO, rowS, frzs_rowO, putF, idxOf, Option.map_none, Option.map_some, fld_cons, add_l, noOwn_cons, frzs_map', eq_prs, in_pt, in_pl, Kd.frz_own, Kd.frz_shr, Kd.frz_giv, D.frz_non, D.frz_bl, D.frz_int, D.frz_str, D.frz_tup, D.frz_lst, D.frz_obj, D.frzs_nil, D.frzs_cons, List.getElem?_cons_zero, List.getElem?_cons_succ, List.set_cons_zero, List.set_cons_succ, List.length_cons, List.length_nil, List.length_map, List.contains_cons, List.contains_nil, List.cons_append, List.nil_append, List.replicate_succ, List.replicate_zero, Int.toNat_natCast, fo_i1, fo_i2, fo_i3, fo_i4, fo_i5, fo_i6, fo_i7, fo_i8, fo_i9, fo_i10, fo_i11, fo_i12, fo_i13, fo_i14, fo_p1, fo_p2, fo_p3, fo_p4, fo_p5, fo_p6, fo_p7, fo_p8, fo_p9, fo_p10, fo_p11, fo_p12, fo_ai, fo_ap, fo_app, fo_mm, true_and, and_true, Nat.reduceSub, Nat.reduceAdd, Nat.reduceLT, Nat.reduceLeDiff, Nat.reduceEqDiff, Nat.reduceBEq, Int.reduceLT, Int.reduceLE, Int.reduceNeg, Int.reduceToNat, Bool.not_true, Bool.not_false, Bool.true_and, Bool.and_true, Bool.false_and, Bool.true_or, Bool.or_true, Bool.false_or, Bool.or_false, if_false, if_true, reduceIte, reduceCtorEq, decide_true, decide_false, Bool.false_eq_true, ↓reduceIte, beq_self_eq_true])
local macro_rules | `(tactic| walk_at "si") => `(tactic| first | assumption | (refine okC_i ?_; rfl) | (refine rng62_of ?_ ?_ <;> omega) | (refine rng63_of ?_ ?_ <;> omega) | omega | decide | rfl | (intros; rfl))
local macro_rules | `(tactic| walk_at "ms") => `(tactic| first | ((with_reducible refine And.intro ?mca ?mcb); (case mca => walk_at "si"); (walk_at "mv")) | ((with_reducible refine ifP_pos ?mca ?mcb); (case mca => first | assumption | omega); (walk_at "mv")) | ((with_reducible refine ifP_neg ?mca ?mcb); (case mca => first | assumption | omega); (walk_at "mv")) | fail "no step")
local macro_rules | `(tactic| walk_at "mi") => `(tactic| ((with_reducible refine sS_ifI ?_); (walk_at "mv")))
local macro_rules | `(tactic| walk_at "mn") => `(tactic| ((walk_at "mv"); repeat' (walk_at "ms")))
local macro_rules | `(tactic| walk_at "mc") => `(tactic| ((walk_at "mv"); repeat' (first | walk_at "ms" | walk_at "mi")))
variable {P : Pg} [Ok P] {X : Nat → D → En → Prop} {K : D → En → Prop}
theorem some_s {m : Nat} {A B M : Int} (M4 : 4 ≤ M) (M7 : M ≤ 6) (k : ∀ (n : Nat) (l : List (Int × Int)) (A' B' : Int), Gw n l → (n : Int) ≤ M → l.length ≤ 36 → K (.tup [.int n, .lst .shr (l.map prD)]) [some (src A' B'), some (.int M)]) : (run P (m + 5) 22 [src A B, .int M]).out.sat K X := by
  replace k : ∀ (n : Nat) (l : List (Int × Int)) (A' B' : Int), Gw n l → (n : Int) ≤ M → K (.tup [.int n, .lst .shr (l.map prD)]) [some (src A' B'), some (.int M)] := fun n l A B g h => k n l A B g h (by
    have := g.few
    have : n * n ≤ 36 := Nat.mul_le_mul (show n ≤ 6 by omega) (show n ≤ 6 by omega)
    omega)
  rw [s_run Ok.f22 rfl]
  unfold b22
  walk_at "mc"
  refine take_s Ok.f9 (by decide) (by decide +kernel) fun u A B u0 u1 => ?_
  walk_at "mc"
  refine ifP_D (fun _ => ?_) fun _ => ?_ <;> walk_at "mc"
  · refine take_s Ok.f9 (by omega) (big8 (by omega)) fun v A B v0 v1 => ?_
    walk_at "mc"
    obtain ⟨c, hc⟩ : ∃ c : Nat, 1 + v = (c : Int) := ⟨(1 + v).toNat, by omega⟩
    rw [hc]
    refine any_s (c := c) Ok.f9 Ok.f20 (by omega) fun l A B hl _ => ?_
    walk_at "mc"
    exact k c _ A B (.sorted (by omega) hl.rng hl.nd) (by omega)
  refine ifP_D (fun _ => ?_) fun _ => ?_ <;> walk_at "mc"
  · refine take_s Ok.f9 (by omega) (big8 (by omega)) fun v A B v0 v1 => ?_
    walk_at "mc"
    obtain ⟨c, hc⟩ : ∃ c : Nat, 1 + v = (c : Int) := ⟨(1 + v).toNat, by omega⟩
    rw [hc]
    refine tre_s (n := c) Ok.f9 Ok.f10 Ok.f13 Ok.f11 Ok.f16 Ok.f19 (by omega) (by omega) fun l A B hl => ?_
    walk_at "mc"
    exact k c _ A B hl.gw (by omega)
  refine ifP_D (fun _ => ?_) fun _ => ?_ <;> walk_at "mc"
  · refine take_s Ok.f9 (by omega) (big8 (by omega)) fun v A B v0 v1 => ?_
    walk_at "mc"
    obtain ⟨c, hc⟩ : ∃ c : Nat, 3 + v = (c : Int) := ⟨(3 + v).toNat, by omega⟩
    rw [hc]
    refine rnd_s (n := c) Ok.f9 Ok.f13 Ok.f11 Ok.f16 Ok.f18 (by omega) (by omega) fun l A B hl => ?_
    walk_at "mc"
    exact k c _ A B (hl.gw (by omega)) (by omega)
  · refine sto_s Ok.f9 Ok.f10 Ok.f12 Ok.f13 Ok.f11 Ok.f14 Ok.f15 Ok.f16 Ok.f17 M4 (by omega) fun b n l A B hl hn _ _ _ => ?_
    walk_at "mc"
    exact k n _ A B hl.gw hn
theorem mixed_s {m : Nat} {A B M : Int} (M4 : 4 ≤ M) (M7 : M ≤ 6) (k : ∀ (n : Nat) (l : List (Int × Int)) (A' B' : Int), Gw n l → n ≤ 18 → l.length ≤ 108 → K (.tup [.int n, .lst .shr (l.map prD)]) [some (src A' B'), some (.int M)]) : (run P (m + 6) 23 [src A B, .int M]).out.sat K X := by
  rw [s_run Ok.f23 rfl]
  unfold b23
  walk_at "mc"
  refine some_s M4 M7 fun n l A B g hn hl => ?_
  walk_at "mc"
  refine one_s (g := D.int) Ok.f9 Ok.f10 (by simp) (by simp) fun c A B hc => ?_
  have c2 : 0 ≤ c ∧ c ≤ 2 := by simp at hc; omega
  clear hc
  walk_at "mc"
  obtain ⟨c, rfl⟩ : ∃ c' : Nat, c = (c' : Int) := ⟨c.toNat, by omega⟩
  walk_at "mc"
  refine forP_nat (fun i r => ∃ A B n l z3, Gw ((n : Nat) : Int) l ∧ n ≤ 6 * (i + 1) ∧ l.length ≤ 36 * (i + 1) ∧ r = [some (src A B), some (.int M), some (.tup [.int (n : Int), .lst .shr (l.map prD)]), z3]) ⟨A, B, n, l, _, g, by omega, by omega, rfl⟩ ?_ ?_ ?_
  · rintro i r _ ⟨A, B, n, l, z3, _, _, _, rfl⟩; walk_at "mv"
  · rintro i hi _ ⟨A, B, n, l, z3, g, hn, hl, rfl⟩
    walk_at "mc"
    refine some_s M4 M7 fun c u A B gu hc hu => ?_
    walk_at "mc"
    refine bes_s Ok.f9 Ok.f13 Ok.f11 Ok.f16 Ok.f21 g gu (by omega) (by omega) fun w A B bw => ?_
    walk_at "mc"
    exact ⟨A, B, n + c, w, _, BesW.gw g gu bw, by omega, by rw [bw.len]; omega, rfl⟩
  · rintro _ ⟨A, B, n, l, z3, g, hn, hl, rfl⟩
    walk_at "mc"
    exact k n l A B g (by omega) (by omega)
theorem large_s {m : Nat} {A B : Int} (k : ∀ (n : Nat) (l : List (Int × Int)) (A' B' : Int), Gw n l → n ≤ 40 → l.length ≤ 160 → K (.tup [.int n, .lst .shr (l.map prD)]) [some (src A' B')]) : (run P (m + 5) 24 [src A B]).out.sat K X := by
  rw [s_run Ok.f24 rfl]
  unfold b24
  walk_at "mc"
  refine take_s Ok.f9 (by decide) (by decide +kernel) fun u A B u0 u1 => ?_
  walk_at "mc"
  refine one_s (g := D.int) Ok.f9 Ok.f10 (by simp) (by simp) fun c A B hc => ?_
  have c2 : 0 ≤ c ∧ c ≤ 8 := by simp at hc; omega
  clear hc
  walk_at "mc"
  refine take_s Ok.f9 (by decide) (by decide +kernel) fun v A B v0 v1 => ?_
  obtain ⟨n, hn⟩ : ∃ n : Nat, 40 - c = (n : Int) := ⟨(40 - c).toNat, by omega⟩
  rw [hn]
  walk_at "mc"
  refine ifP_D (fun _ => ?_) fun _ => ?_ <;> walk_at "mc"
  · refine tre_s (n := n) Ok.f9 Ok.f10 Ok.f13 Ok.f11 Ok.f16 Ok.f19 (by omega) (by omega) fun l A B hl => ?_
    walk_at "mc"
    exact k n _ A B hl.gw (by omega) (by have := hl.len; omega)
  refine ifP_D (fun _ => ?_) fun _ => ?_ <;> walk_at "mc"
  · refine rnd_s (n := n) Ok.f9 Ok.f13 Ok.f11 Ok.f16 Ok.f18 (by omega) (by omega) fun l A B hl => ?_
    walk_at "mc"
    exact k n _ A B (hl.gw (by omega)) (by omega) (by have := hl.len (by omega); omega)
  · refine sto_s Ok.f9 Ok.f10 Ok.f12 Ok.f13 Ok.f11 Ok.f14 Ok.f15 Ok.f16 Ok.f17 (by omega) (by omega) fun b n l A B hl hn h89 _ _ => ?_
    walk_at "mc"
    exact k n _ A B hl.gw (by omega) (by omega)
theorem num_s {m : Nat} {i : Int} (k : K (.bl true) [some (.int i)]) : (run P (m + 1) 27 [.int i]).out.sat K X := by
  rw [s_run Ok.f27 rfl]
  unfold b27
  walk_at "mc"
  exact k
local macro_rules | `(tactic| walk_at "mt") => `(tactic| ((walk_at "mc"); repeat (first | (simp only [rep_tb, noOwn_tb, frzs_tb, tbI_len, rep_tbB, noOwn_tbB, frzs_tbB, tbBD_len]; (walk_at "mc")) | fail "no")))
theorem row_s {m n : Nat} {t : Int → Int} (n40 : n ≤ 40) (k : K (.bl true) [some (.tup (tbI n t)), some (.lst .own (tbI n t))]) : (run P (m + 2) 28 [.tup (tbI n t), .lst .own (tbI n t)]).out.sat K X := by
  rw [s_run Ok.f28 rfl]
  unfold b28
  walk_at "mt"
  unfold tbI at k ⊢
  walk_at "mc"
  have zz : ∀ (l : List Int) (p : Int × Int), p ∈ l.zip l → p.1 = p.2 := fun l => by
    induction l with
    | nil => simp
    | cons a l ih =>
      intro p hp
      rw [List.zip_cons_cons] at hp
      rcases List.mem_cons.mp hp with rfl | hp
      · rfl
      · exact ih p hp
  refine forP_map (f := fun x : Int × Int => D.tup [D.int x.1, D.int x.2]) (fun pre r => ∃ z2 z3, r = [some (.tup ((tb n t).map D.int)), some (.lst .own ((tb n t).map D.int)), z2, z3]) ⟨_, _, rfl⟩ ?_ ?_ ?_
  · rintro pre r ⟨z2, z3, rfl⟩; walk_at "mv"
  · rintro pre ⟨a, b⟩ post e _ ⟨z2, z3, rfl⟩
    obtain rfl : a = b := zz (tb n t) (a, b) (by rw [e]; simp)
    walk_at "mc"
    refine num_s ?_
    walk_at "mc"
    exact ⟨_, _, rfl⟩
  · rintro _ ⟨z2, z3, rfl⟩
    walk_at "mc"
    exact k
theorem part_s {m n : Nat} {x : Int} {l : List (Int × Int)} (hw : WebOk (n : Int) l) (x0 : 0 ≤ x) (x1 : x < (n : Int)) (k : K (.tup ((part l n x).map D.int)) [some (webD 5 n l), some (.int x)]) :
    (run P (m + 3) 4 [webD 5 n l, .int x]).out.sat K X := by
  have gw : Gw n l := ⟨hw.n1, hw.rng, hw.asc⟩
  have n40 := hw.n40
  rw [s_run Ok.f4 rfl]
  unfold b4
  walk_at "mc"
  refine want_s (n := (n : Int)) Ok.f3 (fun _ _ => ?_) fun hx => absurd ⟨x0, x1⟩ hx
  walk_at "mt"
  refine up_tbB x0 x1 ?_
  walk_at "mt"
  have ol : ∀ f, out n f ≤ n := fun f => by have := List.countP_le_length (p := fun y => !f y) (l := cellsI n); rw [cellsI_len] at this; exact this
  have o0 := ol (upB (fun _ => false) x true)
  refine sS_whl (fun j r => ∃ f w z4 z5, Dfs l n x f w ∧ j = 2 * out n f + w.length ∧ j ≤ 100 ∧ r = [some (webD 5 n l), some (.int x), some (.lst .own (tbBD n f)), some (.lst .own (w.map D.int)), z4, z5]) (k := 2 * out n (upB (fun _ => false) x true) + 1) (by omega) ⟨_, [x], _, _, Dfs.start.mpr ⟨x0, x1⟩, rfl, by omega, rfl⟩ ?_
  rintro j r ⟨f, w, z4, z5, d, ej, jl, rfl⟩
  rcases List.eq_nil_or_concat w with rfl | ⟨w, c, rfl⟩
  · walk_at "mv"
    rw [show (List.map D.int ([] : List Int)).isEmpty = true from rfl]
    walk_at "mt"
    have pf := d.part gw x0 x1
    refine compP_f (f := natD) (fun y : Nat => f (y : Int) = true) (by rw [List.length_range]; omega) (by walk_at "mv") (fun y hy h => ?_) (fun y hy h => ?_) ?_
    · have hy := List.mem_range.mp hy
      walk_at "mt"
      refine rd_tbB (by omega) (by omega) ?_
      rw [h]
      walk_at "mt"
    · have hy := List.mem_range.mp hy
      walk_at "mt"
      refine rd_tbB (by omega) (by omega) ?_
      rw [Bool.not_eq_true] at h
      rw [h]
      walk_at "mt"
    · have e : List.map natD (List.filter (fun y : Nat => decide (f (y : Int) = true)) (List.range n)) = List.map D.int (part l n x) := by
        rw [← pf]
        unfold cellsI
        rw [List.filter_map, List.map_map]
        have : (fun y : Nat => decide (f (y : Int) = true)) = f ∘ fun (k : Nat) => (k : Int) := by funext y; simp
        rw [this]; rfl
      rw [e]
      walk_at "mt"
      exact k
  · rw [List.concat_eq_append] at d ej ⊢
    rw [List.length_append, List.length_singleton] at ej
    have cr := d.rng c (by simp)
    walk_at "mv"
    rw [show (List.map D.int (w ++ [c])).isEmpty = false from by simp]
    walk_at "mt"
    rw [show (List.map D.int (w ++ [c]))[(w ++ [c]).length - 1]? = some (.int c) from by simp, show (List.map D.int (w ++ [c])).dropLast = List.map D.int w from by simp]
    walk_at "mt"
    refine near_s (n := (n : Int)) Ok.f3 Ok.f1 cr.1 cr.2.1 ?_
    walk_at "mt"
    refine forP_map (fun pre r => ∃ f w z5, Dfm l n x c pre f w ∧ 2 * out n f + w.length + 1 ≤ j ∧ r = [some (webD 5 n l), some (.int x), some (.lst .own (tbBD n f)), some (.lst .own (w.map D.int)), some (.int c), z5]) ⟨f, w, z5, d.pop, by omega, rfl⟩ ?_ ?_ ?_
    · rintro pre r ⟨f, w, z5, _, _, rfl⟩; walk_at "mv"
    · rintro pre o post eo _ ⟨f, w, z5, d, ew, rfl⟩
      have ho : o ∈ nbr l c := by rw [eo]; simp
      obtain ⟨o0, o1⟩ := (gw.nbr_rng ho).1
      walk_at "mt"
      refine rd_tbB o0 o1 ?_
      by_cases hf : f o = true
      · rw [hf]
        walk_at "mt"
        exact ⟨f, w, _, d.skip hf, ew, rfl⟩
      · rw [Bool.not_eq_true] at hf
        have oo := out_up o0 o1 hf
        rw [hf]
        walk_at "mt"
        refine up_tbB o0 o1 ?_
        walk_at "mt"
        exact ⟨_, _, _, d.put gw ho, by rw [List.length_append, List.length_singleton]; omega, rfl⟩
    · rintro _ ⟨f, w, z5, d, ew, rfl⟩
      walk_at "mt"
      exact ⟨2 * out n f + w.length, by omega, f, w, _, _, d.next, rfl, by omega, rfl⟩
end Mv.K02

namespace Mv.K02
open PySem
local macro_rules | `(tactic| walk_at "mv") => `(tactic| try simp only [Ok.u0_0, Ok.u0_1, Ok.u0_2, Ok.u0_3, Ok.u0_4, Ok.u1_0, Ok.u1_1, Ok.u1_2, Ok.u1_3, Ok.u1_4, Ok.u2_0, Ok.u2_1, Ok.u2_2, Ok.u2_3, Ok.u2_4, Ok.u3_0, Ok.u3_1, Ok.u3_2, Ok.u3_3, Ok.u3_4, Ok.u4_0, Ok.u4_1, Ok.u4_2, Ok.u4_3, Ok.u4_4, s_callC Ok.c5, Ok.m0_5, Ok.m1_5, pk_web, hasP_web, ow_web, objP_web, clean_web, frz_web, itm_web, rd_web, rd_web0, rd_web1, rd_web2, fld_web0, fld_web1, ow_src, pk_src, hasP_src, sat_ok, sat_exc, sat_bind, sat_of, optP_some, optP_none, optP_map, optP_bind, optP_ite, ifP_true, ifP_false, ifP_not, dec_beq, slot_zero, slot_succ, set_zero, set_succ, wpeek_v, peek_r, pk_non, pk_bl, pk_int, pk_str, pk_tup, pk_lst, pk_obj, stP_zero, stP_succ, asg_nm, asg_tp, asgs_nil, asgs_cons, kB_next, kB_brk, kB_cont, kB_ret, sB_nil, sB_cons, sS_pass, sS_brk, sS_cont, sS_expr, sS_asg, sS_par, sS_ret, sS_retV, kJ_next, kJ_ret, kJ_brk, kJ_cont, sS_raise, sS_try, sH_nil, sH_none, sH_some, clean_nil, clean_non, clean_int, clean_bl, clean_nn, clean_str, clean_tup, clean_lst, clean_obj, readP_rd, rd_non, rd_bl, rd_int, rd_str, rd_tup, rd_own, rd_shr, rd_giv, rd_obj, e_int, e_bl, e_str, e_non, e_var, e_bin, intP_int, blP_bl, e_neg, e_not, e_and1, e_or1, e_and, e_or, e_ite, e_cmp, e_tup, e_lst, pathP_some, pathP_none, hasP_non, hasP_bl, hasP_int, hasP_str, hasP_tup, hasP_lst, hasP_obj, e_idxv, e_idxi, e_idxa, e_idxc, e_idxm, e_idxl, e_attr, exnP_exn, e_what, e_call, e_callk, e_mk, e_mkk, objP_obj, e_meth, e_blt, lstP_lst, e_lmv, e_lmi, e_isi, t_int, t_bl, t_var, t_bin, t_not, t_and0, t_and, t_or0, t_or, t_ite, t_cmp, t_idx, t_attr, t_call, t_meth, t_blt, t_isi, tAnd_nil, tAnd_cons, tru_bl, tru_int, tru_non, tru_tup, tru_lst, c_one, c_two, a_var, a_int, a_bl, a_str, a_non, a_bin, a_neg, a_not, a_and, a_or, a_ite, a_cmp, a_tup, a_lst, a_idx, a_attr, a_what, a_call, a_callk, a_mk, a_mkk, a_meth, a_blt, a_lm, a_isi, a_comp, es_nil, es_cons, as_nil, as_cons, pA_nil, pA_cons, lend_nil, wlend_v, lend_r, ow_non, ow_bl, ow_int, ow_str, ow_tup, ow_own, ow_shr, ow_giv, ow_oown, ow_oshr, s_callA, madeP_some, xP_cons, bk_nil, bk_v, bk_r, parsOf_eq, retP_ret, retP_next, pgo_0, pgo_s, mapS_nil, mapS_cons, wnoOwn_map, noOwn_nil, add_i, sub_i, mul_i, div_i, mod_i, pow_i, add_ib, add_t, mul_l, add_s, lt_i, le_i, gt_i, ge_i, eq_d, ne_d, in_d, ni_d, is_non, is_int, is_tup, isn_non, isn_int, isn_tup, lt_p, eq_ii, eq_bb, eq_pr4, eq_tupI, eq_tupP, eq_lstI, eq_lstN, eq_tupN, eq_lstP, in_it, in_il, in_pt2, in_pl2, fits0, fits1, fits2, fits3, fits4, fits5, fits6, fits7, fits8, fits9, fits10, fits11, fits12, fits13, fits14, optIx_nat, optIx_0, optIx_1, optIx_2, optIx_last, optIx_map, item_l, item_t, itm_non, itm_bl, itm_int, itm_str, itm_tup, itm_pr, itm_tupI, itm_tupP, itm_shr, itm_obj, rd_tupp, rd_shrp, rd_givp, rd_objp, rd_ownp, getP_nil, getP_ixl, getP_ixt, getP_fl, path_var, path_idx, path_attr, evI_int, evI_var, evIv_int, evI_add, evI_sub, evI_neg, evI_idx, peekP_eq, b_lenl, b_lent, b_inti, b_intb, b_booli, b_boolb, b_tupl, b_tuplm, b_tupt, b_listl, b_listlm, b_listt, b_max, b_min, b_abs, b_suml, b_sumt, b_sorti, b_sortp, b_sortpt, b_all, b_any, ty_non, ty_bl, ty_int, ty_str, ty_tup, ty_lst, lm_app, lm_pop, lm_popi, lm_ext, lm_rev, frzs_rowO, upd_ix, sS_setIv, sS_setIp, oobjP_obj, sS_setA, sS_aug, aug_add, aug_sub, pr_nil, pr_v, pr_r, prS_own, prS_shr, prS_giv, prS_tup, prS_int, chks_nil, chks_v, chks_r, im_lst, im_lstm, im_tup, im_rng1, im_rng2, im_enmt, im_enml, im_enmlm, im_rev, im_zp, im_zptl, im_zplt, im_zpt, still_nil, still_one, still_two, okC_nil, sS_for, kL_next, kL_cont, kL_brk, kL_ret, forP_nil, forP_cons, forP_mn, forP_mc, e_comp, wipe_nil, wipe_cons, natD, eq_self, Option.bind_some, Option.bind_none, prD, wtupI, tupP, rowO, rowS, frzs_rowO, putF, idxOf, Option.map_none, Option.map_some, fld_cons, add_l, noOwn_cons, frzs_map', eq_prs, in_pt, in_pl, Kd.frz_own, Kd.frz_shr, Kd.frz_giv, D.frz_non, D.frz_bl, D.frz_int, D.frz_str, D.frz_tup, D.frz_lst, D.frz_obj, D.frzs_nil, D.frzs_cons, List.getElem?_cons_zero, List.getElem?_cons_succ, List.set_cons_zero, List.set_cons_succ, List.length_cons, List.length_nil, List.length_map, List.contains_cons, List.contains_nil, List.cons_append, List.nil_append, List.replicate_succ, List.replicate_zero, Int.toNat_natCast, fo_i1, fo_i2, fo_i3, fo_i4, fo_i5, fo_i6, fo_i7, fo_i8, fo_i9, fo_i10, fo_i11, fo_i12, fo_i13, fo_i14, fo_p1, fo_p2, fo_p3, fo_p4, fo_p5, fo_p6, fo_p7, fo_p8, fo_p9, fo_p10, fo_p11, fo_p12, fo_ai, fo_ap, fo_app, fo_mm, true_and, and_true, Nat.reduceSub, Nat.reduceAdd, Nat.reduceLT, Nat.reduceLeDiff, Nat.reduceEqDiff, Nat.reduceBEq, Int.reduceLT, Int.reduceLE, Int.reduceNeg, Int.reduceToNat, Bool.not_true, Bool.not_false, Bool.true_and, Bool.and_true, Bool.false_and, Bool.true_or, Bool.or_true, Bool.false_or, Bool.or_false, if_false, if_true, reduceIte, reduceCtorEq, decide_true, decide_false, Bool.false_eq_true, ↓reduceIte, beq_self_eq_true])
local macro_rules | `(tactic| walk_at "si") => `(tactic| first | assumption | (refine okC_i ?_; rfl) | (refine rng62_of ?_ ?_ <;> omega) | (refine rng63_of ?_ ?_ <;> omega) | omega | decide | rfl | (intros; rfl))
local macro_rules | `(tactic| walk_at "ms") => `(tactic| first | ((with_reducible refine And.intro ?mca ?mcb); (case mca => walk_at "si"); (walk_at "mv")) | ((with_reducible refine ifP_pos ?mca ?mcb); (case mca => first | assumption | omega); (walk_at "mv")) | ((with_reducible refine ifP_neg ?mca ?mcb); (case mca => first | assumption | omega); (walk_at "mv")) | fail "no step")
local macro_rules | `(tactic| walk_at "mi") => `(tactic| ((with_reducible refine sS_ifI ?_); (walk_at "mv")))
local macro_rules | `(tactic| walk_at "mn") => `(tactic| ((walk_at "mv"); repeat' (walk_at "ms")))
local macro_rules | `(tactic| walk_at "mc") => `(tactic| ((walk_at "mv"); repeat' (first | walk_at "ms" | walk_at "mi")))
local macro_rules | `(tactic| walk_at "mt") => `(tactic| ((walk_at "mc"); repeat (first | (simp only [rep_tb, noOwn_tb, frzs_tb, tbI_len, rep_tbB, noOwn_tbB, frzs_tbB, tbBD_len]; (walk_at "mc")) | fail "no")))
variable {P : Pg} [Ok P] {X : Nat → D → En → Prop} {K : D → En → Prop}
theorem parts_s {m n : Nat} {l : List (Int × Int)} (hw : WebOk (n : Int) l) (k : K (.tup (((heads l n).map (part l n)).map wtupI)) [some (webD 5 n l)]) :
    (run P (m + 4) 5 [webD 5 n l]).out.sat K X := by
  have gw : Gw n l := ⟨hw.n1, hw.rng, hw.asc⟩
  have n40 := hw.n40
  rw [s_run Ok.f5 rfl]
  unfold b5
  walk_at "mt"
  rw [show (D.lst .own [] : D) = .lst .own (([] : List (List Int)).map wtupI) from rfl]
  refine forP_nat (fun i r => ∃ f z3 z4 z5, Dn l (i : Int) f n ∧ r = [some (webD 5 n l), some (.lst .own (((heads l i).map (part l n)).map wtupI)), some (.lst .own (tbBD n f)), z3, z4, z5]) ⟨_, _, _, _, fun y y0 y1 => ⟨fun h => (by cases h), fun ⟨x, x0, x1, _⟩ => (by omega)⟩, rfl⟩ ?_ ?_ ?_
  · rintro i r _ ⟨f, z3, z4, z5, _, rfl⟩; walk_at "mv"
  · rintro i hi _ ⟨f, z3, z4, z5, d, rfl⟩
    have hl := heads_len (l := l) (i := i)
    walk_at "mt"
    refine rd_tbB (by omega) (by omega) ?_
    by_cases h : f (i : Int) = true
    · rw [h]
      walk_at "mt"
      have nl : ¬ Least l (i : Int) := fun q => by have := (d.least (by omega) (by omega)).mpr q; rw [h] at this; cases this
      exact ⟨f, some (.int (i : Int)), z4, z5, by have := d.skip (by omega) (by omega) h; simpa using this, by rw [heads_succ_neg nl]⟩
    · rw [Bool.not_eq_true] at h
      have ls := (d.least (by omega) (by omega)).mp h
      rw [h]
      walk_at "mt"
      refine part_s hw (by omega) (by omega) ?_
      walk_at "mt"
      refine forP_map (fun pre r => ∃ g z5, (∀ y, 0 ≤ y → y < (n : Int) → (g y = true ↔ f y = true ∨ y ∈ pre)) ∧ r = [some (webD 5 n l), some (.lst .own (((heads l i).map (part l n)).map wtupI)), some (.lst .own (tbBD n g)), some (.int (i : Int)), some (.tup ((part l n (i : Int)).map D.int)), z5]) ⟨f, _, fun y _ _ => by simp, rfl⟩ ?_ ?_ ?_
      · rintro pre r ⟨g, z5, _, rfl⟩; walk_at "mv"
      · rintro pre c post ec _ ⟨g, z5, hg, rfl⟩
        have hc := mem_part.mp (show c ∈ part l n (i : Int) by rw [ec]; simp)
        walk_at "mt"
        refine up_tbB hc.1.1 hc.1.2 ?_
        walk_at "mt"
        refine ⟨_, _, fun y y0 y1 => ?_, rfl⟩
        by_cases e : y = c
        · subst e; rw [upB_same]; simp
        · rw [upB_ne e, hg y y0 y1]; simp [e]
      · rintro _ ⟨g, z5, hg, rfl⟩
        walk_at "mt"
        refine ⟨g, some (.int (i : Int)), some (.tup ((part l n (i : Int)).map D.int)), z5, ?_, ?_⟩
        · have := d.add (by omega) (g := g) fun y y0 y1 => by
            rw [hg y y0 y1, mem_part]
            exact or_congr_right ⟨fun h => h.2, fun h => ⟨⟨y0, y1⟩, h⟩⟩
          simpa using this
        · rw [heads_succ_pos ls, List.map_append, List.map_append]
          rfl
  · rintro _ ⟨f, z3, z4, z5, d, rfl⟩
    walk_at "mt"
    exact k
end Mv.K02

namespace Mv.K02
open PySem
local macro_rules | `(tactic| walk_at "mv") => `(tactic| try simp only [Ok.u0_0, Ok.u0_1, Ok.u0_2, Ok.u0_3, Ok.u0_4, Ok.u1_0, Ok.u1_1, Ok.u1_2, Ok.u1_3, Ok.u1_4, Ok.u2_0, Ok.u2_1, Ok.u2_2, Ok.u2_3, Ok.u2_4, Ok.u3_0, Ok.u3_1, Ok.u3_2, Ok.u3_3, Ok.u3_4, Ok.u4_0, Ok.u4_1, Ok.u4_2, Ok.u4_3, Ok.u4_4, s_callC Ok.c5, Ok.m0_5, Ok.m1_5, pk_web, hasP_web, ow_web, objP_web, clean_web, frz_web, itm_web, rd_web, rd_web0, rd_web1, rd_web2, fld_web0, fld_web1, ow_src, pk_src, hasP_src, sat_ok, sat_exc, sat_bind, sat_of, optP_some, optP_none, optP_map, optP_bind, optP_ite, ifP_true, ifP_false, ifP_not, dec_beq, slot_zero, slot_succ, set_zero, set_succ, wpeek_v, peek_r, pk_non, pk_bl, pk_int, pk_str, pk_tup, pk_lst, pk_obj, stP_zero, stP_succ, asg_nm, asg_tp, asgs_nil, asgs_cons, kB_next, kB_brk, kB_cont, kB_ret, sB_nil, sB_cons, sS_pass, sS_brk, sS_cont, sS_expr, sS_asg, sS_par, sS_ret, sS_retV, kJ_next, kJ_ret, kJ_brk, kJ_cont, sS_raise, sS_try, sH_nil, sH_none, sH_some, clean_nil, clean_non, clean_int, clean_bl, clean_nn, clean_str, clean_tup, clean_lst, clean_obj, readP_rd, rd_non, rd_bl, rd_int, rd_str, rd_tup, rd_own, rd_shr, rd_giv, rd_obj, e_int, e_bl, e_str, e_non, e_var, e_bin, intP_int, blP_bl, e_neg, e_not, e_and1, e_or1, e_and, e_or, e_ite, e_cmp, e_tup, e_lst, pathP_some, pathP_none, hasP_non, hasP_bl, hasP_int, hasP_str, hasP_tup, hasP_lst, hasP_obj, e_idxv, e_idxi, e_idxa, e_idxc, e_idxm, e_idxl, e_attr, exnP_exn, e_what, e_call, e_callk, e_mk, e_mkk, objP_obj, e_meth, e_blt, lstP_lst, e_lmv, e_lmi, e_isi, t_int, t_bl, t_var, t_bin, t_not, t_and0, t_and, t_or0, t_or, t_ite, t_cmp, t_idx, t_attr, t_call, t_meth, t_blt, t_isi, tAnd_nil, tAnd_cons, tru_bl, tru_int, tru_non, tru_tup, tru_lst, c_one, c_two, a_var, a_int, a_bl, a_str, a_non, a_bin, a_neg, a_not, a_and, a_or, a_ite, a_cmp, a_tup, a_lst, a_idx, a_attr, a_what, a_call, a_callk, a_mk, a_mkk, a_meth, a_blt, a_lm, a_isi, a_comp, es_nil, es_cons, as_nil, as_cons, pA_nil, pA_cons, lend_nil, wlend_v, lend_r, ow_non, ow_bl, ow_int, ow_str, ow_tup, ow_own, ow_shr, ow_giv, ow_oown, ow_oshr, s_callA, madeP_some, xP_cons, bk_nil, bk_v, bk_r, parsOf_eq, retP_ret, retP_next, pgo_0, pgo_s, mapS_nil, mapS_cons, wnoOwn_map, noOwn_nil, add_i, sub_i, mul_i, div_i, mod_i, pow_i, add_ib, add_t, mul_l, add_s, lt_i, le_i, gt_i, ge_i, eq_d, ne_d, in_d, ni_d, is_non, is_int, is_tup, isn_non, isn_int, isn_tup, lt_p, eq_ii, eq_bb, eq_pr4, eq_tupI, eq_tupP, eq_lstI, eq_lstN, eq_tupN, eq_lstP, in_it, in_il, in_pt2, in_pl2, fits0, fits1, fits2, fits3, fits4, fits5, fits6, fits7, fits8, fits9, fits10, fits11, fits12, fits13, fits14, optIx_nat, optIx_0, optIx_1, optIx_2, optIx_last, optIx_map, item_l, item_t, itm_non, itm_bl, itm_int, itm_str, itm_tup, itm_pr, itm_tupI, itm_tupP, itm_shr, itm_obj, rd_tupp, rd_shrp, rd_givp, rd_objp, rd_ownp, getP_nil, getP_ixl, getP_ixt, getP_fl, path_var, path_idx, path_attr, evI_int, evI_var, evIv_int, evI_add, evI_sub, evI_neg, evI_idx, peekP_eq, b_lenl, b_lent, b_inti, b_intb, b_booli, b_boolb, b_tupl, b_tuplm, b_tupt, b_listl, b_listlm, b_listt, b_max, b_min, b_abs, b_suml, b_sumt, b_sorti, b_sortp, b_sortpt, b_all, b_any, ty_non, ty_bl, ty_int, ty_str, ty_tup, ty_lst, lm_app, lm_pop, lm_popi, lm_ext, lm_rev, frzs_rowO, upd_ix, sS_setIv, sS_setIp, oobjP_obj, sS_setA, sS_aug, aug_add, aug_sub, pr_nil, pr_v, pr_r, prS_own, prS_shr, prS_giv, prS_tup, prS_int, chks_nil, chks_v, chks_r, im_lst, im_lstm, im_tup, im_rng1, im_rng2, im_enmt, im_enml, im_enmlm, im_rev, im_zp, im_zptl, im_zplt, im_zpt, still_nil, still_one, still_two, okC_nil, sS_for, kL_next, kL_cont, kL_brk, kL_ret, forP_nil, forP_cons, forP_mn, forP_mc, e_comp, wipe_nil, wipe_cons, natD, eq_self, Option.bind_some, Option.bind_none, prD, wtupI, tupP, rowO, rowS, frzs_rowO, putF, idxOf, Option.map_none, Option.map_some, fld_cons, add_l, noOwn_cons, frzs_map', eq_prs, in_pt, in_pl, Kd.frz_own, Kd.frz_shr, Kd.frz_giv, D.frz_non, D.frz_bl, D.frz_int, D.frz_str, D.frz_tup, D.frz_lst, D.frz_obj, D.frzs_nil, D.frzs_cons, List.getElem?_cons_zero, List.getElem?_cons_succ, List.set_cons_zero, List.set_cons_succ, List.length_cons, List.length_nil, List.length_map, List.contains_cons, List.contains_nil, List.cons_append, List.nil_append, List.replicate_succ, List.replicate_zero, Int.toNat_natCast, fo_i1, fo_i2, fo_i3, fo_i4, fo_i5, fo_i6, fo_i7, fo_i8, fo_i9, fo_i10, fo_i11, fo_i12, fo_i13, fo_i14, fo_p1, fo_p2, fo_p3, fo_p4, fo_p5, fo_p6, fo_p7, fo_p8, fo_p9, fo_p10, fo_p11, fo_p12, fo_ai, fo_ap, fo_app, fo_mm, true_and, and_true, Nat.reduceSub, Nat.reduceAdd, Nat.reduceLT, Nat.reduceLeDiff, Nat.reduceEqDiff, Nat.reduceBEq, Int.reduceLT, Int.reduceLE, Int.reduceNeg, Int.reduceToNat, Bool.not_true, Bool.not_false, Bool.true_and, Bool.and_true, Bool.false_and, Bool.true_or, Bool.or_true, Bool.false_or, Bool.or_false, if_false, if_true, reduceIte, reduceCtorEq, decide_true, decide_false, Bool.false_eq_true, ↓reduceIte, beq_self_eq_true])
local macro_rules | `(tactic| walk_at "si") => `(tactic| first | assumption | (refine okC_i ?_; rfl) | (refine rng62_of ?_ ?_ <;> omega) | (refine rng63_of ?_ ?_ <;> omega) | omega | decide | rfl | (intros; rfl))
local macro_rules | `(tactic| walk_at "ms") => `(tactic| first | ((with_reducible refine And.intro ?mca ?mcb); (case mca => walk_at "si"); (walk_at "mv")) | ((with_reducible refine ifP_pos ?mca ?mcb); (case mca => first | assumption | omega); (walk_at "mv")) | ((with_reducible refine ifP_neg ?mca ?mcb); (case mca => first | assumption | omega); (walk_at "mv")) | fail "no step")
local macro_rules | `(tactic| walk_at "mi") => `(tactic| ((with_reducible refine sS_ifI ?_); (walk_at "mv")))
local macro_rules | `(tactic| walk_at "mn") => `(tactic| ((walk_at "mv"); repeat' (walk_at "ms")))
local macro_rules | `(tactic| walk_at "mc") => `(tactic| ((walk_at "mv"); repeat' (first | walk_at "ms" | walk_at "mi")))
local macro_rules | `(tactic| walk_at "mt") => `(tactic| ((walk_at "mc"); repeat (first | (simp only [rep_tb, noOwn_tb, frzs_tb, tbI_len, rep_tbB, noOwn_tbB, frzs_tbB, tbBD_len]; (walk_at "mc")) | fail "no")))
variable {P : Pg} [Ok P] {X : Nat → D → En → Prop} {K : D → En → Prop}
theorem srow_s {m n : Nat} {x : Int} {l : List (Int × Int)} (hw : WebOk (n : Int) l) (x0 : 0 ≤ x) (x1 : x < (n : Int)) (k : ∀ t, Sd l n x t → K (.lst .own (tbI n t)) [some (webD 5 n l), some (.int x)]) (kn : OddW l x → K .non [some (webD 5 n l), some (.int x)]) :
    (run P (m + 3) 6 [webD 5 n l, .int x]).out.sat K X := by
  have gw : Gw n l := ⟨hw.n1, hw.rng, hw.asc⟩
  have n40 := hw.n40
  rw [s_run Ok.f6 rfl]
  unfold b6
  walk_at "mt"
  refine up_tb x0 x1 ?_
  walk_at "mt"
  refine sS_whl (fun k r => ∃ t q a z5 z6, Bip l n x t q a ∧ k = n - a ∧ r = [some (webD 5 n l), some (.int x), some (.lst .own (tbI n t)), some (.lst .own (q.map D.int)), some (.int (a : Int)), z5, z6]) (k := n) (by omega) ⟨_, [x], 0, _, _, .start x0 x1, rfl, rfl⟩ ?_
  rintro j r ⟨t, q, a, z5, z6, b, ej, rfl⟩
  have qn := nd_len b.nd b.rng
  walk_at "mt"
  refine ifP_D (fun ha => ?_) fun ha => ?_ <;> walk_at "mt"
  · have ha' : a < q.length := by omega
    obtain ⟨c, hc⟩ : ∃ c, q[a]? = some c := ⟨_, List.getElem?_eq_getElem ha'⟩
    have hcq : c ∈ q := List.mem_of_getElem? hc
    obtain ⟨c0, c1⟩ := b.rng c hcq
    rw [hc]
    walk_at "mt"
    refine near_s (n := (n : Int)) Ok.f3 Ok.f1 c0 c1 ?_
    walk_at "mt"
    refine forP_map (fun pre r => ∃ t q z6, Bip l n x t q a ∧ q[a]? = some c ∧ (∀ z ∈ pre, z ∈ q ∧ t z = 1 - t c) ∧ r = [some (webD 5 n l), some (.int x), some (.lst .own (tbI n t)), some (.lst .own (q.map D.int)), some (.int ((a : Int) + 1)), some (.int c), z6]) ⟨t, q, z6, b, hc, by simp, rfl⟩ ?_ ?_ ?_
    · rintro pre r ⟨t, q, z6, _, _, _, rfl⟩; walk_at "mv"
    · rintro pre o post eo _ ⟨t, q, z6, b, hc, hp, rfl⟩
      have ho : o ∈ nbr l c := by rw [eo]; simp
      obtain ⟨o0, o1⟩ := (gw.nbr_rng ho).1
      have cq : c ∈ q := List.mem_of_getElem? hc
      have hl : a < q.length := by have := List.getElem?_eq_some_iff.mp hc; exact this.1
      have qn := nd_len b.nd b.rng
      have vc := b.val cq
      walk_at "mt"
      refine rd_tb o0 o1 ?_
      walk_at "mt"
      refine ifP_D (fun h => ?_) fun h => ?_ <;> walk_at "mt"
      · refine rd_tb c0 c1 ?_
        walk_at "mt"
        refine up_tb o0 o1 ?_
        walk_at "mt"
        have bn := b.new cq ho gw h
        have oq : o ∉ q := fun m => (b.inq o o0 o1).mp m h
        have keep : ∀ y ∈ q, upF t o (1 - t c) y = t y := fun y hy => upF_ne fun e => oq (e ▸ hy)
        refine ⟨_, _, _, bn, by rw [List.getElem?_append_left hl]; exact hc, fun z hz => ?_, rfl⟩
        rw [keep c cq]
        rcases List.mem_append.mp hz with hz | hz
        · obtain ⟨z1, z2⟩ := hp z hz
          rw [keep z z1]
          exact ⟨List.mem_append_left _ z1, z2⟩
        · cases List.mem_singleton.mp hz
          rw [upF_same]
          exact ⟨by simp, rfl⟩
      · have oq := (b.inq o o0 o1).mpr h
        have vo := b.val oq
        refine rd_tb o0 o1 ?_
        walk_at "mt"
        refine rd_tb c0 c1 ?_
        walk_at "mt"
        refine ifP_D (fun h2 => ?_) fun h2 => ?_ <;> walk_at "mt"
        · exact kn (b.odd cq oq ho h2)
        · refine ⟨t, q, _, b, hc, fun z hz => ?_, rfl⟩
          rcases List.mem_append.mp hz with hz | hz
          · exact hp z hz
          · cases List.mem_singleton.mp hz
            exact ⟨oq, by omega⟩
    · rintro _ ⟨t, q, z6, b, hc, hp, rfl⟩
      have hl : a < q.length := by have := List.getElem?_eq_some_iff.mp hc; exact this.1
      have ec : q[a] = c := by have := List.getElem?_eq_some_iff.mp hc; exact this.2
      have qn := nd_len b.nd b.rng
      walk_at "mt"
      exact ⟨n - (a + 1), by omega, t, q, a + 1, some (.int c), z6, b.next hl (by rw [ec]; exact hp), rfl, by rw [show ((a + 1 : Nat) : Int) = (a : Int) + 1 by omega]⟩
  · exact k t (b.fin gw (by omega))
end Mv.K02

namespace Mv.K02
open PySem
local macro_rules | `(tactic| walk_at "mv") => `(tactic| try simp only [Ok.u0_0, Ok.u0_1, Ok.u0_2, Ok.u0_3, Ok.u0_4, Ok.u1_0, Ok.u1_1, Ok.u1_2, Ok.u1_3, Ok.u1_4, Ok.u2_0, Ok.u2_1, Ok.u2_2, Ok.u2_3, Ok.u2_4, Ok.u3_0, Ok.u3_1, Ok.u3_2, Ok.u3_3, Ok.u3_4, Ok.u4_0, Ok.u4_1, Ok.u4_2, Ok.u4_3, Ok.u4_4, s_callC Ok.c5, Ok.m0_5, Ok.m1_5, pk_web, hasP_web, ow_web, objP_web, clean_web, frz_web, itm_web, rd_web, rd_web0, rd_web1, rd_web2, fld_web0, fld_web1, ow_src, pk_src, hasP_src, sat_ok, sat_exc, sat_bind, sat_of, optP_some, optP_none, optP_map, optP_bind, optP_ite, ifP_true, ifP_false, ifP_not, dec_beq, slot_zero, slot_succ, set_zero, set_succ, wpeek_v, peek_r, pk_non, pk_bl, pk_int, pk_str, pk_tup, pk_lst, pk_obj, stP_zero, stP_succ, asg_nm, asg_tp, asgs_nil, asgs_cons, kB_next, kB_brk, kB_cont, kB_ret, sB_nil, sB_cons, sS_pass, sS_brk, sS_cont, sS_expr, sS_asg, sS_par, sS_ret, sS_retV, kJ_next, kJ_ret, kJ_brk, kJ_cont, sS_raise, sS_try, sH_nil, sH_none, sH_some, clean_nil, clean_non, clean_int, clean_bl, clean_nn, clean_str, clean_tup, clean_lst, clean_obj, readP_rd, rd_non, rd_bl, rd_int, rd_str, rd_tup, rd_own, rd_shr, rd_giv, rd_obj, e_int, e_bl, e_str, e_non, e_var, e_bin, intP_int, blP_bl, e_neg, e_not, e_and1, e_or1, e_and, e_or, e_ite, e_cmp, e_tup, e_lst, pathP_some, pathP_none, hasP_non, hasP_bl, hasP_int, hasP_str, hasP_tup, hasP_lst, hasP_obj, e_idxv, e_idxi, e_idxa, e_idxc, e_idxm, e_idxl, e_attr, exnP_exn, e_what, e_call, e_callk, e_mk, e_mkk, objP_obj, e_meth, e_blt, lstP_lst, e_lmv, e_lmi, e_isi, t_int, t_bl, t_var, t_bin, t_not, t_and0, t_and, t_or0, t_or, t_ite, t_cmp, t_idx, t_attr, t_call, t_meth, t_blt, t_isi, tAnd_nil, tAnd_cons, tru_bl, tru_int, tru_non, tru_tup, tru_lst, c_one, c_two, a_var, a_int, a_bl, a_str, a_non, a_bin, a_neg, a_not, a_and, a_or, a_ite, a_cmp, a_tup, a_lst, a_idx, a_attr, a_what, a_call, a_callk, a_mk, a_mkk, a_meth, a_blt, a_lm, a_isi, a_comp, es_nil, es_cons, as_nil, as_cons, pA_nil, pA_cons, lend_nil, wlend_v, lend_r, ow_non, ow_bl, ow_int, ow_str, ow_tup, ow_own, ow_shr, ow_giv, ow_oown, ow_oshr, s_callA, madeP_some, xP_cons, bk_nil, bk_v, bk_r, parsOf_eq, retP_ret, retP_next, pgo_0, pgo_s, mapS_nil, mapS_cons, wnoOwn_map, noOwn_nil, add_i, sub_i, mul_i, div_i, mod_i, pow_i, add_ib, add_t, mul_l, add_s, lt_i, le_i, gt_i, ge_i, eq_d, ne_d, in_d, ni_d, is_non, is_int, is_tup, isn_non, isn_int, isn_tup, lt_p, eq_ii, eq_bb, eq_pr4, eq_tupI, eq_tupP, eq_lstI, eq_lstN, eq_tupN, eq_lstP, in_it, in_il, in_pt2, in_pl2, fits0, fits1, fits2, fits3, fits4, fits5, fits6, fits7, fits8, fits9, fits10, fits11, fits12, fits13, fits14, optIx_nat, optIx_0, optIx_1, optIx_2, optIx_last, optIx_map, item_l, item_t, itm_non, itm_bl, itm_int, itm_str, itm_tup, itm_pr, itm_tupI, itm_tupP, itm_shr, itm_obj, rd_tupp, rd_shrp, rd_givp, rd_objp, rd_ownp, getP_nil, getP_ixl, getP_ixt, getP_fl, path_var, path_idx, path_attr, evI_int, evI_var, evIv_int, evI_add, evI_sub, evI_neg, evI_idx, peekP_eq, b_lenl, b_lent, b_inti, b_intb, b_booli, b_boolb, b_tupl, b_tuplm, b_tupt, b_listl, b_listlm, b_listt, b_max, b_min, b_abs, b_suml, b_sumt, b_sorti, b_sortp, b_sortpt, b_all, b_any, ty_non, ty_bl, ty_int, ty_str, ty_tup, ty_lst, lm_app, lm_pop, lm_popi, lm_ext, lm_rev, frzs_rowO, upd_ix, sS_setIv, sS_setIp, oobjP_obj, sS_setA, sS_aug, aug_add, aug_sub, pr_nil, pr_v, pr_r, prS_own, prS_shr, prS_giv, prS_tup, prS_int, chks_nil, chks_v, chks_r, im_lst, im_lstm, im_tup, im_rng1, im_rng2, im_enmt, im_enml, im_enmlm, im_rev, im_zp, im_zptl, im_zplt, im_zpt, still_nil, still_one, still_two, okC_nil, sS_for, kL_next, kL_cont, kL_brk, kL_ret, forP_nil, forP_cons, forP_mn, forP_mc, e_comp, wipe_nil, wipe_cons, natD, eq_self, Option.bind_some, Option.bind_none, prD, wtupI, tupP, rowO, rowS, frzs_rowO, putF, idxOf, Option.map_none, Option.map_some, fld_cons, add_l, noOwn_cons, frzs_map', eq_prs, in_pt, in_pl, Kd.frz_own, Kd.frz_shr, Kd.frz_giv, D.frz_non, D.frz_bl, D.frz_int, D.frz_str, D.frz_tup, D.frz_lst, D.frz_obj, D.frzs_nil, D.frzs_cons, List.getElem?_cons_zero, List.getElem?_cons_succ, List.set_cons_zero, List.set_cons_succ, List.length_cons, List.length_nil, List.length_map, List.contains_cons, List.contains_nil, List.cons_append, List.nil_append, List.replicate_succ, List.replicate_zero, Int.toNat_natCast, fo_i1, fo_i2, fo_i3, fo_i4, fo_i5, fo_i6, fo_i7, fo_i8, fo_i9, fo_i10, fo_i11, fo_i12, fo_i13, fo_i14, fo_p1, fo_p2, fo_p3, fo_p4, fo_p5, fo_p6, fo_p7, fo_p8, fo_p9, fo_p10, fo_p11, fo_p12, fo_ai, fo_ap, fo_app, fo_mm, true_and, and_true, Nat.reduceSub, Nat.reduceAdd, Nat.reduceLT, Nat.reduceLeDiff, Nat.reduceEqDiff, Nat.reduceBEq, Int.reduceLT, Int.reduceLE, Int.reduceNeg, Int.reduceToNat, Bool.not_true, Bool.not_false, Bool.true_and, Bool.and_true, Bool.false_and, Bool.true_or, Bool.or_true, Bool.false_or, Bool.or_false, if_false, if_true, reduceIte, reduceCtorEq, decide_true, decide_false, Bool.false_eq_true, ↓reduceIte, beq_self_eq_true])
local macro_rules | `(tactic| walk_at "si") => `(tactic| first | assumption | (refine okC_i ?_; rfl) | (refine rng62_of ?_ ?_ <;> omega) | (refine rng63_of ?_ ?_ <;> omega) | omega | decide | rfl | (intros; rfl))
local macro_rules | `(tactic| walk_at "ms") => `(tactic| first | ((with_reducible refine And.intro ?mca ?mcb); (case mca => walk_at "si"); (walk_at "mv")) | ((with_reducible refine ifP_pos ?mca ?mcb); (case mca => first | assumption | omega); (walk_at "mv")) | ((with_reducible refine ifP_neg ?mca ?mcb); (case mca => first | assumption | omega); (walk_at "mv")) | fail "no step")
local macro_rules | `(tactic| walk_at "mi") => `(tactic| ((with_reducible refine sS_ifI ?_); (walk_at "mv")))
local macro_rules | `(tactic| walk_at "mn") => `(tactic| ((walk_at "mv"); repeat' (walk_at "ms")))
local macro_rules | `(tactic| walk_at "mc") => `(tactic| ((walk_at "mv"); repeat' (first | walk_at "ms" | walk_at "mi")))
local macro_rules | `(tactic| walk_at "mt") => `(tactic| ((walk_at "mc"); repeat (first | (simp only [rep_tb, noOwn_tb, frzs_tb, tbI_len, rep_tbB, noOwn_tbB, frzs_tbB, tbBD_len]; (walk_at "mc")) | fail "no")))
variable {P : Pg} [Ok P] {X : Nat → D → En → Prop} {K : D → En → Prop}
theorem sides_s {m n : Nat} {l : List (Int × Int)} (hw : WebOk (n : Int) l) (k : ∀ t, Sds l n t → K (.tup (tbI n t)) [some (webD 5 n l)]) :
    (run P (m + 5) 7 [webD 5 n l]).out.sat K X := by
  have gw : Gw n l := ⟨hw.n1, hw.rng, hw.asc⟩
  have n40 := hw.n40
  rw [s_run Ok.f7 rfl]
  unfold b7
  walk_at "mt"
  refine parts_s hw ?_
  rw [List.map_map]
  walk_at "mt"
  refine forP_map (f := wtupI ∘ part l n) (fun pre r => ∃ t z2 z3 z4, Sdp l n pre t ∧ r = [some (webD 5 n l), some (.lst .own (tbI n t)), z2, z3, z4]) ⟨_, _, _, _, ⟨fun _ _ _ _ h => (by cases h), fun _ _ _ _ => rfl⟩, rfl⟩ ?_ ?_ ?_
  · rintro pre r ⟨t, z2, z3, z4, _, rfl⟩; walk_at "mv"
  · rintro pre h post eh _ ⟨t, z2, z3, z4, s, rfl⟩
    have hd : ∀ z ∈ heads l n, (0 ≤ z ∧ z < (n : Int)) ∧ Least l z := fun z hz => mem_heads.mp hz
    have hh := hd h (by rw [eh]; simp)
    have hp : ∀ z ∈ pre, 0 ≤ z ∧ Least l z := fun z hz => by have := hd z (by rw [eh]; simp [hz]); exact ⟨this.1.1, this.2⟩
    have nd : (heads l n).Nodup := by unfold heads; exact (cellsI_nd n).filter _
    have hn : h ∉ pre := by
      rw [eh] at nd
      intro hm
      exact (List.nodup_append.mp nd).2.2 h hm h (by simp) rfl
    have ph := part_head hh.1.1 hh.1.2 hh.2
    rw [show (wtupI ∘ part l n) h = .tup ((part l n h).map D.int) from rfl]
    walk_at "mt"
    rw [show (List.map D.int (part l n h))[0]? = some (.int h) from by rw [List.getElem?_map, ph]; rfl]
    walk_at "mt"
    refine srow_s hw hh.1.1 hh.1.2 (fun u su => ?_) fun od => ?_
    · walk_at "mt"
      rw [show cmpD .IsNot (D.lst .own (tbI n u)) .non = some true from rfl]
      walk_at "mt"
      refine forP_map (fun pre2 r => ∃ v z4, (∀ y, v y = if y ∈ pre2 then u y else t y) ∧ r = [some (webD 5 n l), some (.lst .own (tbI n v)), some (.tup ((part l n h).map D.int)), some (.lst .own (tbI n u)), z4]) ⟨t, _, fun y => by simp, rfl⟩ ?_ ?_ ?_
      · rintro pre r ⟨v, z4, _, rfl⟩; walk_at "mv"
      · rintro pre2 c post2 ec _ ⟨v, z4, hv, rfl⟩
        have hc := mem_part.mp (show c ∈ part l n h by rw [ec]; simp)
        walk_at "mt"
        refine rd_tb hc.1.1 hc.1.2 ?_
        walk_at "mt"
        refine up_tb hc.1.1 hc.1.2 ?_
        walk_at "mt"
        refine ⟨_, _, fun y => ?_, rfl⟩
        by_cases e : y = c
        · subst e; rw [upF_same, if_pos (by simp)]
        · rw [upF_ne e, hv y]; simp [e]
      · rintro _ ⟨v, z4, hv, rfl⟩
        walk_at "mt"
        refine ⟨v, _, _, _, s.add hp hh.1.1 hh.2 hn su (fun y y0 y1 c => ?_) (fun y y0 y1 c => ?_), rfl⟩
        · rw [hv y, if_pos (mem_part.mpr ⟨⟨y0, y1⟩, c⟩)]
        · rw [hv y, if_neg fun q => c (mem_part.mp q).2]
    · walk_at "mt"
      exact ⟨t, _, _, _, s.skip hp hh.1.1 hh.2 hn od, rfl⟩
  · rintro _ ⟨t, z2, z3, z4, s, rfl⟩
    walk_at "mt"
    exact k t (s.fin gw)
end Mv.K02

namespace Mv.K02
open PySem
local macro_rules | `(tactic| walk_at "mv") => `(tactic| try simp only [Ok.u0_0, Ok.u0_1, Ok.u0_2, Ok.u0_3, Ok.u0_4, Ok.u1_0, Ok.u1_1, Ok.u1_2, Ok.u1_3, Ok.u1_4, Ok.u2_0, Ok.u2_1, Ok.u2_2, Ok.u2_3, Ok.u2_4, Ok.u3_0, Ok.u3_1, Ok.u3_2, Ok.u3_3, Ok.u3_4, Ok.u4_0, Ok.u4_1, Ok.u4_2, Ok.u4_3, Ok.u4_4, s_callC Ok.c5, Ok.m0_5, Ok.m1_5, pk_web, hasP_web, ow_web, objP_web, clean_web, frz_web, itm_web, rd_web, rd_web0, rd_web1, rd_web2, fld_web0, fld_web1, ow_src, pk_src, hasP_src, sat_ok, sat_exc, sat_bind, sat_of, optP_some, optP_none, optP_map, optP_bind, optP_ite, ifP_true, ifP_false, ifP_not, dec_beq, slot_zero, slot_succ, set_zero, set_succ, wpeek_v, peek_r, pk_non, pk_bl, pk_int, pk_str, pk_tup, pk_lst, pk_obj, stP_zero, stP_succ, asg_nm, asg_tp, asgs_nil, asgs_cons, kB_next, kB_brk, kB_cont, kB_ret, sB_nil, sB_cons, sS_pass, sS_brk, sS_cont, sS_expr, sS_asg, sS_par, sS_ret, sS_retV, kJ_next, kJ_ret, kJ_brk, kJ_cont, sS_raise, sS_try, sH_nil, sH_none, sH_some, clean_nil, clean_non, clean_int, clean_bl, clean_nn, clean_str, clean_tup, clean_lst, clean_obj, readP_rd, rd_non, rd_bl, rd_int, rd_str, rd_tup, rd_own, rd_shr, rd_giv, rd_obj, e_int, e_bl, e_str, e_non, e_var, e_bin, intP_int, blP_bl, e_neg, e_not, e_and1, e_or1, e_and, e_or, e_ite, e_cmp, e_tup, e_lst, pathP_some, pathP_none, hasP_non, hasP_bl, hasP_int, hasP_str, hasP_tup, hasP_lst, hasP_obj, e_idxv, e_idxi, e_idxa, e_idxc, e_idxm, e_idxl, e_attr, exnP_exn, e_what, e_call, e_callk, e_mk, e_mkk, objP_obj, e_meth, e_blt, lstP_lst, e_lmv, e_lmi, e_isi, t_int, t_bl, t_var, t_bin, t_not, t_and0, t_and, t_or0, t_or, t_ite, t_cmp, t_idx, t_attr, t_call, t_meth, t_blt, t_isi, tAnd_nil, tAnd_cons, tru_bl, tru_int, tru_non, tru_tup, tru_lst, c_one, c_two, a_var, a_int, a_bl, a_str, a_non, a_bin, a_neg, a_not, a_and, a_or, a_ite, a_cmp, a_tup, a_lst, a_idx, a_attr, a_what, a_call, a_callk, a_mk, a_mkk, a_meth, a_blt, a_lm, a_isi, a_comp, es_nil, es_cons, as_nil, as_cons, pA_nil, pA_cons, lend_nil, wlend_v, lend_r, ow_non, ow_bl, ow_int, ow_str, ow_tup, ow_own, ow_shr, ow_giv, ow_oown, ow_oshr, s_callA, madeP_some, xP_cons, bk_nil, bk_v, bk_r, parsOf_eq, retP_ret, retP_next, pgo_0, pgo_s, mapS_nil, mapS_cons, wnoOwn_map, noOwn_nil, add_i, sub_i, mul_i, div_i, mod_i, pow_i, add_ib, add_t, mul_l, add_s, lt_i, le_i, gt_i, ge_i, eq_d, ne_d, in_d, ni_d, is_non, is_int, is_tup, isn_non, isn_int, isn_tup, lt_p, eq_ii, eq_bb, eq_pr4, eq_tupI, eq_tupP, eq_lstI, eq_lstN, eq_tupN, eq_lstP, in_it, in_il, in_pt2, in_pl2, fits0, fits1, fits2, fits3, fits4, fits5, fits6, fits7, fits8, fits9, fits10, fits11, fits12, fits13, fits14, optIx_nat, optIx_0, optIx_1, optIx_2, optIx_last, optIx_map, item_l, item_t, itm_non, itm_bl, itm_int, itm_str, itm_tup, itm_pr, itm_tupI, itm_tupP, itm_shr, itm_obj, rd_tupp, rd_shrp, rd_givp, rd_objp, rd_ownp, getP_nil, getP_ixl, getP_ixt, getP_fl, path_var, path_idx, path_attr, evI_int, evI_var, evIv_int, evI_add, evI_sub, evI_neg, evI_idx, peekP_eq, b_lenl, b_lent, b_inti, b_intb, b_booli, b_boolb, b_tupl, b_tuplm, b_tupt, b_listl, b_listlm, b_listt, b_max, b_min, b_abs, b_suml, b_sumt, b_sorti, b_sortp, b_sortpt, b_all, b_any, ty_non, ty_bl, ty_int, ty_str, ty_tup, ty_lst, lm_app, lm_pop, lm_popi, lm_ext, lm_rev, frzs_rowO, upd_ix, sS_setIv, sS_setIp, oobjP_obj, sS_setA, sS_aug, aug_add, aug_sub, pr_nil, pr_v, pr_r, prS_own, prS_shr, prS_giv, prS_tup, prS_int, chks_nil, chks_v, chks_r, im_lst, im_lstm, im_tup, im_rng1, im_rng2, im_enmt, im_enml, im_enmlm, im_rev, im_zp, im_zptl, im_zplt, im_zpt, still_nil, still_one, still_two, okC_nil, sS_for, kL_next, kL_cont, kL_brk, kL_ret, forP_nil, forP_cons, forP_mn, forP_mc, e_comp, wipe_nil, wipe_cons, natD, eq_self, Option.bind_some, Option.bind_none, prD, wtupI, tupP, rowO, rowS, frzs_rowO, putF, idxOf, Option.map_none, Option.map_some, fld_cons, add_l, noOwn_cons, frzs_map', eq_prs, in_pt, in_pl, Kd.frz_own, Kd.frz_shr, Kd.frz_giv, D.frz_non, D.frz_bl, D.frz_int, D.frz_str, D.frz_tup, D.frz_lst, D.frz_obj, D.frzs_nil, D.frzs_cons, List.getElem?_cons_zero, List.getElem?_cons_succ, List.set_cons_zero, List.set_cons_succ, List.length_cons, List.length_nil, List.length_map, List.contains_cons, List.contains_nil, List.cons_append, List.nil_append, List.replicate_succ, List.replicate_zero, Int.toNat_natCast, fo_i1, fo_i2, fo_i3, fo_i4, fo_i5, fo_i6, fo_i7, fo_i8, fo_i9, fo_i10, fo_i11, fo_i12, fo_i13, fo_i14, fo_p1, fo_p2, fo_p3, fo_p4, fo_p5, fo_p6, fo_p7, fo_p8, fo_p9, fo_p10, fo_p11, fo_p12, fo_ai, fo_ap, fo_app, fo_mm, true_and, and_true, Nat.reduceSub, Nat.reduceAdd, Nat.reduceLT, Nat.reduceLeDiff, Nat.reduceEqDiff, Nat.reduceBEq, Int.reduceLT, Int.reduceLE, Int.reduceNeg, Int.reduceToNat, Bool.not_true, Bool.not_false, Bool.true_and, Bool.and_true, Bool.false_and, Bool.true_or, Bool.or_true, Bool.false_or, Bool.or_false, if_false, if_true, reduceIte, reduceCtorEq, decide_true, decide_false, Bool.false_eq_true, ↓reduceIte, beq_self_eq_true])
local macro_rules | `(tactic| walk_at "si") => `(tactic| first | assumption | (refine okC_i ?_; rfl) | (refine rng62_of ?_ ?_ <;> omega) | (refine rng63_of ?_ ?_ <;> omega) | omega | decide | rfl | (intros; rfl))
local macro_rules | `(tactic| walk_at "ms") => `(tactic| first | ((with_reducible refine And.intro ?mca ?mcb); (case mca => walk_at "si"); (walk_at "mv")) | ((with_reducible refine ifP_pos ?mca ?mcb); (case mca => first | assumption | omega); (walk_at "mv")) | ((with_reducible refine ifP_neg ?mca ?mcb); (case mca => first | assumption | omega); (walk_at "mv")) | fail "no step")
local macro_rules | `(tactic| walk_at "mi") => `(tactic| ((with_reducible refine sS_ifI ?_); (walk_at "mv")))
local macro_rules | `(tactic| walk_at "mn") => `(tactic| ((walk_at "mv"); repeat' (walk_at "ms")))
local macro_rules | `(tactic| walk_at "mc") => `(tactic| ((walk_at "mv"); repeat' (first | walk_at "ms" | walk_at "mi")))
local macro_rules | `(tactic| walk_at "mt") => `(tactic| ((walk_at "mc"); repeat (first | (simp only [rep_tb, noOwn_tb, frzs_tb, tbI_len, rep_tbB, noOwn_tbB, frzs_tbB, tbBD_len]; (walk_at "mc")) | fail "no")))
variable {P : Pg} [Ok P] {X : Nat → D → En → Prop} {K : D → En → Prop}
theorem classes_s {m N : Nat} {L : List (Int × Int)} {kd : Kd} (g : RgL N L) (n80 : N ≤ 80) (hl : L.length ≤ 400) (k : ∀ t, Lab L N t → K (.lst .own (tbI N t)) [some (.int N), some (.lst kd (L.map prD))]) :
    (run P (m + 1) 25 [.int N, .lst kd (L.map prD)]).out.sat K X := by
  rw [s_run Ok.f25 rfl]
  unfold b25
  cases kd
  · walk_at "mt"
    refine compP_m (g := D.int) (fun k : Nat => (k : Int)) (by rw [List.length_range]; omega) (by walk_at "mv") (fun x _ => by walk_at "mc") ?_
    rw [show List.map D.int (List.map (fun k : Nat => (k : Int)) (List.range N)) = tbI N (fun y => y) from by unfold tbI tb; rw [List.map_id']; rfl]
    walk_at "mt"
    refine forP_nat (fun i r => ∃ t z4 z6 z7 z8 z9, Lbr L N i t ∧ r = [some (.int N), some (.lst .own (L.map prD)), some (.lst .own (tbI N t)), z4, z6, none, z7, z8, z9]) ⟨_, _, _, _, _, _, .start, rfl⟩ ?_ ?_ ?_
    · rintro i r _ ⟨t, z4, z6, z7, z8, z9, _, rfl⟩; walk_at "mv"
    · rintro i hi _ ⟨t, z4, z6, z7, z8, z9, r, rfl⟩
      walk_at "mt"
      refine forP_map (fun pre r => ∃ u z7 z8 z9, Lbm L N i t pre u ∧ r = [some (.int N), some (.lst .own (L.map prD)), some (.lst .own (tbI N u)), some (.int (i : Int)), some (.lst .own (tbI N t)), none, z7, z8, z9]) ⟨t, _, _, _, r.mid, rfl⟩ ?_ ?_ ?_
      · rintro pre r ⟨u, z7, z8, z9, _, rfl⟩; walk_at "mv"
      · rintro pre ⟨a, b⟩ post el _ ⟨u, z7, z8, z9, r, rfl⟩
        have hp : (a, b) ∈ L := by rw [el]; simp
        have q := g _ hp
        simp only at q
        have rn := r.put g hp
        simp only at rn
        walk_at "mt"
        refine rd_tb (by omega) (by omega) ?_
        walk_at "mt"
        refine rd_tb (by omega) (by omega) ?_
        walk_at "mt"
        refine up_tb (by omega) (by omega) ?_
        walk_at "mt"
        refine up_tb (by omega) (by omega) ?_
        walk_at "mt"
        exact ⟨_, _, _, _, rn, rfl⟩
      · rintro _ ⟨u, z7, z8, z9, r, rfl⟩
        walk_at "mt"
        rw [eq_tb]
        walk_at "mt"
        refine ifP_D (fun h => ?_) fun h => ?_ <;> walk_at "mt"
        · refine k u (r.brk g fun y y0 y1 => ?_)
          have e : (tb N u)[y.toNat]? = (tb N t)[y.toNat]? := by rw [h]
          have e1 := tb_ix (n := N) (f := u) y0 y1
          have e2 := tb_ix (n := N) (f := t) y0 y1
          rw [h] at e1
          rw [e1] at e2
          exact Option.some.inj e2
        · exact ⟨u, _, _, _, _, _, r.end g, rfl⟩
    · rintro _ ⟨t, z4, z6, z7, z8, z9, r, rfl⟩
      walk_at "mt"
      exact k t (r.last g)
  · walk_at "mt"
    refine compP_m (g := D.int) (fun k : Nat => (k : Int)) (by rw [List.length_range]; omega) (by walk_at "mv") (fun x _ => by walk_at "mc") ?_
    rw [show List.map D.int (List.map (fun k : Nat => (k : Int)) (List.range N)) = tbI N (fun y => y) from by unfold tbI tb; rw [List.map_id']; rfl]
    walk_at "mt"
    refine forP_nat (fun i r => ∃ t z4 z6 z7 z8 z9, Lbr L N i t ∧ r = [some (.int N), some (.lst .shr (L.map prD)), some (.lst .own (tbI N t)), z4, z6, none, z7, z8, z9]) ⟨_, _, _, _, _, _, .start, rfl⟩ ?_ ?_ ?_
    · rintro i r _ ⟨t, z4, z6, z7, z8, z9, _, rfl⟩; walk_at "mv"
    · rintro i hi _ ⟨t, z4, z6, z7, z8, z9, r, rfl⟩
      walk_at "mt"
      refine forP_map (fun pre r => ∃ u z7 z8 z9, Lbm L N i t pre u ∧ r = [some (.int N), some (.lst .shr (L.map prD)), some (.lst .own (tbI N u)), some (.int (i : Int)), some (.lst .own (tbI N t)), none, z7, z8, z9]) ⟨t, _, _, _, r.mid, rfl⟩ ?_ ?_ ?_
      · rintro pre r ⟨u, z7, z8, z9, _, rfl⟩; walk_at "mv"
      · rintro pre ⟨a, b⟩ post el _ ⟨u, z7, z8, z9, r, rfl⟩
        have hp : (a, b) ∈ L := by rw [el]; simp
        have q := g _ hp
        simp only at q
        have rn := r.put g hp
        simp only at rn
        walk_at "mt"
        refine rd_tb (by omega) (by omega) ?_
        walk_at "mt"
        refine rd_tb (by omega) (by omega) ?_
        walk_at "mt"
        refine up_tb (by omega) (by omega) ?_
        walk_at "mt"
        refine up_tb (by omega) (by omega) ?_
        walk_at "mt"
        exact ⟨_, _, _, _, rn, rfl⟩
      · rintro _ ⟨u, z7, z8, z9, r, rfl⟩
        walk_at "mt"
        rw [eq_tb]
        walk_at "mt"
        refine ifP_D (fun h => ?_) fun h => ?_ <;> walk_at "mt"
        · refine k u (r.brk g fun y y0 y1 => ?_)
          have e : (tb N u)[y.toNat]? = (tb N t)[y.toNat]? := by rw [h]
          have e1 := tb_ix (n := N) (f := u) y0 y1
          have e2 := tb_ix (n := N) (f := t) y0 y1
          rw [h] at e1
          rw [e1] at e2
          exact Option.some.inj e2
        · exact ⟨u, _, _, _, _, _, r.end g, rfl⟩
    · rintro _ ⟨t, z4, z6, z7, z8, z9, r, rfl⟩
      walk_at "mt"
      exact k t (r.last g)
  · walk_at "mt"
    refine compP_m (g := D.int) (fun k : Nat => (k : Int)) (by rw [List.length_range]; omega) (by walk_at "mv") (fun x _ => by walk_at "mc") ?_
    rw [show List.map D.int (List.map (fun k : Nat => (k : Int)) (List.range N)) = tbI N (fun y => y) from by unfold tbI tb; rw [List.map_id']; rfl]
    walk_at "mt"
    refine forP_nat (fun i r => ∃ t z4 z6 z7 z8 z9, Lbr L N i t ∧ r = [some (.int N), some (.lst .giv (L.map prD)), some (.lst .own (tbI N t)), z4, z6, none, z7, z8, z9]) ⟨_, _, _, _, _, _, .start, rfl⟩ ?_ ?_ ?_
    · rintro i r _ ⟨t, z4, z6, z7, z8, z9, _, rfl⟩; walk_at "mv"
    · rintro i hi _ ⟨t, z4, z6, z7, z8, z9, r, rfl⟩
      walk_at "mt"
      refine forP_map (fun pre r => ∃ u z7 z8 z9, Lbm L N i t pre u ∧ r = [some (.int N), some (.lst .giv (L.map prD)), some (.lst .own (tbI N u)), some (.int (i : Int)), some (.lst .own (tbI N t)), none, z7, z8, z9]) ⟨t, _, _, _, r.mid, rfl⟩ ?_ ?_ ?_
      · rintro pre r ⟨u, z7, z8, z9, _, rfl⟩; walk_at "mv"
      · rintro pre ⟨a, b⟩ post el _ ⟨u, z7, z8, z9, r, rfl⟩
        have hp : (a, b) ∈ L := by rw [el]; simp
        have q := g _ hp
        simp only at q
        have rn := r.put g hp
        simp only at rn
        walk_at "mt"
        refine rd_tb (by omega) (by omega) ?_
        walk_at "mt"
        refine rd_tb (by omega) (by omega) ?_
        walk_at "mt"
        refine up_tb (by omega) (by omega) ?_
        walk_at "mt"
        refine up_tb (by omega) (by omega) ?_
        walk_at "mt"
        exact ⟨_, _, _, _, rn, rfl⟩
      · rintro _ ⟨u, z7, z8, z9, r, rfl⟩
        walk_at "mt"
        rw [eq_tb]
        walk_at "mt"
        refine ifP_D (fun h => ?_) fun h => ?_ <;> walk_at "mt"
        · refine k u (r.brk g fun y y0 y1 => ?_)
          have e : (tb N u)[y.toNat]? = (tb N t)[y.toNat]? := by rw [h]
          have e1 := tb_ix (n := N) (f := u) y0 y1
          have e2 := tb_ix (n := N) (f := t) y0 y1
          rw [h] at e1
          rw [e1] at e2
          exact Option.some.inj e2
        · exact ⟨u, _, _, _, _, _, r.end g, rfl⟩
    · rintro _ ⟨t, z4, z6, z7, z8, z9, r, rfl⟩
      walk_at "mt"
      exact k t (r.last g)
end Mv.K02

namespace Mv.K02
open PySem
local macro_rules | `(tactic| walk_at "mv") => `(tactic| try simp only [Ok.u0_0, Ok.u0_1, Ok.u0_2, Ok.u0_3, Ok.u0_4, Ok.u1_0, Ok.u1_1, Ok.u1_2, Ok.u1_3, Ok.u1_4, Ok.u2_0, Ok.u2_1, Ok.u2_2, Ok.u2_3, Ok.u2_4, Ok.u3_0, Ok.u3_1, Ok.u3_2, Ok.u3_3, Ok.u3_4, Ok.u4_0, Ok.u4_1, Ok.u4_2, Ok.u4_3, Ok.u4_4, s_callC Ok.c5, Ok.m0_5, Ok.m1_5, pk_web, hasP_web, ow_web, objP_web, clean_web, frz_web, itm_web, rd_web, rd_web0, rd_web1, rd_web2, fld_web0, fld_web1, ow_src, pk_src, hasP_src, sat_ok, sat_exc, sat_bind, sat_of, optP_some, optP_none, optP_map, optP_bind, optP_ite, ifP_true, ifP_false, ifP_not, dec_beq, slot_zero, slot_succ, set_zero, set_succ, wpeek_v, peek_r, pk_non, pk_bl, pk_int, pk_str, pk_tup, pk_lst, pk_obj, stP_zero, stP_succ, asg_nm, asg_tp, asgs_nil, asgs_cons, kB_next, kB_brk, kB_cont, kB_ret, sB_nil, sB_cons, sS_pass, sS_brk, sS_cont, sS_expr, sS_asg, sS_par, sS_ret, sS_retV, kJ_next, kJ_ret, kJ_brk, kJ_cont, sS_raise, sS_try, sH_nil, sH_none, sH_some, clean_nil, clean_non, clean_int, clean_bl, clean_nn, clean_str, clean_tup, clean_lst, clean_obj, readP_rd, rd_non, rd_bl, rd_int, rd_str, rd_tup, rd_own, rd_shr, rd_giv, rd_obj, e_int, e_bl, e_str, e_non, e_var, e_bin, intP_int, blP_bl, e_neg, e_not, e_and1, e_or1, e_and, e_or, e_ite, e_cmp, e_tup, e_lst, pathP_some, pathP_none, hasP_non, hasP_bl, hasP_int, hasP_str, hasP_tup, hasP_lst, hasP_obj, e_idxv, e_idxi, e_idxa, e_idxc, e_idxm, e_idxl, e_attr, exnP_exn, e_what, e_call, e_callk, e_mk, e_mkk, objP_obj, e_meth, e_blt, lstP_lst, e_lmv, e_lmi, e_isi, t_int, t_bl, t_var, t_bin, t_not, t_and0, t_and, t_or0, t_or, t_ite, t_cmp, t_idx, t_attr, t_call, t_meth, t_blt, t_isi, tAnd_nil, tAnd_cons, tru_bl, tru_int, tru_non, tru_tup, tru_lst, c_one, c_two, a_var, a_int, a_bl, a_str, a_non, a_bin, a_neg, a_not, a_and, a_or, a_ite, a_cmp, a_tup, a_lst, a_idx, a_attr, a_what, a_call, a_callk, a_mk, a_mkk, a_meth, a_blt, a_lm, a_isi, a_comp, es_nil, es_cons, as_nil, as_cons, pA_nil, pA_cons, lend_nil, wlend_v, lend_r, ow_non, ow_bl, ow_int, ow_str, ow_tup, ow_own, ow_shr, ow_giv, ow_oown, ow_oshr, s_callA, madeP_some, xP_cons, bk_nil, bk_v, bk_r, parsOf_eq, retP_ret, retP_next, pgo_0, pgo_s, mapS_nil, mapS_cons, wnoOwn_map, noOwn_nil, add_i, sub_i, mul_i, div_i, mod_i, pow_i, add_ib, add_t, mul_l, add_s, lt_i, le_i, gt_i, ge_i, eq_d, ne_d, in_d, ni_d, is_non, is_int, is_tup, isn_non, isn_int, isn_tup, lt_p, eq_ii, eq_bb, eq_pr4, eq_tupI, eq_tupP, eq_lstI, eq_lstN, eq_tupN, eq_lstP, in_it, in_il, in_pt2, in_pl2, fits0, fits1, fits2, fits3, fits4, fits5, fits6, fits7, fits8, fits9, fits10, fits11, fits12, fits13, fits14, optIx_nat, optIx_0, optIx_1, optIx_2, optIx_last, optIx_map, item_l, item_t, itm_non, itm_bl, itm_int, itm_str, itm_tup, itm_pr, itm_tupI, itm_tupP, itm_shr, itm_obj, rd_tupp, rd_shrp, rd_givp, rd_objp, rd_ownp, getP_nil, getP_ixl, getP_ixt, getP_fl, path_var, path_idx, path_attr, evI_int, evI_var, evIv_int, evI_add, evI_sub, evI_neg, evI_idx, peekP_eq, b_lenl, b_lent, b_inti, b_intb, b_booli, b_boolb, b_tupl, b_tuplm, b_tupt, b_listl, b_listlm, b_listt, b_max, b_min, b_abs, b_suml, b_sumt, b_sorti, b_sortp, b_sortpt, b_all, b_any, ty_non, ty_bl, ty_int, ty_str, ty_tup, ty_lst, lm_app, lm_pop, lm_popi, lm_ext, lm_rev, frzs_rowO, upd_ix, sS_setIv, sS_setIp, oobjP_obj, sS_setA, sS_aug, aug_add, aug_sub, pr_nil, pr_v, pr_r, prS_own, prS_shr, prS_giv, prS_tup, prS_int, chks_nil, chks_v, chks_r, im_lst, im_lstm, im_tup, im_rng1, im_rng2, im_enmt, im_enml, im_enmlm, im_rev, im_zp, im_zptl, im_zplt, im_zpt, still_nil, still_one, still_two, okC_nil, sS_for, kL_next, kL_cont, kL_brk, kL_ret, forP_nil, forP_cons, forP_mn, forP_mc, e_comp, wipe_nil, wipe_cons, natD, eq_self, Option.bind_some, Option.bind_none, prD, wtupI, tupP, rowO, rowS, frzs_rowO, putF, idxOf, Option.map_none, Option.map_some, fld_cons, add_l, noOwn_cons, frzs_map', eq_prs, in_pt, in_pl, Kd.frz_own, Kd.frz_shr, Kd.frz_giv, D.frz_non, D.frz_bl, D.frz_int, D.frz_str, D.frz_tup, D.frz_lst, D.frz_obj, D.frzs_nil, D.frzs_cons, List.getElem?_cons_zero, List.getElem?_cons_succ, List.set_cons_zero, List.set_cons_succ, List.length_cons, List.length_nil, List.length_map, List.contains_cons, List.contains_nil, List.cons_append, List.nil_append, List.replicate_succ, List.replicate_zero, Int.toNat_natCast, fo_i1, fo_i2, fo_i3, fo_i4, fo_i5, fo_i6, fo_i7, fo_i8, fo_i9, fo_i10, fo_i11, fo_i12, fo_i13, fo_i14, fo_p1, fo_p2, fo_p3, fo_p4, fo_p5, fo_p6, fo_p7, fo_p8, fo_p9, fo_p10, fo_p11, fo_p12, fo_ai, fo_ap, fo_app, fo_mm, true_and, and_true, Nat.reduceSub, Nat.reduceAdd, Nat.reduceLT, Nat.reduceLeDiff, Nat.reduceEqDiff, Nat.reduceBEq, Int.reduceLT, Int.reduceLE, Int.reduceNeg, Int.reduceToNat, Bool.not_true, Bool.not_false, Bool.true_and, Bool.and_true, Bool.false_and, Bool.true_or, Bool.or_true, Bool.false_or, Bool.or_false, if_false, if_true, reduceIte, reduceCtorEq, decide_true, decide_false, Bool.false_eq_true, ↓reduceIte, beq_self_eq_true])
local macro_rules | `(tactic| walk_at "si") => `(tactic| first | assumption | (refine okC_i ?_; rfl) | (refine rng62_of ?_ ?_ <;> omega) | (refine rng63_of ?_ ?_ <;> omega) | omega | decide | rfl | (intros; rfl))
local macro_rules | `(tactic| walk_at "ms") => `(tactic| first | ((with_reducible refine And.intro ?mca ?mcb); (case mca => walk_at "si"); (walk_at "mv")) | ((with_reducible refine ifP_pos ?mca ?mcb); (case mca => first | assumption | omega); (walk_at "mv")) | ((with_reducible refine ifP_neg ?mca ?mcb); (case mca => first | assumption | omega); (walk_at "mv")) | fail "no step")
local macro_rules | `(tactic| walk_at "mi") => `(tactic| ((with_reducible refine sS_ifI ?_); (walk_at "mv")))
local macro_rules | `(tactic| walk_at "mn") => `(tactic| ((walk_at "mv"); repeat' (walk_at "ms")))
local macro_rules | `(tactic| walk_at "mc") => `(tactic| ((walk_at "mv"); repeat' (first | walk_at "ms" | walk_at "mi")))
local macro_rules | `(tactic| walk_at "mt") => `(tactic| ((walk_at "mc"); repeat (first | (simp only [rep_tb, noOwn_tb, frzs_tb, tbI_len, rep_tbB, noOwn_tbB, frzs_tbB, tbBD_len]; (walk_at "mc")) | fail "no")))
variable {P : Pg} [Ok P] {X : Nat → D → En → Prop} {K : D → En → Prop}
theorem lsides_s {m n : Nat} {l : List (Int × Int)} (gw : Gw (n : Int) l) (n40 : n ≤ 40) (hl : l.length ≤ 160) (k : ∀ v, (∀ w, Sds l n w → ∀ y, 0 ≤ y → y < (n : Int) → w y = v y) → K (.lst .own (tbI n v)) [some (.int n), some (.lst .shr (l.map prD))]) :
    (run P (m + 2) 26 [.int n, .lst .shr (l.map prD)]).out.sat K X := by
  rw [s_run Ok.f26 rfl]
  unfold b26
  walk_at "mt"
  refine classes_s gw.rg (by omega) (by omega) fun t a => ?_
  walk_at "mt"
  refine compP_m (g := prD) (fun q : Int × Int => (q.1, q.2 + (n : Int))) (by omega) (by walk_at "mv") (fun x _ => by walk_at "mc") ?_
  walk_at "mt"
  refine compP_m (g := prD) (fun q : Int × Int => (q.2, q.1 + (n : Int))) (by omega) (by walk_at "mv") (fun x _ => by walk_at "mc") ?_
  walk_at "mt"
  rw [show (2 : Int) * (n : Int) = ((n + n : Nat) : Int) by omega]
  refine classes_s (L := twL n l) (twL_rg gw.rg) (by omega) (by unfold twL; rw [List.length_append, List.length_map, List.length_map]; omega) fun u b => ?_
  walk_at "mt"
  obtain ⟨v, hv⟩ : ∃ v : Int → Int, ∀ y, v y = if u y = u (y + n) then -1 else if u y = u (t y) then 0 else 1 := ⟨_, fun _ => rfl⟩
  rw [show (D.lst .own [] : D) = .lst .own (tbI 0 v) from rfl]
  refine forP_nat (fun i r => ∃ z5, r = [some (.int (n : Int)), some (.lst .shr (l.map prD)), some (.lst .own (tbI n t)), some (.lst .own (tbI (n + n) u)), some (.lst .own (tbI i v)), z5, none, none]) ⟨_, rfl⟩ ?_ ?_ ?_
  · rintro i r _ ⟨z5, rfl⟩; walk_at "mv"
  · rintro i hi _ ⟨z5, rfl⟩
    have e := hv (i : Int)
    have sc : ∀ w : Int, w = v (i : Int) → tbI i v ++ [D.int w] = tbI (i + 1) v := fun w hw => by
      subst hw; unfold tbI tb; rw [cellsI_succ, List.map_append, List.map_append]; rfl
    obtain ⟨hr, _, _⟩ := a.least gw.rg (y := (i : Int)) (by omega) (by omega)
    walk_at "mt"
    refine rd_tb (by omega) (by omega) ?_
    walk_at "mt"
    refine rd_tb (by omega) (by omega) ?_
    walk_at "mt"
    refine ifP_D (fun h => ?_) fun h => ?_ <;> walk_at "mt"
    · rw [if_pos h] at e
      rw [sc _ e.symm]
      exact ⟨_, rfl⟩
    · rw [if_neg h] at e
      refine rd_tb (by omega) (by omega) ?_
      walk_at "mt"
      refine rd_tb (by omega) (by omega) ?_
      walk_at "mt"
      refine rd_tb (by omega) (by omega) ?_
      walk_at "mt"
      rw [show (if (!decide (u (i : Int) = u (t (i : Int)))) = true then (1 : Int) else 0) = v (i : Int) from by
        rw [e]
        by_cases q : u (i : Int) = u (t (i : Int)) <;> simp [q]]
      rw [sc _ rfl]
      exact ⟨_, rfl⟩
  · rintro _ ⟨z5, rfl⟩
    walk_at "mt"
    exact k v fun w s y y0 y1 => (sides_eq gw.rg a b s y0 y1).trans (hv y).symm
theorem gt_tb {n i : Nat} {f : Int → Int} {K : D → Prop} (h : i < n) (q : K (.int (f (i : Int)))) : optP (tbI n f)[i]? K := by
  rw [show (tbI n f)[i]? = some (.int (f (i : Int))) from by unfold tbI; rw [List.getElem?_map, List.getElem?_eq_getElem (by rw [tb_len]; exact h), tb_get]; rfl]
  exact q
theorem least_of {n : Nat} {l : List (Int × Int)} {a : Int} (g : Gw (n : Int) l) (h0 : 0 ≤ a) (h1 : a < (n : Int)) : ∃ x, ((0 ≤ x ∧ x < (n : Int)) ∧ Least l x) ∧ Cn l x a := by
  obtain ⟨k, ⟨hk, hc⟩, no⟩ := least_ex (p := fun k : Nat => (k : Int) < (n : Int) ∧ Cn l (k : Int) a) a.toNat ⟨by omega, by rw [show ((a.toNat : Nat) : Int) = a by omega]; exact .refl⟩
  refine ⟨k, ⟨⟨by omega, hk⟩, fun y y0 y1 c => no y.toNat (by omega) ?_⟩, hc⟩
  rw [show ((y.toNat : Nat) : Int) = y by omega]
  exact ⟨by omega, c.sym.trans hc⟩
theorem sds_head {n : Nat} {l : List (Int × Int)} {t w : Int → Int} {i : Int} (g : Gw (n : Int) l) (sd : Sds l n w) (lb : Lab l n t) (h0 : 0 ≤ i) (h1 : i < (n : Int)) (h : t i = i) : w i ≠ 1 := by
  obtain ⟨_, ls, _⟩ := lb.least g.rg h0 h1
  rw [h] at ls
  have s := sd i h0 h1 i h0 ls .refl
  by_cases o : OddW l i
  · rw [s.1 o]; decide
  · rw [s.2 o 0 .nil]; decide
theorem sds_link {n : Nat} {l : List (Int × Int)} {w : Int → Int} {a b : Int} (g : Gw (n : Int) l) (sd : Sds l n w) (hq : (a, b) ∈ l) (h : w a ≠ -1) : w a + w b = 1 := by
  have q := g.rng _ hq
  simp only at q
  obtain ⟨x, ⟨x0, x1⟩, ls, k, wk⟩ : ∃ x, (0 ≤ x ∧ x < (n : Int)) ∧ Least l x ∧ Cn l x a := by
    obtain ⟨x, hx, hc⟩ := least_of g q.1 (show a < (n : Int) by omega)
    exact ⟨x, hx.1, hx.2, hc⟩
  have s := sd a q.1 (by omega) x x0 ls ⟨k, wk⟩
  have wk2 : Wk l x (k + 1) b := .snoc wk (mem_nbr.mpr (.inl hq))
  have s2 := sd b (by omega) q.2.2 x x0 ls ⟨_, wk2⟩
  by_cases o : OddW l x
  · exact absurd (s.1 o) h
  · rw [s.2 o k wk, s2.2 o _ wk2]; omega
theorem right_s {m : Nat} {A B : Int} (k : ∀ A' B', K (.bl true) [some (src A' B')]) : (run P (m + 8) 29 [src A B]).out.sat K X := by
  rw [s_run Ok.f29 rfl]
  unfold b29
  walk_at "mt"
  refine one_s (g := D.int) Ok.f9 Ok.f10 (by simp) (by simp) fun M A B hM => ?_
  have M46 : 4 ≤ M ∧ M ≤ 6 := by simp at hM; omega
  clear hM
  walk_at "mn"
  refine mixed_s M46.1 M46.2 fun n l A B g hn hl => ?_
  walk_at "mn"
  refine sS_ifJ (fun r => ∃ (n : Nat) (l : List (Int × Int)) (A B : Int), Gw (n : Int) l ∧ n ≤ 40 ∧ l.length ≤ 160 ∧ r = [some (src A B), none, none, some (.int (n : Int)), some (.lst .shr (l.map prD)), none, none, none, none, none]) ?_ ?_
  · walk_at "mt"
    refine take_s Ok.f9 (by decide) (by decide +kernel) fun u A B u0 u1 => ?_
    walk_at "mt"
    refine ifP_D (fun _ => ?_) fun _ => ?_ <;> walk_at "mt"
    · refine large_s fun n l A B gw hn hl => ?_
      walk_at "mt"
      exact ⟨n, l, A, B, gw, hn, hl, rfl⟩
    · exact ⟨n, l, A, B, g, by omega, by omega, rfl⟩
  · clear hn hl g
    rintro _ ⟨n, l, A, B, g, hn, hl, rfl⟩
    have hw := g.web (by omega) hl
    walk_at "mt"
    refine webM_s Ok.f0 hw ?_
    walk_at "mt"
    refine lsides_s g hn hl fun v hv => ?_
    walk_at "mt"
    refine classes_s g.rg (by omega) (by omega) fun t lb => ?_
    walk_at "mt"
    refine sides_s hw fun w sd => ?_
    walk_at "mt"
    rw [show tbI n v = tbI n w from by unfold tbI; rw [tb_congr fun y y0 y1 => hv w sd y y0 y1]]
    refine row_s hn ?_
    walk_at "mt"
    refine forP_nat (fun i r => ∃ z2, r = [some (src A B), some (.tup (tbI n w)), z2, some (.int (n : Int)), some (.lst .shr (l.map prD)), some (webD 5 n l), some (.lst .own (tbI n w)), some (.lst .own (tbI n t)), none, none]) ⟨_, rfl⟩ ?_ ?_ ?_
    · rintro i r _ ⟨z2, rfl⟩; walk_at "mv"
    · rintro i hi _ ⟨z2, rfl⟩
      walk_at "mt"
      refine rd_tb (by omega) (by omega) ?_
      walk_at "mt"
      refine ifP_D (fun h => ?_) fun h => ?_ <;> walk_at "mt"
      · refine gt_tb hi ?_
        walk_at "mt"
        rw [decide_eq_false (sds_head g sd lb (by omega) (by omega) h)]
        walk_at "mt"
        exact ⟨_, rfl⟩
      · exact ⟨_, rfl⟩
    · rintro _ ⟨z2, rfl⟩
      walk_at "mt"
      refine forP_map (fun pre r => ∃ z8 z9, r = [some (src A B), some (.tup (tbI n w)), z2, some (.int (n : Int)), some (.lst .shr (l.map prD)), some (webD 5 n l), some (.lst .own (tbI n w)), some (.lst .own (tbI n t)), z8, z9]) ⟨_, _, rfl⟩ ?_ ?_ ?_
      · rintro pre r ⟨z8, z9, rfl⟩; walk_at "mv"
      · rintro pre ⟨a, b⟩ post e _ ⟨z8, z9, rfl⟩
        have hq : (a, b) ∈ l := by rw [e]; simp
        have q := g.rng _ hq
        simp only at q
        have sm := sds_link g sd hq
        walk_at "mt"
        refine it_tb (by omega) (by omega) ?_
        walk_at "mt"
        refine ifP_I (fun h => ?_) fun h => ?_ <;> walk_at "mt"
        · exact ⟨_, _, rfl⟩
        · refine it_tb (by omega) (by omega) ?_
          walk_at "mt"
          refine it_tb (by omega) (by omega) ?_
          walk_at "mt"
          rw [sm (by simpa using h)]
          walk_at "mt"
          exact ⟨_, _, rfl⟩
      · rintro _ ⟨z8, z9, rfl⟩
        walk_at "mt"
        exact k _ _
theorem law_s {m : Nat} {ns : List Int} : (run P (m + 9) 30 [.lst .giv (ns.map D.int)]).out.sat (fun d _ => d = .bl true) X := by
  rw [s_run Ok.f30 rfl]
  unfold b30
  walk_at "mc"
  generalize hj : max (1 : Int) (min (ns.length : Int) 4) = j
  have j4 : 1 ≤ j ∧ j ≤ 4 := by omega
  refine forP_nat (fun i r => ∃ z1, r = [some (.lst .giv (ns.map D.int)), z1]) ⟨_, rfl⟩ ?_ ?_ ?_
  · rintro i r _ ⟨z1, rfl⟩; walk_at "mv"
  · rintro i hi _ ⟨z1, rfl⟩
    walk_at "mc"
    refine pool_s (k := i) Ok.f8 (by omega) fun A B => ?_
    walk_at "mc"
    refine right_s fun A B => ?_
    walk_at "mc"
    exact ⟨_, rfl⟩
  · rintro _ ⟨z1, rfl⟩
    walk_at "mc"
end Mv.K02

namespace Lw
open PySem L2
def top (i : Nat) : Stmt := PySem.Challenge.pw_pairfloors_k02_sides_of_parts.main.body.getD i (.Pass ⟨0, 0, 0, 0⟩)
def T0 : Mv.Tc := { sc := { kind := .function, names := [], isGenerator := false, isCoroutine := false }, N := [], np := 0, fns := [PySem.Str.ofString ".Web.__init__", PySem.Str.ofString ".Web.near", PySem.Str.ofString ".Web.linked", PySem.Str.ofString "want_cell", PySem.Str.ofString "part_of", PySem.Str.ofString "parts", PySem.Str.ofString "side_row", PySem.Str.ofString "sides", PySem.Str.ofString "_law_pool", PySem.Str.ofString "_law_take", PySem.Str.ofString "_law_one", PySem.Str.ofString "_law_shuffled", PySem.Str.ofString "_law_near", PySem.Str.ofString "_law_link", PySem.Str.ofString "_law_corner", PySem.Str.ofString "_law_bridge", PySem.Str.ofString "_law_renamed", PySem.Str.ofString "_law_stout", PySem.Str.ofString "_law_round", PySem.Str.ofString "_law_tree", PySem.Str.ofString "_law_any", PySem.Str.ofString "_law_beside", PySem.Str.ofString "_law_some", PySem.Str.ofString "_law_mixed", PySem.Str.ofString "_law_large", PySem.Str.ofString "_law_classes", PySem.Str.ofString "_law_sides", PySem.Str.ofString "_law_number", PySem.Str.ofString "_law_row", PySem.Str.ofString "_law_right", PySem.Str.ofString "law"], cls := [PySem.Str.ofString "Refused", PySem.Str.ofString "BadSize", PySem.Str.ofString "BadLink", PySem.Str.ofString "TooMany", PySem.Str.ofString "BadCell", PySem.Str.ofString "Web"], oc := [5], cons := [(PySem.Str.ofString "MOST_CELLS", 40), (PySem.Str.ofString "MOST_LINKS", 160)], att := [PySem.Str.ofString "size", PySem.Str.ofString "links", PySem.Str.ofString "_rows"], mts := [PySem.Str.ofString "near", PySem.Str.ofString "linked"], blt := [PySem.Str.ofString "len", PySem.Str.ofString "int", PySem.Str.ofString "bool", PySem.Str.ofString "tuple", PySem.Str.ofString "list", PySem.Str.ofString "max", PySem.Str.ofString "min", PySem.Str.ofString "sorted", PySem.Str.ofString "isinstance", PySem.Str.ofString "range", PySem.Str.ofString "enumerate", PySem.Str.ofString "zip"], exc := true, ec := [0, 1, 2, 3, 4], kw := [], okw := [], nb := [], mth := [0, 1, 2] }
def n0 : List Str := [PySem.Str.ofString "self", PySem.Str.ofString "size", PySem.Str.ofString "links", PySem.Str.ofString "before", PySem.Str.ofString "rows", PySem.Str.ofString "index", PySem.Str.ofString "link", PySem.Str.ofString "low", PySem.Str.ofString "high", PySem.Str.ofString "_", PySem.Str.ofString "row"]
def p0 : List Str := [PySem.Str.ofString "self", PySem.Str.ofString "size", PySem.Str.ofString "links"]
def n1 : List Str := [PySem.Str.ofString "self", PySem.Str.ofString "x"]
def p1 : List Str := [PySem.Str.ofString "self", PySem.Str.ofString "x"]
def n2 : List Str := [PySem.Str.ofString "self", PySem.Str.ofString "x", PySem.Str.ofString "y"]
def p2 : List Str := [PySem.Str.ofString "self", PySem.Str.ofString "x", PySem.Str.ofString "y"]
def n3 : List Str := [PySem.Str.ofString "web", PySem.Str.ofString "x"]
def p3 : List Str := [PySem.Str.ofString "web", PySem.Str.ofString "x"]
def n4 : List Str := [PySem.Str.ofString "web", PySem.Str.ofString "x", PySem.Str.ofString "inside", PySem.Str.ofString "waiting", PySem.Str.ofString "cell", PySem.Str.ofString "other"]
def p4 : List Str := [PySem.Str.ofString "web", PySem.Str.ofString "x"]
def n5 : List Str := [PySem.Str.ofString "web", PySem.Str.ofString "told", PySem.Str.ofString "done", PySem.Str.ofString "x", PySem.Str.ofString "part", PySem.Str.ofString "cell"]
def p5 : List Str := [PySem.Str.ofString "web"]
def n6 : List Str := [PySem.Str.ofString "web", PySem.Str.ofString "start", PySem.Str.ofString "row", PySem.Str.ofString "queue", PySem.Str.ofString "at", PySem.Str.ofString "cell", PySem.Str.ofString "other"]
def p6 : List Str := [PySem.Str.ofString "web", PySem.Str.ofString "start"]
def n7 : List Str := [PySem.Str.ofString "web", PySem.Str.ofString "told", PySem.Str.ofString "part", PySem.Str.ofString "row", PySem.Str.ofString "cell"]
def p7 : List Str := [PySem.Str.ofString "web"]
def n8 : List Str := [PySem.Str.ofString "_law_script", PySem.Str.ofString "_law_k", PySem.Str.ofString "_law_cell", PySem.Str.ofString "_law_big", PySem.Str.ofString "_law_mixed_here"]
def p8 : List Str := [PySem.Str.ofString "_law_script", PySem.Str.ofString "_law_k"]
def n9 : List Str := [PySem.Str.ofString "_law_source", PySem.Str.ofString "_law_top", PySem.Str.ofString "_law_drawn"]
def p9 : List Str := [PySem.Str.ofString "_law_source", PySem.Str.ofString "_law_top"]
def n10 : List Str := [PySem.Str.ofString "_law_source", PySem.Str.ofString "_law_things"]
def p10 : List Str := [PySem.Str.ofString "_law_source", PySem.Str.ofString "_law_things"]
def n11 : List Str := [PySem.Str.ofString "_law_source", PySem.Str.ofString "_law_count", PySem.Str.ofString "_law_turn", PySem.Str.ofString "_law_left", PySem.Str.ofString "_law_found", PySem.Str.ofString "_law_x"]
def p11 : List Str := [PySem.Str.ofString "_law_source", PySem.Str.ofString "_law_count"]
def n12 : List Str := [PySem.Str.ofString "_law_links", PySem.Str.ofString "_law_x", PySem.Str.ofString "_law_a", PySem.Str.ofString "_law_b"]
def p12 : List Str := [PySem.Str.ofString "_law_links", PySem.Str.ofString "_law_x"]
def n13 : List Str := [PySem.Str.ofString "_law_a", PySem.Str.ofString "_law_b"]
def p13 : List Str := [PySem.Str.ofString "_law_a", PySem.Str.ofString "_law_b"]
def n14 : List Str := [PySem.Str.ofString "_law_source", PySem.Str.ofString "_law_size", PySem.Str.ofString "_law_links", PySem.Str.ofString "_law_around", PySem.Str.ofString "_law_x", PySem.Str.ofString "_law_z"]
def p14 : List Str := [PySem.Str.ofString "_law_source", PySem.Str.ofString "_law_size", PySem.Str.ofString "_law_links"]
def n15 : List Str := [PySem.Str.ofString "_law_source", PySem.Str.ofString "_law_size", PySem.Str.ofString "_law_links", PySem.Str.ofString "_law_a", PySem.Str.ofString "_law_x", PySem.Str.ofString "_law_y", PySem.Str.ofString "_law_b"]
def p15 : List Str := [PySem.Str.ofString "_law_source", PySem.Str.ofString "_law_size", PySem.Str.ofString "_law_links"]
def n16 : List Str := [PySem.Str.ofString "_law_source", PySem.Str.ofString "_law_size", PySem.Str.ofString "_law_links", PySem.Str.ofString "_law_names", PySem.Str.ofString "_law_a", PySem.Str.ofString "_law_b"]
def p16 : List Str := [PySem.Str.ofString "_law_source", PySem.Str.ofString "_law_size", PySem.Str.ofString "_law_links"]
def n17 : List Str := [PySem.Str.ofString "_law_source", PySem.Str.ofString "_law_most", PySem.Str.ofString "_law_kinds", PySem.Str.ofString "_law_square", PySem.Str.ofString "_law_fours", PySem.Str.ofString "_law_prism", PySem.Str.ofString "_law_turn", PySem.Str.ofString "_law_size", PySem.Str.ofString "_law_links"]
def p17 : List Str := [PySem.Str.ofString "_law_source", PySem.Str.ofString "_law_most", PySem.Str.ofString "_law_kinds"]
def n18 : List Str := [PySem.Str.ofString "_law_source", PySem.Str.ofString "_law_count", PySem.Str.ofString "_law_x"]
def p18 : List Str := [PySem.Str.ofString "_law_source", PySem.Str.ofString "_law_count"]
def n19 : List Str := [PySem.Str.ofString "_law_source", PySem.Str.ofString "_law_count", PySem.Str.ofString "_law_links", PySem.Str.ofString "_law_x"]
def p19 : List Str := [PySem.Str.ofString "_law_source", PySem.Str.ofString "_law_count"]
def n20 : List Str := [PySem.Str.ofString "_law_source", PySem.Str.ofString "_law_count", PySem.Str.ofString "_law_links", PySem.Str.ofString "_law_b", PySem.Str.ofString "_law_a"]
def p20 : List Str := [PySem.Str.ofString "_law_source", PySem.Str.ofString "_law_count"]
def n21 : List Str := [PySem.Str.ofString "_law_source", PySem.Str.ofString "_law_one_here", PySem.Str.ofString "_law_other", PySem.Str.ofString "_law_links", PySem.Str.ofString "_law_a", PySem.Str.ofString "_law_b"]
def p21 : List Str := [PySem.Str.ofString "_law_source", PySem.Str.ofString "_law_one_here", PySem.Str.ofString "_law_other"]
def n22 : List Str := [PySem.Str.ofString "_law_source", PySem.Str.ofString "_law_most", PySem.Str.ofString "_law_kind"]
def p22 : List Str := [PySem.Str.ofString "_law_source", PySem.Str.ofString "_law_most"]
def n23 : List Str := [PySem.Str.ofString "_law_source", PySem.Str.ofString "_law_most", PySem.Str.ofString "_law_web", PySem.Str.ofString "_law_turn"]
def p23 : List Str := [PySem.Str.ofString "_law_source", PySem.Str.ofString "_law_most"]
def n24 : List Str := [PySem.Str.ofString "_law_source", PySem.Str.ofString "_law_size", PySem.Str.ofString "_law_kind"]
def p24 : List Str := [PySem.Str.ofString "_law_source"]
def n25 : List Str := [PySem.Str.ofString "_law_count", PySem.Str.ofString "_law_links", PySem.Str.ofString "_law_label", PySem.Str.ofString "_law_turn", PySem.Str.ofString "_law_before", PySem.Str.ofString "_law_x", PySem.Str.ofString "_law_a", PySem.Str.ofString "_law_b", PySem.Str.ofString "_law_low"]
def p25 : List Str := [PySem.Str.ofString "_law_count", PySem.Str.ofString "_law_links"]
def n26 : List Str := [PySem.Str.ofString "_law_size", PySem.Str.ofString "_law_links", PySem.Str.ofString "_law_part", PySem.Str.ofString "_law_twice", PySem.Str.ofString "_law_told", PySem.Str.ofString "_law_x", PySem.Str.ofString "_law_a", PySem.Str.ofString "_law_b"]
def p26 : List Str := [PySem.Str.ofString "_law_size", PySem.Str.ofString "_law_links"]
def n27 : List Str := [PySem.Str.ofString "_law_thing"]
def p27 : List Str := [PySem.Str.ofString "_law_thing"]
def n28 : List Str := [PySem.Str.ofString "_law_told", PySem.Str.ofString "_law_due", PySem.Str.ofString "_law_a", PySem.Str.ofString "_law_b"]
def p28 : List Str := [PySem.Str.ofString "_law_told", PySem.Str.ofString "_law_due"]
def n29 : List Str := [PySem.Str.ofString "_law_source", PySem.Str.ofString "_law_told", PySem.Str.ofString "_law_x", PySem.Str.ofString "_law_size", PySem.Str.ofString "_law_links", PySem.Str.ofString "_law_web", PySem.Str.ofString "_law_due", PySem.Str.ofString "_law_label", PySem.Str.ofString "_law_a", PySem.Str.ofString "_law_b"]
def p29 : List Str := [PySem.Str.ofString "_law_source"]
def n30 : List Str := [PySem.Str.ofString "_law_script", PySem.Str.ofString "_law_k"]
def p30 : List Str := [PySem.Str.ofString "_law_script"]
def b0 : List Mv.S := [(.ifS (.notE (.cmp (.int (1)) [.LtE, .LtE] [(.var 1), (.int (40))])) [(.raise 1 (.var 1))] []), (.ifS (.cmp (.blt .len [(.var 2)]) [.Gt] [(.int (160))]) [(.raise 3 (.blt .len [(.var 2)]))] []), (.asg (.nm 3) (.tup [(.neg (.int (1))), (.neg (.int (1)))])), (.forS (.tp [(.nm 5), (.nm 6)]) .enm [(.var 2)] [(.ifS (.orE [(.cmp (.blt .len [(.var 6)]) [.NotEq] [(.int (2))]), (.notE (.cmp (.int (0)) [.LtE, .Lt, .Lt] [(.idx (.var 6) (.int (0))), (.idx (.var 6) (.int (1))), (.var 1)])), (.notE (.cmp (.var 3) [.Lt] [(.var 6)]))]) [(.raise 2 (.var 5))] []), (.asg (.nm 3) (.var 6))]), (.setA 0 0 (.var 1)), (.setA 0 1 (.var 2)), (.asg (.nm 4) (.comp (.lst []) (.nm 9) .rng [(.var 1)] [] [9])), (.forS (.tp [(.nm 7), (.nm 8)]) .val [(.var 2)] [(.expr (.lm .append (.idx (.var 4) (.var 7)) [(.var 8)])), (.expr (.lm .append (.idx (.var 4) (.var 8)) [(.var 7)]))]), (.setA 0 2 (.comp (.blt .tuple [(.blt .sorted [(.var 10)])]) (.nm 10) .val [(.var 4)] [] [10]))]
def a0 : List Nat := [3, 5, 6, 4, 7, 8]
theorem t0 : Mv.trB 300 { T0 with sc := defScope (Mv.inCls (top 9) 0), N := n0, np := p0.length } (defBody (Mv.inCls (top 9) 0)) = some b0 := by rfl
theorem s0 : FnScope n0 p0 (defScope (Mv.inCls (top 9) 0)) := ⟨rfl, rfl, rfl, by decide +kernel, rfl, by decide +kernel, by decide +kernel⟩
theorem g0 : ∀ i ∈ Mv.stB b0, i ∈ a0 := by decide +kernel
def b1 : List Mv.S := [(.expr (.call 3 [(.var 0), (.var 1)])), (.ret (.idx (.attr (.var 0) 2) (.var 1)))]
def a1 : List Nat := []
theorem t1 : Mv.trB 300 { T0 with sc := defScope (Mv.inCls (top 9) 1), N := n1, np := p1.length } (defBody (Mv.inCls (top 9) 1)) = some b1 := by rfl
theorem s1 : FnScope n1 p1 (defScope (Mv.inCls (top 9) 1)) := ⟨rfl, rfl, rfl, by decide +kernel, rfl, by decide +kernel, by decide +kernel⟩
theorem g1 : ∀ i ∈ Mv.stB b1, i ∈ a1 := by decide +kernel
def b2 : List Mv.S := [(.ret (.andE [(.cmp (.int (0)) [.LtE, .Lt] [(.var 1), (.attr (.var 0) 0)]), (.cmp (.var 2) [.In] [(.idx (.attr (.var 0) 2) (.var 1))])]))]
def a2 : List Nat := []
theorem t2 : Mv.trB 300 { T0 with sc := defScope (Mv.inCls (top 9) 2), N := n2, np := p2.length } (defBody (Mv.inCls (top 9) 2)) = some b2 := by rfl
theorem s2 : FnScope n2 p2 (defScope (Mv.inCls (top 9) 2)) := ⟨rfl, rfl, rfl, by decide +kernel, rfl, by decide +kernel, by decide +kernel⟩
theorem g2 : ∀ i ∈ Mv.stB b2, i ∈ a2 := by decide +kernel
def b3 : List Mv.S := [(.ifS (.notE (.cmp (.int (0)) [.LtE, .Lt] [(.var 1), (.attr (.var 0) 0)])) [(.raise 4 (.var 1))] [])]
def a3 : List Nat := []
theorem t3 : Mv.trB 300 { T0 with sc := defScope (top 10), N := n3, np := p3.length } (defBody (top 10)) = some b3 := by rfl
theorem s3 : FnScope n3 p3 (defScope (top 10)) := ⟨rfl, rfl, rfl, by decide +kernel, rfl, by decide +kernel, by decide +kernel⟩
theorem g3 : ∀ i ∈ Mv.stB b3, i ∈ a3 := by decide +kernel
def b4 : List Mv.S := [(.expr (.call 3 [(.var 0), (.var 1)])), (.asg (.nm 2) (.bin .Mult (.lst [(.bl false)]) (.attr (.var 0) 0))), (.setI (.var 2) (.var 1) (.bl true)), (.asg (.nm 3) (.lst [(.var 1)])), (.whl (.var 3) [(.asg (.nm 4) (.lm .pop (.var 3) [])), (.forS (.nm 5) .val [(.meth 0 (.var 0) [(.var 4)])] [(.ifS (.notE (.idx (.var 2) (.var 5))) [(.setI (.var 2) (.var 5) (.bl true)), (.expr (.lm .append (.var 3) [(.var 5)]))] [])])]), (.ret (.blt .tuple [(.comp (.var 4) (.nm 4) .rng [(.attr (.var 0) 0)] [(.idx (.var 2) (.var 4))] [4])]))]
def a4 : List Nat := [2, 3, 4, 5]
theorem t4 : Mv.trB 300 { T0 with sc := defScope (top 12), N := n4, np := p4.length } (defBody (top 12)) = some b4 := by rfl
theorem s4 : FnScope n4 p4 (defScope (top 12)) := ⟨rfl, rfl, rfl, by decide +kernel, rfl, by decide +kernel, by decide +kernel⟩
theorem g4 : ∀ i ∈ Mv.stB b4, i ∈ a4 := by decide +kernel
def b5 : List Mv.S := [(.asg (.nm 1) (.lst [])), (.asg (.nm 2) (.bin .Mult (.lst [(.bl false)]) (.attr (.var 0) 0))), (.forS (.nm 3) .rng [(.attr (.var 0) 0)] [(.ifS (.notE (.idx (.var 2) (.var 3))) [(.asg (.nm 4) (.call 4 [(.var 0), (.var 3)])), (.forS (.nm 5) .val [(.var 4)] [(.setI (.var 2) (.var 5) (.bl true))]), (.expr (.lm .append (.var 1) [(.var 4)]))] [])]), (.ret (.blt .tuple [(.var 1)]))]
def a5 : List Nat := [1, 2, 3, 4, 5]
theorem t5 : Mv.trB 300 { T0 with sc := defScope (top 13), N := n5, np := p5.length } (defBody (top 13)) = some b5 := by rfl
theorem s5 : FnScope n5 p5 (defScope (top 13)) := ⟨rfl, rfl, rfl, by decide +kernel, rfl, by decide +kernel, by decide +kernel⟩
theorem g5 : ∀ i ∈ Mv.stB b5, i ∈ a5 := by decide +kernel
def b6 : List Mv.S := [(.asg (.nm 2) (.bin .Mult (.lst [(.neg (.int (1)))]) (.attr (.var 0) 0))), (.setI (.var 2) (.var 1) (.int (0))), (.asg (.nm 3) (.lst [(.var 1)])), (.asg (.nm 4) (.int (0))), (.whl (.cmp (.var 4) [.Lt] [(.blt .len [(.var 3)])]) [(.asg (.nm 5) (.idx (.var 3) (.var 4))), (.aug 4 .Add (.int (1))), (.forS (.nm 6) .val [(.meth 0 (.var 0) [(.var 5)])] [(.ifS (.cmp (.idx (.var 2) (.var 6)) [.Eq] [(.neg (.int (1)))]) [(.setI (.var 2) (.var 6) (.bin .Sub (.int (1)) (.idx (.var 2) (.var 5)))), (.expr (.lm .append (.var 3) [(.var 6)]))] [(.ifS (.cmp (.idx (.var 2) (.var 6)) [.Eq] [(.idx (.var 2) (.var 5))]) [(.ret .non)] [])])])]), (.retV 2)]
def a6 : List Nat := [2, 3, 4, 5, 6]
theorem t6 : Mv.trB 300 { T0 with sc := defScope (top 15), N := n6, np := p6.length } (defBody (top 15)) = some b6 := by rfl
theorem s6 : FnScope n6 p6 (defScope (top 15)) := ⟨rfl, rfl, rfl, by decide +kernel, rfl, by decide +kernel, by decide +kernel⟩
theorem g6 : ∀ i ∈ Mv.stB b6, i ∈ a6 := by decide +kernel
def b7 : List Mv.S := [(.asg (.nm 1) (.bin .Mult (.lst [(.neg (.int (1)))]) (.attr (.var 0) 0))), (.forS (.nm 2) .val [(.call 5 [(.var 0)])] [(.asg (.nm 3) (.call 6 [(.var 0), (.idx (.var 2) (.int (0)))])), (.ifS (.cmp (.var 3) [.IsNot] [.non]) [(.forS (.nm 4) .val [(.var 2)] [(.setI (.var 1) (.var 4) (.idx (.var 3) (.var 4)))])] [])]), (.ret (.blt .tuple [(.var 1)]))]
def a7 : List Nat := [1, 2, 3, 4]
theorem t7 : Mv.trB 300 { T0 with sc := defScope (top 16), N := n7, np := p7.length } (defBody (top 16)) = some b7 := by rfl
theorem s7 : FnScope n7 p7 (defScope (top 16)) := ⟨rfl, rfl, rfl, by decide +kernel, rfl, by decide +kernel, by decide +kernel⟩
theorem g7 : ∀ i ∈ Mv.stB b7, i ∈ a7 := by decide +kernel
def b8 : List Mv.S := [(.asg (.nm 2) (.int (0))), (.ifS (.cmp (.var 1) [.Lt] [(.blt .len [(.var 0)])]) [(.asg (.nm 2) (.idx (.var 0) (.var 1)))] [(.ifS (.var 0) [(.asg (.nm 2) (.idx (.var 0) (.int (0))))] [])]), (.asg (.nm 3) (.blt .max [(.blt .int [(.var 2)]), (.blt .int [(.bin .Sub (.neg (.int (1))) (.var 2))])])), (.asg (.nm 4) (.bin .Mod (.blt .int [(.bin .Mult (.bin .Add (.bin .Add (.bin .Add (.bin .Mod (.blt .int [(.var 3)]) (.int (2147483629))) (.bin .Mult (.bin .Mult (.int (7919)) (.var 1)) (.var 1))) (.bin .Mult (.int (31)) (.var 1))) (.int (17))) (.int (48271)))]) (.int (2147483647)))), (.ret (.lst [(.bin .Mult (.var 3) (.blt .int [(.cmp (.var 3) [.GtE] [(.bin .Pow (.int (10)) (.int (18)))])])), (.var 4)]))]
def a8 : List Nat := [2, 3, 4]
theorem t8 : Mv.trB 300 { T0 with sc := defScope (top 18), N := n8, np := p8.length } (defBody (top 18)) = some b8 := by rfl
theorem s8 : FnScope n8 p8 (defScope (top 18)) := ⟨rfl, rfl, rfl, by decide +kernel, rfl, by decide +kernel, by decide +kernel⟩
theorem g8 : ∀ i ∈ Mv.stB b8, i ∈ a8 := by decide +kernel
def b9 : List Mv.S := [(.ifS (.cmp (.idx (.var 0) (.int (0))) [.Gt] [(.int (0))]) [(.asg (.nm 2) (.bin .Mod (.blt .int [(.idx (.var 0) (.int (0)))]) (.var 1))), (.setI (.var 0) (.int (0)) (.bin .FloorDiv (.idx (.var 0) (.int (0))) (.var 1))), (.retV 2)] []), (.setI (.var 0) (.int (1)) (.bin .Mod (.blt .int [(.bin .Add (.bin .Mult (.idx (.var 0) (.int (1))) (.int (39373))) (.int (7)))]) (.int (2147483647)))), (.ret (.bin .Mod (.blt .int [(.bin .FloorDiv (.bin .Mod (.blt .int [(.bin .Mult (.idx (.var 0) (.int (1))) (.idx (.var 0) (.int (1))))]) (.int (2147483629))) (.int (32)))]) (.var 1)))]
def a9 : List Nat := [2]
theorem t9 : Mv.trB 300 { T0 with sc := defScope (top 19), N := n9, np := p9.length } (defBody (top 19)) = some b9 := by rfl
theorem s9 : FnScope n9 p9 (defScope (top 19)) := ⟨rfl, rfl, rfl, by decide +kernel, rfl, by decide +kernel, by decide +kernel⟩
theorem g9 : ∀ i ∈ Mv.stB b9, i ∈ a9 := by decide +kernel
def b10 : List Mv.S := [(.ret (.idx (.var 1) (.call 9 [(.var 0), (.blt .len [(.var 1)])])))]
def a10 : List Nat := []
theorem t10 : Mv.trB 300 { T0 with sc := defScope (top 20), N := n10, np := p10.length } (defBody (top 20)) = some b10 := by rfl
theorem s10 : FnScope n10 p10 (defScope (top 20)) := ⟨rfl, rfl, rfl, by decide +kernel, rfl, by decide +kernel, by decide +kernel⟩
theorem g10 : ∀ i ∈ Mv.stB b10, i ∈ a10 := by decide +kernel
def b11 : List Mv.S := [(.par [(.nm 3), (.nm 4)] [(.comp (.var 5) (.nm 5) .rng [(.var 1)] [] [5]), (.lst [])]), (.forS (.nm 2) .rng [(.var 1)] [(.expr (.lm .append (.var 4) [(.lm .pop (.var 3) [(.call 9 [(.var 0), (.blt .len [(.var 3)])])])]))]), (.retV 4)]
def a11 : List Nat := [3, 4, 2]
theorem t11 : Mv.trB 300 { T0 with sc := defScope (top 21), N := n11, np := p11.length } (defBody (top 21)) = some b11 := by rfl
theorem s11 : FnScope n11 p11 (defScope (top 21)) := ⟨rfl, rfl, rfl, by decide +kernel, rfl, by decide +kernel, by decide +kernel⟩
theorem g11 : ∀ i ∈ Mv.stB b11, i ∈ a11 := by decide +kernel
def b12 : List Mv.S := [(.ret (.blt .sorted [(.bin .Add (.comp (.var 3) (.tp [(.nm 2), (.nm 3)]) .val [(.var 0)] [(.cmp (.var 2) [.Eq] [(.var 1)])] [2, 3]) (.comp (.var 2) (.tp [(.nm 2), (.nm 3)]) .val [(.var 0)] [(.cmp (.var 3) [.Eq] [(.var 1)])] [2, 3]))]))]
def a12 : List Nat := []
theorem t12 : Mv.trB 300 { T0 with sc := defScope (top 22), N := n12, np := p12.length } (defBody (top 22)) = some b12 := by rfl
theorem s12 : FnScope n12 p12 (defScope (top 22)) := ⟨rfl, rfl, rfl, by decide +kernel, rfl, by decide +kernel, by decide +kernel⟩
theorem g12 : ∀ i ∈ Mv.stB b12, i ∈ a12 := by decide +kernel
def b13 : List Mv.S := [(.ret (.tup [(.blt .min [(.var 0), (.var 1)]), (.blt .max [(.var 0), (.var 1)])]))]
def a13 : List Nat := []
theorem t13 : Mv.trB 300 { T0 with sc := defScope (top 23), N := n13, np := p13.length } (defBody (top 23)) = some b13 := by rfl
theorem s13 : FnScope n13 p13 (defScope (top 23)) := ⟨rfl, rfl, rfl, by decide +kernel, rfl, by decide +kernel, by decide +kernel⟩
theorem g13 : ∀ i ∈ Mv.stB b13, i ∈ a13 := by decide +kernel
def b14 : List Mv.S := [(.asg (.nm 3) (.call 12 [(.var 2), (.call 9 [(.var 0), (.var 1)])])), (.asg (.nm 4) (.lm .pop (.var 3) [(.call 9 [(.var 0), (.blt .len [(.var 3)])])])), (.asg (.nm 5) (.lm .pop (.var 3) [(.call 9 [(.var 0), (.blt .len [(.var 3)])])])), (.ret (.tup [(.bin .Add (.var 1) (.int (1))), (.blt .sorted [(.bin .Add (.var 2) (.lst [(.tup [(.var 4), (.var 1)]), (.tup [(.var 5), (.var 1)])]))])]))]
def a14 : List Nat := [3, 4, 5]
theorem t14 : Mv.trB 300 { T0 with sc := defScope (top 24), N := n14, np := p14.length } (defBody (top 24)) = some b14 := by rfl
theorem s14 : FnScope n14 p14 (defScope (top 24)) := ⟨rfl, rfl, rfl, by decide +kernel, rfl, by decide +kernel, by decide +kernel⟩
theorem g14 : ∀ i ∈ Mv.stB b14, i ∈ a14 := by decide +kernel
def b15 : List Mv.S := [(.asg (.nm 3) (.call 9 [(.var 0), (.var 1)])), (.asg (.nm 4) (.call 10 [(.var 0), (.call 12 [(.var 2), (.var 3)])])), (.asg (.nm 5) (.call 10 [(.var 0), (.call 12 [(.var 2), (.var 4)])])), (.asg (.nm 6) (.call 10 [(.var 0), (.call 12 [(.var 2), (.var 5)])])), (.ifS (.orE [(.cmp (.var 3) [.Eq] [(.var 5)]), (.cmp (.var 3) [.Eq] [(.var 6)]), (.cmp (.var 4) [.Eq] [(.var 6)]), (.cmp (.call 13 [(.var 3), (.var 6)]) [.In] [(.var 2)])]) [(.ret (.tup [(.var 1), (.var 2)]))] []), (.ret (.tup [(.var 1), (.blt .sorted [(.bin .Add (.var 2) (.lst [(.call 13 [(.var 3), (.var 6)])]))])]))]
def a15 : List Nat := [3, 4, 5, 6]
theorem t15 : Mv.trB 300 { T0 with sc := defScope (top 25), N := n15, np := p15.length } (defBody (top 25)) = some b15 := by rfl
theorem s15 : FnScope n15 p15 (defScope (top 25)) := ⟨rfl, rfl, rfl, by decide +kernel, rfl, by decide +kernel, by decide +kernel⟩
theorem g15 : ∀ i ∈ Mv.stB b15, i ∈ a15 := by decide +kernel
def b16 : List Mv.S := [(.asg (.nm 3) (.call 11 [(.var 0), (.var 1)])), (.ret (.tup [(.var 1), (.blt .sorted [(.comp (.call 13 [(.idx (.var 3) (.var 4)), (.idx (.var 3) (.var 5))]) (.tp [(.nm 4), (.nm 5)]) .val [(.var 2)] [] [4, 5])])]))]
def a16 : List Nat := [3]
theorem t16 : Mv.trB 300 { T0 with sc := defScope (top 26), N := n16, np := p16.length } (defBody (top 26)) = some b16 := by rfl
theorem s16 : FnScope n16 p16 (defScope (top 26)) := ⟨rfl, rfl, rfl, by decide +kernel, rfl, by decide +kernel, by decide +kernel⟩
theorem g16 : ∀ i ∈ Mv.stB b16, i ∈ a16 := by decide +kernel
def b17 : List Mv.S := [(.asg (.nm 3) (.lst [(.tup [(.int (0)), (.int (1))]), (.tup [(.int (0)), (.int (2))]), (.tup [(.int (1)), (.int (3))]), (.tup [(.int (2)), (.int (3))])])), (.asg (.nm 4) (.lst [(.tup [(.int (0)), (.int (1))]), (.tup [(.int (0)), (.int (2))]), (.tup [(.int (0)), (.int (3))]), (.tup [(.int (1)), (.int (2))]), (.tup [(.int (1)), (.int (3))]), (.tup [(.int (2)), (.int (3))])])), (.asg (.nm 5) (.lst [(.tup [(.int (0)), (.int (1))]), (.tup [(.int (0)), (.int (2))]), (.tup [(.int (0)), (.int (4))]), (.tup [(.int (1)), (.int (3))]), (.tup [(.int (1)), (.int (5))]), (.tup [(.int (2)), (.int (3))]), (.tup [(.int (2)), (.int (4))]), (.tup [(.int (3)), (.int (5))]), (.tup [(.int (4)), (.int (5))])])), (.par [(.nm 7), (.nm 8)] [(.int (4)), (.var 3)]), (.ifS (.orE [(.cmp (.var 2) [.Eq] [(.int (2))]), (.andE [(.cmp (.var 2) [.Eq] [(.int (3))]), (.cmp (.call 9 [(.var 0), (.int (3))]) [.Eq] [(.int (0))])])]) [(.asg (.nm 8) (.var 4)), (.ifS (.andE [(.cmp (.var 1) [.GtE] [(.int (6))]), (.cmp (.call 9 [(.var 0), (.int (2))]) [.Eq] [(.int (0))])]) [(.par [(.nm 7), (.nm 8)] [(.int (6)), (.var 5)])] [])] []), (.forS (.nm 6) .rng [(.call 9 [(.var 0), (.var 1)])] [(.ifS (.andE [(.cmp (.var 7) [.Lt] [(.var 1)]), (.cmp (.call 9 [(.var 0), (.int (3))]) [.Lt] [(.int (2))])]) [(.asg (.tp [(.nm 7), (.nm 8)]) (.call 14 [(.var 0), (.var 7), (.var 8)]))] [(.asg (.tp [(.nm 7), (.nm 8)]) (.call 15 [(.var 0), (.var 7), (.var 8)]))])]), (.ret (.call 16 [(.var 0), (.var 7), (.var 8)]))]
def a17 : List Nat := [3, 4, 5, 7, 8, 6]
theorem t17 : Mv.trB 300 { T0 with sc := defScope (top 27), N := n17, np := p17.length } (defBody (top 27)) = some b17 := by rfl
theorem s17 : FnScope n17 p17 (defScope (top 27)) := ⟨rfl, rfl, rfl, by decide +kernel, rfl, by decide +kernel, by decide +kernel⟩
theorem g17 : ∀ i ∈ Mv.stB b17, i ∈ a17 := by decide +kernel
def b18 : List Mv.S := [(.ret (.call 16 [(.var 0), (.var 1), (.bin .Add (.comp (.tup [(.var 2), (.bin .Add (.var 2) (.int (1)))]) (.nm 2) .rng [(.bin .Sub (.var 1) (.int (1)))] [] [2]) (.lst [(.tup [(.int (0)), (.bin .Sub (.var 1) (.int (1)))])]))]))]
def a18 : List Nat := []
theorem t18 : Mv.trB 300 { T0 with sc := defScope (top 28), N := n18, np := p18.length } (defBody (top 28)) = some b18 := by rfl
theorem s18 : FnScope n18 p18 (defScope (top 28)) := ⟨rfl, rfl, rfl, by decide +kernel, rfl, by decide +kernel, by decide +kernel⟩
theorem g18 : ∀ i ∈ Mv.stB b18, i ∈ a18 := by decide +kernel
def b19 : List Mv.S := [(.asg (.nm 2) (.lst [])), (.forS (.nm 3) .rng [(.int (1)), (.var 1)] [(.expr (.lm .append (.var 2) [(.tup [(.call 10 [(.var 0), (.lst [(.bin .Sub (.var 3) (.int (1))), (.call 9 [(.var 0), (.var 3)])])]), (.var 3)])]))]), (.ret (.call 16 [(.var 0), (.var 1), (.blt .sorted [(.var 2)])]))]
def a19 : List Nat := [2, 3]
theorem t19 : Mv.trB 300 { T0 with sc := defScope (top 29), N := n19, np := p19.length } (defBody (top 29)) = some b19 := by rfl
theorem s19 : FnScope n19 p19 (defScope (top 29)) := ⟨rfl, rfl, rfl, by decide +kernel, rfl, by decide +kernel, by decide +kernel⟩
theorem g19 : ∀ i ∈ Mv.stB b19, i ∈ a19 := by decide +kernel
def b20 : List Mv.S := [(.asg (.nm 2) (.lst [])), (.forS (.nm 3) .rng [(.var 1)] [(.forS (.nm 4) .rng [(.var 3)] [(.ifS (.cmp (.call 9 [(.var 0), (.int (5))]) [.Lt] [(.int (2))]) [(.expr (.lm .append (.var 2) [(.tup [(.var 4), (.var 3)])]))] [])])]), (.ret (.tup [(.var 1), (.blt .sorted [(.var 2)])]))]
def a20 : List Nat := [2, 3, 4]
theorem t20 : Mv.trB 300 { T0 with sc := defScope (top 30), N := n20, np := p20.length } (defBody (top 30)) = some b20 := by rfl
theorem s20 : FnScope n20 p20 (defScope (top 30)) := ⟨rfl, rfl, rfl, by decide +kernel, rfl, by decide +kernel, by decide +kernel⟩
theorem g20 : ∀ i ∈ Mv.stB b20, i ∈ a20 := by decide +kernel
def b21 : List Mv.S := [(.asg (.nm 3) (.bin .Add (.idx (.var 1) (.int (1))) (.comp (.tup [(.bin .Add (.var 4) (.idx (.var 1) (.int (0)))), (.bin .Add (.var 5) (.idx (.var 1) (.int (0))))]) (.tp [(.nm 4), (.nm 5)]) .val [(.idx (.var 2) (.int (1)))] [] [4, 5]))), (.ret (.call 16 [(.var 0), (.bin .Add (.idx (.var 1) (.int (0))) (.idx (.var 2) (.int (0)))), (.var 3)]))]
def a21 : List Nat := [3]
theorem t21 : Mv.trB 300 { T0 with sc := defScope (top 31), N := n21, np := p21.length } (defBody (top 31)) = some b21 := by rfl
theorem s21 : FnScope n21 p21 (defScope (top 31)) := ⟨rfl, rfl, rfl, by decide +kernel, rfl, by decide +kernel, by decide +kernel⟩
theorem g21 : ∀ i ∈ Mv.stB b21, i ∈ a21 := by decide +kernel
def b22 : List Mv.S := [(.asg (.nm 2) (.call 9 [(.var 0), (.int (5))])), (.ifS (.cmp (.var 2) [.Eq] [(.int (0))]) [(.ret (.call 20 [(.var 0), (.bin .Add (.int (1)) (.call 9 [(.var 0), (.var 1)]))]))] []), (.ifS (.cmp (.var 2) [.Eq] [(.int (1))]) [(.ret (.call 19 [(.var 0), (.bin .Add (.int (1)) (.call 9 [(.var 0), (.var 1)]))]))] []), (.ifS (.cmp (.var 2) [.Eq] [(.int (2))]) [(.ret (.call 18 [(.var 0), (.bin .Add (.int (3)) (.call 9 [(.var 0), (.bin .Sub (.var 1) (.int (2)))]))]))] []), (.ret (.call 17 [(.var 0), (.var 1), (.int (3))]))]
def a22 : List Nat := [2]
theorem t22 : Mv.trB 300 { T0 with sc := defScope (top 32), N := n22, np := p22.length } (defBody (top 32)) = some b22 := by rfl
theorem s22 : FnScope n22 p22 (defScope (top 32)) := ⟨rfl, rfl, rfl, by decide +kernel, rfl, by decide +kernel, by decide +kernel⟩
theorem g22 : ∀ i ∈ Mv.stB b22, i ∈ a22 := by decide +kernel
def b23 : List Mv.S := [(.asg (.nm 2) (.call 22 [(.var 0), (.var 1)])), (.forS (.nm 3) .rng [(.call 10 [(.var 0), (.lst [(.int (0)), (.int (1)), (.int (1)), (.int (2))])])] [(.asg (.nm 2) (.call 21 [(.var 0), (.var 2), (.call 22 [(.var 0), (.var 1)])]))]), (.retV 2)]
def a23 : List Nat := [2, 3]
theorem t23 : Mv.trB 300 { T0 with sc := defScope (top 33), N := n23, np := p23.length } (defBody (top 33)) = some b23 := by rfl
theorem s23 : FnScope n23 p23 (defScope (top 33)) := ⟨rfl, rfl, rfl, by decide +kernel, rfl, by decide +kernel, by decide +kernel⟩
theorem g23 : ∀ i ∈ Mv.stB b23, i ∈ a23 := by decide +kernel
def b24 : List Mv.S := [(.par [(.nm 1), (.nm 2)] [(.bin .Sub (.int (40)) (.call 10 [(.var 0), (.lst [(.int (0)), (.int (0)), (.int (1)), (.call 9 [(.var 0), (.int (9))])])])), (.call 9 [(.var 0), (.int (3))])]), (.ifS (.cmp (.var 2) [.Eq] [(.int (0))]) [(.ret (.call 19 [(.var 0), (.var 1)]))] []), (.ifS (.cmp (.var 2) [.Eq] [(.int (1))]) [(.ret (.call 18 [(.var 0), (.var 1)]))] []), (.ret (.call 17 [(.var 0), (.var 1), (.int (3))]))]
def a24 : List Nat := [1, 2]
theorem t24 : Mv.trB 300 { T0 with sc := defScope (top 34), N := n24, np := p24.length } (defBody (top 34)) = some b24 := by rfl
theorem s24 : FnScope n24 p24 (defScope (top 34)) := ⟨rfl, rfl, rfl, by decide +kernel, rfl, by decide +kernel, by decide +kernel⟩
theorem g24 : ∀ i ∈ Mv.stB b24, i ∈ a24 := by decide +kernel
def b25 : List Mv.S := [(.asg (.nm 2) (.comp (.var 5) (.nm 5) .rng [(.var 0)] [] [5])), (.forS (.nm 3) .rng [(.var 0)] [(.asg (.nm 4) (.blt .list [(.var 2)])), (.forS (.tp [(.nm 6), (.nm 7)]) .val [(.var 1)] [(.asg (.nm 8) (.blt .min [(.idx (.var 2) (.var 6)), (.idx (.var 2) (.var 7))])), (.setI (.var 2) (.var 6) (.var 8)), (.setI (.var 2) (.var 7) (.var 8))]), (.ifS (.cmp (.var 2) [.Eq] [(.var 4)]) [.brk] [])]), (.retV 2)]
def a25 : List Nat := [2, 3, 4, 6, 7, 8]
theorem t25 : Mv.trB 300 { T0 with sc := defScope (top 35), N := n25, np := p25.length } (defBody (top 35)) = some b25 := by rfl
theorem s25 : FnScope n25 p25 (defScope (top 35)) := ⟨rfl, rfl, rfl, by decide +kernel, rfl, by decide +kernel, by decide +kernel⟩
theorem g25 : ∀ i ∈ Mv.stB b25, i ∈ a25 := by decide +kernel
def b26 : List Mv.S := [(.asg (.nm 2) (.call 25 [(.var 0), (.var 1)])), (.asg (.nm 3) (.call 25 [(.bin .Mult (.int (2)) (.var 0)), (.bin .Add (.comp (.tup [(.var 6), (.bin .Add (.var 7) (.var 0))]) (.tp [(.nm 6), (.nm 7)]) .val [(.var 1)] [] [6, 7]) (.comp (.tup [(.var 7), (.bin .Add (.var 6) (.var 0))]) (.tp [(.nm 6), (.nm 7)]) .val [(.var 1)] [] [6, 7]))])), (.asg (.nm 4) (.lst [])), (.forS (.nm 5) .rng [(.var 0)] [(.ifS (.cmp (.idx (.var 3) (.var 5)) [.Eq] [(.idx (.var 3) (.bin .Add (.var 5) (.var 0)))]) [(.expr (.lm .append (.var 4) [(.neg (.int (1)))]))] [(.expr (.lm .append (.var 4) [(.blt .int [(.cmp (.idx (.var 3) (.var 5)) [.NotEq] [(.idx (.var 3) (.idx (.var 2) (.var 5)))])])]))])]), (.retV 4)]
def a26 : List Nat := [2, 3, 4, 5]
theorem t26 : Mv.trB 300 { T0 with sc := defScope (top 36), N := n26, np := p26.length } (defBody (top 36)) = some b26 := by rfl
theorem s26 : FnScope n26 p26 (defScope (top 36)) := ⟨rfl, rfl, rfl, by decide +kernel, rfl, by decide +kernel, by decide +kernel⟩
theorem g26 : ∀ i ∈ Mv.stB b26, i ∈ a26 := by decide +kernel
def b27 : List Mv.S := [(.ret (.andE [(.isi (.var 0) .int), (.notE (.isi (.var 0) .bool))]))]
def a27 : List Nat := []
theorem t27 : Mv.trB 300 { T0 with sc := defScope (top 37), N := n27, np := p27.length } (defBody (top 37)) = some b27 := by rfl
theorem s27 : FnScope n27 p27 (defScope (top 37)) := ⟨rfl, rfl, rfl, by decide +kernel, rfl, by decide +kernel, by decide +kernel⟩
theorem g27 : ∀ i ∈ Mv.stB b27, i ∈ a27 := by decide +kernel
def b28 : List Mv.S := [(.ifS (.orE [(.notE (.isi (.var 0) .tuple)), (.cmp (.blt .len [(.var 0)]) [.NotEq] [(.blt .len [(.var 1)])])]) [(.ret (.bl false))] []), (.forS (.tp [(.nm 2), (.nm 3)]) .zp [(.var 0), (.var 1)] [(.ifS (.orE [(.notE (.call 27 [(.var 2)])), (.cmp (.var 2) [.NotEq] [(.var 3)])]) [(.ret (.bl false))] [])]), (.ret (.bl true))]
def a28 : List Nat := [2, 3]
theorem t28 : Mv.trB 300 { T0 with sc := defScope (top 38), N := n28, np := p28.length } (defBody (top 38)) = some b28 := by rfl
theorem s28 : FnScope n28 p28 (defScope (top 38)) := ⟨rfl, rfl, rfl, by decide +kernel, rfl, by decide +kernel, by decide +kernel⟩
theorem g28 : ∀ i ∈ Mv.stB b28, i ∈ a28 := by decide +kernel
def b29 : List Mv.S := [(.asg (.tp [(.nm 3), (.nm 4)]) (.call 23 [(.var 0), (.call 10 [(.var 0), (.lst [(.int (4)), (.int (4)), (.int (5)), (.int (6))])])])), (.ifS (.cmp (.call 9 [(.var 0), (.int (15))]) [.Eq] [(.int (0))]) [(.asg (.tp [(.nm 3), (.nm 4)]) (.call 24 [(.var 0)]))] []), (.par [(.nm 5), (.nm 6), (.nm 7)] [(.mk 5 [(.var 3), (.blt .tuple [(.var 4)])]), (.call 26 [(.var 3), (.var 4)]), (.call 25 [(.var 3), (.var 4)])]), (.asg (.nm 1) (.call 7 [(.var 5)])), (.ifS (.notE (.call 28 [(.var 1), (.var 6)])) [(.ret (.bl false))] []), (.forS (.nm 2) .rng [(.var 3)] [(.ifS (.andE [(.cmp (.idx (.var 7) (.var 2)) [.Eq] [(.var 2)]), (.cmp (.idx (.var 1) (.var 2)) [.Eq] [(.int (1))])]) [(.ret (.bl false))] [])]), (.forS (.tp [(.nm 8), (.nm 9)]) .val [(.var 4)] [(.ifS (.andE [(.cmp (.idx (.var 1) (.var 8)) [.NotEq] [(.neg (.int (1)))]), (.cmp (.bin .Add (.idx (.var 1) (.var 8)) (.idx (.var 1) (.var 9))) [.NotEq] [(.int (1))])]) [(.ret (.bl false))] [])]), (.ret (.cmp (.attr (.var 5) 1) [.Eq] [(.blt .tuple [(.var 4)])]))]
def a29 : List Nat := [3, 4, 5, 6, 7, 1, 2, 8, 9]
theorem t29 : Mv.trB 300 { T0 with sc := defScope (top 39), N := n29, np := p29.length } (defBody (top 39)) = some b29 := by rfl
theorem s29 : FnScope n29 p29 (defScope (top 39)) := ⟨rfl, rfl, rfl, by decide +kernel, rfl, by decide +kernel, by decide +kernel⟩
theorem g29 : ∀ i ∈ Mv.stB b29, i ∈ a29 := by decide +kernel
def b30 : List Mv.S := [(.forS (.nm 1) .rng [(.blt .max [(.int (1)), (.blt .min [(.blt .len [(.var 0)]), (.int (4))])])] [(.ifS (.notE (.call 29 [(.call 8 [(.var 0), (.var 1)])])) [(.ret (.bl false))] [])]), (.ret (.bl true))]
def a30 : List Nat := [1]
theorem t30 : Mv.trB 300 { T0 with sc := defScope (top 40), N := n30, np := p30.length } (defBody (top 40)) = some b30 := by rfl
theorem s30 : FnScope n30 p30 (defScope (top 40)) := ⟨rfl, rfl, rfl, by decide +kernel, rfl, by decide +kernel, by decide +kernel⟩
theorem g30 : ∀ i ∈ Mv.stB b30, i ∈ a30 := by decide +kernel
def P : Mv.Pg := ⟨[⟨3, 11, b0, a0⟩, ⟨2, 2, b1, a1⟩, ⟨3, 3, b2, a2⟩, ⟨2, 2, b3, a3⟩, ⟨2, 6, b4, a4⟩, ⟨1, 6, b5, a5⟩, ⟨2, 7, b6, a6⟩, ⟨1, 5, b7, a7⟩, ⟨2, 5, b8, a8⟩, ⟨2, 3, b9, a9⟩, ⟨2, 2, b10, a10⟩, ⟨2, 6, b11, a11⟩, ⟨2, 4, b12, a12⟩, ⟨2, 2, b13, a13⟩, ⟨3, 6, b14, a14⟩, ⟨3, 7, b15, a15⟩, ⟨3, 6, b16, a16⟩, ⟨3, 9, b17, a17⟩, ⟨2, 3, b18, a18⟩, ⟨2, 4, b19, a19⟩, ⟨2, 5, b20, a20⟩, ⟨3, 6, b21, a21⟩, ⟨2, 3, b22, a22⟩, ⟨2, 4, b23, a23⟩, ⟨1, 3, b24, a24⟩, ⟨2, 9, b25, a25⟩, ⟨2, 8, b26, a26⟩, ⟨1, 1, b27, a27⟩, ⟨2, 4, b28, a28⟩, ⟨1, 10, b29, a29⟩, ⟨1, 2, b30, a30⟩], [⟨0, [], [0]⟩, ⟨0, [], [1, 0]⟩, ⟨0, [], [2, 0]⟩, ⟨0, [], [3, 0]⟩, ⟨0, [], [4, 0]⟩, ⟨0, [(0, 1), (1, 2)], []⟩]⟩
def pO (i : Nat) : List Str := match i with
  | 0 => p0
  | 1 => p1
  | 2 => p2
  | 3 => p3
  | 4 => p4
  | 5 => p5
  | 6 => p6
  | 7 => p7
  | 8 => p8
  | 9 => p9
  | 10 => p10
  | 11 => p11
  | 12 => p12
  | 13 => p13
  | 14 => p14
  | 15 => p15
  | 16 => p16
  | 17 => p17
  | 18 => p18
  | 19 => p19
  | 20 => p20
  | 21 => p21
  | 22 => p22
  | 23 => p23
  | 24 => p24
  | 25 => p25
  | 26 => p26
  | 27 => p27
  | 28 => p28
  | 29 => p29
  | _ => p30
def fas (f0 f1 f2 f3 f4 f5 f6 f7 f8 f9 f10 f11 f12 f13 f14 f15 f16 f17 f18 f19 f20 f21 f22 f23 f24 f25 f26 f27 f28 f29 f30 : Addr) (i : Nat) : Addr := match i with
  | 0 => f0
  | 1 => f1
  | 2 => f2
  | 3 => f3
  | 4 => f4
  | 5 => f5
  | 6 => f6
  | 7 => f7
  | 8 => f8
  | 9 => f9
  | 10 => f10
  | 11 => f11
  | 12 => f12
  | 13 => f13
  | 14 => f14
  | 15 => f15
  | 16 => f16
  | 17 => f17
  | 18 => f18
  | 19 => f19
  | 20 => f20
  | 21 => f21
  | 22 => f22
  | 23 => f23
  | 24 => f24
  | 25 => f25
  | 26 => f26
  | 27 => f27
  | 28 => f28
  | 29 => f29
  | _ => f30
def cAs (C0 C1 C2 C3 C4 C5 : Addr) (i : Nat) : Addr := match i with
  | 0 => C0
  | 1 => C1
  | 2 => C2
  | 3 => C3
  | 4 => C4
  | _ => C5
def aNs (i : Nat) : Str := match i with
  | 0 => PySem.Str.ofString "size"
  | 1 => PySem.Str.ofString "links"
  | _ => PySem.Str.ofString "_rows"
theorem aNs_inj : ∀ a b, a < 3 → b < 3 → aNs a = aNs b → a = b := by
  intro a b ha hb
  have h : ∀ a : Fin 3, ∀ b : Fin 3, aNs a = aNs b → a = b := by decide +kernel
  exact fun e => congrArg Fin.val (h ⟨a, ha⟩ ⟨b, hb⟩ e)
theorem up_in {c : Nat} (h : Mv.upOf P c c = true) : c ∈ ([0, 1, 2, 3, 4] : List Nat) := by
  match c, h with
  | 0, h => decide
  | 1, h => decide
  | 2, h => decide
  | 3, h => decide
  | 4, h => decide
  | 5, h => exact absurd h (by decide)
  | c + 6, h => simp [Mv.upOf, P] at h
theorem ixn {x : Str} {f k : Nat} (h : Mv.ixOf x T0.fns = some f) (e : Mv.ixOf x T0.fns = some k) : f = k := by rw [e] at h; exact (Option.some.inj h).symm
set_option maxHeartbeats 0 in
theorem all_mk {p : Program} {K : PySem.W.Frag} {h : Heap} {mg : Str → Option Value} {fa : Addr} (X : K.In h) (G : h.Ns mainGlobals mg) (hfa : mg "law" = some (.ref fa))
    {f0 f1 f2 f3 f4 f5 f6 f7 f8 f9 f10 f11 f12 f13 f14 f15 f16 f17 f18 f19 f20 f21 f22 f23 f24 f25 f26 f27 f28 f29 f30 : Addr} {od0 an0 od1 an1 od2 an2 od3 an3 od4 an4 od5 an5 od6 an6 od7 an7 od8 an8 od9 an9 od10 an10 od11 an11 od12 an12 od13 an13 od14 an14 od15 an15 od16 an16 od17 an17 od18 an18 od19 an19 od20 an20 od21 an21 od22 an22 od23 an23 od24 an24 od25 an25 od26 an26 od27 an27 od28 an28 od29 an29 od30 an30 : Option Addr} {sl0 sl1 sl2 sl3 sl4 sl5 sl6 sl7 sl8 sl9 sl10 sl11 sl12 sl13 sl14 sl15 sl16 sl17 sl18 sl19 sl20 sl21 sl22 sl23 sl24 sl25 sl26 sl27 sl28 sl29 sl30 : Array (Option Value)} {oc0 kV0 dc0 pm0 cd0 ct0 oc1 kV1 dc1 pm1 cd1 ct1 oc2 kV2 dc2 pm2 cd2 ct2 oc3 kV3 dc3 pm3 cd3 ct3 oc4 kV4 dc4 pm4 cd4 ct4 oc5 kV5 dc5 pm5 cd5 ct5 oc6 kV6 dc6 pm6 cd6 ct6 oc7 kV7 dc7 pm7 cd7 ct7 oc8 kV8 dc8 pm8 cd8 ct8 oc9 kV9 dc9 pm9 cd9 ct9 oc10 kV10 dc10 pm10 cd10 ct10 oc11 kV11 dc11 pm11 cd11 ct11 oc12 kV12 dc12 pm12 cd12 ct12 oc13 kV13 dc13 pm13 cd13 ct13 oc14 kV14 dc14 pm14 cd14 ct14 oc15 kV15 dc15 pm15 cd15 ct15 oc16 kV16 dc16 pm16 cd16 ct16 oc17 kV17 dc17 pm17 cd17 ct17 oc18 kV18 dc18 pm18 cd18 ct18 oc19 kV19 dc19 pm19 cd19 ct19 oc20 kV20 dc20 pm20 cd20 ct20 oc21 kV21 dc21 pm21 cd21 ct21 oc22 kV22 dc22 pm22 cd22 ct22 oc23 kV23 dc23 pm23 cd23 ct23 oc24 kV24 dc24 pm24 cd24 ct24 oc25 kV25 dc25 pm25 cd25 ct25 oc26 kV26 dc26 pm26 cd26 ct26 oc27 kV27 dc27 pm27 cd27 ct27 oc28 kV28 dc28 pm28 cd28 ct28 oc29 kV29 dc29 pm29 cd29 ct29 oc30 kV30 dc30 pm30 cd30 ct30 : Value}
    {C0 C1 C2 C3 C4 C5 : Addr}
    (a0 : PySem.W.findIn K (.ref C5) "__init__" = some (some (.ref f0)))
    (l0 : K.lookup f0 = some ⟨oc0, od0, .func (PySem.W.fnOf "__init__" "Web.__init__" (defArgs (Mv.inCls (top 9) 0)) (defBody (Mv.inCls (top 9) 0)) (defScope (Mv.inCls (top 9) 0)) .none kV0 dc0 pm0 an0 cd0 ct0), sl0⟩)
    (c0 : PySem.W.codeIn K cd0 "Web.__init__" = true)
    (k0 : PySem.W.keepIn K (.ref f0) = true)
    (fn0 : PySem.W.isFn K (.ref f0) = true)
    (a1 : PySem.W.findIn K (.ref C5) "near" = some (some (.ref f1)))
    (l1 : K.lookup f1 = some ⟨oc1, od1, .func (PySem.W.fnOf "near" "Web.near" (defArgs (Mv.inCls (top 9) 1)) (defBody (Mv.inCls (top 9) 1)) (defScope (Mv.inCls (top 9) 1)) .none kV1 dc1 pm1 an1 cd1 ct1), sl1⟩)
    (c1 : PySem.W.codeIn K cd1 "Web.near" = true)
    (k1 : PySem.W.keepIn K (.ref f1) = true)
    (fn1 : PySem.W.isFn K (.ref f1) = true)
    (a2 : PySem.W.findIn K (.ref C5) "linked" = some (some (.ref f2)))
    (l2 : K.lookup f2 = some ⟨oc2, od2, .func (PySem.W.fnOf "linked" "Web.linked" (defArgs (Mv.inCls (top 9) 2)) (defBody (Mv.inCls (top 9) 2)) (defScope (Mv.inCls (top 9) 2)) .none kV2 dc2 pm2 an2 cd2 ct2), sl2⟩)
    (c2 : PySem.W.codeIn K cd2 "Web.linked" = true)
    (k2 : PySem.W.keepIn K (.ref f2) = true)
    (fn2 : PySem.W.isFn K (.ref f2) = true)
    (a3 : PySem.W.nsIn K mainGlobals "want_cell" = some (some (.ref f3)))
    (l3 : K.lookup f3 = some ⟨oc3, od3, .func (PySem.W.fnOf "want_cell" "want_cell" (defArgs (top 10)) (defBody (top 10)) (defScope (top 10)) .none kV3 dc3 pm3 an3 cd3 ct3), sl3⟩)
    (c3 : PySem.W.codeIn K cd3 "want_cell" = true)
    (k3 : PySem.W.keepIn K (.ref f3) = true)
    (a4 : PySem.W.nsIn K mainGlobals "part_of" = some (some (.ref f4)))
    (l4 : K.lookup f4 = some ⟨oc4, od4, .func (PySem.W.fnOf "part_of" "part_of" (defArgs (top 12)) (defBody (top 12)) (defScope (top 12)) .none kV4 dc4 pm4 an4 cd4 ct4), sl4⟩)
    (c4 : PySem.W.codeIn K cd4 "part_of" = true)
    (k4 : PySem.W.keepIn K (.ref f4) = true)
    (a5 : PySem.W.nsIn K mainGlobals "parts" = some (some (.ref f5)))
    (l5 : K.lookup f5 = some ⟨oc5, od5, .func (PySem.W.fnOf "parts" "parts" (defArgs (top 13)) (defBody (top 13)) (defScope (top 13)) .none kV5 dc5 pm5 an5 cd5 ct5), sl5⟩)
    (c5 : PySem.W.codeIn K cd5 "parts" = true)
    (k5 : PySem.W.keepIn K (.ref f5) = true)
    (a6 : PySem.W.nsIn K mainGlobals "side_row" = some (some (.ref f6)))
    (l6 : K.lookup f6 = some ⟨oc6, od6, .func (PySem.W.fnOf "side_row" "side_row" (defArgs (top 15)) (defBody (top 15)) (defScope (top 15)) .none kV6 dc6 pm6 an6 cd6 ct6), sl6⟩)
    (c6 : PySem.W.codeIn K cd6 "side_row" = true)
    (k6 : PySem.W.keepIn K (.ref f6) = true)
    (a7 : PySem.W.nsIn K mainGlobals "sides" = some (some (.ref f7)))
    (l7 : K.lookup f7 = some ⟨oc7, od7, .func (PySem.W.fnOf "sides" "sides" (defArgs (top 16)) (defBody (top 16)) (defScope (top 16)) .none kV7 dc7 pm7 an7 cd7 ct7), sl7⟩)
    (c7 : PySem.W.codeIn K cd7 "sides" = true)
    (k7 : PySem.W.keepIn K (.ref f7) = true)
    (a8 : PySem.W.nsIn K mainGlobals "_law_pool" = some (some (.ref f8)))
    (l8 : K.lookup f8 = some ⟨oc8, od8, .func (PySem.W.fnOf "_law_pool" "_law_pool" (defArgs (top 18)) (defBody (top 18)) (defScope (top 18)) .none kV8 dc8 pm8 an8 cd8 ct8), sl8⟩)
    (c8 : PySem.W.codeIn K cd8 "_law_pool" = true)
    (k8 : PySem.W.keepIn K (.ref f8) = true)
    (a9 : PySem.W.nsIn K mainGlobals "_law_take" = some (some (.ref f9)))
    (l9 : K.lookup f9 = some ⟨oc9, od9, .func (PySem.W.fnOf "_law_take" "_law_take" (defArgs (top 19)) (defBody (top 19)) (defScope (top 19)) .none kV9 dc9 pm9 an9 cd9 ct9), sl9⟩)
    (c9 : PySem.W.codeIn K cd9 "_law_take" = true)
    (k9 : PySem.W.keepIn K (.ref f9) = true)
    (a10 : PySem.W.nsIn K mainGlobals "_law_one" = some (some (.ref f10)))
    (l10 : K.lookup f10 = some ⟨oc10, od10, .func (PySem.W.fnOf "_law_one" "_law_one" (defArgs (top 20)) (defBody (top 20)) (defScope (top 20)) .none kV10 dc10 pm10 an10 cd10 ct10), sl10⟩)
    (c10 : PySem.W.codeIn K cd10 "_law_one" = true)
    (k10 : PySem.W.keepIn K (.ref f10) = true)
    (a11 : PySem.W.nsIn K mainGlobals "_law_shuffled" = some (some (.ref f11)))
    (l11 : K.lookup f11 = some ⟨oc11, od11, .func (PySem.W.fnOf "_law_shuffled" "_law_shuffled" (defArgs (top 21)) (defBody (top 21)) (defScope (top 21)) .none kV11 dc11 pm11 an11 cd11 ct11), sl11⟩)
    (c11 : PySem.W.codeIn K cd11 "_law_shuffled" = true)
    (k11 : PySem.W.keepIn K (.ref f11) = true)
    (a12 : PySem.W.nsIn K mainGlobals "_law_near" = some (some (.ref f12)))
    (l12 : K.lookup f12 = some ⟨oc12, od12, .func (PySem.W.fnOf "_law_near" "_law_near" (defArgs (top 22)) (defBody (top 22)) (defScope (top 22)) .none kV12 dc12 pm12 an12 cd12 ct12), sl12⟩)
    (c12 : PySem.W.codeIn K cd12 "_law_near" = true)
    (k12 : PySem.W.keepIn K (.ref f12) = true)
    (a13 : PySem.W.nsIn K mainGlobals "_law_link" = some (some (.ref f13)))
    (l13 : K.lookup f13 = some ⟨oc13, od13, .func (PySem.W.fnOf "_law_link" "_law_link" (defArgs (top 23)) (defBody (top 23)) (defScope (top 23)) .none kV13 dc13 pm13 an13 cd13 ct13), sl13⟩)
    (c13 : PySem.W.codeIn K cd13 "_law_link" = true)
    (k13 : PySem.W.keepIn K (.ref f13) = true)
    (a14 : PySem.W.nsIn K mainGlobals "_law_corner" = some (some (.ref f14)))
    (l14 : K.lookup f14 = some ⟨oc14, od14, .func (PySem.W.fnOf "_law_corner" "_law_corner" (defArgs (top 24)) (defBody (top 24)) (defScope (top 24)) .none kV14 dc14 pm14 an14 cd14 ct14), sl14⟩)
    (c14 : PySem.W.codeIn K cd14 "_law_corner" = true)
    (k14 : PySem.W.keepIn K (.ref f14) = true)
    (a15 : PySem.W.nsIn K mainGlobals "_law_bridge" = some (some (.ref f15)))
    (l15 : K.lookup f15 = some ⟨oc15, od15, .func (PySem.W.fnOf "_law_bridge" "_law_bridge" (defArgs (top 25)) (defBody (top 25)) (defScope (top 25)) .none kV15 dc15 pm15 an15 cd15 ct15), sl15⟩)
    (c15 : PySem.W.codeIn K cd15 "_law_bridge" = true)
    (k15 : PySem.W.keepIn K (.ref f15) = true)
    (a16 : PySem.W.nsIn K mainGlobals "_law_renamed" = some (some (.ref f16)))
    (l16 : K.lookup f16 = some ⟨oc16, od16, .func (PySem.W.fnOf "_law_renamed" "_law_renamed" (defArgs (top 26)) (defBody (top 26)) (defScope (top 26)) .none kV16 dc16 pm16 an16 cd16 ct16), sl16⟩)
    (c16 : PySem.W.codeIn K cd16 "_law_renamed" = true)
    (k16 : PySem.W.keepIn K (.ref f16) = true)
    (a17 : PySem.W.nsIn K mainGlobals "_law_stout" = some (some (.ref f17)))
    (l17 : K.lookup f17 = some ⟨oc17, od17, .func (PySem.W.fnOf "_law_stout" "_law_stout" (defArgs (top 27)) (defBody (top 27)) (defScope (top 27)) .none kV17 dc17 pm17 an17 cd17 ct17), sl17⟩)
    (c17 : PySem.W.codeIn K cd17 "_law_stout" = true)
    (k17 : PySem.W.keepIn K (.ref f17) = true)
    (a18 : PySem.W.nsIn K mainGlobals "_law_round" = some (some (.ref f18)))
    (l18 : K.lookup f18 = some ⟨oc18, od18, .func (PySem.W.fnOf "_law_round" "_law_round" (defArgs (top 28)) (defBody (top 28)) (defScope (top 28)) .none kV18 dc18 pm18 an18 cd18 ct18), sl18⟩)
    (c18 : PySem.W.codeIn K cd18 "_law_round" = true)
    (k18 : PySem.W.keepIn K (.ref f18) = true)
    (a19 : PySem.W.nsIn K mainGlobals "_law_tree" = some (some (.ref f19)))
    (l19 : K.lookup f19 = some ⟨oc19, od19, .func (PySem.W.fnOf "_law_tree" "_law_tree" (defArgs (top 29)) (defBody (top 29)) (defScope (top 29)) .none kV19 dc19 pm19 an19 cd19 ct19), sl19⟩)
    (c19 : PySem.W.codeIn K cd19 "_law_tree" = true)
    (k19 : PySem.W.keepIn K (.ref f19) = true)
    (a20 : PySem.W.nsIn K mainGlobals "_law_any" = some (some (.ref f20)))
    (l20 : K.lookup f20 = some ⟨oc20, od20, .func (PySem.W.fnOf "_law_any" "_law_any" (defArgs (top 30)) (defBody (top 30)) (defScope (top 30)) .none kV20 dc20 pm20 an20 cd20 ct20), sl20⟩)
    (c20 : PySem.W.codeIn K cd20 "_law_any" = true)
    (k20 : PySem.W.keepIn K (.ref f20) = true)
    (a21 : PySem.W.nsIn K mainGlobals "_law_beside" = some (some (.ref f21)))
    (l21 : K.lookup f21 = some ⟨oc21, od21, .func (PySem.W.fnOf "_law_beside" "_law_beside" (defArgs (top 31)) (defBody (top 31)) (defScope (top 31)) .none kV21 dc21 pm21 an21 cd21 ct21), sl21⟩)
    (c21 : PySem.W.codeIn K cd21 "_law_beside" = true)
    (k21 : PySem.W.keepIn K (.ref f21) = true)
    (a22 : PySem.W.nsIn K mainGlobals "_law_some" = some (some (.ref f22)))
    (l22 : K.lookup f22 = some ⟨oc22, od22, .func (PySem.W.fnOf "_law_some" "_law_some" (defArgs (top 32)) (defBody (top 32)) (defScope (top 32)) .none kV22 dc22 pm22 an22 cd22 ct22), sl22⟩)
    (c22 : PySem.W.codeIn K cd22 "_law_some" = true)
    (k22 : PySem.W.keepIn K (.ref f22) = true)
    (a23 : PySem.W.nsIn K mainGlobals "_law_mixed" = some (some (.ref f23)))
    (l23 : K.lookup f23 = some ⟨oc23, od23, .func (PySem.W.fnOf "_law_mixed" "_law_mixed" (defArgs (top 33)) (defBody (top 33)) (defScope (top 33)) .none kV23 dc23 pm23 an23 cd23 ct23), sl23⟩)
    (c23 : PySem.W.codeIn K cd23 "_law_mixed" = true)
    (k23 : PySem.W.keepIn K (.ref f23) = true)
    (a24 : PySem.W.nsIn K mainGlobals "_law_large" = some (some (.ref f24)))
    (l24 : K.lookup f24 = some ⟨oc24, od24, .func (PySem.W.fnOf "_law_large" "_law_large" (defArgs (top 34)) (defBody (top 34)) (defScope (top 34)) .none kV24 dc24 pm24 an24 cd24 ct24), sl24⟩)
    (c24 : PySem.W.codeIn K cd24 "_law_large" = true)
    (k24 : PySem.W.keepIn K (.ref f24) = true)
    (a25 : PySem.W.nsIn K mainGlobals "_law_classes" = some (some (.ref f25)))
    (l25 : K.lookup f25 = some ⟨oc25, od25, .func (PySem.W.fnOf "_law_classes" "_law_classes" (defArgs (top 35)) (defBody (top 35)) (defScope (top 35)) .none kV25 dc25 pm25 an25 cd25 ct25), sl25⟩)
    (c25 : PySem.W.codeIn K cd25 "_law_classes" = true)
    (k25 : PySem.W.keepIn K (.ref f25) = true)
    (a26 : PySem.W.nsIn K mainGlobals "_law_sides" = some (some (.ref f26)))
    (l26 : K.lookup f26 = some ⟨oc26, od26, .func (PySem.W.fnOf "_law_sides" "_law_sides" (defArgs (top 36)) (defBody (top 36)) (defScope (top 36)) .none kV26 dc26 pm26 an26 cd26 ct26), sl26⟩)
    (c26 : PySem.W.codeIn K cd26 "_law_sides" = true)
    (k26 : PySem.W.keepIn K (.ref f26) = true)
    (a27 : PySem.W.nsIn K mainGlobals "_law_number" = some (some (.ref f27)))
    (l27 : K.lookup f27 = some ⟨oc27, od27, .func (PySem.W.fnOf "_law_number" "_law_number" (defArgs (top 37)) (defBody (top 37)) (defScope (top 37)) .none kV27 dc27 pm27 an27 cd27 ct27), sl27⟩)
    (c27 : PySem.W.codeIn K cd27 "_law_number" = true)
    (k27 : PySem.W.keepIn K (.ref f27) = true)
    (a28 : PySem.W.nsIn K mainGlobals "_law_row" = some (some (.ref f28)))
    (l28 : K.lookup f28 = some ⟨oc28, od28, .func (PySem.W.fnOf "_law_row" "_law_row" (defArgs (top 38)) (defBody (top 38)) (defScope (top 38)) .none kV28 dc28 pm28 an28 cd28 ct28), sl28⟩)
    (c28 : PySem.W.codeIn K cd28 "_law_row" = true)
    (k28 : PySem.W.keepIn K (.ref f28) = true)
    (a29 : PySem.W.nsIn K mainGlobals "_law_right" = some (some (.ref f29)))
    (l29 : K.lookup f29 = some ⟨oc29, od29, .func (PySem.W.fnOf "_law_right" "_law_right" (defArgs (top 39)) (defBody (top 39)) (defScope (top 39)) .none kV29 dc29 pm29 an29 cd29 ct29), sl29⟩)
    (c29 : PySem.W.codeIn K cd29 "_law_right" = true)
    (k29 : PySem.W.keepIn K (.ref f29) = true)
    (a30 : PySem.W.nsIn K mainGlobals "law" = some (some (.ref f30)))
    (l30 : K.lookup f30 = some ⟨oc30, od30, .func (PySem.W.fnOf "law" "law" (defArgs (top 40)) (defBody (top 40)) (defScope (top 40)) .none kV30 dc30 pm30 an30 cd30 ct30), sl30⟩)
    (c30 : PySem.W.codeIn K cd30 "law" = true)
    (k30 : PySem.W.keepIn K (.ref f30) = true)
    (z0 : PySem.W.nsIn K mainGlobals "len" = some none)
    (z1 : PySem.W.nsIn K mainGlobals "int" = some none)
    (z2 : PySem.W.nsIn K mainGlobals "bool" = some none)
    (z3 : PySem.W.nsIn K mainGlobals "tuple" = some none)
    (z4 : PySem.W.nsIn K mainGlobals "list" = some none)
    (z5 : PySem.W.nsIn K mainGlobals "max" = some none)
    (z6 : PySem.W.nsIn K mainGlobals "min" = some none)
    (z7 : PySem.W.nsIn K mainGlobals "sorted" = some none)
    (z8 : PySem.W.nsIn K mainGlobals "isinstance" = some none)
    (z9 : PySem.W.nsIn K mainGlobals "range" = some none)
    (z10 : PySem.W.nsIn K mainGlobals "enumerate" = some none)
    (z11 : PySem.W.nsIn K mainGlobals "zip" = some none)
    {vt0 : Tok}
    (v0 : PySem.W.nsIn K mainGlobals "MOST_CELLS" = some (some (.int 40 vt0)))
    {vt1 : Tok}
    (v1 : PySem.W.nsIn K mainGlobals "MOST_LINKS" = some (some (.int 160 vt1)))
    (gc5 : PySem.W.nsIn K mainGlobals "Web" = some (some (.ref C5)))
    (pg5 : PySem.W.plainGet K C5 Str.empty = true)
    (hd5 : PySem.W.hasDictIn K C5 = true)
    (po5 : PySem.W.plainOver K C5 = true)
    (sa5 : PySem.W.findIn K (.ref C5) "__setattr__" = some (some (.builtin "object.__setattr__")))
    (na5_0 : PySem.W.findIn K (.ref C5) "size" = some none)
    (na5_1 : PySem.W.findIn K (.ref C5) "links" = some none)
    (na5_2 : PySem.W.findIn K (.ref C5) "_rows" = some none)
    (mk5 : PySem.W.makesIn K C5 = true)
    (kc5 : PySem.W.keepIn K (.ref C5) = true)
    {fI cda cc : Addr} {ocI ctI dcI pmI clI ccI : Value} {odI anI cdI ccd : Option Addr} {slI cslI ccs : Array (Option Value)} {vsI : Array Value} {fileI : Str} {tfI : Tok} {cdB : PySem.ClassData}
    (aI : PySem.W.findIn K (.ref C0) "__init__" = some (some (.ref fI)))
    (xi : K.lookup fI = some ⟨ocI, odI, .func (PySem.W.ksFn "__init__" "Refused.__init__" (Mv.rfArgs ⟨4, 17, 4, 21⟩ ⟨4, 23, 4, 27⟩) (Mv.rfBody ⟨5, 8, 5, 13⟩ ⟨5, 8, 5, 15⟩ ⟨5, 8, 5, 24⟩ ⟨5, 25, 5, 34⟩ ⟨5, 8, 5, 35⟩ ⟨5, 8, 5, 35⟩ ⟨6, 8, 6, 12⟩ ⟨6, 8, 6, 17⟩ ⟨6, 20, 6, 24⟩ ⟨6, 8, 6, 24⟩ 0) Mv.rfScope .none .none dcI pmI anI (.ref cda) ctI cc), slI⟩)
    (ci : PySem.W.codeIn K (.ref cda) "Refused.__init__" = true)
    (xc : K.lookup cda = some ⟨ccI, ccd, .fields vsI, ccs⟩)
    (xf : vsI[2]? = some (.str fileI tfI))
    (xm : ((p.main.file : Str) == fileI) = true)
    (xl : K.lookup cc = some ⟨clI, cdI, .cell (some (.ref C0)), cslI⟩)
    (xb : PySem.W.clsIn K C0 = some cdB)
    (xs : PySem.W.nsIn K mainGlobals "super" = some none)
    (xt : (p.main.scope.names.lookup ("super" : Str)).isSome = false)
    (xa : PySem.W.nsIn K cStatics "thirdparty.any" = some none)
    (xy : PySem.W.typeIn K (.ref fI) = some (.type "function"))
    {nm0 q0 : Str} {N0 : Addr} {bs0 sub0 : List Value} {sn0 : List Str} {ab0 : Bool} {col0 : Option Bool} {dd0 : Option Addr} {x0_0 x1_0 x2_0 x3_0 x5_0 : Option Value}
    (eg0 : PySem.W.nsIn K mainGlobals "Refused" = some (some (.ref C0)))
    (ex0 : K.lookup C0 = some (excClassObj nm0 q0 C0 N0 bs0 [.type "ValueError", .type "Exception", .type "BaseException", .type "object"] true sn0 sub0 ab0 col0 dd0 x0_0 x1_0 x2_0 x3_0 x5_0 "ValueError.__new__"))
    (es0 : PySem.W.findIn K (.ref C0) "__setattr__" = some (some (.builtin "object.__setattr__")))
    (en0 : PySem.W.findIn K (.ref C0) "what" = some none)
    (ek0 : PySem.W.keepIn K (.ref C0) = true)
    (ee0 : PySem.W.subIn K (.ref C0) (.type "BaseException") = some true)
    (ev0 : PySem.W.subIn K (.ref C0) (.type "ValueError") = some true)
    (et0 : PySem.W.typeIn K (.ref C0) = some (.type "type"))
    (em0 : PySem.W.mroIn K C0 (.ref C0) = some true)
    (eu0 : PySem.W.ks_superIn K C0 C0 "__init__" = some (some (.builtin "ValueError.__init__")))
    (eq0 : PySem.W.excInitIn K C0 [.type "ValueError", .type "Exception", .type "BaseException", .type "object"] "ValueError.__new__" = true)
    (ea0 : PySem.W.findIn K (.ref C0) "__getattribute__" = some (some (.builtin "BaseException.__getattribute__")))
    (eb0 : PySem.W.findIn K (.ref C0) "__getattr__" = some none)
    (eh0 : PySem.W.hasDictIn K C0 = true)
    (ec0 : PySem.W.isClsIn K C0 = true)
    {nm1 q1 : Str} {N1 : Addr} {bs1 sub1 : List Value} {sn1 : List Str} {ab1 : Bool} {col1 : Option Bool} {dd1 : Option Addr} {x0_1 x1_1 x2_1 x3_1 x5_1 : Option Value}
    (eg1 : PySem.W.nsIn K mainGlobals "BadSize" = some (some (.ref C1)))
    (ex1 : K.lookup C1 = some (excClassObj nm1 q1 C1 N1 bs1 [.ref C0, .type "ValueError", .type "Exception", .type "BaseException", .type "object"] true sn1 sub1 ab1 col1 dd1 x0_1 x1_1 x2_1 x3_1 x5_1 "ValueError.__new__"))
    (es1 : PySem.W.findIn K (.ref C1) "__setattr__" = some (some (.builtin "object.__setattr__")))
    (en1 : PySem.W.findIn K (.ref C1) "what" = some none)
    (ei1 : PySem.W.findIn K (.ref C1) "__init__" = some (some (.ref fI)))
    (ek1 : PySem.W.keepIn K (.ref C1) = true)
    (ee1 : PySem.W.subIn K (.ref C1) (.type "BaseException") = some true)
    (ev1 : PySem.W.subIn K (.ref C1) (.type "ValueError") = some true)
    (et1 : PySem.W.typeIn K (.ref C1) = some (.type "type"))
    (em1 : PySem.W.mroIn K C1 (.ref C0) = some true)
    (eu1 : PySem.W.ks_superIn K C1 C0 "__init__" = some (some (.builtin "ValueError.__init__")))
    (eq1 : PySem.W.excInitIn K C1 [.type "ValueError", .type "Exception", .type "BaseException", .type "object"] "ValueError.__new__" = true)
    (ea1 : PySem.W.findIn K (.ref C1) "__getattribute__" = some (some (.builtin "BaseException.__getattribute__")))
    (eb1 : PySem.W.findIn K (.ref C1) "__getattr__" = some none)
    (eh1 : PySem.W.hasDictIn K C1 = true)
    (ec1 : PySem.W.isClsIn K C1 = true)
    {nm2 q2 : Str} {N2 : Addr} {bs2 sub2 : List Value} {sn2 : List Str} {ab2 : Bool} {col2 : Option Bool} {dd2 : Option Addr} {x0_2 x1_2 x2_2 x3_2 x5_2 : Option Value}
    (eg2 : PySem.W.nsIn K mainGlobals "BadLink" = some (some (.ref C2)))
    (ex2 : K.lookup C2 = some (excClassObj nm2 q2 C2 N2 bs2 [.ref C0, .type "ValueError", .type "Exception", .type "BaseException", .type "object"] true sn2 sub2 ab2 col2 dd2 x0_2 x1_2 x2_2 x3_2 x5_2 "ValueError.__new__"))
    (es2 : PySem.W.findIn K (.ref C2) "__setattr__" = some (some (.builtin "object.__setattr__")))
    (en2 : PySem.W.findIn K (.ref C2) "what" = some none)
    (ei2 : PySem.W.findIn K (.ref C2) "__init__" = some (some (.ref fI)))
    (ek2 : PySem.W.keepIn K (.ref C2) = true)
    (ee2 : PySem.W.subIn K (.ref C2) (.type "BaseException") = some true)
    (ev2 : PySem.W.subIn K (.ref C2) (.type "ValueError") = some true)
    (et2 : PySem.W.typeIn K (.ref C2) = some (.type "type"))
    (em2 : PySem.W.mroIn K C2 (.ref C0) = some true)
    (eu2 : PySem.W.ks_superIn K C2 C0 "__init__" = some (some (.builtin "ValueError.__init__")))
    (eq2 : PySem.W.excInitIn K C2 [.type "ValueError", .type "Exception", .type "BaseException", .type "object"] "ValueError.__new__" = true)
    (ea2 : PySem.W.findIn K (.ref C2) "__getattribute__" = some (some (.builtin "BaseException.__getattribute__")))
    (eb2 : PySem.W.findIn K (.ref C2) "__getattr__" = some none)
    (eh2 : PySem.W.hasDictIn K C2 = true)
    (ec2 : PySem.W.isClsIn K C2 = true)
    {nm3 q3 : Str} {N3 : Addr} {bs3 sub3 : List Value} {sn3 : List Str} {ab3 : Bool} {col3 : Option Bool} {dd3 : Option Addr} {x0_3 x1_3 x2_3 x3_3 x5_3 : Option Value}
    (eg3 : PySem.W.nsIn K mainGlobals "TooMany" = some (some (.ref C3)))
    (ex3 : K.lookup C3 = some (excClassObj nm3 q3 C3 N3 bs3 [.ref C0, .type "ValueError", .type "Exception", .type "BaseException", .type "object"] true sn3 sub3 ab3 col3 dd3 x0_3 x1_3 x2_3 x3_3 x5_3 "ValueError.__new__"))
    (es3 : PySem.W.findIn K (.ref C3) "__setattr__" = some (some (.builtin "object.__setattr__")))
    (en3 : PySem.W.findIn K (.ref C3) "what" = some none)
    (ei3 : PySem.W.findIn K (.ref C3) "__init__" = some (some (.ref fI)))
    (ek3 : PySem.W.keepIn K (.ref C3) = true)
    (ee3 : PySem.W.subIn K (.ref C3) (.type "BaseException") = some true)
    (ev3 : PySem.W.subIn K (.ref C3) (.type "ValueError") = some true)
    (et3 : PySem.W.typeIn K (.ref C3) = some (.type "type"))
    (em3 : PySem.W.mroIn K C3 (.ref C0) = some true)
    (eu3 : PySem.W.ks_superIn K C3 C0 "__init__" = some (some (.builtin "ValueError.__init__")))
    (eq3 : PySem.W.excInitIn K C3 [.type "ValueError", .type "Exception", .type "BaseException", .type "object"] "ValueError.__new__" = true)
    (ea3 : PySem.W.findIn K (.ref C3) "__getattribute__" = some (some (.builtin "BaseException.__getattribute__")))
    (eb3 : PySem.W.findIn K (.ref C3) "__getattr__" = some none)
    (eh3 : PySem.W.hasDictIn K C3 = true)
    (ec3 : PySem.W.isClsIn K C3 = true)
    {nm4 q4 : Str} {N4 : Addr} {bs4 sub4 : List Value} {sn4 : List Str} {ab4 : Bool} {col4 : Option Bool} {dd4 : Option Addr} {x0_4 x1_4 x2_4 x3_4 x5_4 : Option Value}
    (eg4 : PySem.W.nsIn K mainGlobals "BadCell" = some (some (.ref C4)))
    (ex4 : K.lookup C4 = some (excClassObj nm4 q4 C4 N4 bs4 [.ref C0, .type "ValueError", .type "Exception", .type "BaseException", .type "object"] true sn4 sub4 ab4 col4 dd4 x0_4 x1_4 x2_4 x3_4 x5_4 "ValueError.__new__"))
    (es4 : PySem.W.findIn K (.ref C4) "__setattr__" = some (some (.builtin "object.__setattr__")))
    (en4 : PySem.W.findIn K (.ref C4) "what" = some none)
    (ei4 : PySem.W.findIn K (.ref C4) "__init__" = some (some (.ref fI)))
    (ek4 : PySem.W.keepIn K (.ref C4) = true)
    (ee4 : PySem.W.subIn K (.ref C4) (.type "BaseException") = some true)
    (ev4 : PySem.W.subIn K (.ref C4) (.type "ValueError") = some true)
    (et4 : PySem.W.typeIn K (.ref C4) = some (.type "type"))
    (em4 : PySem.W.mroIn K C4 (.ref C0) = some true)
    (eu4 : PySem.W.ks_superIn K C4 C0 "__init__" = some (some (.builtin "ValueError.__init__")))
    (eq4 : PySem.W.excInitIn K C4 [.type "ValueError", .type "Exception", .type "BaseException", .type "object"] "ValueError.__new__" = true)
    (ea4 : PySem.W.findIn K (.ref C4) "__getattribute__" = some (some (.builtin "BaseException.__getattribute__")))
    (eb4 : PySem.W.findIn K (.ref C4) "__getattr__" = some none)
    (eh4 : PySem.W.hasDictIn K C4 = true)
    (ec4 : PySem.W.isClsIn K C4 = true)
    (sb0_0 : PySem.W.subIn K (.ref C0) (.ref C0) = some true)
    (sb0_1 : PySem.W.subIn K (.ref C0) (.ref C1) = some false)
    (sb0_2 : PySem.W.subIn K (.ref C0) (.ref C2) = some false)
    (sb0_3 : PySem.W.subIn K (.ref C0) (.ref C3) = some false)
    (sb0_4 : PySem.W.subIn K (.ref C0) (.ref C4) = some false)
    (sb1_0 : PySem.W.subIn K (.ref C1) (.ref C0) = some true)
    (sb1_1 : PySem.W.subIn K (.ref C1) (.ref C1) = some true)
    (sb1_2 : PySem.W.subIn K (.ref C1) (.ref C2) = some false)
    (sb1_3 : PySem.W.subIn K (.ref C1) (.ref C3) = some false)
    (sb1_4 : PySem.W.subIn K (.ref C1) (.ref C4) = some false)
    (sb2_0 : PySem.W.subIn K (.ref C2) (.ref C0) = some true)
    (sb2_1 : PySem.W.subIn K (.ref C2) (.ref C1) = some false)
    (sb2_2 : PySem.W.subIn K (.ref C2) (.ref C2) = some true)
    (sb2_3 : PySem.W.subIn K (.ref C2) (.ref C3) = some false)
    (sb2_4 : PySem.W.subIn K (.ref C2) (.ref C4) = some false)
    (sb3_0 : PySem.W.subIn K (.ref C3) (.ref C0) = some true)
    (sb3_1 : PySem.W.subIn K (.ref C3) (.ref C1) = some false)
    (sb3_2 : PySem.W.subIn K (.ref C3) (.ref C2) = some false)
    (sb3_3 : PySem.W.subIn K (.ref C3) (.ref C3) = some true)
    (sb3_4 : PySem.W.subIn K (.ref C3) (.ref C4) = some false)
    (sb4_0 : PySem.W.subIn K (.ref C4) (.ref C0) = some true)
    (sb4_1 : PySem.W.subIn K (.ref C4) (.ref C1) = some false)
    (sb4_2 : PySem.W.subIn K (.ref C4) (.ref C2) = some false)
    (sb4_3 : PySem.W.subIn K (.ref C4) (.ref C3) = some false)
    (sb4_4 : PySem.W.subIn K (.ref C4) (.ref C4) = some true)
    : ∃ (k : Mv.Kc) (fs : Nat → Addr) (pO : Nat → List Str) (fd : FuncData) (x' q' : Str) (st : Stmt), Mv.PRec p K mg k P T0 fs pO ∧ fs 30 = fa ∧ pO 30 = p30 ∧ L2.Fun K x' q' st fa fd ∧ ∀ (s : Shared) (u : Value), BindsTo s fd ⟨[u], []⟩ [("_law_script", u)] := by
  have e := hfa.symm.trans (PySem.W.mg_of X G a30)
  cases e
  have F0 := fun_mk (st := (Mv.inCls (top 9) 0)) l0 c0 k0
  have B0 := F0.binds (ps := p0) fun _ _ _ _ _ _ us hl => match us, hl with | [_, _, _], _ => rfl
  have F1 := fun_mk (st := (Mv.inCls (top 9) 1)) l1 c1 k1
  have B1 := F1.binds (ps := p1) fun _ _ _ _ _ _ us hl => match us, hl with | [_, _], _ => rfl
  have F2 := fun_mk (st := (Mv.inCls (top 9) 2)) l2 c2 k2
  have B2 := F2.binds (ps := p2) fun _ _ _ _ _ _ us hl => match us, hl with | [_, _, _], _ => rfl
  have F3 := fun_mk (st := (top 10)) l3 c3 k3
  have B3 := F3.binds (ps := p3) fun _ _ _ _ _ _ us hl => match us, hl with | [_, _], _ => rfl
  have F4 := fun_mk (st := (top 12)) l4 c4 k4
  have B4 := F4.binds (ps := p4) fun _ _ _ _ _ _ us hl => match us, hl with | [_, _], _ => rfl
  have F5 := fun_mk (st := (top 13)) l5 c5 k5
  have B5 := F5.binds (ps := p5) fun _ _ _ _ _ _ us hl => match us, hl with | [_], _ => rfl
  have F6 := fun_mk (st := (top 15)) l6 c6 k6
  have B6 := F6.binds (ps := p6) fun _ _ _ _ _ _ us hl => match us, hl with | [_, _], _ => rfl
  have F7 := fun_mk (st := (top 16)) l7 c7 k7
  have B7 := F7.binds (ps := p7) fun _ _ _ _ _ _ us hl => match us, hl with | [_], _ => rfl
  have F8 := fun_mk (st := (top 18)) l8 c8 k8
  have B8 := F8.binds (ps := p8) fun _ _ _ _ _ _ us hl => match us, hl with | [_, _], _ => rfl
  have F9 := fun_mk (st := (top 19)) l9 c9 k9
  have B9 := F9.binds (ps := p9) fun _ _ _ _ _ _ us hl => match us, hl with | [_, _], _ => rfl
  have F10 := fun_mk (st := (top 20)) l10 c10 k10
  have B10 := F10.binds (ps := p10) fun _ _ _ _ _ _ us hl => match us, hl with | [_, _], _ => rfl
  have F11 := fun_mk (st := (top 21)) l11 c11 k11
  have B11 := F11.binds (ps := p11) fun _ _ _ _ _ _ us hl => match us, hl with | [_, _], _ => rfl
  have F12 := fun_mk (st := (top 22)) l12 c12 k12
  have B12 := F12.binds (ps := p12) fun _ _ _ _ _ _ us hl => match us, hl with | [_, _], _ => rfl
  have F13 := fun_mk (st := (top 23)) l13 c13 k13
  have B13 := F13.binds (ps := p13) fun _ _ _ _ _ _ us hl => match us, hl with | [_, _], _ => rfl
  have F14 := fun_mk (st := (top 24)) l14 c14 k14
  have B14 := F14.binds (ps := p14) fun _ _ _ _ _ _ us hl => match us, hl with | [_, _, _], _ => rfl
  have F15 := fun_mk (st := (top 25)) l15 c15 k15
  have B15 := F15.binds (ps := p15) fun _ _ _ _ _ _ us hl => match us, hl with | [_, _, _], _ => rfl
  have F16 := fun_mk (st := (top 26)) l16 c16 k16
  have B16 := F16.binds (ps := p16) fun _ _ _ _ _ _ us hl => match us, hl with | [_, _, _], _ => rfl
  have F17 := fun_mk (st := (top 27)) l17 c17 k17
  have B17 := F17.binds (ps := p17) fun _ _ _ _ _ _ us hl => match us, hl with | [_, _, _], _ => rfl
  have F18 := fun_mk (st := (top 28)) l18 c18 k18
  have B18 := F18.binds (ps := p18) fun _ _ _ _ _ _ us hl => match us, hl with | [_, _], _ => rfl
  have F19 := fun_mk (st := (top 29)) l19 c19 k19
  have B19 := F19.binds (ps := p19) fun _ _ _ _ _ _ us hl => match us, hl with | [_, _], _ => rfl
  have F20 := fun_mk (st := (top 30)) l20 c20 k20
  have B20 := F20.binds (ps := p20) fun _ _ _ _ _ _ us hl => match us, hl with | [_, _], _ => rfl
  have F21 := fun_mk (st := (top 31)) l21 c21 k21
  have B21 := F21.binds (ps := p21) fun _ _ _ _ _ _ us hl => match us, hl with | [_, _, _], _ => rfl
  have F22 := fun_mk (st := (top 32)) l22 c22 k22
  have B22 := F22.binds (ps := p22) fun _ _ _ _ _ _ us hl => match us, hl with | [_, _], _ => rfl
  have F23 := fun_mk (st := (top 33)) l23 c23 k23
  have B23 := F23.binds (ps := p23) fun _ _ _ _ _ _ us hl => match us, hl with | [_, _], _ => rfl
  have F24 := fun_mk (st := (top 34)) l24 c24 k24
  have B24 := F24.binds (ps := p24) fun _ _ _ _ _ _ us hl => match us, hl with | [_], _ => rfl
  have F25 := fun_mk (st := (top 35)) l25 c25 k25
  have B25 := F25.binds (ps := p25) fun _ _ _ _ _ _ us hl => match us, hl with | [_, _], _ => rfl
  have F26 := fun_mk (st := (top 36)) l26 c26 k26
  have B26 := F26.binds (ps := p26) fun _ _ _ _ _ _ us hl => match us, hl with | [_, _], _ => rfl
  have F27 := fun_mk (st := (top 37)) l27 c27 k27
  have B27 := F27.binds (ps := p27) fun _ _ _ _ _ _ us hl => match us, hl with | [_], _ => rfl
  have F28 := fun_mk (st := (top 38)) l28 c28 k28
  have B28 := F28.binds (ps := p28) fun _ _ _ _ _ _ us hl => match us, hl with | [_, _], _ => rfl
  have F29 := fun_mk (st := (top 39)) l29 c29 k29
  have B29 := F29.binds (ps := p29) fun _ _ _ _ _ _ us hl => match us, hl with | [_], _ => rfl
  have F30 := fun_mk (st := (top 40)) l30 c30 k30
  have B30 := F30.binds (ps := p30) fun _ _ _ _ _ _ us hl => match us, hl with | [_], _ => rfl
  let kk : Mv.Kc := ⟨K, (cAs C0 C1 C2 C3 C4 C5), aNs, 3, by exact aNs_inj, fun c => c ∈ ([5] : List Nat), by
    intro c hc
    simp only [List.mem_cons, List.not_mem_nil, or_false] at hc
    rcases hc with rfl
    · refine ⟨⟨pg5, hd5, po5, sa5⟩, fun f hf => ?_⟩
      match f, hf with
      | 0, _ => exact na5_0
      | 1, _ => exact na5_1
      | 2, _ => exact na5_2
      | f + 3, hf => exact absurd hf (by omega)⟩
  refine ⟨kk, fas f0 f1 f2 f3 f4 f5 f6 f7 f8 f9 f10 f11 f12 f13 f14 f15 f16 f17 f18 f19 f20 f21 f22 f23 f24 f25 f26 f27 f28 f29 fa, pO, _, _, _, _, ⟨rfl, fun i fn h => ?_, fun x f h hm => ?_, fun x c h o => ?_, fun x m h => ?_, fun x f h => ?_, fun x i h => ?_, fun x h => ?_, fun x c h o => ?_, fun c d h1 h2 => ?_, fun c h => ?_, fun x n ks perm h => ?_⟩, rfl, rfl, F30, fun s u => .of_eq rfl⟩
  · match i, h with
    | 0, h => cases Option.some.inj h; exact ⟨_, _, _, _, n0, 300, F0, s0, rfl, rfl, by decide, t0, g0, fun _ => B0⟩
    | 1, h => cases Option.some.inj h; exact ⟨_, _, _, _, n1, 300, F1, s1, rfl, rfl, by decide, t1, g1, fun _ => B1⟩
    | 2, h => cases Option.some.inj h; exact ⟨_, _, _, _, n2, 300, F2, s2, rfl, rfl, by decide, t2, g2, fun _ => B2⟩
    | 3, h => cases Option.some.inj h; exact ⟨_, _, _, _, n3, 300, F3, s3, rfl, rfl, by decide, t3, g3, fun _ => B3⟩
    | 4, h => cases Option.some.inj h; exact ⟨_, _, _, _, n4, 300, F4, s4, rfl, rfl, by decide, t4, g4, fun _ => B4⟩
    | 5, h => cases Option.some.inj h; exact ⟨_, _, _, _, n5, 300, F5, s5, rfl, rfl, by decide, t5, g5, fun _ => B5⟩
    | 6, h => cases Option.some.inj h; exact ⟨_, _, _, _, n6, 300, F6, s6, rfl, rfl, by decide, t6, g6, fun _ => B6⟩
    | 7, h => cases Option.some.inj h; exact ⟨_, _, _, _, n7, 300, F7, s7, rfl, rfl, by decide, t7, g7, fun _ => B7⟩
    | 8, h => cases Option.some.inj h; exact ⟨_, _, _, _, n8, 300, F8, s8, rfl, rfl, by decide, t8, g8, fun _ => B8⟩
    | 9, h => cases Option.some.inj h; exact ⟨_, _, _, _, n9, 300, F9, s9, rfl, rfl, by decide, t9, g9, fun _ => B9⟩
    | 10, h => cases Option.some.inj h; exact ⟨_, _, _, _, n10, 300, F10, s10, rfl, rfl, by decide, t10, g10, fun _ => B10⟩
    | 11, h => cases Option.some.inj h; exact ⟨_, _, _, _, n11, 300, F11, s11, rfl, rfl, by decide, t11, g11, fun _ => B11⟩
    | 12, h => cases Option.some.inj h; exact ⟨_, _, _, _, n12, 300, F12, s12, rfl, rfl, by decide, t12, g12, fun _ => B12⟩
    | 13, h => cases Option.some.inj h; exact ⟨_, _, _, _, n13, 300, F13, s13, rfl, rfl, by decide, t13, g13, fun _ => B13⟩
    | 14, h => cases Option.some.inj h; exact ⟨_, _, _, _, n14, 300, F14, s14, rfl, rfl, by decide, t14, g14, fun _ => B14⟩
    | 15, h => cases Option.some.inj h; exact ⟨_, _, _, _, n15, 300, F15, s15, rfl, rfl, by decide, t15, g15, fun _ => B15⟩
    | 16, h => cases Option.some.inj h; exact ⟨_, _, _, _, n16, 300, F16, s16, rfl, rfl, by decide, t16, g16, fun _ => B16⟩
    | 17, h => cases Option.some.inj h; exact ⟨_, _, _, _, n17, 300, F17, s17, rfl, rfl, by decide, t17, g17, fun _ => B17⟩
    | 18, h => cases Option.some.inj h; exact ⟨_, _, _, _, n18, 300, F18, s18, rfl, rfl, by decide, t18, g18, fun _ => B18⟩
    | 19, h => cases Option.some.inj h; exact ⟨_, _, _, _, n19, 300, F19, s19, rfl, rfl, by decide, t19, g19, fun _ => B19⟩
    | 20, h => cases Option.some.inj h; exact ⟨_, _, _, _, n20, 300, F20, s20, rfl, rfl, by decide, t20, g20, fun _ => B20⟩
    | 21, h => cases Option.some.inj h; exact ⟨_, _, _, _, n21, 300, F21, s21, rfl, rfl, by decide, t21, g21, fun _ => B21⟩
    | 22, h => cases Option.some.inj h; exact ⟨_, _, _, _, n22, 300, F22, s22, rfl, rfl, by decide, t22, g22, fun _ => B22⟩
    | 23, h => cases Option.some.inj h; exact ⟨_, _, _, _, n23, 300, F23, s23, rfl, rfl, by decide, t23, g23, fun _ => B23⟩
    | 24, h => cases Option.some.inj h; exact ⟨_, _, _, _, n24, 300, F24, s24, rfl, rfl, by decide, t24, g24, fun _ => B24⟩
    | 25, h => cases Option.some.inj h; exact ⟨_, _, _, _, n25, 300, F25, s25, rfl, rfl, by decide, t25, g25, fun _ => B25⟩
    | 26, h => cases Option.some.inj h; exact ⟨_, _, _, _, n26, 300, F26, s26, rfl, rfl, by decide, t26, g26, fun _ => B26⟩
    | 27, h => cases Option.some.inj h; exact ⟨_, _, _, _, n27, 300, F27, s27, rfl, rfl, by decide, t27, g27, fun _ => B27⟩
    | 28, h => cases Option.some.inj h; exact ⟨_, _, _, _, n28, 300, F28, s28, rfl, rfl, by decide, t28, g28, fun _ => B28⟩
    | 29, h => cases Option.some.inj h; exact ⟨_, _, _, _, n29, 300, F29, s29, rfl, rfl, by decide, t29, g29, fun _ => B29⟩
    | 30, h => cases Option.some.inj h; exact ⟨_, _, _, _, n30, 300, F30, s30, rfl, rfl, by decide, t30, g30, fun _ => B30⟩
    | i + 31, h => simp [P] at h
  · have q := Mv.ixOf_get h
    have hm : ([0, 1, 2] : List Nat).contains f = false := by simpa [T0] using hm
    match f, q, hm with
    | 0, q, hm => exact absurd hm (by decide)
    | 1, q, hm => exact absurd hm (by decide)
    | 2, q, hm => exact absurd hm (by decide)
    | 3, q, _ => cases Option.some.inj q; exact ⟨rfl, PySem.W.mg_of X G a3, k3⟩
    | 4, q, _ => cases Option.some.inj q; exact ⟨rfl, PySem.W.mg_of X G a4, k4⟩
    | 5, q, _ => cases Option.some.inj q; exact ⟨rfl, PySem.W.mg_of X G a5, k5⟩
    | 6, q, _ => cases Option.some.inj q; exact ⟨rfl, PySem.W.mg_of X G a6, k6⟩
    | 7, q, _ => cases Option.some.inj q; exact ⟨rfl, PySem.W.mg_of X G a7, k7⟩
    | 8, q, _ => cases Option.some.inj q; exact ⟨rfl, PySem.W.mg_of X G a8, k8⟩
    | 9, q, _ => cases Option.some.inj q; exact ⟨rfl, PySem.W.mg_of X G a9, k9⟩
    | 10, q, _ => cases Option.some.inj q; exact ⟨rfl, PySem.W.mg_of X G a10, k10⟩
    | 11, q, _ => cases Option.some.inj q; exact ⟨rfl, PySem.W.mg_of X G a11, k11⟩
    | 12, q, _ => cases Option.some.inj q; exact ⟨rfl, PySem.W.mg_of X G a12, k12⟩
    | 13, q, _ => cases Option.some.inj q; exact ⟨rfl, PySem.W.mg_of X G a13, k13⟩
    | 14, q, _ => cases Option.some.inj q; exact ⟨rfl, PySem.W.mg_of X G a14, k14⟩
    | 15, q, _ => cases Option.some.inj q; exact ⟨rfl, PySem.W.mg_of X G a15, k15⟩
    | 16, q, _ => cases Option.some.inj q; exact ⟨rfl, PySem.W.mg_of X G a16, k16⟩
    | 17, q, _ => cases Option.some.inj q; exact ⟨rfl, PySem.W.mg_of X G a17, k17⟩
    | 18, q, _ => cases Option.some.inj q; exact ⟨rfl, PySem.W.mg_of X G a18, k18⟩
    | 19, q, _ => cases Option.some.inj q; exact ⟨rfl, PySem.W.mg_of X G a19, k19⟩
    | 20, q, _ => cases Option.some.inj q; exact ⟨rfl, PySem.W.mg_of X G a20, k20⟩
    | 21, q, _ => cases Option.some.inj q; exact ⟨rfl, PySem.W.mg_of X G a21, k21⟩
    | 22, q, _ => cases Option.some.inj q; exact ⟨rfl, PySem.W.mg_of X G a22, k22⟩
    | 23, q, _ => cases Option.some.inj q; exact ⟨rfl, PySem.W.mg_of X G a23, k23⟩
    | 24, q, _ => cases Option.some.inj q; exact ⟨rfl, PySem.W.mg_of X G a24, k24⟩
    | 25, q, _ => cases Option.some.inj q; exact ⟨rfl, PySem.W.mg_of X G a25, k25⟩
    | 26, q, _ => cases Option.some.inj q; exact ⟨rfl, PySem.W.mg_of X G a26, k26⟩
    | 27, q, _ => cases Option.some.inj q; exact ⟨rfl, PySem.W.mg_of X G a27, k27⟩
    | 28, q, _ => cases Option.some.inj q; exact ⟨rfl, PySem.W.mg_of X G a28, k28⟩
    | 29, q, _ => cases Option.some.inj q; exact ⟨rfl, PySem.W.mg_of X G a29, k29⟩
    | 30, q, _ => cases Option.some.inj q; exact ⟨rfl, PySem.W.mg_of X G a30, k30⟩
    | i + 31, q, _ => simp [T0] at q
  · have q := Mv.ixOf_get h
    have o : c ∈ ([5] : List Nat) := by simpa [T0] using o
    simp only [List.mem_cons, List.not_mem_nil, or_false] at o
    rcases o with rfl
    · cases Option.some.inj q; exact ⟨_, rfl, PySem.W.mg_of X G gc5, rfl, rfl, ⟨mk5, a0, fn0, kc5⟩, by show (5 : Nat) ∈ ([5] : List Nat); decide⟩
  · have q := Mv.ixOf_get h
    match m, q with
    | 0, q =>
      cases Option.some.inj q
      refine ⟨fun f hf => ?_, fun c cl f oc hc hl => ?_⟩
      · have hd : ∀ f : Fin 3, aNs f ≠ PySem.Str.ofString "near" := by decide +kernel
        exact hd ⟨f, hf⟩
      · have oc : c ∈ ([5] : List Nat) := oc
        simp only [List.mem_cons, List.not_mem_nil, or_false] at oc
        rcases oc with rfl
        · cases Option.some.inj hc; cases Option.some.inj hl; exact ⟨rfl, rfl, a1, fn1, k1⟩
    | 1, q =>
      cases Option.some.inj q
      refine ⟨fun f hf => ?_, fun c cl f oc hc hl => ?_⟩
      · have hd : ∀ f : Fin 3, aNs f ≠ PySem.Str.ofString "linked" := by decide +kernel
        exact hd ⟨f, hf⟩
      · have oc : c ∈ ([5] : List Nat) := oc
        simp only [List.mem_cons, List.not_mem_nil, or_false] at oc
        rcases oc with rfl
        · cases Option.some.inj hc; cases Option.some.inj hl; exact ⟨rfl, rfl, a2, fn2, k2⟩
    | i + 2, q => simp [T0] at q
  · have q := Mv.ixOf_get h
    match f, q with
    | 0, q => cases Option.some.inj q; exact ⟨rfl, by show (0 : Nat) < 3; decide⟩
    | 1, q => cases Option.some.inj q; exact ⟨rfl, by show (1 : Nat) < 3; decide⟩
    | 2, q => cases Option.some.inj q; exact ⟨rfl, by show (2 : Nat) < 3; decide⟩
    | i + 3, q => simp [T0] at q
  · have q := Mv.lookup_mem h
    simp only [T0, List.mem_cons, Prod.mk.injEq, List.not_mem_nil, or_false] at q
    rcases q with ⟨rfl, rfl⟩ | ⟨rfl, rfl⟩
    · exact ⟨_, PySem.W.mg_of X G v0, ⟨_, rfl⟩⟩
    · exact ⟨_, PySem.W.mg_of X G v1, ⟨_, rfl⟩⟩
  · have q : x ∈ T0.blt := by simpa using h
    simp only [T0, List.mem_cons, List.not_mem_nil, or_false] at q
    rcases q with rfl | rfl | rfl | rfl | rfl | rfl | rfl | rfl | rfl | rfl | rfl | rfl
    · exact PySem.W.mg_none_of X G z0
    · exact PySem.W.mg_none_of X G z1
    · exact PySem.W.mg_none_of X G z2
    · exact PySem.W.mg_none_of X G z3
    · exact PySem.W.mg_none_of X G z4
    · exact PySem.W.mg_none_of X G z5
    · exact PySem.W.mg_none_of X G z6
    · exact PySem.W.mg_none_of X G z7
    · exact PySem.W.mg_none_of X G z8
    · exact PySem.W.mg_none_of X G z9
    · exact PySem.W.mg_none_of X G z10
    · exact PySem.W.mg_none_of X G z11
  · have q := Mv.ixOf_get h
    have o : c ∈ ([0, 1, 2, 3, 4] : List Nat) := by simpa [T0] using o
    simp only [List.mem_cons, List.not_mem_nil, or_false] at o
    have RF : Mv.RfFn p K C0 cc fI := ⟨⟨_, _, _, _, _, _, _, _, _, _, _, _, _, _, _, _, _, _, _, _, _, xi, ci, rfl, _, _, _, _, _, _, xc, xf, xm⟩, ⟨_, _, _, xl⟩, ⟨_, xb⟩, xs, xt, xa, xy⟩
    rcases o with rfl | rfl | rfl | rfl | rfl
    · cases Option.some.inj q; exact ⟨PySem.W.mg_of X G eg0, ⟨C0, cc, fI, _, RF, ⟨⟨_, _, _, _, _, _, _, _, _, _, _, _, _, _, _, ex0, by rfl⟩, es0, en0, aI, ek0, ee0, ev0, et0, em0, eu0, eq0⟩, PySem.F.excBase_ValueError⟩, ⟨ea0, eb0, ee0, eh0⟩⟩
    · cases Option.some.inj q; exact ⟨PySem.W.mg_of X G eg1, ⟨C0, cc, fI, _, RF, ⟨⟨_, _, _, _, _, _, _, _, _, _, _, _, _, _, _, ex1, by rfl⟩, es1, en1, ei1, ek1, ee1, ev1, et1, em1, eu1, eq1⟩, PySem.F.excBase_ValueError⟩, ⟨ea1, eb1, ee1, eh1⟩⟩
    · cases Option.some.inj q; exact ⟨PySem.W.mg_of X G eg2, ⟨C0, cc, fI, _, RF, ⟨⟨_, _, _, _, _, _, _, _, _, _, _, _, _, _, _, ex2, by rfl⟩, es2, en2, ei2, ek2, ee2, ev2, et2, em2, eu2, eq2⟩, PySem.F.excBase_ValueError⟩, ⟨ea2, eb2, ee2, eh2⟩⟩
    · cases Option.some.inj q; exact ⟨PySem.W.mg_of X G eg3, ⟨C0, cc, fI, _, RF, ⟨⟨_, _, _, _, _, _, _, _, _, _, _, _, _, _, _, ex3, by rfl⟩, es3, en3, ei3, ek3, ee3, ev3, et3, em3, eu3, eq3⟩, PySem.F.excBase_ValueError⟩, ⟨ea3, eb3, ee3, eh3⟩⟩
    · cases Option.some.inj q; exact ⟨PySem.W.mg_of X G eg4, ⟨C0, cc, fI, _, RF, ⟨⟨_, _, _, _, _, _, _, _, _, _, _, _, _, _, _, ex4, by rfl⟩, es4, en4, ei4, ek4, ee4, ev4, et4, em4, eu4, eq4⟩, PySem.F.excBase_ValueError⟩, ⟨ea4, eb4, ee4, eh4⟩⟩
  · have h2 : d ∈ ([0, 1, 2, 3, 4] : List Nat) := by simpa [T0] using h2
    have h1 : c ∈ ([0, 1, 2, 3, 4] : List Nat) := up_in h1
    simp only [List.mem_cons, List.not_mem_nil, or_false] at h1 h2
    rcases h1 with rfl | rfl | rfl | rfl | rfl <;> rcases h2 with rfl | rfl | rfl | rfl | rfl
    · exact Mv.exm_of ee0 ec0 et0 sb0_0
    · exact Mv.exm_of ee1 ec1 et1 sb0_1
    · exact Mv.exm_of ee2 ec2 et2 sb0_2
    · exact Mv.exm_of ee3 ec3 et3 sb0_3
    · exact Mv.exm_of ee4 ec4 et4 sb0_4
    · exact Mv.exm_of ee0 ec0 et0 sb1_0
    · exact Mv.exm_of ee1 ec1 et1 sb1_1
    · exact Mv.exm_of ee2 ec2 et2 sb1_2
    · exact Mv.exm_of ee3 ec3 et3 sb1_3
    · exact Mv.exm_of ee4 ec4 et4 sb1_4
    · exact Mv.exm_of ee0 ec0 et0 sb2_0
    · exact Mv.exm_of ee1 ec1 et1 sb2_1
    · exact Mv.exm_of ee2 ec2 et2 sb2_2
    · exact Mv.exm_of ee3 ec3 et3 sb2_3
    · exact Mv.exm_of ee4 ec4 et4 sb2_4
    · exact Mv.exm_of ee0 ec0 et0 sb3_0
    · exact Mv.exm_of ee1 ec1 et1 sb3_1
    · exact Mv.exm_of ee2 ec2 et2 sb3_2
    · exact Mv.exm_of ee3 ec3 et3 sb3_3
    · exact Mv.exm_of ee4 ec4 et4 sb3_4
    · exact Mv.exm_of ee0 ec0 et0 sb4_0
    · exact Mv.exm_of ee1 ec1 et1 sb4_1
    · exact Mv.exm_of ee2 ec2 et2 sb4_2
    · exact Mv.exm_of ee3 ec3 et3 sb4_3
    · exact Mv.exm_of ee4 ec4 et4 sb4_4
  · have h1 : c ∈ ([0, 1, 2, 3, 4] : List Nat) := up_in h
    simp only [List.mem_cons, List.not_mem_nil, or_false] at h1
    rcases h1 with rfl | rfl | rfl | rfl | rfl
    · exact ⟨C0, rfl, ⟨ea0, eb0, ee0, eh0⟩, en0⟩
    · exact ⟨C1, rfl, ⟨ea1, eb1, ee1, eh1⟩, en1⟩
    · exact ⟨C2, rfl, ⟨ea2, eb2, ee2, eh2⟩, en2⟩
    · exact ⟨C3, rfl, ⟨ea3, eb3, ee3, eh3⟩, en3⟩
    · exact ⟨C4, rfl, ⟨ea4, eb4, ee4, eh4⟩, en4⟩
  · simp [Mv.kwOf, T0] at h

def depth : Nat := 20
theorem okP : Mv.K02.Ok P := ⟨rfl, rfl, rfl, rfl, rfl, rfl, rfl, rfl, rfl, rfl, rfl, rfl, rfl, rfl, rfl, rfl, rfl, rfl, rfl, rfl, rfl, rfl, rfl, rfl, rfl, rfl, rfl, rfl, rfl, rfl, rfl, by decide +kernel, by decide +kernel, by decide +kernel, by decide +kernel, by decide +kernel, by decide +kernel, by decide +kernel, by decide +kernel, by decide +kernel, by decide +kernel, by decide +kernel, by decide +kernel, by decide +kernel, by decide +kernel, by decide +kernel, by decide +kernel, by decide +kernel, by decide +kernel, by decide +kernel, by decide +kernel, by decide +kernel, by decide +kernel, by decide +kernel, by decide +kernel, by decide +kernel, rfl, rfl, rfl⟩
theorem law_ok : ∀ ns : List Int, ns.length ≤ 63 → (∀ z ∈ ns, Builtin.Int.intBits z ≤ 1048576) → ∃ ps, (Mv.run P depth 30 [.lst .giv (ns.map Mv.D.int)]).out = .ok (.bl true) ps := by
  intro ns _ _
  have ok := okP
  exact Mv.sat_done (Mv.K02.law_s (m := 11))
end Lw
open PySem PySem.W PyProof.Rows
set_option maxRecDepth 100000 in
set_option maxHeartbeats 0 in
theorem PySem.Challenge.cw_pairfloors_k02_sides_of_parts_holds : PySem.Challenge.rw_pairfloors_k02_sides_of_parts.Holds := by
  w_on; o_law; k_head; (case hw => w_witness2)
  k_fill
  refine Mv.mv_walk (l := PySem.Challenge.rw_pairfloors_k02_sides_of_parts) (P := Lw.P) (T := Lw.T0) (i := 30) (n := Lw.depth) (x := "_law_script") rfl rfl ⟨rfl, by decide, by decide⟩ (fun w h Y => PySem.W.kIn_of Y) rfl ?F Lw.law_ok
  case F =>
    intro w mg fa h KX G hmg
    refine' Lw.all_mk KX G hmg ?a0 ?l0 ?c0 ?k0 ?fn0 ?a1 ?l1 ?c1 ?k1 ?fn1 ?a2 ?l2 ?c2 ?k2 ?fn2 ?a3 ?l3 ?c3 ?k3 ?a4 ?l4 ?c4 ?k4 ?a5 ?l5 ?c5 ?k5 ?a6 ?l6 ?c6 ?k6 ?a7 ?l7 ?c7 ?k7 ?a8 ?l8 ?c8 ?k8 ?a9 ?l9 ?c9 ?k9 ?a10 ?l10 ?c10 ?k10 ?a11 ?l11 ?c11 ?k11 ?a12 ?l12 ?c12 ?k12 ?a13 ?l13 ?c13 ?k13 ?a14 ?l14 ?c14 ?k14 ?a15 ?l15 ?c15 ?k15 ?a16 ?l16 ?c16 ?k16 ?a17 ?l17 ?c17 ?k17 ?a18 ?l18 ?c18 ?k18 ?a19 ?l19 ?c19 ?k19 ?a20 ?l20 ?c20 ?k20 ?a21 ?l21 ?c21 ?k21 ?a22 ?l22 ?c22 ?k22 ?a23 ?l23 ?c23 ?k23 ?a24 ?l24 ?c24 ?k24 ?a25 ?l25 ?c25 ?k25 ?a26 ?l26 ?c26 ?k26 ?a27 ?l27 ?c27 ?k27 ?a28 ?l28 ?c28 ?k28 ?a29 ?l29 ?c29 ?k29 ?a30 ?l30 ?c30 ?k30 ?z0 ?z1 ?z2 ?z3 ?z4 ?z5 ?z6 ?z7 ?z8 ?z9 ?z10 ?z11 ?v0 ?v1 ?gc5 ?pg5 ?hd5 ?po5 ?sa5 ?na5_0 ?na5_1 ?na5_2 ?mk5 ?kc5 ?aI ?xi ?ci ?xc ?xf ?xm ?xl ?xb ?xs ?xt ?xa ?xy ?eg0 ?ex0 ?es0 ?en0 ?ek0 ?ee0 ?ev0 ?et0 ?em0 ?eu0 ?eq0 ?ea0 ?eb0 ?eh0 ?ec0 ?eg1 ?ex1 ?es1 ?en1 ?ei1 ?ek1 ?ee1 ?ev1 ?et1 ?em1 ?eu1 ?eq1 ?ea1 ?eb1 ?eh1 ?ec1 ?eg2 ?ex2 ?es2 ?en2 ?ei2 ?ek2 ?ee2 ?ev2 ?et2 ?em2 ?eu2 ?eq2 ?ea2 ?eb2 ?eh2 ?ec2 ?eg3 ?ex3 ?es3 ?en3 ?ei3 ?ek3 ?ee3 ?ev3 ?et3 ?em3 ?eu3 ?eq3 ?ea3 ?eb3 ?eh3 ?ec3 ?eg4 ?ex4 ?es4 ?en4 ?ei4 ?ek4 ?ee4 ?ev4 ?et4 ?em4 ?eu4 ?eq4 ?ea4 ?eb4 ?eh4 ?ec4 ?sb0_0 ?sb0_1 ?sb0_2 ?sb0_3 ?sb0_4 ?sb1_0 ?sb1_1 ?sb1_2 ?sb1_3 ?sb1_4 ?sb2_0 ?sb2_1 ?sb2_2 ?sb2_3 ?sb2_4 ?sb3_0 ?sb3_1 ?sb3_2 ?sb3_3 ?sb3_4 ?sb4_0 ?sb4_1 ?sb4_2 ?sb4_3 ?sb4_4
    (case gc5 => k_is)
    (case eg0 => k_is)
    (case eg1 => k_is)
    (case eg2 => k_is)
    (case eg3 => k_is)
    (case eg4 => k_is)
    (case a0 => k_is)
    (case l0 => k_is)
    (case c0 => k_is)
    (case k0 => k_is)
    (case fn0 => k_is)
    (case a1 => k_is)
    (case l1 => k_is)
    (case c1 => k_is)
    (case k1 => k_is)
    (case fn1 => k_is)
    (case a2 => k_is)
    (case l2 => k_is)
    (case c2 => k_is)
    (case k2 => k_is)
    (case fn2 => k_is)
    (case a3 => k_is)
    (case l3 => k_is)
    (case c3 => k_is)
    (case k3 => k_is)
    (case a4 => k_is)
    (case l4 => k_is)
    (case c4 => k_is)
    (case k4 => k_is)
    (case a5 => k_is)
    (case l5 => k_is)
    (case c5 => k_is)
    (case k5 => k_is)
    (case a6 => k_is)
    (case l6 => k_is)
    (case c6 => k_is)
    (case k6 => k_is)
    (case a7 => k_is)
    (case l7 => k_is)
    (case c7 => k_is)
    (case k7 => k_is)
    (case a8 => k_is)
    (case l8 => k_is)
    (case c8 => k_is)
    (case k8 => k_is)
    (case a9 => k_is)
    (case l9 => k_is)
    (case c9 => k_is)
    (case k9 => k_is)
    (case a10 => k_is)
    (case l10 => k_is)
    (case c10 => k_is)
    (case k10 => k_is)
    (case a11 => k_is)
    (case l11 => k_is)
    (case c11 => k_is)
    (case k11 => k_is)
    (case a12 => k_is)
    (case l12 => k_is)
    (case c12 => k_is)
    (case k12 => k_is)
    (case a13 => k_is)
    (case l13 => k_is)
    (case c13 => k_is)
    (case k13 => k_is)
    (case a14 => k_is)
    (case l14 => k_is)
    (case c14 => k_is)
    (case k14 => k_is)
    (case a15 => k_is)
    (case l15 => k_is)
    (case c15 => k_is)
    (case k15 => k_is)
    (case a16 => k_is)
    (case l16 => k_is)
    (case c16 => k_is)
    (case k16 => k_is)
    (case a17 => k_is)
    (case l17 => k_is)
    (case c17 => k_is)
    (case k17 => k_is)
    (case a18 => k_is)
    (case l18 => k_is)
    (case c18 => k_is)
    (case k18 => k_is)
    (case a19 => k_is)
    (case l19 => k_is)
    (case c19 => k_is)
    (case k19 => k_is)
    (case a20 => k_is)
    (case l20 => k_is)
    (case c20 => k_is)
    (case k20 => k_is)
    (case a21 => k_is)
    (case l21 => k_is)
    (case c21 => k_is)
    (case k21 => k_is)
    (case a22 => k_is)
    (case l22 => k_is)
    (case c22 => k_is)
    (case k22 => k_is)
    (case a23 => k_is)
    (case l23 => k_is)
    (case c23 => k_is)
    (case k23 => k_is)
    (case a24 => k_is)
    (case l24 => k_is)
    (case c24 => k_is)
    (case k24 => k_is)
    (case a25 => k_is)
    (case l25 => k_is)
    (case c25 => k_is)
    (case k25 => k_is)
    (case a26 => k_is)
    (case l26 => k_is)
    (case c26 => k_is)
    (case k26 => k_is)
    (case a27 => k_is)
    (case l27 => k_is)
    (case c27 => k_is)
    (case k27 => k_is)
    (case a28 => k_is)
    (case l28 => k_is)
    (case c28 => k_is)
    (case k28 => k_is)
    (case a29 => k_is)
    (case l29 => k_is)
    (case c29 => k_is)
    (case k29 => k_is)
    (case a30 => k_is)
    (case l30 => k_is)
    (case c30 => k_is)
    (case k30 => k_is)
    (case z0 => k_is)
    (case z1 => k_is)
    (case z2 => k_is)
    (case z3 => k_is)
    (case z4 => k_is)
    (case z5 => k_is)
    (case z6 => k_is)
    (case z7 => k_is)
    (case z8 => k_is)
    (case z9 => k_is)
    (case z10 => k_is)
    (case z11 => k_is)
    (case v0 => k_is)
    (case v1 => k_is)
    (case pg5 => k_is)
    (case hd5 => k_is)
    (case po5 => k_is)
    (case sa5 => k_is)
    (case na5_0 => k_is)
    (case na5_1 => k_is)
    (case na5_2 => k_is)
    (case mk5 => k_is)
    (case kc5 => k_is)
    (case aI => k_is)
    (case xi => k_is)
    (case ci => k_is)
    (case xc => k_is)
    (case xf => rfl)
    (case xm => (first | rfl | decide +kernel))
    (case xl => k_is)
    (case xb => k_is)
    (case xs => k_is)
    (case xt => (first | rfl | decide +kernel))
    (case xa => k_is)
    (case xy => k_is)
    (case ex0 => k_is)
    (case es0 => k_is)
    (case en0 => k_is)
    (case ek0 => k_is)
    (case ee0 => k_is)
    (case ev0 => k_is)
    (case et0 => k_is)
    (case em0 => k_is)
    (case eu0 => ks_is)
    (case eq0 => kx_is)
    (case ea0 => k_is)
    (case eb0 => k_is)
    (case eh0 => k_is)
    (case ec0 => k_is)
    (case ex1 => k_is)
    (case es1 => k_is)
    (case en1 => k_is)
    (case ei1 => k_is)
    (case ek1 => k_is)
    (case ee1 => k_is)
    (case ev1 => k_is)
    (case et1 => k_is)
    (case em1 => k_is)
    (case eu1 => ks_is)
    (case eq1 => kx_is)
    (case ea1 => k_is)
    (case eb1 => k_is)
    (case eh1 => k_is)
    (case ec1 => k_is)
    (case ex2 => k_is)
    (case es2 => k_is)
    (case en2 => k_is)
    (case ei2 => k_is)
    (case ek2 => k_is)
    (case ee2 => k_is)
    (case ev2 => k_is)
    (case et2 => k_is)
    (case em2 => k_is)
    (case eu2 => ks_is)
    (case eq2 => kx_is)
    (case ea2 => k_is)
    (case eb2 => k_is)
    (case eh2 => k_is)
    (case ec2 => k_is)
    (case ex3 => k_is)
    (case es3 => k_is)
    (case en3 => k_is)
    (case ei3 => k_is)
    (case ek3 => k_is)
    (case ee3 => k_is)
    (case ev3 => k_is)
    (case et3 => k_is)
    (case em3 => k_is)
    (case eu3 => ks_is)
    (case eq3 => kx_is)
    (case ea3 => k_is)
    (case eb3 => k_is)
    (case eh3 => k_is)
    (case ec3 => k_is)
    (case ex4 => k_is)
    (case es4 => k_is)
    (case en4 => k_is)
    (case ei4 => k_is)
    (case ek4 => k_is)
    (case ee4 => k_is)
    (case ev4 => k_is)
    (case et4 => k_is)
    (case em4 => k_is)
    (case eu4 => ks_is)
    (case eq4 => kx_is)
    (case ea4 => k_is)
    (case eb4 => k_is)
    (case eh4 => k_is)
    (case ec4 => k_is)
    (case sb0_0 => k_is)
    (case sb0_1 => k_is)
    (case sb0_2 => k_is)
    (case sb0_3 => k_is)
    (case sb0_4 => k_is)
    (case sb1_0 => k_is)
    (case sb1_1 => k_is)
    (case sb1_2 => k_is)
    (case sb1_3 => k_is)
    (case sb1_4 => k_is)
    (case sb2_0 => k_is)
    (case sb2_1 => k_is)
    (case sb2_2 => k_is)
    (case sb2_3 => k_is)
    (case sb2_4 => k_is)
    (case sb3_0 => k_is)
    (case sb3_1 => k_is)
    (case sb3_2 => k_is)
    (case sb3_3 => k_is)
    (case sb3_4 => k_is)
    (case sb4_0 => k_is)
    (case sb4_1 => k_is)
    (case sb4_2 => k_is)
    (case sb4_3 => k_is)
    (case sb4_4 => k_is)
