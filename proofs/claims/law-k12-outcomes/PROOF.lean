import PyProof.Rows.All
import Wide.All
import OpenK.AllK
import Wide.FinOn
import HandS.ForMost
import HandS.Flow
import HandS.WideBits
import HandS.IsInst
import HandS.SetKeys
import HandS.TupSets
import HandS.DictTup
import HandS.TupLen
import HandS.TupAny
import HandS.TupLe
import HandS.Zip
import HandS.Walk
import HandS.SortInts
import HandS.DictComp
import HandS.Conv
import HandS.NoneIn
import KE.SortData
import KE.GoesEnum
import KE.OsSort
import PySem.Challenge.RW_lastoflot_k12_whole_outcomes_of_all_crow
set_option Elab.async false
set_option linter.all false
set_option maxRecDepth 100000
set_option maxHeartbeats 4000000
namespace LL
open PySem PySem.Spec PyProof.Rows L2
/-! ### data of ints, sorted -/
theorem dpInts {K : PySem.W.Frag} {H : Hp} : ∀ ns : List Int, DpAll K H (ns.map V.int) (ns.map PyData.int)
  | [] => .nil
  | n :: ns => .cons (.int n) (dpInts ns)
theorem dpTup {K : PySem.W.Frag} {H : Hp} {t : Addr} {ns : List Int} (h : SqT K H t (ns.map V.int)) : Dp K H (.ref t) (.tuple (ns.map PyData.int)) := .tup h (dpInts ns)
theorem refsBack {D : Type} : ∀ {ks : List (Addr × D)} {us : List Value}, Vals (ks.map fun p => V.ref p.1) us → us = ks.map fun p => Value.ref p.1
  | [], _, .nil => rfl
  | p :: ks, _, .cons r t => by
    cases r
    rw [refsBack t]
    rfl
theorem refsVals {D : Type} : ∀ ks : List (Addr × D), Vals (ks.map fun p => V.ref p.1) (ks.map fun p => Value.ref p.1)
  | [] => .nil
  | _ :: ks => .cons rfl (refsVals ks)
theorem eachRefs {D : Type} : ∀ ks : List (Addr × D), PySem.W.EachIs (fun (v : Value) (p : Addr × D) => v = Value.ref p.1) (ks.map fun p => Value.ref p.1) ks
  | [] => .nil
  | _ :: ks => .cons rfl (eachRefs ks)
theorem eachBack {D : Type} : ∀ {out : List Value} {ks : List (Addr × D)}, PySem.W.EachIs (fun (v : Value) (p : Addr × D) => v = Value.ref p.1) out ks → out = ks.map fun p => Value.ref p.1
  | _, _, .nil => rfl
  | _, _, .cons h t => by
    rw [h, eachBack t]
    rfl
theorem eachOf {D : Type} {R : Value → (Addr × D) → Prop} : ∀ {ks : List (Addr × D)}, (∀ p ∈ ks, R (Value.ref p.1) p) → PySem.W.EachIs R (ks.map fun p => Value.ref p.1) ks
  | [], _ => .nil
  | p :: ks, h => .cons (h p List.mem_cons_self) (eachOf fun q hq => h q (List.mem_cons_of_mem _ hq))
/-- a rearrangement of an image is the image of a rearrangement -/
theorem permBack {α β : Type} {f : α → β} : ∀ {l m : List β}, l.Perm m → ∀ ks : List α, m = ks.map f → ∃ ls : List α, ls.Perm ks ∧ l = ls.map f := by
  intro l m h
  induction h with
  | nil =>
    intro ks e
    cases ks with
    | nil => exact ⟨[], .refl _, rfl⟩
    | cons _ _ => cases e
  | cons x _ ih =>
    intro ks e
    cases ks with
    | nil => cases e
    | cons k ks =>
      injection e with e1 e2
      obtain ⟨ls, h1, h2⟩ := ih ks e2
      exact ⟨k :: ls, h1.cons k, by rw [List.map_cons, h2, e1]⟩
  | swap x y l =>
    intro ks e
    cases ks with
    | nil => cases e
    | cons k ks =>
      injection e with e1 e2
      cases ks with
      | nil => cases e2
      | cons j ks =>
        injection e2 with e2 e3
        exact ⟨j :: k :: ks, .swap k j ks, by rw [List.map_cons, List.map_cons, e1, e2, e3]⟩
  | trans _ _ ih1 ih2 =>
    intro ks e
    obtain ⟨ls, h1, h2⟩ := ih2 ks e
    obtain ⟨js, h3, h4⟩ := ih1 ls h2
    exact ⟨js, h3.trans h1, h4⟩
/-- ascending as data -/
abbrev AscD {D : Type} (enc : D → PyData) (ls : List (Addr × D)) : Prop := ls.Pairwise fun x y => PySem.W.dataLt (enc y.2) (enc x.2) = false
theorem ascSort {D : Type} (enc : D → PyData) (ks : List (Addr × D)) : AscD enc (ks.mergeSort (PySem.W.dataLe false fun p : Addr × D => enc p.2)) := by
  have h := PySem.W.sort_pairwise (PySem.W.sortLe_total (PyProof.Rows.listOrd PyProof.Rows.itemOrd) false fun p : Addr × D => PySem.W.keyToks (enc p.2)) ks
  refine List.Pairwise.imp (fun {x y} e => ?_) h
  have e1 : (!PySem.W.dataLt (enc y.2) (enc x.2)) = true := e
  simpa using e1
/-- sorted(xs), xs a list of objects that read as alike data -/
def rSortG {D : Type} (K : PySem.W.Frag) (enc : D → PyData) : List V → Hp → VK → Prop := fun vs H Q =>
  ∃ (a : Addr) (ks : List (Addr × D)), vs = [V.ref a] ∧ SqL K H a (ks.map fun p => V.ref p.1) ∧ (∀ p ∈ ks, Dp K H (.ref p.1) (enc p.2)) ∧
    PySem.W.AllAlike (ks.map fun p => enc p.2) ∧ PySem.W.Sortable (ks.map fun p => enc p.2) ∧ (∀ p ∈ ks, (enc p.2).depth ≤ 8) ∧
    ∀ (ls : List (Addr × D)) (p : Addr), ls.Perm ks → AscD enc ls → H p = none → Q (.ref p) (upd H p (.lst (ls.map fun p => V.ref p.1)))
section
variable {X : Cx}
theorem cr_sortG {D : Type} {enc : D → PyData} (hu : X.A.units + 64 < cLine) : CallR X (.builtin "sorted") (rSortG X.K enc) := by
  intro pins s σ H vs us Q I r h
  obtain ⟨a, ks, rfl, hs, hd, hal, hk, hdep, q⟩ := h
  obtain ⟨its, rv, hl, hz⟩ := I.list hs
  rw [Vals.ref1 r]
  have ev := refsBack rv
  subst ev
  have hz' : ks.length ≤ sizeLine := by simpa using hz
  refine PySem.W.sorted_data (bs := ks) (enc := fun p : Addr × D => enc p.2) hl.isList (eachRefs ks) (eachOf fun p hp => Dp.reads I _ _ _ (hd p hp) rfl) hal hk hz' (fun b hb => ?_) fun out hlen eo => ?_
  · have := hdep b hb
    omega
  · have eo' := eachBack eo
    obtain ⟨ep, he'⟩ := PyProof.Rows.sortedAll_at s.heap (ks.map fun p => Value.ref p.1) out.toArray
    have hp : (ks.mergeSort (PySem.W.dataLe false fun p : Addr × D => enc p.2)).Perm ks := List.mergeSort_perm _ _
    refine ⟨.ref _, _, I.laid (o := .lst ((ks.mergeSort (PySem.W.dataLe false fun p : Addr × D => enc p.2)).map fun p => V.ref p.1)) (t' := s.toks) (fun _ _ => PyProof.Rows.sortedAll_old) (Nat.le_succ _) ⟨?_, out, ep, ?_, he'⟩, rfl,
      q _ _ hp (ascSort enc ks) (I.hok.fresh (Nat.le_succ _))⟩
    · rw [List.length_map, hp.length_eq]
      exact hz'
    · rw [eo']
      exact refsVals _
end
/-! ### sorted(a set of tuples of ints, of any lengths from 1 on) -/
theorem readsInts {h : Heap} : ∀ {vs : List Value} {ns : List Int}, IntsAre vs ns → ReadsAll h vs (ns.map PyData.int) []
  | _, _, .nil => .nil
  | _, _, .cons n t r => ReadsAll.cons (as := []) (.int n t) (readsInts r)
theorem readsTup {P : Program} {w : World} {h : Heap} {k : List Int} {b : Addr} (x : IsT P w h k b) : Reads h (.ref b) (.tuple (k.map PyData.int)) [] := by
  obtain ⟨o, items, n, ho, hc, hd, hi⟩ := x
  exact .tuple ho hc hd (readsInts (ints_of_items hi))
abbrev encT (ns : List Int) : PyData := .tuple (ns.map PyData.int)
theorem alikeT (xs ys : List Int) : PySem.W.alike (encT xs) (encT ys) = true := by
  simp only [encT, PySem.W.alike]
  exact PySem.W.alike_ints xs ys
theorem alikeAllT {D : Type} (f : D → List Int) (ks : List D) : PySem.W.AllAlike (ks.map fun p => encT (f p)) := PySem.W.AllAlike.of fun b b' => alikeT (f b) (f b')
theorem sortT {D : Type} {f : D → List Int} {ks : List D} (h : ∀ p ∈ ks, f p ≠ []) : PySem.W.Sortable (ks.map fun p => encT (f p)) := .inl fun d hd => by
  obtain ⟨p, hp, rfl⟩ := List.mem_map.mp hd
  cases e : f p with
  | nil => exact absurd e (h p hp)
  | cons x r => exact ⟨_, _, rfl⟩
theorem depthT (ns : List Int) : (encT ns).depth ≤ 8 := by
  have : (encT ns).depth = 1 := by
    simp only [encT, PyData.depth]
    rw [PySem.W.depth_ints]
  omega
section
variable {P : Program} {w : World} {A : Around} {E : Value → Shared → Prop} {s : Shared}
theorem sortedSetAny {a : Addr} {L : List (Addr × List Int)} {es : Array (Int × Value)} {ep : Nat} {t : SetTable} {Q : Value → Shared → Prop} (R : SetTR P w s.heap a L es ep t) (hh : A.handled = none) (hu : A.units + 64 < cLine) (hne : ∀ p ∈ L, p.2 ≠ [])
    (hQ : ∀ s' p (out : List Value) (c : Nat) (ls : List (Addr × List Int)), (∀ b o, s.heap.get? b = some o → s'.heap.get? b = some o) → s'.gens = s.gens → s'.os = s.os → s.heap.objs.size ≤ p →
      s'.heap.get? p = some (seqObj "list" out.toArray c) → out = ls.map (fun q => Value.ref q.1) → ls.Perm L → AscD encT ls → Q (.ref p) s') :
    wpAny (model P w) A (call (.builtin "sorted") [.ref a]) Q E s := by
  obtain ⟨o, ho, hex, hd⟩ := R.ob
  have few := R.few
  have sz := R.size
  refine Calls.call_function_entry kind_sorted plain_sorted entry_sorted (args_sorted1 _) ?_
  unfold Builtin.«sorted»
  refine wpAny_bind (m := checkCount "sorted" 1 1 _) (wpAny_pure ?_)
  refine wpAny_bind (collect_set (A := A.in1) hh ⟨o, ho, hex.1, hd⟩ R.fits (by unfold scanBound; omega) R.tab.ris R.led fun s1 vs kp hz g1 o1 pm => ?_)
  have er : es.toList.map (·.2) = L.map fun q => Value.ref q.1 := by
    rw [R.rows]
    unfold rowsOf
    rw [List.map_map]
    rfl
  rw [er] at pm
  obtain ⟨l1, p1, e1⟩ := permBack pm L rfl
  have hl1 : l1.length < 64 := by rw [p1.length_eq]; exact few
  subst e1
  refine wpAny_bind (wpAny_newList ?_ (by rw [List.length_map, sizeLine_eq]; omega))
  have hoL : (s1.heap.push (seqObj "list" (l1.map fun q => Value.ref q.1).toArray 0)).get? s1.heap.objs.size = some (seqObj "list" (l1.map fun q => Value.ref q.1).toArray 0) := Heap.get?_push_size _ rfl
  have rd : ∀ q ∈ l1, Reads (s1.heap.push (seqObj "list" (l1.map fun q => Value.ref q.1).toArray 0)) (.ref q.1) (encT q.2) [] := fun q hq =>
    readsTup (P := P) (w := w) (isT_keep (R.tup q (p1.mem_iff.mp hq)) fun b u e => Heap.get?_push_of_some _ (kp b u e))
  refine wpAny_bind (wpAny_holding (PySem.W.list_sort_data (s := { s1 with heap := s1.heap.push (seqObj "list" (l1.map fun q => Value.ref q.1).toArray 0) }) (A := A.in1) (bs := l1) (enc := fun p : Addr × List Int => encT p.2) hoL (eachRefs l1)
    (eachOf fun p hp => ⟨[], rd p hp, by simp⟩) (alikeAllT _ _) (sortT fun p hp => hne p (p1.mem_iff.mp hp)) (by rw [sizeLine_eq]; omega) (fun b _ => ?_) fun out hlen eo => ?_))
  · have := depthT b.2
    show A.units + 1 + 1 + (encT b.2).depth < cLine
    omega
  · have eo' := eachBack eo
    obtain ⟨c, hc⟩ := sortedHeap_at (vs := l1.map fun q => Value.ref q.1) (out := out.toArray) hoL
    refine wpAny_pure ⟨_, rfl, hQ _ s1.heap.objs.size out c _ (fun b u e => ?_) g1 o1 hz hc eo' ((List.mergeSort_perm _ _).trans p1) (ascSort encT l1)⟩
    have q := kp b u e
    have hlt := Heap.lt_size q
    refine (sortedHeap_old (Nat.ne_of_lt hlt) ?_).trans (Heap.get?_push_of_some _ q)
    rw [size_push']
    exact Nat.lt_succ_of_lt hlt
end
/-- sorted(set), tuples of ints -/
def rSortS (K : PySem.W.Frag) (P : Program) (w : World) : List V → Hp → VK → Prop := fun vs H Q => ∃ (a : Addr) (L : List (Addr × List Int)), vs = [V.ref a] ∧ H a = some (SetTO P w a L) ∧ (∀ p ∈ L, SqT K H p.1 (p.2.map V.int)) ∧ (∀ p ∈ L, p.2 ≠ []) ∧
  ∀ (ls : List (Addr × List Int)) (p : Addr), ls.Perm L → (ls.map (·.2)).Nodup → ls.length < 64 → AscD encT ls → H p = none → Q (.ref p) (upd H p (.lst (ls.map fun q => V.ref q.1)))
section
variable {X : Cx}
theorem cr_sortS (hc : X.calm = true) (hu : X.A.units + 64 < cLine) : CallR X (.builtin "sorted") (rSortS X.K X.prog X.w) := by
  intro pins s σ H vs us Q I r h
  obtain ⟨a, L, rfl, ha, hk, hne, q⟩ := h
  have R0 : SetT0 X.prog X.w s.heap a L := (I.hok a _ ha).1
  obtain ⟨es, ep, t, R⟩ := R0.full fun p hp => I.isT (hk p hp)
  rw [Vals.ref1 r]
  refine sortedSetAny R (I.ok.hd hc) hu hne fun s' p out c ls kp hg ho hp hget hout pm as => ?_
  have few : ls.length < 64 := by rw [pm.length_eq]; exact R.few
  have hz : (ls.map fun q => V.ref q.1).length ≤ sizeLine := by rw [List.length_map, sizeLine_eq]; omega
  have hn : H p = none := I.hok.fresh hp
  have J : Inv X pins σ (upd H p (.lst (ls.map fun q => V.ref q.1))) { s with heap := s'.heap, gens := s'.gens, drawn := s'.drawn, toks := s'.toks } :=
    I.call (ch := []) (Un.laid kp hp hn) (I.hok.laid kp hp ⟨hz, out, c, by rw [hout]; exact refsVals _, hget⟩) (by rw [hg]; exact I.bare) (fun _ z => nomatch z)
  have e : s' = { s with heap := s'.heap, gens := s'.gens, drawn := s'.drawn, toks := s'.toks } := by
    cases s'
    cases s
    cases ho
    rfl
  rw [e]
  exact ⟨.ref p, _, J, rfl, q ls p pm ((pm.map (·.2)).nodup_iff.mpr R.nd) few as hn⟩
end
/-! ### sorted(a tuple of ints) -/
def rSortTI (K : PySem.W.Frag) : List V → Hp → VK → Prop := fun vs H Q => ∃ (a : Addr) (ns : List Int), vs = [V.ref a] ∧ SqT K H a (ns.map V.int) ∧
  ∀ (ms : List Int) (p : Addr), ms.Perm ns → ms.Pairwise (· ≤ ·) → H p = none → Q (.ref p) (upd H p (.lst (ms.map V.int)))
section
variable {X : Cx}
theorem cr_sortTI : CallR X (.builtin "sorted") (rSortTI X.K) := by
  intro pins s σ H vs us Q I r h
  obtain ⟨a, ns, rfl, hs, q⟩ := h
  obtain ⟨its, rv, hT, hz⟩ := I.tuple hs
  obtain ⟨o, ho, hc, n, hd⟩ := hT
  rw [Vals.ref1 r]
  have hi := rv.ints
  have hz' : its.length ≤ sizeLine := by rw [← rv.length]; exact hz
  refine Calls.call_function_entry kind_sorted plain_sorted entry_sorted (args_sorted1 _) ?_
  unfold Builtin.«sorted»
  refine wpAny_bind (m := checkCount "sorted" 1 1 _) (wpAny_pure ?_)
  refine wpAny_bind (wpAny_collect_seq a (.inr rfl) ho hc hd (fun h1 kp => ?_) (by rw [List.size_toArray]; exact hz'))
  refine wpAny_bind (wpAny_newList ?_ (by simpa using hz'))
  have hoL : (h1.push (seqObj "list" its.toArray 0)).get? h1.objs.size = some (seqObj "list" its.toArray 0) := Heap.get?_push_size _ rfl
  refine wpAny_bind (wpAny_holding (wpAny_call_entry slot_list_sort ⟨_, hoL, rfl⟩ entry_list_sort
    (SrtO.list_sort_ord (s := { s with heap := h1.push (seqObj "list" its.toArray 0) }) SrtO.swo_int hoL hz' (fun h2 => SrtO.ints_sortable hi h2) fun out a1 a2 => ⟨.none, rfl, ?_⟩) (args_list_sort _)))
  obtain ⟨b1, b2, b3⟩ := SrtO.ints_out hi a1 a2
  obtain ⟨c, hg⟩ := sortedHeap_at (vs := its) (out := out.toArray) hoL
  have I1 : Inv X pins σ H { s with heap := h1 } := I.kept (t' := s.toks) kp
  have keep : ∀ b u, h1.get? b = some u → (sortedHeap (h1.push (seqObj "list" its.toArray 0)) h1.objs.size its out.toArray).get? b = some u := fun b u q => by
    have hlt := Heap.lt_size q
    refine (sortedHeap_old (Nat.ne_of_lt hlt) ?_).trans (Heap.get?_push_of_some _ q)
    rw [size_push']
    exact Nat.lt_succ_of_lt hlt
  have hlen : ((out.map SrtO.iv).map V.int).length ≤ sizeLine := by
    rw [List.length_map, b2.length_eq]
    simpa using hz
  refine wpAny_pure ⟨_, rfl, .ref h1.objs.size, _, I1.laid (t' := s.toks) keep (Nat.le_refl _) (o := .lst ((out.map SrtO.iv).map V.int)) ⟨hlen, out, c, vals_of_ints b1, hg⟩, rfl, q _ _ b2 b3 (I1.hok.fresh (Nat.le_refl _))⟩
end
end LL
set_option Elab.async false
set_option linter.all false
set_option maxRecDepth 100000
set_option maxHeartbeats 4000000
namespace LL
open PySem PySem.Spec PyProof.Rows L2
/-! ### {k: v for ..}, the keys tuples of ints and texts -/
theorem dictSetT {X : Cx} {pins : List (Addr × Obj)} {σ : L2.St} {H : Hp} {s : Shared} {E : Value → Shared → Prop} {D t : Addr} {kvs : List (List Key × V)} {k : List Key} {v : V} {r : Value} {Q : Unit → Shared → Prop} (hu : X.A.units + 1 < cLine) (I : Inv X pins σ H s)
    (eD : H D = some (.dT kvs)) (et : H t = some (.tup (k.map kV))) (few : kvs.length < sizeLine) (rv : RelV v r) (go : ∀ s', Inv X pins σ (upd H D (.dT (putK kvs k v))) s' → Q () s') :
    wpAny (model X.prog X.w) X.A (dictSet D (.ref t) r) Q E s := by
  obtain ⟨_, low, xs, rel, dd⟩ := dt_of I.hok eD
  have few2 : xs.length ≤ sizeLine := by
    have := Paired.length rel
    omega
  have few3 : (putK kvs k v).length ≤ sizeLine := Nat.le_trans (length_putK kvs k v) few
  have hu' : X.A.units < cLine := by omega
  refine wpAny_dictSet_heap (hsz := few2) (knd := tupleKind (mixKind X.prog X.w)) hu' (key_of I.hok et) dd fun h2 d2 same => go _ ?_
  obtain ⟨ob, es, ep, h1, h3, h4, h5, _, h6⟩ := d2
  refine d_write I (by rw [eD]; exact True.intro) same ⟨ob, h1⟩ ⟨few3, low, _, (rel.put k et rv).keeps fun c ys ec => ?_, ob, es, ep, h1, h3, h4, h5, h6⟩
  rw [upd_ne (ne_of ec eD (fun z => nomatch z))]
  exact ec
section
variable {X : Cx}
/-- D the new dict; W by the turn and a measure, Nx what a turn is to reach -/
def tDcT (wi : TI) (g : TG) (tt : TT) (tk tv : TE) (vs : List Nat) : TE := fun σ H Q => wi σ H fun J H1 => ∀ D, H1 D = none →
  ∃ W : Nat → Nat → Hp → Prop, (∃ m, W 0 m (upd H1 D (.dT []))) ∧ ∀ i m Hi, W i m Hi →
    (J.stop i Hi ∧ Q (.ref D) Hi) ∨
    (J.go i Hi ∧ ∃ Nx : Hp → Prop, (∀ Hn, Nx Hn → ∃ m', m' < m ∧ W (i + 1) m' Hn) ∧ ∀ x Hx, J.yld i Hi x Hx → g x (wipe σ vs) Hx fun σ2 H2 => wipe σ2 vs = wipe σ vs ∧
      tt σ2 H2 fun b H3 => if b = true then tk σ2 H3 fun y H4 => tv σ2 H4 fun z H5 => ∃ kvs k t, y = .ref t ∧ H5 t = some (.tup (k.map kV)) ∧ H5 D = some (.dT kvs) ∧ kvs.length < sizeLine ∧ Nx (upd H5 D (.dT (putK kvs k z))) else Nx H3)
theorem dcTcore {pins : List (Addr × Obj)} {s : Shared} {σ : L2.St} {H : Hp} {Q : VK} {kx vx tg iter : Expr} {ifs : List Expr} {scope : Scope} {own : List (Str × Nat)} {pos pos' : Pos} {wi : TI} {g : TG} {tt : TT} {tk tv : TE} {use : Option (Value → Sem Unit)} {Qf : Value → Shared → Prop}
    (calm : X.calm = true) (hu : X.A.units + 1 < cLine) (nd : X.N.Nodup) (I : Inv X pins σ H s) (walk : PI X tg iter wi) (ok : BlkOk X.N X.env.scope scope own)
    (target : ∀ (s : Shared) (H : Hp) (C : Addr) (cl : List (Str × Addr)) (fp : List Addr), PG (X.blk s H scope (compEnvC scope cl C X.env) fp) tg g)
    (tests : ∀ (s : Shared) (H : Hp) (C : Addr) (cl : List (Str × Addr)) (fp : List Addr), PTs (X.blk s H scope (compEnvC scope cl C X.env) fp) ifs tt)
    (keys : ∀ (s : Shared) (H : Hp) (C : Addr) (cl : List (Str × Addr)) (fp : List Addr), PE (X.blk s H scope (compEnvC scope cl C X.env) fp) kx tk)
    (vals : ∀ (s : Shared) (H : Hp) (C : Addr) (cl : List (Str × Addr)) (fp : List Addr), PE (X.blk s H scope (compEnvC scope cl C X.env) fp) vx tv)
    (plain : ∀ x, foldedSetIterable iter X.env x = pure x) (ask : tDcT wi g tt tk tv (own.map (·.2)) σ H Q)
    (leave : ∀ D C s' m H', Inv X pins σ H' s' → Q (.ref D) H' → s'.heap.Ns C m → FpOk X pins H' C → compPost (model X.prog X.w) X.A X.xe use Qf (.ref D) C (.ok .next) s') :
    wpAny (model X.prog X.w) X.A (comprehension (.DictComp kx vx [⟨tg, iter, ifs, 0⟩] scope pos) scope X.env pos' newDict false (eval iter X.env) use) Qf X.xe s := by
  have cap : ∀ y ∈ scope.names, y.2 = .free → ∃ c, X.env.cells.lookup y.1 = some c := fun y hy e => (ok.free y hy e).elim (fun z => I.ok.has _ (.inl z)) fun z => I.ok.has _ (.inr z)
  refine wpAny_comprehension_free (use := use) rfl plain (closure_ok cap) ok.kind (fun y hy e => by rw [ok.uniq y hy, e])
    (thn (walk.run pins s σ H _ I ask) fun xv s1 q1 => thn q1 fun itv s2 q2 => ?_)
  obtain ⟨it, fp, tn, J, H2, eit, I2, T, at2, free2, q⟩ := q2
  subst eit
  refine wpAny_newObj_type (newEnv_comp ?_)
  generalize hD : s2.heap.objs.size = D
  have newD : H2 D = none := I2.hok.fresh (Nat.le_of_eq hD)
  obtain ⟨W, ⟨m0, w0⟩, turn⟩ := q D newD
  generalize hs3 : ({ s2 with heap := s2.heap.push { cls := .type "dict", data := .dict #[] } } : Shared) = s3
  have heap3 : s3.heap = s2.heap.push { cls := .type "dict", data := .dict #[] } := by rw [← hs3]
  have I3 : Inv X pins σ (upd H2 D (.dT [])) s3 := by
    subst hs3
    subst hD
    exact I2.laid (t' := s2.toks) (fun b o e => Heap.get?_push_of_some _ e) (Nat.le_refl _) (dt_empty s2.heap I2.big)
  have old : ∀ b ∈ fp, b < s2.heap.objs.size := fun b hb => by
    obtain ⟨o, e, _⟩ := T.obj _ _ at2 b hb
    exact Heap.lt_size e
  have free3 : ∀ b ∈ fp, FpOk X pins (upd H2 D (.dT [])) b ∧ b < s3.heap.objs.size := fun b hb => by
    refine ⟨⟨?_, (free2 b hb).2⟩, ?_⟩
    · rw [upd_ne (show b ≠ D by rw [← hD]; exact Nat.ne_of_lt (old b hb))]
      exact (free2 b hb).1
    · rw [heap3, Heap.size_push]
      exact Nat.lt_succ_of_lt (old b hb)
  have at3 : tn 0 s3.heap := T.keep _ _ _ at2 fun b _ o e => by
    rw [heap3]
    exact Heap.get?_push_of_some _ e
  have I4 := block_start I3 ok nd free3
  generalize hcl : cellsFrom (s3.heap.objs.size + 1) scope.names (cloFrom X.env.cells scope.names []) = cl at I4 ⊢
  have pg := target s3 (upd H2 D (.dT [])) s3.heap.objs.size cl fp
  have pt := tests s3 (upd H2 D (.dT [])) s3.heap.objs.size cl fp
  have pk := keys s3 (upd H2 D (.dT [])) s3.heap.objs.size cl fp
  have pe := vals s3 (upd H2 D (.dT [])) s3.heap.objs.size cl fp
  show codeAny _ _ (.compStart (.DictComp kx vx [⟨tg, iter, ifs, 0⟩] scope pos) 0 (.ref it) (.ref D) (compEnvC scope cl s3.heap.objs.size X.env)) (compPost (model X.prog X.w) X.A X.xe use Qf (.ref D) s3.heap.objs.size) { s3 with heap := pushCells (s3.heap.push { cls := .type "dict", data := .dict #[] }) scope.names }
  have none3 : ∀ b ∈ fp, (upd H2 D (.dT [])) b = none := fun b hb => (free3 b hb).1.1
  generalize hce : compEnvC scope cl s3.heap.objs.size X.env = ce at I4 pg pt pk pe ⊢
  have locals : ce.locals = s3.heap.objs.size := by
    subst hce
    rfl
  generalize hH3 : upd H2 D (.dT []) = H3 at I3 I4 pg pt pk pe w0 none3 free3
  generalize hs4 : ({ s3 with heap := pushCells (s3.heap.push { cls := .type "dict", data := .dict #[] }) scope.names } : Shared) = s4 at I4 ⊢
  have at4 : tn 0 s4.heap := T.keep _ _ _ at3 fun b _ o e => by
    subst hs4
    exact pushCells_keeps _ _ _ _ (Heap.get?_push_of_some _ e)
  have foot : ∀ {σ' : L2.St} {H' : Hp} {s' : Shared}, Inv (X.blk s3 H3 scope ce fp) [] σ' H' s' → (∀ b ∈ fp, H' b = none) → ∀ b ∈ fp, FpOk (X.blk s3 H3 scope ce fp) [] H' b := fun {σ' H' s'} J' hn b hb =>
    ⟨hn b hb, (J'.ok.exf b hb).1, J'.ok.exfs b hb, .inl hb, fun x c e => (J'.ok.exf b hb).2 x c e, fun p hp => by cases (show p ∈ ([] : List (Addr × Obj)) from hp)⟩
  have run : codeAny (model X.prog X.w) X.A (.compLoop (.DictComp kx vx [⟨tg, iter, ifs, 0⟩] scope pos) 0 (.ref it) (.ref D) ce) (compPost (model X.prog X.w) X.A X.xe use Qf (.ref D) s3.heap.objs.size) s4 := by
    refine compLoop_anyD (fun n s' => ∃ i H', Inv (X.blk s3 H3 scope ce fp) [] (wipe σ (own.map (·.2))) H' s' ∧ tn i s'.heap ∧ (∀ b ∈ fp, H' b = none) ∧ W i n H') (fun n s5 hI => ?_) m0 ⟨0, H3, I4, at4, none3, w0⟩
    obtain ⟨i, H5, I5, at5, n5, w5⟩ := hI
    rcases turn i n H5 w5 with ⟨stop, done⟩ | ⟨go, Nx, next, step⟩
    · refine thnF (T.done (X.blk s3 H3 scope ce fp) rfl rfl rfl calm i [] s5 _ H5 (fun _ _ => False) I5 (foot I5 n5) at5 stop) fun r s6 ⟨er, I6⟩ => ?_
      subst er
      have I7 : Inv X pins σ H5 s6 := I3.call' (ch := fp) I6.os I6.base I6.hok I6.bare fun b hb => ⟨(free3 b hb).1.2.2.2.1, (free3 b hb).1.2.1, (free3 b hb).1.2.2.2.2.1, (free3 b hb).1.2.2.2.2.2⟩
      have fC : H5 s3.heap.objs.size = none := by
        have z : H5 ce.locals = none := I6.free
        rwa [locals] at z
      obtain ⟨m, hn, _⟩ := I6.loc
      have hn : s6.heap.Ns ce.locals m := hn
      rw [locals] at hn
      exact leave D s3.heap.objs.size s6 m H5 I7 done hn (I3.fpOk (Nat.le_refl _) fC)
    · refine thnF (T.item (X.blk s3 H3 scope ce fp) rfl rfl rfl calm i [] s5 _ H5 (fun _ _ => False) I5 (foot I5 n5) at5 go) fun r s6 ⟨u, er, q6⟩ => ?_
      subst er
      refine thnF q6 fun _ s7 ⟨x, H7, I7, r7, y7, at7, n7⟩ => ?_
      have P7 := I7.pinned (foot I7 n7) (T.obj _ _ at7)
      refine thnF (pg.run _ s7 _ H7 x u _ P7 r7 (step x H7 y7)) fun _ s8 ⟨σ8, H8, I8, w8, q8⟩ => ?_
      refine thnF (pt.run _ s8 σ8 H8 _ I8 q8) fun b s9 ⟨H9, I9, q9⟩ => ?_
      have close : ∀ {s' : Shared} {H' : Hp}, Inv (X.blk s3 H3 scope ce fp) ([] ++ pinsAt fp s7.heap) σ8 H' s' → Nx H' →
          ∃ m, m < n ∧ ∃ i H', Inv (X.blk s3 H3 scope ce fp) [] (wipe σ (own.map (·.2))) H' s' ∧ tn i s'.heap ∧ (∀ b ∈ fp, H' b = none) ∧ W i m H' := fun {s' H'} J' nx => by
        obtain ⟨m', less, w'⟩ := next H' nx
        have pin : ∀ b ∈ fp, ∀ o, s7.heap.get? b = some o → s'.heap.get? b = some o ∧ H' b = none := fun b hb o e =>
          let z := J'.pin (b, o) (List.mem_append_right _ (List.mem_append_right _ (mem_pinsAt hb e)))
          ⟨z.1, z.2.1⟩
        have same : (wipe σ (own.map (·.2))).length = σ8.length := by rw [← w8, wipe_length]
        refine ⟨m', less, i + 1, H', (J'.unpinned (pins := [])).weak same (fun j v e => ?_), T.keep _ _ _ at7 fun b hb o e => (pin b hb o e).1, fun b hb => ?_, w'⟩
        · rw [← w8] at e
          exact (wipe_some e).1
        · obtain ⟨o, e, _⟩ := T.obj _ _ at7 b hb
          exact (pin b hb o e).2
      cases b with
      | false =>
        rw [if_neg Bool.false_ne_true] at q9
        rw [if_neg Bool.false_ne_true]
        exact close I9 q9
      | true =>
        rw [if_pos rfl] at q9
        rw [if_pos rfl]
        refine thnF (pk.run _ s9 σ8 H9 _ I9 q9) fun z s10 ⟨yk, H10, I10, r10, q10⟩ => ?_
        refine thnF (pe.run _ s10 σ8 H10 _ I10 q10) fun z2 s11 ⟨yv, H11, I11, r11, kvs, k, t, ek, et, eD, few, nx⟩ => ?_
        subst ek
        obtain rfl : z = Value.ref t := r10
        exact dictSetT (X := X.blk s3 H3 scope ce fp) hu I11 eD et few r11 fun s12 I12 => close I12 nx
  exact codeAny_compStart_dict run (T.self X.A 0 _ _ _ at4 run)
theorem pe_dcT {kx vx tg iter : Expr} {ifs : List Expr} {scope : Scope} {own : List (Str × Nat)} {pos : Pos} {wi : TI} {g : TG} {tt : TT} {tk tv : TE} (calm : X.calm = true) (hu : X.A.units + 1 < cLine) (nd : X.N.Nodup) (walk : PI X tg iter wi) (ok : BlkOk X.N X.env.scope scope own)
    (target : ∀ (s : Shared) (H : Hp) (C : Addr) (cl : List (Str × Addr)) (fp : List Addr), PG (X.blk s H scope (compEnvC scope cl C X.env) fp) tg g)
    (tests : ∀ (s : Shared) (H : Hp) (C : Addr) (cl : List (Str × Addr)) (fp : List Addr), PTs (X.blk s H scope (compEnvC scope cl C X.env) fp) ifs tt)
    (keys : ∀ (s : Shared) (H : Hp) (C : Addr) (cl : List (Str × Addr)) (fp : List Addr), PE (X.blk s H scope (compEnvC scope cl C X.env) fp) kx tk)
    (vals : ∀ (s : Shared) (H : Hp) (C : Addr) (cl : List (Str × Addr)) (fp : List Addr), PE (X.blk s H scope (compEnvC scope cl C X.env) fp) vx tv) (plain : ∀ x, foldedSetIterable iter X.env x = pure x := by intro _; rfl) :
    PE X (.DictComp kx vx [⟨tg, iter, ifs, 0⟩] scope pos) (tDcT wi g tt tk tv (own.map (·.2))) := by
  refine ⟨fun pins s σ H Q I ask => ?_⟩
  rw [arm_eval_DictComp]
  refine dcTcore calm hu nd I walk ok target tests keys vals plain ask fun D C s' m H' J q hn f => ⟨m, hn, fun h2 sb => ?_⟩
  obtain ⟨f0, f1, f2, f3, f4, f5⟩ := f
  exact ⟨.ref D, H', J.turned (t' := s'.toks) (fun b o hb e => (sb.2 b hb).trans e) f0 f1 f3 f4 f5, rfl, q⟩
end
/-- over any walk -/
theorem dcTit {J : It} {n : Nat} {G : Hp → Prop} {Y : Nat → Hp → V → Hp → Prop} (w : Walk J n G Y) {g : TG} {tt : TT} {tk tv : TE} {vs : List Nat} {σ : L2.St} {H1 : Hp} {D : Addr} {Qd : Hp → Prop} (Pv : Nat → Hp → Prop) (h0 : Pv 0 (upd H1 D (.dT []))) (hG : ∀ i H, i ≤ n → Pv i H → G H)
    (hs : ∀ i x H H', i < n → Pv i H → Y i H x H' → g x (wipe σ vs) H' fun σ2 H2 => wipe σ2 vs = wipe σ vs ∧ tt σ2 H2 fun b H3 =>
      if b = true then tk σ2 H3 fun y H4 => tv σ2 H4 fun z H5 => ∃ kvs k t, y = .ref t ∧ H5 t = some (.tup (k.map kV)) ∧ H5 D = some (.dT kvs) ∧ kvs.length < sizeLine ∧ Pv (i + 1) (upd H5 D (.dT (putK kvs k z))) else Pv (i + 1) H3) (hd : ∀ H, Pv n H → Qd H) :
    ∃ W : Nat → Nat → Hp → Prop, (∃ m, W 0 m (upd H1 D (.dT []))) ∧ ∀ i m Hi, W i m Hi →
      (J.stop i Hi ∧ Qd Hi) ∨ (J.go i Hi ∧ ∃ Nx : Hp → Prop, (∀ Hn, Nx Hn → ∃ m', m' < m ∧ W (i + 1) m' Hn) ∧ ∀ x Hx, J.yld i Hi x Hx → g x (wipe σ vs) Hx fun σ2 H2 => wipe σ2 vs = wipe σ vs ∧ tt σ2 H2 fun b H3 =>
        if b = true then tk σ2 H3 fun y H4 => tv σ2 H4 fun z H5 => ∃ kvs k t, y = .ref t ∧ H5 t = some (.tup (k.map kV)) ∧ H5 D = some (.dT kvs) ∧ kvs.length < sizeLine ∧ Nx (upd H5 D (.dT (putK kvs k z))) else Nx H3) := by
  refine ⟨fun i m Hi => m + i = n ∧ Pv i Hi, ⟨n, rfl, h0⟩, fun i m Hi hw => ?_⟩
  obtain ⟨e, p⟩ := hw
  have q := hG i Hi (by omega) p
  by_cases hlt : i < n
  · exact .inr ⟨w.goes i Hi hlt q, Pv (i + 1), fun Hn p' => ⟨m - 1, by omega, by omega, p'⟩, fun x Hx y => hs i x Hi Hx hlt p (w.yields i Hi x Hx hlt q y)⟩
  · have e2 : i = n := by omega
    subst e2
    exact .inl ⟨w.stops Hi q, hd Hi p⟩
/-- a dict comprehension with plain keys, over any walk -/
theorem dcKit {J : It} {n : Nat} {G : Hp → Prop} {Y : Nat → Hp → V → Hp → Prop} (w : Walk J n G Y) {g : TG} {tt : TT} {tk tv : TE} {vs : List Nat} {σ : L2.St} {H1 : Hp} {D : Addr} {Qd : Hp → Prop} (Pv : Nat → Hp → Prop) (h0 : Pv 0 (upd H1 D (.dK []))) (hG : ∀ i H, i ≤ n → Pv i H → G H)
    (hs : ∀ i x H H', i < n → Pv i H → Y i H x H' → g x (wipe σ vs) H' fun σ2 H2 => wipe σ2 vs = wipe σ vs ∧ tt σ2 H2 fun b H3 =>
      if b = true then tk σ2 H3 fun y H4 => tv σ2 H4 fun z H5 => ∃ kvs k, y = kV k ∧ H5 D = some (.dK kvs) ∧ kvs.length < sizeLine ∧ Pv (i + 1) (upd H5 D (.dK (putK kvs k z))) else Pv (i + 1) H3) (hd : ∀ H, Pv n H → Qd H) :
    ∃ W : Nat → Nat → Hp → Prop, (∃ m, W 0 m (upd H1 D (.dK []))) ∧ ∀ i m Hi, W i m Hi →
      (J.stop i Hi ∧ Qd Hi) ∨ (J.go i Hi ∧ ∃ Nx : Hp → Prop, (∀ Hn, Nx Hn → ∃ m', m' < m ∧ W (i + 1) m' Hn) ∧ ∀ x Hx, J.yld i Hi x Hx → g x (wipe σ vs) Hx fun σ2 H2 => wipe σ2 vs = wipe σ vs ∧ tt σ2 H2 fun b H3 =>
        if b = true then tk σ2 H3 fun y H4 => tv σ2 H4 fun z H5 => ∃ kvs k, y = kV k ∧ H5 D = some (.dK kvs) ∧ kvs.length < sizeLine ∧ Nx (upd H5 D (.dK (putK kvs k z))) else Nx H3) := by
  refine ⟨fun i m Hi => m + i = n ∧ Pv i Hi, ⟨n, rfl, h0⟩, fun i m Hi hw => ?_⟩
  obtain ⟨e, p⟩ := hw
  have q := hG i Hi (by omega) p
  by_cases hlt : i < n
  · exact .inr ⟨w.goes i Hi hlt q, Pv (i + 1), fun Hn p' => ⟨m - 1, by omega, by omega, p'⟩, fun x Hx y => hs i x Hi Hx hlt p (w.yields i Hi x Hx hlt q y)⟩
  · have e2 : i = n := by omega
    subst e2
    exact .inl ⟨w.stops Hi q, hd Hi p⟩
end LL
set_option Elab.async false
set_option linter.all false
set_option maxRecDepth 100000
set_option maxHeartbeats 4000000
namespace LL
open PySem PySem.Spec PyProof.Rows L2
/-! ### enumerate(a tuple) -/
theorem enumNew {v : Value} {o : Obj} {H : Heap → Prop} (B : Begins v o H) :
    Meets (Builtin.«enumerate.__new__» ⟨[.type "enumerate", v], []⟩) (fun _ R s => H s.heap ∧
      R (.ok (.ret (.ref (s.heap.push o).objs.size))) { s with heap := (s.heap.push o).push { cls := .type "enumerate", data := .fields #[.none, .bool false, .ref s.heap.objs.size, rawInt 0, .none, .none] } }) :=
  .of_wp fun prog w A R s h => by
    obtain ⟨hp, g, d, tk, os⟩ := s
    obtain ⟨h1, h⟩ := h
    have hsub := sub_enumerate
    have goIter : ∀ {A' : Around} {E : Value → Shared → Prop} {Q : Value → Shared → Prop}, Q (.ref hp.objs.size) ⟨hp.push o, g, d, tk, os⟩ → wpAny (model prog w) A' (pyIter v) Q E ⟨hp, g, d, tk, os⟩ :=
      fun q => B.iter prog w _ _ ⟨hp, g, d, tk, os⟩ _ h1 q
    wp_walk using goIter
    refine wpAny_stack_any fun st => wpAny_pure ?_
    split
    · rename_i c _ _ _ _ _
      cases (c == Value.type "enumerate")
      · wp_walk using goIter
        exact ⟨_, rfl, h⟩
      · wp_walk using goIter
        exact ⟨_, rfl, h⟩
    · wp_walk using goIter
      exact ⟨_, rfl, h⟩
theorem callEnum {prog : Program} {w : World} {A : Around} {E : Value → Shared → Prop} {s : Shared} {v : Value} {o : Obj} {H : Heap → Prop} {Q : Value → Shared → Prop} (B : Begins v o H) (h1 : H s.heap)
    (h : ∀ h', IsEnum h' (s.heap.objs.size + 1) s.heap.objs.size 0 .none → h'.get? s.heap.objs.size = some o → (∀ b o, s.heap.get? b = some o → h'.get? b = some o) → Q (.ref (s.heap.objs.size + 1)) { s with heap := h' }) :
    wpAny (model prog w) A (call (.type "enumerate") [v]) Q E s := by
  refine callType_new F.called_enumerate (by decide) (F.typeCall_enumerate_1 _) (F.newCall_enumerate_1 _) (fun obj => F.args_object_init_2 obj _) F.entry_enumerate_new (enumNew B) ⟨h1, ?_⟩
  have hz : (s.heap.push o).objs.size = s.heap.objs.size + 1 := Heap.size_push ..
  show _ ∧ _
  rw [hz]
  have he : IsEnum ((s.heap.push o).push { cls := .type "enumerate", data := .fields #[.none, .bool false, .ref s.heap.objs.size, rawInt 0, .none, .none] }) (s.heap.objs.size + 1) s.heap.objs.size 0 .none := by
    have z := Heap.get?_push_size (s.heap.push o) (o := { cls := .type "enumerate", data := .fields #[.none, .bool false, .ref s.heap.objs.size, rawInt 0, .none, .none] }) rfl
    rwa [hz] at z
  exact ⟨⟨_, he, rfl⟩, h _ he (Heap.get?_push_of_some _ (Heap.get?_push_size _ B.free)) fun b o x => Heap.get?_push_of_some _ (Heap.get?_push_of_some _ x)⟩
/-- the tuple at a as it stands at each turn, each item in a new pair -/
def IteT (K : PySem.W.Frag) (a : Addr) : It where
  go := fun i H => ∃ (xs : List V) (x : V), SqT K H a xs ∧ xs[i]? = some x
  yld := fun i H v H' => ∃ T x, v = .ref T ∧ H T = none ∧ H' = upd H T (.tup [.int (i : Nat), x]) ∧ ∀ xs, SqT K H a xs → xs[i]? = some x
  stop := fun i H => ∃ xs : List V, SqT K H a xs ∧ xs.length ≤ i
theorem turnEnumT {P : Program} {w : World} {K : PySem.W.Frag} {elts : List Expr} {kk : Nat} {tpos : Pos} (a e it : Addr) :
    Turn P w K (.Tuple elts kk tpos) (IteT K a) [e, it] e (fun i h => (∃ old, IsEnum h e it ((i : Nat) : Int) old) ∧ h.IsTupleIter it a i ∧ e ≠ it) where
  mem := by simp
  obj := fun i h st b hb => by
    obtain ⟨⟨old, he⟩, ⟨o, ho, hc, hd⟩, _⟩ := st
    rcases (show b = e ∨ b = it by simpa using hb) with z | z
    · rw [z]
      exact ⟨_, he, fun v q => nomatch q⟩
    · rw [z]
      exact ⟨o, ho, fun v q => by rw [hd] at q; cases q⟩
  keep := fun i h h' st k => by
    obtain ⟨⟨old, he⟩, hi, ne⟩ := st
    exact ⟨⟨old, k e (by simp) _ he⟩, hi.at fun o q => k it (by simp) o q, ne⟩
  item := by
    intro X hP hw hK calm i pins s σ H E I foot st hg
    subst hP hw hK
    obtain ⟨⟨old, he⟩, hit, ne⟩ := st
    obtain ⟨xs, x, hq, hx⟩ := hg
    obtain ⟨its, rv, p, _⟩ := I.tuple hq
    obtain ⟨u, hu, ru⟩ := rv.get hx
    have lte : e < s.heap.objs.size := Heap.lt_size he
    have lti : it < s.heap.objs.size := let ⟨_, q, _⟩ := hit; Heap.lt_size q
    have lta : a < s.heap.objs.size := let ⟨_, q, _⟩ := p; Heap.lt_size q
    have hT : s.heap.IsTuple a its.toArray := p
    have nai : a ≠ it := fun z => by
      obtain ⟨o1, q1, c1, _⟩ := hit
      obtain ⟨o2, q2, c2, _⟩ := hT
      rw [z, q1] at q2
      cases q2
      rw [c1] at c2
      exact absurd c2 (by decide)
    have nae : e ≠ a := fun z => by
      obtain ⟨o2, q2, c2, _⟩ := hT
      rw [← z, (show s.heap.get? e = some _ from he)] at q2
      cases q2
      have c3 : Value.type "enumerate" = Value.type "tuple" := c2
      exact absurd c3 (by decide)
    have hi : i < its.toArray.size := by
      rw [List.size_toArray]
      exact (List.getElem?_eq_some_iff.mp hu).1
    refine wpAny_pyNext_enum_itemD (Draws.tuple (prog := X.prog) (w := X.w) (A := X.A.in1) (I.ok.hd calm) it a nai its.toArray) he ⟨hit, hT⟩ hi ne (by simp; exact ⟨ne, nae⟩) fun y h' tk hy ho hst hT' hsz hk => ?_
    have ey : y = u := by
      have z : its[i]? = some y := by simpa using hy
      exact Option.some.inj (z.symm.trans hu)
    subst ey
    refine ⟨_, rfl, wpAny_letOwnedTupleGo_enum (s := { s with heap := h', toks := tk + 1 }) ho fun h2 he2 sb => ?_⟩
    have hT2 : h2.get? s.heap.objs.size = some { cls := .type "tuple", data := .seq #[.int i tk, y] } := (sb.2 _ (Nat.ne_of_gt lte)).trans hT'
    have new : ObjOk X.prog X.w (upd H s.heap.objs.size (.tup [.int (i : Nat), x])) h2 s.heap.objs.size (.tup [.int (i : Nat), x]) :=
      ⟨by show 2 ≤ sizeLine; decide, [.int i tk, y], .cons ⟨_, rfl⟩ (.cons ru .nil), ⟨_, hT2, rfl, _, rfl⟩⟩
    have I1 : Inv X pins σ (upd H s.heap.objs.size (.tup [.int (i : Nat), x])) { s with heap := h2, toks := tk + 1 } :=
      I.turnedNew (ch := [e, it]) (fun b ob hb q => (sb.2 b (fun z => hb (by simp [z]))).trans (hk b ob (fun z => hb (by simp [z])) (fun z => hb (by simp [z])) q)) foot (Nat.le_refl _) new
    refine ⟨.ref s.heap.objs.size, _, I1, rfl, ⟨_, x, rfl, I.hok.fresh (Nat.le_refl _), rfl, fun ys hy => by rw [I.tuple_inj hy hq]; exact hx⟩, ⟨⟨y, ?_⟩, hst.1.at fun o q => (sb.2 it (Ne.symm ne)).trans q, ne⟩, fun b hb => ?_⟩
    · have e1 : ((i + 1 : Nat) : Int) = (i : Int) + 1 := by omega
      rw [e1]
      exact he2
    · have hb' : b < s.heap.objs.size := by
        rcases (show b = e ∨ b = it by simpa using hb) with z | z
        · exact z ▸ lte
        · exact z ▸ lti
      rw [upd_ne (Nat.ne_of_lt hb')]
      exact (foot b hb).1
  done := by
    intro X hP hw hK calm i pins s σ H E I foot st hg
    subst hP hw hK
    obtain ⟨⟨old, he⟩, hit, ne⟩ := st
    obtain ⟨xs, hq, hx⟩ := hg
    obtain ⟨its, rv, p, _⟩ := I.tuple hq
    obtain ⟨f0, f1, f2, f3, f4, f5⟩ := foot it (by simp)
    have hT : s.heap.IsTuple a its.toArray := p
    have nai : a ≠ it := fun z => by
      obtain ⟨o1, q1, c1, _⟩ := hit
      obtain ⟨o2, q2, c2, _⟩ := hT
      rw [z, q1] at q2
      cases q2
      rw [c1] at c2
      exact absurd c2 (by decide)
    have hl := rv.length
    unfold pyNext
    have hTy : s.TypeIs (.ref e) "enumerate" := ⟨_, he, rfl⟩
    refine wpAny_bind (wpAny_attempt (wpAny_callSpecial?_slot (name := Str.ofString "__next__") hTy F.slot_enumerate_next (wpAny_call_entry F.slot_enumerate_next hTy F.entry_enumerate_next ?_ (F.args_enumerate_next_1 _))))
    show wpAny _ _ (field (.ref e) 2 >>= _) _ _ _
    refine wpAny_bind (wpAny_field he rfl (x := .ref it) rfl ?_)
    refine wpAny_bind (wpAny_nextOf_tuple_end (I.ok.hd calm) hit hT (by simp; omega) fun h' x he' hx' => ?_)
    obtain ⟨o, ho, hc⟩ := hx'
    refine wpAny_bind (wpAny_isInstance (T := "StopIteration") (b := true) ⟨o, ho, hc⟩ isSubtype_stop ?_)
    exact wpAny_pure ⟨rfl, I.turned (t' := s.toks) (fun b o hb q => he' b o hb q) f0 f1 f3 f4 f5⟩
  self := fun A i s Q E st h => let ⟨⟨_, he⟩, _⟩ := st; wpAny_pyIter_enum he h
def iEnumT (K : PySem.W.Frag) (ta : TA) : TI := fun σ H R => ta σ H fun vs H1 => ∃ a xs, vs = [.ref a] ∧ SqT K H1 a xs ∧ R (IteT K a) H1
theorem pi_enumT {X : Cx} {e : Expr} {ta : TA} {p pos tpos : Pos} {elts : List Expr} {kk : Nat} (hg : Gl X "enumerate") (hm : X.mg "enumerate" = none) (ha : PA X [e] ta) (hs : starEach [e] X.env = [(false, eval e X.env)] := by rfl) :
    PI X (.Tuple elts kk tpos) (.Call (.Name "enumerate" p) [e] [] pos) (iEnumT X.K ta) := by
  refine ⟨fun pins s σ H R I h => ?_⟩
  refine Call_ (ld_blt I hg hm boot_enumerate (PyProof.Rows.callWith_type1 (thn (ha.run pos pins s σ H _ I h) fun us s1 ⟨vs, H1, I1, r1, q1⟩ => ?_) hs rfl))
  obtain ⟨a, xs, ex, hq, q⟩ := q1
  subst ex
  rw [Vals.ref1 r1]
  obtain ⟨its, rv, p', _⟩ := I1.tuple hq
  have hT : s1.heap.IsTuple a its.toArray := p'
  refine callEnum (begins_tuple a its.toArray) hT fun h' he hit hk => wpAny_pyIter_enum he ?_
  have I2 : Inv X pins σ H1 { s1 with heap := h' } := I1.kept (t' := s1.toks) hk
  refine ⟨s1.heap.objs.size + 1, [s1.heap.objs.size + 1, s1.heap.objs.size], _, _, H1, rfl, I2, turnEnumT a (s1.heap.objs.size + 1) s1.heap.objs.size, ⟨⟨.none, he⟩, ⟨_, hit, rfl, rfl⟩, Nat.succ_ne_self _⟩, fun b hb => ?_, q⟩
  have hle : s1.heap.objs.size ≤ b := by
    rcases (show b = s1.heap.objs.size + 1 ∨ b = s1.heap.objs.size by simpa using hb) with z | z
    · rw [z]
      exact Nat.le_add_right _ _
    · rw [z]
      exact Nat.le_refl _
  exact I1.fpOk hle (I1.hok.fresh hle)
theorem walkEnumT {K : PySem.W.Frag} {a : Addr} {xs : List V} : Walk (IteT K a) xs.length (fun H => SqT K H a xs) (YPair (fun i => some (.int (i : Nat))) (fun i => xs[i]?)) where
  goes := fun i _ hi q => ⟨xs, xs[i], q, by simp [hi]⟩
  stops := fun _ q => ⟨xs, q, Nat.le_refl _⟩
  yields := fun i H v H' _ q y => by
    obtain ⟨T, x, h1, h2, h3, h4⟩ := y
    exact ⟨T, .int (i : Nat), x, h1, h2, h3, rfl, h4 xs q⟩
/-- zip of two tuples -/
theorem walkZipT {K : PySem.W.Frag} {a b : Addr} {xs ys : List V} (hn : xs.length = ys.length) : Walk (RZ.ItzT K a b) xs.length (fun H => SqT K H a xs ∧ SqT K H b ys) (YPair (fun i => xs[i]?) (fun i => ys[i]?)) where
  goes := fun i _ hi q => ⟨xs, ys, xs[i], ys[i], q.1, q.2, by simp [hi], by simp⟩
  stops := fun _ q => ⟨xs, ys, q.1, q.2, .inl (Nat.le_refl _)⟩
  yields := fun i H v H' _ q y => by
    obtain ⟨T, x, z, h1, h2, h3, h4, h5⟩ := y
    exact ⟨T, x, z, h1, h2, h3, h4 xs q.1, h5 ys q.2⟩
end LL
set_option Elab.async false
set_option linter.all false
set_option maxRecDepth 100000
set_option maxHeartbeats 4000000
namespace LL
open PySem PySem.Spec PyProof.Rows L2
/-! ### max of a list of pairs of ints -/
/-- what stood in h0 still stands -/
abbrev Ext (h0 h : Heap) : Prop := ∀ b o, h0.get? b = some o → h.get? b = some o
/-- comparing is told wherever h0's objects stand -/
def CmpExt (prog : Program) (w : World) (A : Around) (h0 : Heap) (P : Nat → Value → Prop) (bt : Nat → Nat → Bool) : Prop :=
  ∀ i j vi vj (s : Shared) (Q : Value → Shared → Prop) (E : Value → Shared → Prop), Ext h0 s.heap → P i vi → P j vj → Q (.bool (bt i j)) s → wpAny (model prog w) A (richCompare .Gt vi vj) Q E s
section
variable {prog : Program} {w : World} {A : Around} {R : Result → Shared → Prop} {I S : Addr} {fp wr : List Addr} {n : Nat} {P : Nat → Value → Prop} {St : Nat → Heap → Prop} {h0 : Heap}
theorem Ext.upd {h : Heap} {a : Addr} {f : Obj → Obj} (e : Ext h0 h) (ha : h0.objs.size ≤ a) : Ext h0 (h.update a f) := fun b o q =>
  (Heap.get?_update_other _ _ (Ne.symm (Nat.ne_of_lt (Nat.lt_of_lt_of_le (Heap.lt_size q) ha)))).trans (e b o q)
theorem Ext.step {h h' : Heap} (e : Ext h0 h) (hw : ∀ b ∈ wr, h0.objs.size ≤ b) (k : ∀ b o, b ∉ wr → h.get? b = some o → h'.get? b = some o) : Ext h0 h' := fun b o q =>
  k b o (fun hm => Nat.lt_irrefl _ (Nat.lt_of_lt_of_le (Heap.lt_size q) (hw b hm))) (e b o q)
theorem maxLoopExt (W : Walks prog w A.in1 I fp wr n P St) (bt : Nat → Nat → Bool) (cmp : CmpExt prog w A.in1 h0 P bt) (hS : S ∉ fp) (newS : h0.objs.size ≤ S) (newW : ∀ b ∈ wr, h0.objs.size ≤ b) :
    ∀ (k j : Nat) (s : Shared) (vb : Value) (c : Nat), n - (j + 1) = k → j + 1 ≤ n → St (j + 1) s.heap → P (argBest bt j) vb → Ext h0 s.heap →
    s.heap.get? S = some { cls := .type "list", dict := none, data := .seq #[vb, vb] c, slots := #[] } →
    (∀ v h' tk, P (argBest bt (n - 1)) v → Ext h0 h' → (∀ b o, b ∉ wr → b ≠ S → s.heap.get? b = some o → h'.get? b = some o) → R (.ok (.ret v)) { s with heap := h', toks := tk }) →
    codeAny (model prog w) A (.builtin "max.loop" ⟨[.ref I, .none, .ref S], []⟩) R s := by
  have nSw : S ∉ wr := fun h => hS (W.sub _ h)
  have nm : (toString "max" ++ toString ".loop" : String) = "max.loop" := by decide
  intro k
  induction k with
  | zero =>
    intro j s vb c hk hj st pb ex oS go
    have hn : j + 1 = n := by omega
    refine codeAny_builtin F.entry_max_loop ?_
    rw [Around.under_plainId F.plain_max_loop _]
    show wpAny _ A.in1 (seqItems? (.ref S) >>= _) _ _ s
    refine wpAny_bind (wpAny_seqItems oS rfl ?_)
    show wpAny _ A.in1 (tryCatch (pyNext (.ref I)) _ >>= _) _ _ s
    refine wpAny_bind (wpAny_tryCatch (W.done s _ _ (hn ▸ st) fun h' tk kp => ?_))
    have oS' := kp S _ nSw oS
    show wpAny _ A.in1 (updateSeq S (fun _ => #[]) >>= _) _ _ _
    refine wpAny_bind ?_
    refine wpAny_updateSeq oS' rfl (wpAny_bind (wpAny_letGo (wpAny_pure ?_)))
    refine go vb _ tk (by rw [← hn]; exact pb) ((ex.step newW kp).upd newS) fun b o hbw hbS e => (Heap.get?_update_other _ _ (Ne.symm hbS)).trans (kp b o hbw e)
  | succ k ih =>
    intro j s vb c hk hj st pb ex oS go
    have lt : j + 1 < n := by omega
    refine codeAny_builtin F.entry_max_loop ?_
    rw [Around.under_plainId F.plain_max_loop _]
    show wpAny _ A.in1 (seqItems? (.ref S) >>= _) _ _ s
    refine wpAny_bind (wpAny_seqItems oS rfl ?_)
    show wpAny _ A.in1 (tryCatch (pyNext (.ref I)) _ >>= _) _ _ s
    refine wpAny_bind (wpAny_tryCatch (W.item (j + 1) s _ _ lt st fun v h' tk hP st' kp => ?_))
    have oS' := kp S _ nSw oS
    have ex' : Ext h0 h' := ex.step newW kp
    show wpAny _ A.in1 (tryCatch (holding [v, v] (richCompare .Gt v vb >>= _)) _ >>= _) _ _ _
    refine wpAny_bind (wpAny_tryCatch (wpAny_holding (wpAny_bind (cmp (j + 1) (argBest bt j) v vb _ _ _ ex' hP pb ?_))))
    refine wpAny_bind (wpAny_holding (wpAny_truthy_bool ?_))
    refine wpAny_bind (wpAny_letGo (wpAny_pure ?_))
    cases hb : bt (j + 1) (argBest bt j) with
    | true =>
      simp only [if_true]
      refine wpAny_bind ?_
      refine wpAny_updateSeq oS' rfl (wpAny_bind (wpAny_letGo ?_))
      rw [nm]
      refine wpAny_pure ⟨plainId_quiet F.plain_max_loop _, ih (j + 1) _ v _ (by omega) lt (W.frame _ _ _ st' fun b hbf o e => ?_) (by simp only [argBest, hb, if_true]; exact hP) (ex'.upd newS) (Heap.get?_update_self _ oS' rfl)
        fun v' h'' tk'' hP' ex'' kp'' => ?_⟩
      · exact (Heap.get?_update_other _ _ (fun h : S = b => hS (by rw [h]; exact hbf))).trans e
      · exact go v' h'' tk'' hP' ex'' fun b o hbw hbS e => kp'' b o hbw hbS ((Heap.get?_update_other _ _ (Ne.symm hbS)).trans (kp b o hbw e))
    | false =>
      simp only [Bool.false_eq_true, if_false]
      refine wpAny_bind (wpAny_letGo ?_)
      rw [nm]
      refine wpAny_pure ⟨plainId_quiet F.plain_max_loop _, ih (j + 1) _ vb c (by omega) lt st' (by simp only [argBest, hb, Bool.false_eq_true, if_false]; exact pb) ex' oS' fun v' h'' tk'' hP' ex'' kp'' => ?_⟩
      exact go v' h'' tk'' hP' ex'' fun b o hbw hbS e => kp'' b o hbw hbS (kp b o hbw e)
theorem maxFirstExt (W : Walks prog w A.in1 I fp wr n P St) (bt : Nat → Nat → Bool) (cmp : CmpExt prog w A.in1 h0 P bt) (hS : S ∉ fp) (newS : h0.objs.size ≤ S) (newW : ∀ b ∈ wr, h0.objs.size ≤ b) (hn : 0 < n) {s : Shared} {c : Nat} (st : St 0 s.heap) (ex : Ext h0 s.heap)
    (oS : s.heap.get? S = some { cls := .type "list", dict := none, data := .seq #[] c, slots := #[] })
    (go : ∀ v h' tk, P (argBest bt (n - 1)) v → Ext h0 h' → R (.ok (.ret v)) { s with heap := h', toks := tk }) :
    codeAny (model prog w) A (.builtin "max.loop" ⟨[.ref I, .none, .ref S], []⟩) R s := by
  have nSw : S ∉ wr := fun h => hS (W.sub _ h)
  have nm : (toString "max" ++ toString ".loop" : String) = "max.loop" := by decide
  refine codeAny_builtin F.entry_max_loop ?_
  rw [Around.under_plainId F.plain_max_loop _]
  show wpAny _ A.in1 (seqItems? (.ref S) >>= _) _ _ s
  refine wpAny_bind (wpAny_seqItems oS rfl ?_)
  show wpAny _ A.in1 (tryCatch (pyNext (.ref I)) _ >>= _) _ _ s
  refine wpAny_bind (wpAny_tryCatch (W.item 0 s _ _ hn st fun v h' tk hP st' kp => ?_))
  have oS' := kp S _ nSw oS
  show wpAny _ A.in1 (updateSeq S (fun _ => #[v, v]) >>= _) _ _ _
  refine wpAny_bind ?_
  refine wpAny_updateSeq oS' rfl ?_
  rw [nm]
  refine wpAny_pure ⟨plainId_quiet F.plain_max_loop _, maxLoopExt W bt cmp hS newS newW _ 0 _ v _ rfl hn (W.frame _ _ _ st' fun b hbf o e => ?_) hP ((ex.step newW kp).upd newS) (Heap.get?_update_self _ oS' rfl) fun v' h'' tk'' hP' ex'' kp'' => ?_⟩
  · exact (Heap.get?_update_other _ _ (fun h : S = b => hS (by rw [h]; exact hbf))).trans e
  · exact go v' h'' tk'' hP' ex''
end
theorem callMaxExt {prog : Program} {w : World} {A : Around} {E : Value → Shared → Prop} {s : Shared} {l : Addr} {items : Array Value} {bt : Nat → Nat → Bool} {Q : Value → Shared → Prop} (hh : A.handled = none) (hl : s.heap.IsList l items) (hn : 0 < items.size)
    (cmp : CmpExt prog w A.in1 s.heap (fun i v => items[i]? = some v) bt)
    (go : ∀ v h' tk, items[argBest bt (items.size - 1)]? = some v → Ext s.heap h' → Q v { s with heap := h', toks := tk }) :
    wpAny (model prog w) A (call (.builtin "max") [.ref l]) Q E s := by
  have nm : (toString "max" ++ toString ".loop" : String) = "max.loop" := by decide
  have ltl : l < s.heap.objs.size := let ⟨_, e, _⟩ := hl; Heap.lt_size e
  refine call_function_tree F.kind_max F.plain_max F.entry_max (F.args_max1 _) ?_
  show wpAny _ A.in1 (Builtin.Builtins.bindParams "max" ["key", "default"] 0 ⟨[], []⟩ >>= _) _ _ s
  refine wpAny_bind (wpAny_of_eq (show Builtin.Builtins.bindParams "max" ["key", "default"] 0 ⟨[], []⟩ = pure [none, none] from rfl) ?_)
  refine wpAny_bind (wpAny_pure ?_)
  refine wpAny_bind (wpAny_pyIter_list hl ?_)
  refine wpAny_bind (wpAny_newObj_type ?_)
  rw [nm]
  have z1 : (s.heap.push { cls := .type "list_iterator", data := .fields #[.ref l, .int 0 0] }).objs.size = s.heap.objs.size + 1 := Heap.size_push ..
  refine wpAny_pure ⟨plainId_quiet F.plain_max_loop _, maxFirstExt (h0 := s.heap) (Walks.list (A := A.in1) hh s.heap.objs.size l (Nat.ne_of_lt ltl) items) bt cmp ?_ ?_ (fun b hb => ?_) hn
    ⟨⟨_, Heap.get?_push_of_some _ (Heap.get?_push_size _ rfl), rfl, rfl⟩, (hl.push _).push _⟩ (fun b o q => Heap.get?_push_of_some _ (Heap.get?_push_of_some _ q)) (Heap.get?_push_size _ rfl) fun v h' tk hv ex => go v h' tk hv ex⟩
  · show (s.heap.push _).objs.size ∉ [s.heap.objs.size, l]
    rw [z1]
    intro hm
    rcases List.mem_cons.mp hm with e | hm
    · exact Nat.succ_ne_self _ e
    · exact Nat.ne_of_gt (Nat.lt_succ_of_lt ltl) (List.mem_singleton.mp hm)
  · show s.heap.objs.size ≤ (s.heap.push _).objs.size
    rw [z1]
    omega
  · rw [List.mem_singleton.mp hb]
    exact Nat.le_refl _
/-- greater, of pairs of ints -/
def gtP (p q : Int × Int) : Bool := if p.1 = q.1 then (if p.2 = q.2 then false else decide (q.2 < p.2)) else decide (q.1 < p.1)
theorem gtTups {A : Around} {s : Shared} {a b : Addr} {p q : Int × Int} {t1 t2 u1 u2 : Tok} (ha : s.heap.IsTuple a #[.int p.1 t1, .int p.2 t2]) (hb : s.heap.IsTuple b #[.int q.1 u1, .int q.2 u2]) (hu : A.units < cLine) : Ob.RcOp .Gt A s (.ref a) (.ref b) (gtP p q) := by
  have h := Ob.RcOp.tuples_gt (A := A) (e := fun j => if j = 0 then decide (p.1 = q.1) else decide (p.2 = q.2)) (r := fun j => if j = 0 then decide (q.1 < p.1) else decide (q.2 < p.2)) ha hb hu (fun j h1 h2 => ?_) (fun j h1 h2 _ => ?_)
  · have e : gtP p q = Ob.lexAt (fun j => if j = 0 then decide (p.1 = q.1) else decide (p.2 = q.2)) (fun j => if j = 0 then decide (q.1 < p.1) else decide (q.2 < p.2)) (decide (2 > 2)) 0 2 := by
      simp only [gtP, Ob.lexAt]
      by_cases h1 : p.1 = q.1 <;> by_cases h2 : p.2 = q.2 <;> simp [h1, h2]
    rw [e]
    exact h
  · match j, h1 with
    | 0, _ =>
      show SeqAt.EqAt A.in1 s (.int p.1 t1) (.int q.1 u1) (decide (p.1 = q.1))
      have z := SeqAt.EqAt.int_int (A := A.in1) (s := s) p.1 t1 q.1 u1
      rwa [show (p.1 == q.1) = decide (p.1 = q.1) from rfl] at z
    | 1, _ =>
      show SeqAt.EqAt A.in1 s (.int p.2 t2) (.int q.2 u2) (decide (p.2 = q.2))
      have z := SeqAt.EqAt.int_int (A := A.in1) (s := s) p.2 t2 q.2 u2
      rwa [show (p.2 == q.2) = decide (p.2 = q.2) from rfl] at z
    | j + 2, h1 => exact absurd h1 (by simp)
  · match j, h1 with
    | 0, _ => exact Ob.RcOp.gt_int _ _ _ _
    | 1, _ => exact Ob.RcOp.gt_int _ _ _ _
    | j + 2, h1 => exact absurd h1 (by simp)
theorem argBestP (f : Nat → Int × Int) : ∀ k, argBest (fun i j => gtP (f i) (f j)) k ≤ k ∧ ∀ i, i ≤ k → (f i).1 ≤ (f (argBest (fun i j => gtP (f i) (f j)) k)).1
  | 0 => ⟨Nat.le_refl _, fun i hi => by
    have : i = 0 := by omega
    subst this
    exact Int.le_refl _⟩
  | k + 1 => by
    obtain ⟨h1, h2⟩ := argBestP f k
    simp only [argBest]
    generalize argBest (fun i j => gtP (f i) (f j)) k = m at h1 h2 ⊢
    by_cases hb : gtP (f (k + 1)) (f m) = true
    · rw [if_pos hb]
      have hle : (f m).1 ≤ (f (k + 1)).1 := by
        unfold gtP at hb
        split at hb
        · omega
        · have := of_decide_eq_true hb
          omega
      refine ⟨Nat.le_refl _, fun i hi => ?_⟩
      by_cases e : i = k + 1
      · subst e
        exact Int.le_refl _
      · exact Int.le_trans (h2 i (by omega)) hle
    · rw [if_neg hb]
      refine ⟨by omega, fun i hi => ?_⟩
      by_cases e : i = k + 1
      · subst e
        unfold gtP at hb
        split at hb
        · omega
        · have : ¬ (f m).1 < (f (k + 1)).1 := fun z => hb (decide_eq_true z)
          omega
      · exact h2 i (by omega)
/-- max(xs), xs a list of pairs of ints: one whose first is greatest -/
def rMaxP (K : PySem.W.Frag) : List V → Hp → VK → Prop := fun vs H Q => ∃ (a : Addr) (ks : List (Addr × (Int × Int))), vs = [V.ref a] ∧ SqL K H a (ks.map fun p => V.ref p.1) ∧ ks ≠ [] ∧ (∀ p ∈ ks, H p.1 = some (.tup [.int p.2.1, .int p.2.2])) ∧
  ∀ p ∈ ks, (∀ q ∈ ks, q.2.1 ≤ p.2.1) → Q (.ref p.1) H
section
variable {X : Cx}
theorem cr_maxP (hc : X.calm = true) (hu : X.A.units + 1 < cLine) : CallR X (.builtin "max") (rMaxP X.K) := by
  intro pins s σ H vs us Q I r h
  obtain ⟨a, ks, rfl, hs, hne, hk, q⟩ := h
  obtain ⟨its, rv, hl, hz⟩ := I.list hs
  rw [Vals.ref1 r]
  have ev := refsBack rv
  subst ev
  have hpos : 0 < ks.length := List.length_pos_iff.mpr hne
  have tup : ∀ p ∈ ks, ∃ t u, s.heap.IsTuple p.1 #[.int p.2.1 t, .int p.2.2 u] := fun p hp => by
    obtain ⟨_, its, r2, o, h1, h2, n, h3⟩ := (show ObjOk X.prog X.w H s.heap p.1 (.tup [.int p.2.1, .int p.2.2]) from I.hok _ _ (hk p hp))
    obtain ⟨u1, u2, rfl, ⟨t, rfl⟩, ⟨u, rfl⟩⟩ := vals2 r2
    exact ⟨t, u, o, h1, h2, n, h3⟩
  refine callMaxExt (bt := fun i j => gtP ((ks[i]?.map (·.2)).getD (0, 0)) ((ks[j]?.map (·.2)).getD (0, 0))) (I.ok.hd hc) hl.isList (by simpa using hpos) (fun i j vi vj s' Q' E' ex hi hj hQ => ?_) fun v h' tk hv ex => ?_
  · have hi' : (ks[i]?.map fun p => Value.ref p.1) = some vi := by simpa using hi
    have hj' : (ks[j]?.map fun p => Value.ref p.1) = some vj := by simpa using hj
    obtain ⟨p, hp, rfl⟩ := Option.map_eq_some_iff.mp hi'
    obtain ⟨p2, hp2, rfl⟩ := Option.map_eq_some_iff.mp hj'
    obtain ⟨t1, t2, ho, h1, hT⟩ := tup p (List.mem_of_getElem? hp)
    obtain ⟨u1, u2, ho2, h2, hT2⟩ := tup p2 (List.mem_of_getElem? hp2)
    simp only [hp, hp2, Option.map_some, Option.getD_some] at hQ
    exact gtTups (A := X.A.in1) (s := s') (show s'.heap.IsTuple p.1 _ from ⟨ho, ex _ _ h1, hT⟩) (show s'.heap.IsTuple p2.1 _ from ⟨ho2, ex _ _ h2, hT2⟩) (by show X.A.units + 1 < cLine; exact hu) X.prog X.w E' Q' hQ
  · have b := argBestP (fun i => (ks[i]?.map (·.2)).getD (0, 0)) (ks.length - 1)
    have sz : (ks.map fun p => Value.ref p.1).toArray.size - 1 = ks.length - 1 := by simp
    rw [sz] at hv
    generalize argBest (fun i j => gtP ((ks[i]?.map (·.2)).getD (0, 0)) ((ks[j]?.map (·.2)).getD (0, 0))) (ks.length - 1) = m at hv b
    have hv' : (ks[m]?.map fun p => Value.ref p.1) = some v := by simpa using hv
    obtain ⟨p, hp, rfl⟩ := Option.map_eq_some_iff.mp hv'
    refine ⟨.ref p.1, H, I.kept (t' := tk) ex, rfl, q p (List.mem_of_getElem? hp) fun p2 hp2 => ?_⟩
    obtain ⟨i, hi⟩ := List.mem_iff_getElem?.mp hp2
    have hlt : i < ks.length := (List.getElem?_eq_some_iff.mp hi).1
    have := b.2 i (by omega)
    simpa [hi, hp] using this
end
end LL
set_option Elab.async false
set_option linter.all false
set_option maxRecDepth 100000
set_option maxHeartbeats 4000000
namespace LL
open PySem L2
/-! ## The mathematics: persons are numbers from 0 on -/
/-! ### crowds -/
/-- the ascending list of those below n of whom f holds -/
def crd (n : Nat) (f : Nat → Bool) : List Nat := (List.range n).filter f
/-- a crowd of n people -/
def Asc (n : Nat) (c : List Nat) : Prop := c.Pairwise (· < ·) ∧ ∀ x ∈ c, x < n
theorem crd_mem {n : Nat} {f : Nat → Bool} {x : Nat} : x ∈ crd n f ↔ x < n ∧ f x = true := by
  unfold crd
  rw [List.mem_filter, List.mem_range]
theorem crd_asc (n : Nat) (f : Nat → Bool) : Asc n (crd n f) := by
  refine ⟨List.Pairwise.filter _ List.pairwise_lt_range, fun x hx => (crd_mem.mp hx).1⟩
theorem asc_ext : ∀ {c d : List Nat}, c.Pairwise (· < ·) → d.Pairwise (· < ·) → (∀ x, x ∈ c ↔ x ∈ d) → c = d
  | [], [], _, _, _ => rfl
  | [], y :: d, _, _, e => by simpa using (e y).mpr List.mem_cons_self
  | x :: c, [], _, _, e => by simpa using (e x).mp List.mem_cons_self
  | x :: c, y :: d, h1, h2, e => by
    obtain ⟨a1, a2⟩ := List.pairwise_cons.mp h1
    obtain ⟨b1, b2⟩ := List.pairwise_cons.mp h2
    have exy : x = y := by
      rcases List.mem_cons.mp ((e x).mp List.mem_cons_self) with z | z
      · exact z
      · rcases List.mem_cons.mp ((e y).mpr List.mem_cons_self) with q | q
        · exact q.symm
        · have := b1 x z
          have := a1 y q
          omega
    subst exy
    rw [asc_ext a2 b2 fun z => ⟨fun hz => ?_, fun hz => ?_⟩]
    · rcases List.mem_cons.mp ((e z).mp (List.mem_cons_of_mem _ hz)) with q | q
      · have := a1 z hz
        omega
      · exact q
    · rcases List.mem_cons.mp ((e z).mpr (List.mem_cons_of_mem _ hz)) with q | q
      · have := b1 z hz
        omega
      · exact q
theorem asc_crd {n : Nat} {c : List Nat} (h : Asc n c) : crd n (fun x => decide (x ∈ c)) = c :=
  asc_ext (crd_asc n _).1 h.1 fun x => by
    rw [crd_mem]
    exact ⟨fun z => of_decide_eq_true z.2, fun z => ⟨h.2 x z, decide_eq_true z⟩⟩
theorem crd_congr {n : Nat} {f g : Nat → Bool} (h : ∀ x, x < n → f x = g x) : crd n f = crd n g :=
  asc_ext (crd_asc n f).1 (crd_asc n g).1 fun x => by
    rw [crd_mem, crd_mem]
    exact ⟨fun z => ⟨z.1, by rw [← h x z.1]; exact z.2⟩, fun z => ⟨z.1, by rw [h x z.1]; exact z.2⟩⟩
theorem asc_nodup {n : Nat} {c : List Nat} (h : Asc n c) : c.Nodup := List.Pairwise.imp (fun {a b} z e => by omega) h.1
theorem asc_length {n : Nat} {c : List Nat} (h : Asc n c) : c.length ≤ n := by
  rw [← asc_crd h]
  unfold crd
  exact Nat.le_trans (List.length_filter_le _ _) (by simp)
theorem asc_filter {n : Nat} {c : List Nat} (h : Asc n c) (f : Nat → Bool) : Asc n (c.filter f) := ⟨List.Pairwise.filter _ h.1, fun x hx => h.2 x (List.mem_filter.mp hx).1⟩
/-! ### bits -/
def bitsN (c : List Nat) : Nat := (c.map fun p => 2 ^ p).sum
theorem bitsN_snoc (c : List Nat) (p : Nat) : bitsN (c ++ [p]) = bitsN c + 2 ^ p := by simp [bitsN]
theorem bitsN_snoc_or {c : List Nat} {p : Nat} (h : bitsN c < 2 ^ p) : bitsN (c ++ [p]) = bitsN c ||| 2 ^ p := by
  rw [bitsN_snoc, Nat.add_comm, Nat.or_comm]
  have := Nat.two_pow_add_eq_or_of_lt h 1
  simpa using this
theorem range_snoc (n : Nat) (f : Nat → Bool) : crd (n + 1) f = crd n f ++ (if f n = true then [n] else []) := by
  unfold crd
  rw [List.range_succ, List.filter_append]
  congr 1
  by_cases h : f n = true <;> simp [h]
theorem bits_crd (f : Nat → Bool) : ∀ n, bitsN (crd n f) < 2 ^ n ∧ ∀ i, (bitsN (crd n f)).testBit i = (decide (i < n) && f i)
  | 0 => ⟨by simp [crd, bitsN], fun i => by simp [crd, bitsN]⟩
  | n + 1 => by
    obtain ⟨h1, h2⟩ := bits_crd f n
    rw [range_snoc]
    by_cases h : f n = true
    · rw [if_pos h]
      refine ⟨?_, fun i => ?_⟩
      · rw [bitsN_snoc, Nat.pow_succ]
        omega
      · rw [bitsN_snoc_or h1, Nat.testBit_or, h2, Nat.testBit_two_pow]
        by_cases e : n = i
        · subst e
          simp [h]
        · rw [decide_eq_false e, Bool.or_false]
          congr 1
          exact decide_eq_decide.mpr (by omega)
    · rw [if_neg h, List.append_nil]
      refine ⟨?_, fun i => ?_⟩
      · rw [Nat.pow_succ]
        omega
      · rw [h2]
        by_cases e : n = i
        · subst e
          simp [h]
        · congr 1
          exact decide_eq_decide.mpr (by omega)
theorem bits_test {n : Nat} {c : List Nat} (h : Asc n c) (i : Nat) : (bitsN c).testBit i = decide (i ∈ c) := by
  have := (bits_crd (fun x => decide (x ∈ c)) n).2 i
  rw [asc_crd h] at this
  rw [this]
  by_cases e : i ∈ c
  · simp [e, h.2 i e]
  · simp [e]
theorem bits_lt {n : Nat} {c : List Nat} (h : Asc n c) : bitsN c < 2 ^ n := by
  have := (bits_crd (fun x => decide (x ∈ c)) n).1
  rwa [asc_crd h] at this
/-- some of the bits are all the bits of another number -/
theorem holds_iff (f m : Nat) : f &&& m = m ↔ ∀ i, m.testBit i = true → f.testBit i = true := by
  constructor
  · intro h i hi
    rw [← h, Nat.testBit_and] at hi
    exact (Bool.and_eq_true_iff.mp hi).1
  · intro h
    refine Nat.eq_of_testBit_eq fun i => ?_
    rw [Nat.testBit_and]
    cases e : m.testBit i with
    | false => simp
    | true => simp [h i e]
theorem holds_bits {n : Nat} {c d : List Nat} (hc : Asc n c) (hd : Asc n d) : bitsN c &&& bitsN d = bitsN d ↔ ∀ x ∈ d, x ∈ c := by
  rw [holds_iff]
  constructor
  · intro h x hx
    have := h x (by rw [bits_test hd]; exact decide_eq_true hx)
    rw [bits_test hc] at this
    exact of_decide_eq_true this
  · intro h i hi
    rw [bits_test hd] at hi
    rw [bits_test hc]
    exact decide_eq_true (h i (of_decide_eq_true hi))
theorem lt_of_bits {n b : Nat} (h : ∀ i, b.testBit i = true → i < n) : b < 2 ^ n := Nat.lt_pow_two_of_testBit b fun i hi => by
  cases e : b.testBit i with
  | false => rfl
  | true =>
    have := h i e
    omega
/-- the crowd of some bits, L at least as many as they need -/
theorem crowdOf_eq {n L b : Nat} (h1 : b < 2 ^ n) (h2 : b < 2 ^ L) : crd L b.testBit = crd n b.testBit :=
  asc_ext (crd_asc _ _).1 (crd_asc _ _).1 fun x => by
    rw [crd_mem, crd_mem]
    have key : ∀ k, b < 2 ^ k → b.testBit x = true → x < k := fun k hk hx => by
      cases Nat.lt_or_ge x k with
      | inl h => exact h
      | inr h =>
        have := Nat.testBit_lt_two_pow (Nat.lt_of_lt_of_le hk (Nat.pow_le_pow_right (by decide) h))
        rw [this] at hx
        cases hx
    exact ⟨fun z => ⟨key n h1 z.2, z.2⟩, fun z => ⟨key L h2 z.2, z.2⟩⟩
theorem crowd_bits {n : Nat} {c : List Nat} (h : Asc n c) : crd n (bitsN c).testBit = c := by
  rw [crd_congr (g := fun x => decide (x ∈ c)) fun x _ => bits_test h x]
  exact asc_crd h
theorem bits_crowd {n b : Nat} (h : b < 2 ^ n) : bitsN (crd n b.testBit) = b := Nat.eq_of_testBit_eq fun i => by
  rw [(bits_crd b.testBit n).2 i]
  cases e : b.testBit i with
  | false => simp
  | true =>
    cases Nat.lt_or_ge i n with
    | inl q => simp [q]
    | inr q =>
      have := Nat.testBit_lt_two_pow (Nat.lt_of_lt_of_le h (Nat.pow_le_pow_right (by decide) q))
      rw [this] at e
      cases e
/-- a lot without one of it -/
theorem bits_without {n : Nat} {c : List Nat} {p : Nat} (h : Asc n c) (hp : p ∈ c) : bitsN c ^^^ 2 ^ p = bitsN (c.filter fun x => !decide (x = p)) := Nat.eq_of_testBit_eq fun i => by
  rw [Nat.testBit_xor, bits_test h, bits_test (asc_filter h _), Nat.testBit_two_pow]
  by_cases e : p = i
  · subst e
    simp [hp]
  · have e' : ¬ i = p := fun z => e z.symm
    by_cases m : i ∈ c <;> simp [m, e, e']
/-! ### who is let in -/
/-- one is kept out by some others that are all inside -/
def barred (ls : List (List Nat)) (ins : List Nat) : Bool := ls.any fun o => o.all fun x => decide (x ∈ ins)
def letL (oth : Nat → List (List Nat)) (c : Nat → Bool) : List Nat → List Nat → List Nat
  | [], ins => ins
  | p :: r, ins => letL oth c r (if (c p && !barred (oth p) ins) = true then ins ++ [p] else ins)
theorem letL_sub (oth : Nat → List (List Nat)) (c : Nat → Bool) : ∀ (O ins : List Nat) (x : Nat), x ∈ ins → x ∈ letL oth c O ins
  | [], _, _, h => h
  | p :: r, ins, x, h => by
    unfold letL
    refine letL_sub oth c r _ x ?_
    split
    · exact List.mem_append_left _ h
    · exact h
theorem letL_mem (oth : Nat → List (List Nat)) (c : Nat → Bool) : ∀ (O ins : List Nat) (x : Nat), x ∈ letL oth c O ins → x ∈ ins ∨ (x ∈ O ∧ c x = true)
  | [], _, _, h => .inl h
  | p :: r, ins, x, h => by
    unfold letL at h
    rcases letL_mem oth c r _ x h with z | z
    · split at z
      · rename_i hc
        rcases List.mem_append.mp z with q | q
        · exact .inl q
        · have e := List.mem_singleton.mp q
          subst e
          exact .inr ⟨List.mem_cons_self, (Bool.and_eq_true_iff.mp hc).1⟩
      · exact .inl z
    · exact .inr ⟨List.mem_cons_of_mem _ z.1, z.2⟩
theorem letL_snoc (oth : Nat → List (List Nat)) (c : Nat → Bool) (p : Nat) : ∀ (O ins : List Nat), letL oth c (O ++ [p]) ins = (if (c p && !barred (oth p) (letL oth c O ins)) = true then letL oth c O ins ++ [p] else letL oth c O ins)
  | [], ins => rfl
  | q :: r, ins => by
    show letL oth c (r ++ [p]) _ = _
    rw [letL_snoc oth c p r]
    rfl
theorem letL_nodup (oth : Nat → List (List Nat)) (c : Nat → Bool) : ∀ (O ins : List Nat), (ins ++ O).Nodup → (letL oth c O ins).Nodup
  | [], ins, h => by simpa [letL] using h
  | p :: r, ins, h => by
    unfold letL
    refine letL_nodup oth c r _ ?_
    split
    · simpa using h
    · refine List.Nodup.sublist ?_ h
      exact List.Sublist.append (List.Sublist.refl _) (List.sublist_cons_self _ _)
/-- from a crowd between those let in and the crowd the same are let in -/
theorem letL_mid (oth : Nat → List (List Nat)) {c m : Nat → Bool} (h1 : ∀ x, m x = true → c x = true) : ∀ (O ins : List Nat), (∀ x ∈ letL oth c O ins, m x = true ∨ x ∈ ins) → (∀ x ∈ O, x ∉ ins) → O.Nodup → letL oth m O ins = letL oth c O ins
  | [], _, _, _, _ => rfl
  | p :: r, ins, h2, h3, h4 => by
    obtain ⟨n1, n2⟩ := List.nodup_cons.mp h4
    have step : (if (m p && !barred (oth p) ins) = true then ins ++ [p] else ins) = (if (c p && !barred (oth p) ins) = true then ins ++ [p] else ins) := by
      cases hb : barred (oth p) ins with
      | true => simp
      | false =>
        by_cases hc : c p = true
        · have hp : p ∈ letL oth c (p :: r) ins := by
            unfold letL
            refine letL_sub oth c r _ p ?_
            simp [hc, hb]
          have hm : m p = true := (h2 p hp).resolve_right (h3 p List.mem_cons_self)
          simp [hc, hm]
        · have hm : ¬ m p = true := fun z => hc (h1 p z)
          simp [hc, hm]
    show letL oth m r _ = letL oth c r _
    rw [step]
    have h2' : ∀ x ∈ letL oth c r (if (c p && !barred (oth p) ins) = true then ins ++ [p] else ins), m x = true ∨ x ∈ ins := h2
    refine letL_mid oth h1 r _ (fun x hx => ?_) (fun x hx => ?_) n2
    · rcases h2' x hx with z | z
      · exact .inl z
      · right
        split
        · exact List.mem_append_left _ z
        · exact z
    · have nx := h3 x (List.mem_cons_of_mem _ hx)
      split
      · intro hm
        rcases List.mem_append.mp hm with q | q
        · exact nx q
        · have e := List.mem_singleton.mp q
          subst e
          exact n1 hx
      · exact nx
/-- the crowd of those let in from a crowd -/
def LET (n : Nat) (O : List Nat) (oth : Nat → List (List Nat)) (c : List Nat) : List Nat := crd n fun x => decide (x ∈ letL oth (fun p => decide (p ∈ c)) O [])
theorem LET_asc {n : Nat} {O : List Nat} {oth : Nat → List (List Nat)} {c : List Nat} : Asc n (LET n O oth c) := crd_asc _ _
theorem LET_mid {n : Nat} {O : List Nat} {oth : Nat → List (List Nat)} {c m : List Nat} (hO : O.Nodup) (hn : ∀ x ∈ O, x < n) (h1 : ∀ x ∈ m, x ∈ c) (h2 : ∀ x ∈ LET n O oth c, x ∈ m) : LET n O oth m = LET n O oth c := by
  have e : letL oth (fun p => decide (p ∈ m)) O [] = letL oth (fun p => decide (p ∈ c)) O [] := by
    refine letL_mid oth (fun x hx => decide_eq_true (h1 x (of_decide_eq_true hx))) O [] (fun x hx => .inl (decide_eq_true (h2 x ?_))) (fun _ _ h => by cases h) hO
    unfold LET
    rw [crd_mem]
    rcases letL_mem _ _ _ _ _ hx with z | z
    · cases z
    · exact ⟨hn x z.1, decide_eq_true hx⟩
  unfold LET
  rw [e]
theorem any_mem {α : Type} {p q : α → Bool} : ∀ {l : List α}, (∀ a ∈ l, p a = q a) → l.any p = l.any q
  | [], _ => rfl
  | a :: l, h => by
    rw [List.any_cons, List.any_cons, h a List.mem_cons_self, any_mem fun b hb => h b (List.mem_cons_of_mem _ hb)]
theorem all_mem {α : Type} {p q : α → Bool} : ∀ {l : List α}, (∀ a ∈ l, p a = q a) → l.all p = l.all q
  | [], _ => rfl
  | a :: l, h => by
    rw [List.all_cons, List.all_cons, h a List.mem_cons_self, all_mem fun b hb => h b (List.mem_cons_of_mem _ hb)]
/-- the program's going, by bits -/
def inB (B : Nat → List Nat) (b : Nat) : List Nat → Nat → Nat
  | [], f => f
  | p :: r, f => inB B b r (if (b.testBit p && !(B p).any fun o => decide (f &&& o = o)) = true then f ||| 2 ^ p else f)
theorem inB_snoc (B : Nat → List Nat) (b p : Nat) : ∀ (O : List Nat) (f : Nat), inB B b (O ++ [p]) f = (if (b.testBit p && !(B p).any fun o => decide (inB B b O f &&& o = o)) = true then inB B b O f ||| 2 ^ p else inB B b O f)
  | [], f => rfl
  | q :: r, f => by
    show inB B b (r ++ [p]) _ = _
    rw [inB_snoc B b p r]
    rfl
theorem inB_let {n : Nat} {B : Nat → List Nat} {oth : Nat → List (List Nat)} (b : Nat) : ∀ (O : List Nat) (f : Nat) (ins : List Nat), (∀ p ∈ O, B p = (oth p).map bitsN ∧ ∀ o ∈ oth p, Asc n o) → (∀ i, f.testBit i = decide (i ∈ ins)) →
    ∀ i, (inB B b O f).testBit i = decide (i ∈ letL oth b.testBit O ins)
  | [], _, _, _, h => h
  | p :: r, f, ins, hO, h => by
    obtain ⟨e1, e2⟩ := hO p List.mem_cons_self
    have eb : ((B p).any fun o => decide (f &&& o = o)) = barred (oth p) ins := by
      rw [e1, List.any_map]
      refine any_mem fun o ho => ?_
      have ha := e2 o ho
      show decide (f &&& bitsN o = bitsN o) = o.all fun x => decide (x ∈ ins)
      cases q : o.all fun x => decide (x ∈ ins) with
      | true =>
        refine decide_eq_true ((holds_iff _ _).mpr fun i hi => ?_)
        rw [bits_test ha] at hi
        rw [h]
        exact List.all_eq_true.mp q i (of_decide_eq_true hi)
      | false =>
        refine decide_eq_false fun z => ?_
        have all : o.all (fun x => decide (x ∈ ins)) = true := List.all_eq_true.mpr fun x hx => by
          have := (holds_iff _ _).mp z x (by rw [bits_test ha]; exact decide_eq_true hx)
          rwa [h] at this
        rw [q] at all
        cases all
    have es : ∀ i, (if (b.testBit p && !(B p).any fun o => decide (f &&& o = o)) = true then f ||| 2 ^ p else f).testBit i = decide (i ∈ (if (b.testBit p && !barred (oth p) ins) = true then ins ++ [p] else ins)) := fun i => by
      rw [eb]
      split
      · rw [Nat.testBit_or, h, Nat.testBit_two_pow]
        by_cases q : p = i
        · subst q
          simp
        · have q' : ¬ i = p := fun z => q z.symm
          simp [q, q']
      · exact h i
    exact inB_let b r _ _ (fun q hq => hO q (List.mem_cons_of_mem _ hq)) es
/-- the program's answer, from the bits of a crowd -/
theorem inB_LET {n : Nat} {O : List Nat} {B : Nat → List Nat} {oth : Nat → List (List Nat)} {b : Nat} (hb : b < 2 ^ n) (hn : ∀ x ∈ O, x < n) (hB : ∀ p ∈ O, B p = (oth p).map bitsN ∧ ∀ o ∈ oth p, Asc n o) :
    inB B b O 0 < 2 ^ n ∧ crd n (inB B b O 0).testBit = LET n O oth (crd n b.testBit) := by
  have t := inB_let b O 0 [] hB (fun i => by simp)
  have e : letL oth b.testBit O [] = letL oth (fun p => decide (p ∈ crd n b.testBit)) O [] := by
    have go : ∀ (O ins : List Nat), (∀ x ∈ O, x < n) → letL oth b.testBit O ins = letL oth (fun p => decide (p ∈ crd n b.testBit)) O ins := by
      intro O
      induction O with
      | nil => intro _ _; rfl
      | cons p r ih =>
        intro ins h
        show letL oth b.testBit r _ = letL oth _ r _
        have ep : decide (p ∈ crd n b.testBit) = b.testBit p := by
          cases q : b.testBit p with
          | true => exact decide_eq_true (crd_mem.mpr ⟨h p List.mem_cons_self, q⟩)
          | false =>
            refine decide_eq_false fun z => ?_
            rw [(crd_mem.mp z).2] at q
            cases q
        rw [ih _ fun x hx => h x (List.mem_cons_of_mem _ hx)]
        simp only [ep]
    exact go O [] hn
  refine ⟨lt_of_bits fun i hi => ?_, crd_congr fun x _ => ?_⟩
  · rw [t] at hi
    rcases letL_mem _ _ _ _ _ (of_decide_eq_true hi) with z | z
    · cases z
    · exact hn i z.1
  · rw [t, e]
/-! ### all crowds, as the program lists them by size -/
/-- where a crowd may go on -/
def nxt (c : List Nat) : Nat := match c.getLast? with
  | some l => l + 1
  | none => 0
def ext (n : Nat) (c : List Nat) : List (List Nat) := (List.range (n - nxt c)).map fun j => c ++ [nxt c + j]
def lev (n : Nat) : Nat → List (List Nat)
  | 0 => [[]]
  | s + 1 => ((lev n s).map (ext n)).flatten
theorem nxt_snoc (c : List Nat) (p : Nat) : nxt (c ++ [p]) = p + 1 := by
  unfold nxt
  rw [List.getLast?_append]
  simp
theorem nxt_gt {c : List Nat} (h : c.Pairwise (· < ·)) : ∀ x ∈ c, x < nxt c := by
  intro x hx
  rcases List.eq_nil_or_concat c with e | ⟨d, l, e⟩
  · subst e
    cases hx
  · rw [List.concat_eq_append] at e
    subst e
    rw [nxt_snoc]
    rcases List.mem_append.mp hx with q | q
    · have := (List.pairwise_append.mp h).2.2 x q l List.mem_cons_self
      omega
    · have := List.mem_singleton.mp q
      omega
theorem asc_snoc {n : Nat} {c : List Nat} {p : Nat} (h : Asc n c) (h1 : nxt c ≤ p) (h2 : p < n) : Asc n (c ++ [p]) := by
  refine ⟨List.pairwise_append.mpr ⟨h.1, List.pairwise_singleton _ _, fun x hx y hy => ?_⟩, fun x hx => ?_⟩
  · rw [List.mem_singleton.mp hy]
    exact Nat.lt_of_lt_of_le (nxt_gt h.1 x hx) h1
  · rcases List.mem_append.mp hx with q | q
    · exact h.2 x q
    · rw [List.mem_singleton.mp q]
      exact h2
theorem asc_init {n : Nat} {c : List Nat} {p : Nat} (h : Asc n (c ++ [p])) : Asc n c ∧ nxt c ≤ p ∧ p < n := by
  obtain ⟨a1, a2, a3⟩ := List.pairwise_append.mp h.1
  have hc : Asc n c := ⟨a1, fun x hx => h.2 x (List.mem_append_left _ hx)⟩
  refine ⟨hc, ?_, h.2 p (List.mem_append_right _ List.mem_cons_self)⟩
  rcases List.eq_nil_or_concat c with e | ⟨d, l, e⟩
  · subst e
    exact Nat.zero_le _
  · rw [List.concat_eq_append] at e
    subst e
    rw [nxt_snoc]
    exact a3 l (List.mem_append_right _ List.mem_cons_self) p List.mem_cons_self
theorem bits_asc_snoc {n : Nat} {c : List Nat} {p : Nat} (h : Asc n c) (h1 : nxt c ≤ p) : bitsN (c ++ [p]) = bitsN c ||| 2 ^ p := by
  refine bitsN_snoc_or ?_
  have hc : Asc p c := ⟨h.1, fun x hx => Nat.lt_of_lt_of_le (nxt_gt h.1 x hx) h1⟩
  exact bits_lt hc
theorem ext_mem {n : Nat} {c d : List Nat} : d ∈ ext n c ↔ ∃ p, nxt c ≤ p ∧ p < n ∧ d = c ++ [p] := by
  unfold ext
  rw [List.mem_map]
  constructor
  · rintro ⟨j, hj, rfl⟩
    have := List.mem_range.mp hj
    exact ⟨nxt c + j, by omega, by omega, rfl⟩
  · rintro ⟨p, h1, h2, rfl⟩
    exact ⟨p - nxt c, List.mem_range.mpr (by omega), by rw [show nxt c + (p - nxt c) = p by omega]⟩
theorem lev_asc {n : Nat} : ∀ (s : Nat) (c : List Nat), c ∈ lev n s → Asc n c
  | 0, c, h => by
    rw [List.mem_singleton.mp h]
    exact ⟨.nil, fun _ h => by cases h⟩
  | s + 1, c, h => by
    obtain ⟨l, hl, hc⟩ := List.mem_flatten.mp h
    obtain ⟨d, hd, rfl⟩ := List.mem_map.mp hl
    obtain ⟨p, h1, h2, rfl⟩ := ext_mem.mp hc
    exact asc_snoc (lev_asc s d hd) h1 h2
theorem lev_all {n : Nat} : ∀ (s : Nat) (c : List Nat), Asc n c → c.length = s → c ∈ lev n s
  | 0, c, _, h => by
    have : c = [] := List.length_eq_zero_iff.mp h
    subst this
    exact List.mem_cons_self
  | s + 1, c, ha, h => by
    rcases List.eq_nil_or_concat c with e | ⟨d, p, e⟩
    · subst e
      cases h
    · rw [List.concat_eq_append] at e
      subst e
      obtain ⟨h1, h2, h3⟩ := asc_init ha
      refine List.mem_flatten.mpr ⟨_, List.mem_map.mpr ⟨d, lev_all s d h1 (by simpa using h), rfl⟩, ext_mem.mpr ⟨p, h2, h3, rfl⟩⟩
def levsize (n s : Nat) : Nat := (lev n s).length
theorem lev_few : ∀ n, n ≤ 10 → ∀ s, s ≤ 10 → (lev n s).length ≤ 1024 := by
  have h : ((List.range 11).all fun n => (List.range 11).all fun s => Nat.ble (lev n s).length 1024) = true := by decide +kernel
  intro n hn s hs
  have h1 := List.all_eq_true.mp h n (List.mem_range.mpr (by omega))
  exact Nat.le_of_ble_eq_true (List.all_eq_true.mp h1 s (List.mem_range.mpr (by omega)))
/-- all crowds up to a size -/
def levs (n : Nat) (k : Nat) : List (List Nat) := ((List.range k).map (lev n)).flatten
theorem levs_succ (n k : Nat) : levs n (k + 1) = levs n k ++ lev n k := by
  unfold levs
  rw [List.range_succ, List.map_append, List.flatten_append]
  simp
theorem levs_few : ∀ n, n ≤ 10 → ∀ k, k ≤ 11 → (levs n k).length ≤ 20000 := by
  intro n hn k
  induction k with
  | zero => intro _; exact Nat.zero_le _
  | succ k ih =>
    intro hk
    have a : (levs n k).length ≤ 1024 * k := by
      clear ih
      induction k with
      | zero => exact Nat.zero_le _
      | succ k ih2 =>
        have b := ih2 (by omega)
        have c := lev_few n hn k (by omega)
        rw [levs_succ, List.length_append]
        omega
    have c := lev_few n hn k (by omega)
    rw [levs_succ, List.length_append]
    omega
theorem levs_mem {n : Nat} {c : List Nat} : c ∈ levs n (n + 1) ↔ Asc n c := by
  unfold levs
  rw [List.mem_flatten]
  constructor
  · rintro ⟨l, hl, hc⟩
    obtain ⟨s, _, rfl⟩ := List.mem_map.mp hl
    exact lev_asc s c hc
  · intro h
    refine ⟨lev n c.length, List.mem_map.mpr ⟨c.length, List.mem_range.mpr ?_, rfl⟩, lev_all _ c h rfl⟩
    have := asc_length h
    omega
/-! ### all crowds, as the law lists them -/
def allC : Nat → List (List Nat)
  | 0 => [[]]
  | n + 1 => allC n ++ (allC n).map fun c => c ++ [n]
theorem allC_length : ∀ n, (allC n).length = 2 ^ n
  | 0 => rfl
  | n + 1 => by
    show (allC n ++ (allC n).map fun c => c ++ [n]).length = _
    rw [List.length_append, List.length_map, allC_length n, Nat.pow_succ]
    omega
theorem allC_mem : ∀ {n : Nat} {c : List Nat}, c ∈ allC n ↔ Asc n c
  | 0, c => by
    show c ∈ [[]] ↔ _
    rw [List.mem_singleton]
    constructor
    · rintro rfl
      exact ⟨.nil, fun _ h => by cases h⟩
    · intro h
      cases c with
      | nil => rfl
      | cons x r =>
        have := h.2 x List.mem_cons_self
        omega
  | n + 1, c => by
    show c ∈ allC n ++ _ ↔ _
    rw [List.mem_append, List.mem_map]
    constructor
    · rintro (h | ⟨d, hd, rfl⟩)
      · have a := allC_mem.mp h
        exact ⟨a.1, fun x hx => Nat.lt_succ_of_lt (a.2 x hx)⟩
      · have a := allC_mem.mp hd
        refine asc_snoc ⟨a.1, fun x hx => Nat.lt_succ_of_lt (a.2 x hx)⟩ ?_ (Nat.lt_succ_self _)
        rcases List.eq_nil_or_concat d with e | ⟨d', l, e⟩
        · subst e
          exact Nat.zero_le _
        · rw [List.concat_eq_append] at e
          subst e
          rw [nxt_snoc]
          exact a.2 l (List.mem_append_right _ List.mem_cons_self)
    · intro h
      by_cases m : n ∈ c
      · right
        rcases List.eq_nil_or_concat c with e | ⟨d, l, e⟩
        · subst e
          cases m
        · rw [List.concat_eq_append] at e
          subst e
          obtain ⟨h1, h2, h3⟩ := asc_init h
          have el : l = n := by
            rcases List.mem_append.mp m with q | q
            · have := nxt_gt h1.1 n q
              omega
            · exact (List.mem_singleton.mp q).symm
          subst el
          exact ⟨d, allC_mem.mpr ⟨h1.1, fun x hx => Nat.lt_of_lt_of_le (nxt_gt h1.1 x hx) h2⟩, rfl⟩
      · left
        refine allC_mem.mpr ⟨h.1, fun x hx => ?_⟩
        have := h.2 x hx
        have : x ≠ n := fun e => m (e ▸ hx)
        omega
/-! ### the last of a lot -/
def lst (O lot : List Nat) : Nat := ((O.filter fun x => decide (x ∈ lot)).getLast?).getD 0
theorem lst_of {O lot : List Nat} {k p : Nat} (hk : O[k]? = some p) (hp : p ∈ lot) (hl : ∀ (j : Nat) (q : Nat), O[j]? = some q → q ∈ lot → j ≤ k) : lst O lot = p ∧ (O.filter fun x => decide (x ∈ lot)).getLast? = some p := by
  have lt : k < O.length := (List.getElem?_eq_some_iff.mp hk).1
  have e : O = O.take k ++ p :: O.drop (k + 1) := by
    have := List.take_append_drop k O
    rw [List.drop_eq_getElem_cons lt] at this
    have e2 : O[k] = p := by
      have := List.getElem?_eq_getElem lt
      rw [this] at hk
      exact Option.some.inj hk
    rw [e2] at this
    exact this.symm
  have no : (O.drop (k + 1)).filter (fun x => decide (x ∈ lot)) = [] := by
    rw [List.filter_eq_nil_iff]
    intro x hx z
    obtain ⟨j, hj⟩ := List.mem_iff_getElem?.mp hx
    rw [List.getElem?_drop] at hj
    have := hl _ _ hj (of_decide_eq_true z)
    omega
  have f : O.filter (fun x => decide (x ∈ lot)) = (O.take k).filter (fun x => decide (x ∈ lot)) ++ [p] := by
    conv => lhs; rw [e]
    rw [List.filter_append, List.filter_cons, if_pos (decide_eq_true hp), no]
  have g : (O.filter fun x => decide (x ∈ lot)).getLast? = some p := by
    rw [f, List.getLast?_append]
    simp
  exact ⟨by unfold lst; rw [g]; rfl, g⟩
theorem lst_mem {O lot : List Nat} (h : ∃ x ∈ O, x ∈ lot) : lst O lot ∈ lot ∧ lst O lot ∈ O ∧ (O.filter fun x => decide (x ∈ lot)).getLast? = some (lst O lot) := by
  obtain ⟨x, h1, h2⟩ := h
  have ne : (O.filter fun x => decide (x ∈ lot)) ≠ [] := fun z => by
    have : x ∈ O.filter fun x => decide (x ∈ lot) := List.mem_filter.mpr ⟨h1, decide_eq_true h2⟩
    rw [z] at this
    cases this
  have e := List.getLast?_eq_some_getLast ne
  have m := List.getLast_mem ne
  have el : lst O lot = (O.filter fun x => decide (x ∈ lot)).getLast ne := by
    unfold lst
    rw [e]
    rfl
  rw [el]
  exact ⟨of_decide_eq_true (List.mem_filter.mp m).2, (List.mem_filter.mp m).1, e⟩
/-- the others of the lots whose last one is -/
def oth (O : List Nat) (lots : List (List Nat)) (p : Nat) : List (List Nat) := (lots.filter fun l => decide (lst O l = p)).map fun l => l.filter fun x => !decide (x = p)
/-! ### the least of some lots -/
def within (c d : List Nat) : Bool := c.all fun x => decide (x ∈ d)
theorem within_iff {c d : List Nat} : within c d = true ↔ ∀ x ∈ c, x ∈ d := by
  unfold within
  rw [List.all_eq_true]
  exact ⟨fun h x hx => of_decide_eq_true (h x hx), fun h x hx => decide_eq_true (h x hx)⟩
/-- lots of a book: of n people, two persons at least, ascending, none within another one -/
structure Lots (n : Nat) (ls : List (List Nat)) : Prop where
  asc : ∀ l ∈ ls, Asc n l
  two : ∀ l ∈ ls, 2 ≤ l.length
  up : ls.Pairwise fun a b => HT.lexLt (a.map fun x : Nat => (x : Int)) (b.map fun x : Nat => (x : Int)) = true
  apart : ∀ a ∈ ls, ∀ b ∈ ls, a ≠ b → within a b = false
  few : ls.length ≤ 60
theorem lexLt_of {a b : List Int} (h : ¬ b < a) (ne : a ≠ b) : HT.lexLt a b = true := by
  induction a generalizing b with
  | nil =>
    cases b with
    | nil => exact absurd rfl ne
    | cons y r => rfl
  | cons x a ih =>
    cases b with
    | nil => exact absurd (List.nil_lt_cons x a) h
    | cons y b =>
      rw [HT.lexLt_cons]
      by_cases e : x = y
      · subst e
        rw [if_pos rfl]
        refine ih (fun z => h ?_) fun z => ne (by rw [z])
        exact List.cons_lt_cons_iff.mpr (.inr ⟨rfl, z⟩)
      · rw [if_neg e]
        refine decide_eq_true ?_
        have : ¬ y < x := fun z => h (List.cons_lt_cons_iff.mpr (.inl z))
        omega
theorem lexLt_enc {a b : List Int} (h : PySem.W.dataLt (encT b) (encT a) = false) (ne : a ≠ b) : HT.lexLt a b = true := by
  refine lexLt_of (fun z => ?_) ne
  have e : PySem.W.dataLt (encT b) (encT a) = PySem.W.rowLt (b.map PyData.int) (a.map PyData.int) := PySem.W.dataLt_tuple _ _
  rw [e, PySem.W.dataLt_ints, decide_eq_true z] at h
  cases h
/-! ### sorted ints -/
theorem ints_sorted {ms : List Int} {n : Nat} {ins : List Nat} (hp : ms.Perm (ins.map fun x : Nat => (x : Int))) (hs : ms.Pairwise (· ≤ ·)) (nd : ins.Nodup) (hn : ∀ x ∈ ins, x < n) : ms = (crd n fun x => decide (x ∈ ins)).map fun x : Nat => (x : Int) := by
  have p2 : (crd n fun x => decide (x ∈ ins)).Perm ins := by
    refine (List.perm_ext_iff_of_nodup (asc_nodup (crd_asc n _)) nd).mpr fun x => ?_
    rw [crd_mem]
    exact ⟨fun z => of_decide_eq_true z.2, fun z => ⟨hn x z, decide_eq_true z⟩⟩
  have s2 : ((crd n fun x => decide (x ∈ ins)).map fun x : Nat => (x : Int)).Pairwise (· ≤ ·) := by
    rw [List.pairwise_map]
    exact List.Pairwise.imp (fun {a b} z => by omega) (crd_asc n _).1
  exact (PySem.W.os_sorted_mergeSort hp hs).trans (PySem.W.os_sorted_mergeSort (p2.map _) s2).symm
/-- two lists without repetition of the same items are as long -/
theorem len_same {α : Type} [DecidableEq α] {a b : List α} (ha : a.Nodup) (hb : b.Nodup) (h : ∀ x, x ∈ a ↔ x ∈ b) : a.length = b.length := ((List.perm_ext_iff_of_nodup ha hb).mpr h).length_eq
end LL
set_option Elab.async false
set_option linter.all false
set_option maxRecDepth 100000
set_option maxHeartbeats 4000000
namespace LL
open PySem PySem.Spec PyProof.Rows L2
/-! ## The walk: what every def leans on -/
def top (i : Nat) : Stmt := PySem.Challenge.pw_lastoflot_k12_whole_outcomes_of_all_crow.main.body.getD i (.Pass ⟨0, 0, 0, 0⟩)
/-- the built-in names are not the module's own -/
structure Bt (mg : Str → Option Value) : Prop where
  t_len : mg "len" = none
  t_range : mg "range" = none
  t_isinstance : mg "isinstance" = none
  t_all : mg "all" = none
  t_any : mg "any" = none
  t_sum : mg "sum" = none
  t_max : mg "max" = none
  t_min : mg "min" = none
  t_sorted : mg "sorted" = none
  t_int : mg "int" = none
  t_bool : mg "bool" = none
  t_tuple : mg "tuple" = none
  t_list : mg "list" = none
  t_dict : mg "dict" = none
  t_str : mg "str" = none
  t_set : mg "set" = none
  t_enumerate : mg "enumerate" = none
  t_zip : mg "zip" = none
theorem b_len : bootBuiltins "len" = some (.builtin "len") := by decide +kernel
theorem b_isinstance : bootBuiltins "isinstance" = some (.builtin "isinstance") := by decide +kernel
theorem b_all : bootBuiltins "all" = some (.builtin "all") := by decide +kernel
theorem b_any : bootBuiltins "any" = some (.builtin "any") := by decide +kernel
theorem b_sum : bootBuiltins "sum" = some (.builtin "sum") := by decide +kernel
theorem b_max : bootBuiltins "max" = some (.builtin "max") := by decide +kernel
theorem b_min : bootBuiltins "min" = some (.builtin "min") := by decide +kernel
theorem b_sorted : bootBuiltins "sorted" = some (.builtin "sorted") := by decide +kernel
theorem b_int : bootBuiltins "int" = some (.type "int") := by decide +kernel
theorem b_bool : bootBuiltins "bool" = some (.type "bool") := by decide +kernel
theorem b_tuple : bootBuiltins "tuple" = some (.type "tuple") := by decide +kernel
theorem b_list : bootBuiltins "list" = some (.type "list") := by decide +kernel
theorem b_dict : bootBuiltins "dict" = some (.type "dict") := by decide +kernel
theorem b_str : bootBuiltins "str" = some (.type "str") := by decide +kernel
theorem b_set : bootBuiltins "set" = some (.type "set") := by decide +kernel
/-- a def as its callers know it -/
structure Cal (P : Program) (w : World) (K : PySem.W.Frag) (mg : Str → Option Value) (base : Heap) (x : Str) (k : Nat) (ps : List Str) (sp : Sp) : Prop where
  ex : ∃ (f : Addr) (fd : FuncData), FnOk P w K mg base CX0 k f fd ps sp ∧ mg x = some (.ref f) ∧ PySem.W.keepIn K (.ref f) = true ∧ Binds K fd ps []
theorem Cal.weak {P : Program} {w : World} {K : PySem.W.Frag} {mg : Str → Option Value} {base : Heap} {x : Str} {k : Nat} {ps : List Str} {sp sp' : Sp} (c : Cal P w K mg base x k ps sp) (h : ∀ vs H Q E, sp' vs H Q E → sp vs H Q E) : Cal P w K mg base x k ps sp' := by
  obtain ⟨f, fd, F, r⟩ := c.ex
  exact ⟨f, fd, F.imp h, r⟩
theorem pe_cal {X : Cx} {x : Str} {j k : Nat} {ps : List Str} {sp : Sp} {p pos : Pos} {e : Expr} {es : List Expr} {t : TA} (C : Cal X.prog X.w X.K X.mg X.base x j ps sp) (hr : Room k X.A) (hj : j ≤ k) (hg : Gl X x) (ha : PA X (e :: es) t)
    (hdb : (x == ("__debug__" : Str)) = false := by decide) (he : starEach (e :: es) X.env = (false, eval e X.env) :: starEach es X.env := by rfl) (hpl : (backTo pos (starEach es X.env)).any (·.1) = false := by rfl) :
    PE X (.Call (.Name x p) (e :: es) [] pos) (tCall sp [] E0 t) := by
  obtain ⟨f, fd, F, g, kp, b⟩ := C.ex
  exact pe_call F (hr.mono hj) hg g kp b .nil pass0 ha hdb he hpl
/-- a class that is made by its __init__ -/
structure CalC (P : Program) (w : World) (K : PySem.W.Frag) (mg : Str → Option Value) (base : Heap) (x : Str) (C : Addr) (k : Nat) (ps : List Str) (sp : Sp) : Prop where
  ex : ∃ (f : Addr) (fd : FuncData), Mk K C f ∧ FnOk P w K mg base CX0 k f fd ps sp ∧ mg x = some (.ref C) ∧ Binds K fd ps []
theorem pe_mk {X : Cx} {x : Str} {C : Addr} {j k : Nat} {ps : List Str} {sp : Sp} {p pos : Pos} {e : Expr} {es : List Expr} {t : TA} (c : CalC X.prog X.w X.K X.mg X.base x C j ps sp) (hr : Room k X.A) (hj : j + 1 ≤ k) (hg : Gl X x) (ha : PA X (e :: es) t)
    (hdb : (x == ("__debug__" : Str)) = false := by decide) (he : starEach (e :: es) X.env = (false, eval e X.env) :: starEach es X.env := by rfl) (hpl : (backTo pos (starEach es X.env)).any (·.1) = false := by rfl) :
    PE X (.Call (.Name x p) (e :: es) [] pos) (tMake C sp [] E0 t) := by
  obtain ⟨f, fd, M, F, g, b⟩ := c.ex
  exact pe_make M F (hr.mono hj) hg g b .nil pass0 ha hdb he hpl
/-- the body keeps the promise: so the callers know it -/
theorem calOf {P : Program} {w : World} {K : PySem.W.Frag} {mg : Str → Option Value} {base : Heap} {x : Str} {k : Nat} {ps : List Str} {sp : Sp} {f : Addr} {fd : FuncData} (F : FnOk P w K mg base CX0 k f fd ps sp) (g : mg x = some (.ref f)) (kp : PySem.W.keepIn K (.ref f) = true) (b : Binds K fd ps []) : Cal P w K mg base x k ps sp := ⟨f, fd, F, g, kp, b⟩
theorem hu64_of {A : Around} {k : Nat} (hr : Room k A) : A.units + 64 < cLine := by
  have := hr.un
  omega
/-! ### what stands between two steps may be said -/
section
variable {X : Cx}
def tCut (t : TE) : TE := fun σ H Q => ∃ Q0 : VK, t σ H Q0 ∧ ∀ x H1, Q0 x H1 → Q x H1
def tCutT (t : TT) : TT := fun σ H Q => ∃ Q0 : Bool → Hp → Prop, t σ H Q0 ∧ ∀ b H1, Q0 b H1 → Q b H1
theorem pe_cut {e : Expr} {t : TE} (h : PE X e t) : PE X e (tCut t) :=
  ⟨fun pins s σ H Q I ⟨Q0, h0, h1⟩ => thn (h.run pins s σ H Q0 I h0) fun u s1 ⟨x, H1, I1, r, q⟩ => ⟨x, H1, I1, r, h1 x H1 q⟩⟩
theorem pt_cut {e : Expr} {t : TT} (h : PT X e t) : PT X e (tCutT t) :=
  ⟨fun pins s σ H Q I ⟨Q0, h0, h1⟩ => thn (h.run pins s σ H Q0 I h0) fun b s1 ⟨H1, I1, q⟩ => ⟨H1, I1, h1 b H1 q⟩⟩
theorem pss_mid {st : Stmt} {rest : List Stmt} {t u : TS} (a : PS X st t) (b : PSs X rest u) : PSs X (st :: rest) (fun D σ H => ∃ Mid : L2.St → Hp → Prop, t { D with nx := Mid } σ H ∧ ∀ σ' H', Mid σ' H' → u D σ' H') := by
  refine ⟨fun pins s σ H D I ⟨Mid, hm, hu⟩ => wpAny_execs_cons (thn (a.run pins s σ H { D with nx := Mid } I hm) fun fl s1 q => ?_)⟩
  cases fl with
  | next =>
    obtain ⟨σ', H', I', q⟩ := q
    exact b.run pins s1 σ' H' D I' (hu σ' H' q)
  | ret v => exact q
  | brk => exact q
  | cont => exact q
end
/-! ### short words for heaps -/
/-- a person as a value -/
abbrev vi (n : Nat) : V := .int (n : Int)
/-- a crowd's key -/
abbrev kc (c : List Nat) : List Key := c.map fun n : Nat => (Sum.inl (n : Int) : Key)
theorem kc_vals (c : List Nat) : (kc c).map kV = c.map vi := by
  unfold kc
  rw [List.map_map]
  rfl
theorem kc_inj {c d : List Nat} (h : kc c = kc d) : c = d := by
  have h2 : (kc c).map kV = (kc d).map kV := by rw [h]
  rw [kc_vals, kc_vals] at h2
  exact List.map_inj_right (fun a b e => by
    have : (a : Int) = (b : Int) := V.int.inj e
    omega) |>.mp h2
theorem vi_ints (c : List Nat) : (c.map fun n : Nat => (n : Int)).map V.int = c.map vi := by
  rw [List.map_map]
  rfl
/-- at a stands the tuple of these -/
abbrev Tp (H : Hp) (a : Addr) (c : List Nat) : Prop := H a = some (.tup (c.map vi))
theorem Tp.seq {K : PySem.W.Frag} {H : Hp} {a : Addr} {c : List Nat} (h : Tp H a c) : SqT K H a (c.map vi) := .inl (.inl h)
theorem Tp.ints {K : PySem.W.Frag} {H : Hp} {a : Addr} {c : List Nat} (h : Tp H a c) : SqT K H a ((c.map fun n : Nat => (n : Int)).map V.int) := by
  rw [vi_ints]
  exact h.seq
theorem same_upd {H : Hp} {p : Addr} {o : HO} (h : H p = none) : Same H (upd H p o) := fun b x e => by
  rw [upd_ne (ne_of_none e h)]
  exact e
theorem sNew {H H1 : Hp} {p : Addr} {o : HO} (s : Same H H1) (h : H1 p = none) : Same H (upd H1 p o) := s.trans (same_upd h)
/-- p is new in H and is written in H1: what stood in H still stands -/
theorem sPut {H H1 : Hp} {p : Addr} {o : HO} (s : Same H H1) (h : H p = none) : Same H (upd H1 p o) := fun b x e => by
  rw [upd_ne (ne_of_none e h)]
  exact s b x e
theorem map_get {α β : Type} {f : α → β} {l : List α} {i : Nat} {y : β} (h : (l.map f)[i]? = some y) : ∃ x, l[i]? = some x ∧ y = f x := by
  rw [List.getElem?_map] at h
  obtain ⟨x, h1, h2⟩ := Option.map_eq_some_iff.mp h
  exact ⟨x, h1, h2.symm⟩
theorem take_next {α : Type} {l : List α} {i : Nat} {x : α} (h : l[i]? = some x) : l.take (i + 1) = l.take i ++ [x] := by
  rw [List.take_add_one, h]
  rfl
theorem take_all {α : Type} {l : List α} {n : Nat} (h : l.length = n) : l.take n = l := List.take_of_length_le (by omega)
theorem small {n : Nat} (h : n ≤ 1000000) : n < sizeLine := by
  rw [sizeLine_eq]
  omega
theorem small' {n : Nat} (h : n ≤ 1000000) : n ≤ sizeLine := Nat.le_of_lt (small h)
/-! ### rules with the written part told (so that they fit within a comprehension's block) -/
section
variable {X : Cx}
theorem k_len (K : PySem.W.Frag) (h : X.K = K := by rfl) : CallR X (.builtin "len") (fun xs H Q => ∃ p ys, xs = [.ref p] ∧ (SqL K H p ys ∨ SqT K H p ys) ∧ Q (.int ys.length) H) := by subst h; exact call_len_seq
theorem k_all (K : PySem.W.Frag) (hc : X.calm = true) (h : X.K = K := by rfl) : CallR X (.builtin "all") (rAll K) := by subst h; exact cr_all hc
theorem k_any (K : PySem.W.Frag) (hc : X.calm = true) (h : X.K = K := by rfl) : CallR X (.builtin "any") (rAny K) := by subst h; exact cr_any hc
theorem k_sum (K : PySem.W.Frag) (hc : X.calm = true) (h : X.K = K := by rfl) : CallR X (.builtin "sum") (rSum K) := by subst h; exact cr_sum hc
theorem k_isi (K : PySem.W.Frag) (h : X.K = K := by rfl) : CallR X (.builtin "isinstance") (rIsi K) := by subst h; exact call_isi
theorem k_isiT (K : PySem.W.Frag) (h : X.K = K := by rfl) : CallR X (.builtin "isinstance") (rIsiT K) := by subst h; exact call_isiT
theorem k_tupOf (K : PySem.W.Frag) (h : X.K = K := by rfl) : CallR X (.type "tuple") (fun xs H Q => ∃ p ys, xs = [.ref p] ∧ ((SqL K H p ys ∧ ∀ l, H l = none → Q (.ref l) (upd H l (.tup ys))) ∨ (SqT K H p ys ∧ Q (.ref p) H))) := by subst h; exact call_tuple_of
theorem k_maxP (K : PySem.W.Frag) (hc : X.calm = true) (hu : X.A.units + 1 < cLine) (h : X.K = K := by rfl) : CallR X (.builtin "max") (rMaxP K) := by subst h; exact cr_maxP hc hu
theorem k_sortI (K : PySem.W.Frag) (h : X.K = K := by rfl) : CallR X (.builtin "sorted") (rSortedI K) := by subst h; exact cr_sortedI
theorem k_sortTI (K : PySem.W.Frag) (h : X.K = K := by rfl) : CallR X (.builtin "sorted") (rSortTI K) := by subst h; exact cr_sortTI
theorem k_sortG {D : Type} (enc : D → PyData) (K : PySem.W.Frag) (hu : X.A.units + 64 < cLine) (h : X.K = K := by rfl) : CallR X (.builtin "sorted") (rSortG K enc) := by subst h; exact cr_sortG hu
theorem k_sortS (K : PySem.W.Frag) (P : Program) (w : World) (hc : X.calm = true) (hu : X.A.units + 64 < cLine) (h : X.K = K := by rfl) (hp : X.prog = P := by rfl) (hw : X.w = w := by rfl) : CallR X (.builtin "sorted") (rSortS K P w) := by subst h hp hw; exact cr_sortS hc hu
theorem k_setOf (K : PySem.W.Frag) (P : Program) (w : World) (hc : X.calm = true) (hu : X.A.units + 64 < cLine) (h : X.K = K := by rfl) (hp : X.prog = P := by rfl) (hw : X.w = w := by rfl) : CallR X (.type "set") (rSetOfT K P w) := by subst h hp hw; exact cr_setOfT hc hu
theorem k_ixT (K : PySem.W.Frag) (h : X.K = K := by rfl) : IxR X (rIxT K) := by subst h; exact ix_tup
theorem k_ixL (K : PySem.W.Frag) (h : X.K = K := by rfl) : IxR X (rIxL K) := by subst h; exact ix_list
theorem k_slL (K : PySem.W.Frag) (h : X.K = K := by rfl) : SlR X (rSlL K) := by subst h; exact sl_list
theorem k_slT (K : PySem.W.Frag) (h : X.K = K := by rfl) : SlR X (rSlA K) := by subst h; exact sl_tupA
theorem k_in (K : PySem.W.Frag) (h : X.K = K := by rfl) : OpR X (compareOp .In) (rIn K false) := by subst h; exact op_in_seq
theorem k_neD (K : PySem.W.Frag) (hu : X.A.units + 64 < cLine) (h : X.K = K := by rfl) : OpR X (compareOp .NotEq) (rNeD K) := by subst h; exact op_neD hu
theorem k_catA (K : PySem.W.Frag) (h : X.K = K := by rfl) : OpR X (binaryOp .Add) (rCatA K) := by subst h; exact op_catA
theorem k_ltT (K : PySem.W.Frag) (hu : X.A.units < cLine) (h : X.K = K := by rfl) : OpR X (compareOp .Lt) (rLtT K) := by subst h; exact op_ltT hu
theorem k_fld (K : PySem.W.Frag) {e : Expr} {f : Str} {pos : Pos} {ta : TE} (he : PE X e ta) (h : X.K = K := by rfl) (hb : attributeBase e f X.env (eval e X.env) = eval e X.env := by rfl) : PE X (.Attribute e f pos) (tFld K ta f) := by subst h; exact pe_fld he hb
theorem k_tup (K : PySem.W.Frag) {es : List Expr} {k : Nat} {pos : Pos} {t : TGs} {n : Nat} (hc : X.calm = true) (ha : PGs X es t) (h : X.K = K := by rfl)
    (hn : (assignEach es X.env).length = n := by rfl) (hst : (assignEach es X.env).findIdx? (·.1) = none := by rfl) : PG X (.Tuple es k pos) (gTup K n t) := by subst h; exact pg_tup hc ha hn hst
theorem k_list (K : PySem.W.Frag) {tg l : Expr} {tl : TE} (hl : PE X l tl) (h : X.K = K := by rfl) : PI X tg l (iList K tl) := by subst h; exact pi_list hl
theorem k_tuple (K : PySem.W.Frag) {tg l : Expr} {tl : TE} (hl : PE X l tl) (h : X.K = K := by rfl) : PI X tg l (iTup K tl) := by subst h; exact pi_tup hl
end
end LL
set_option Elab.async false
set_option linter.all false
set_option maxRecDepth 100000
set_option maxHeartbeats 4000000
namespace LL
open PySem PySem.Spec PyProof.Rows L2
abbrev s_is_integer : Stmt := top 8
abbrev N_is_integer : List Str := ["thing"]
theorem sc_is_integer : FnScope N_is_integer ["thing"] (defScope s_is_integer) := ⟨rfl, rfl, rfl, by decide +kernel, rfl, by decide +kernel, by decide +kernel⟩
abbrev s_is_within : Stmt := top 9
abbrev N_is_within : List Str := ["thing", "least", "most"]
theorem sc_is_within : FnScope N_is_within ["thing", "least", "most"] (defScope s_is_within) := ⟨rfl, rfl, rfl, by decide +kernel, rfl, by decide +kernel, by decide +kernel⟩
abbrev s_are_ascending : Stmt := top 10
abbrev N_are_ascending : List Str := ["things", "at"]
theorem sc_are_ascending : FnScope N_are_ascending ["things"] (defScope s_are_ascending) := ⟨rfl, rfl, rfl, by decide +kernel, rfl, by decide +kernel, by decide +kernel⟩
abbrev s_are_persons : Stmt := top 11
abbrev N_are_persons : List Str := ["people", "thing", "person"]
theorem sc_are_persons : FnScope N_are_persons ["people", "thing"] (defScope s_are_persons) := ⟨rfl, rfl, rfl, by decide +kernel, rfl, by decide +kernel, by decide +kernel⟩
abbrev s_is_crowd : Stmt := top 12
abbrev N_is_crowd : List Str := ["people", "thing"]
theorem sc_is_crowd : FnScope N_is_crowd ["people", "thing"] (defScope s_is_crowd) := ⟨rfl, rfl, rfl, by decide +kernel, rfl, by decide +kernel, by decide +kernel⟩
abbrev s_is_lot : Stmt := top 13
abbrev N_is_lot : List Str := ["people", "thing"]
theorem sc_is_lot : FnScope N_is_lot ["people", "thing"] (defScope s_is_lot) := ⟨rfl, rfl, rfl, by decide +kernel, rfl, by decide +kernel, by decide +kernel⟩
abbrev s_is_row : Stmt := top 14
abbrev N_is_row : List Str := ["people", "thing", "person"]
theorem sc_is_row : FnScope N_is_row ["people", "thing"] (defScope s_is_row) := ⟨rfl, rfl, rfl, by decide +kernel, rfl, by decide +kernel, by decide +kernel⟩
abbrev s_is_order : Stmt := top 15
abbrev N_is_order : List Str := ["people", "thing"]
theorem sc_is_order : FnScope N_is_order ["people", "thing"] (defScope s_is_order) := ⟨rfl, rfl, rfl, by decide +kernel, rfl, by decide +kernel, by decide +kernel⟩
abbrev s_check_crowd : Stmt := top 16
abbrev N_check_crowd : List Str := ["people", "thing"]
theorem sc_check_crowd : FnScope N_check_crowd ["people", "thing"] (defScope s_check_crowd) := ⟨rfl, rfl, rfl, by decide +kernel, rfl, by decide +kernel, by decide +kernel⟩
abbrev s_check_many : Stmt := top 17
abbrev N_check_many : List Str := ["number", "most"]
theorem sc_check_many : FnScope N_check_many ["number", "most"] (defScope s_check_many) := ⟨rfl, rfl, rfl, by decide +kernel, rfl, by decide +kernel, by decide +kernel⟩
abbrev s_bits_of : Stmt := top 18
abbrev N_bits_of : List Str := ["crowd", "person"]
theorem sc_bits_of : FnScope N_bits_of ["crowd"] (defScope s_bits_of) := ⟨rfl, rfl, rfl, by decide +kernel, rfl, by decide +kernel, by decide +kernel⟩
abbrev s_crowd_of : Stmt := top 19
abbrev N_crowd_of : List Str := ["bits", "person"]
theorem sc_crowd_of : FnScope N_crowd_of ["bits"] (defScope s_crowd_of) := ⟨rfl, rfl, rfl, by decide +kernel, rfl, by decide +kernel, by decide +kernel⟩
abbrev s_holds : Stmt := top 20
abbrev N_holds : List Str := ["bits", "some"]
theorem sc_holds : FnScope N_holds ["bits", "some"] (defScope s_holds) := ⟨rfl, rfl, rfl, by decide +kernel, rfl, by decide +kernel, by decide +kernel⟩
abbrev s_crowds_of_size : Stmt := top 21
abbrev N_crowds_of_size : List Str := ["people", "size", "found", "turn", "later", "crowd", "bits", "first", "person"]
theorem sc_crowds_of_size : FnScope N_crowds_of_size ["people", "size"] (defScope s_crowds_of_size) := ⟨rfl, rfl, rfl, by decide +kernel, rfl, by decide +kernel, by decide +kernel⟩
abbrev s_crowds_by_size : Stmt := top 22
abbrev N_crowds_by_size : List Str := ["people", "size", "bits"]
theorem sc_crowds_by_size : FnScope N_crowds_by_size ["people"] (defScope s_crowds_by_size) := ⟨rfl, rfl, rfl, by decide +kernel, rfl, by decide +kernel, by decide +kernel⟩
abbrev s_first_wrong_lot : Stmt := top 25
abbrev N_first_wrong_lot : List Str := ["people", "lots", "found", "at", "lot", "bits", "other"]
theorem sc_first_wrong_lot : FnScope N_first_wrong_lot ["people", "lots"] (defScope s_first_wrong_lot) := ⟨rfl, rfl, rfl, by decide +kernel, rfl, by decide +kernel, by decide +kernel⟩
abbrev s_Book_init : Stmt := inClass (top 26) 0
abbrev N_Book_init : List Str := ["self", "people", "lots", "at"]
theorem sc_Book_init : FnScope N_Book_init ["self", "people", "lots"] (defScope s_Book_init) := ⟨rfl, rfl, rfl, by decide +kernel, rfl, by decide +kernel, by decide +kernel⟩
abbrev s_Book_keep : Stmt := inClass (top 26) 1
abbrev N_Book_keep : List Str := ["self", "people", "lots", "lot"]
theorem sc_Book_keep : FnScope N_Book_keep ["self", "people", "lots"] (defScope s_Book_keep) := ⟨rfl, rfl, rfl, by decide +kernel, rfl, by decide +kernel, by decide +kernel⟩
abbrev s_lasts_in : Stmt := top 29
abbrev N_lasts_in : List Str := ["book", "order", "places", "place", "person", "lot"]
theorem sc_lasts_in : FnScope N_lasts_in ["book", "order"] (defScope s_lasts_in) := ⟨rfl, rfl, rfl, by decide +kernel, rfl, by decide +kernel, by decide +kernel⟩
abbrev s_Office_init : Stmt := inClass (top 30) 0
abbrev N_Office_init : List Str := ["self", "book", "order", "number", "last", "person"]
theorem sc_Office_init : FnScope N_Office_init ["self", "book", "order"] (defScope s_Office_init) := ⟨rfl, rfl, rfl, by decide +kernel, rfl, by decide +kernel, by decide +kernel⟩
abbrev s_is_barred : Stmt := top 31
abbrev N_is_barred : List Str := ["office", "inside", "person", "others", "number"]
theorem sc_is_barred : FnScope N_is_barred ["office", "inside", "person"] (defScope s_is_barred) := ⟨rfl, rfl, rfl, by decide +kernel, rfl, by decide +kernel, by decide +kernel⟩
abbrev s_in_bits : Stmt := top 32
abbrev N_in_bits : List Str := ["office", "bits", "found", "person"]
theorem sc_in_bits : FnScope N_in_bits ["office", "bits"] (defScope s_in_bits) := ⟨rfl, rfl, rfl, by decide +kernel, rfl, by decide +kernel, by decide +kernel⟩
abbrev s_let_in : Stmt := top 33
abbrev N_let_in : List Str := ["office", "crowd"]
theorem sc_let_in : FnScope N_let_in ["office", "crowd"] (defScope s_let_in) := ⟨rfl, rfl, rfl, by decide +kernel, rfl, by decide +kernel, by decide +kernel⟩
abbrev s_outcomes : Stmt := top 34
abbrev N_outcomes : List Str := ["office", "bits"]
theorem sc_outcomes : FnScope N_outcomes ["office"] (defScope s_outcomes) := ⟨rfl, rfl, rfl, by decide +kernel, rfl, by decide +kernel, by decide +kernel⟩
abbrev s_l_is_integer : Stmt := top 36
abbrev N_l_is_integer : List Str := ["_law_thing"]
theorem sc_l_is_integer : FnScope N_l_is_integer ["_law_thing"] (defScope s_l_is_integer) := ⟨rfl, rfl, rfl, by decide +kernel, rfl, by decide +kernel, by decide +kernel⟩
abbrev s_l_source : Stmt := top 37
abbrev N_l_source : List Str := ["_law_script", "_law_k", "_law_fold", "_law_item", "_law_cell"]
theorem sc_l_source : FnScope N_l_source ["_law_script", "_law_k"] (defScope s_l_source) := ⟨rfl, rfl, rfl, by decide +kernel, rfl, by decide +kernel, by decide +kernel⟩
abbrev s_l_draw : Stmt := top 38
abbrev N_l_draw : List Str := ["_law_source_here", "_law_many", "_law_got", "_law_number"]
theorem sc_l_draw : FnScope N_l_draw ["_law_source_here", "_law_many"] (defScope s_l_draw) := ⟨rfl, rfl, rfl, by decide +kernel, rfl, by decide +kernel, by decide +kernel⟩
abbrev s_l_perm : Stmt := top 39
abbrev N_l_perm : List Str := ["_law_source_here", "_law_many", "_law_left", "_law_found", "_law_k"]
theorem sc_l_perm : FnScope N_l_perm ["_law_source_here", "_law_many"] (defScope s_l_perm) := ⟨rfl, rfl, rfl, by decide +kernel, rfl, by decide +kernel, by decide +kernel⟩
abbrev s_l_within : Stmt := top 40
abbrev N_l_within : List Str := ["_law_part", "_law_whole", "_law_person"]
theorem sc_l_within : FnScope N_l_within ["_law_part", "_law_whole"] (defScope s_l_within) := ⟨rfl, rfl, rfl, by decide +kernel, rfl, by decide +kernel, by decide +kernel⟩
abbrev s_l_least : Stmt := top 41
abbrev N_l_least : List Str := ["_law_heaps_here", "_law_unlike", "_law_found", "_law_heap_here", "_law_other"]
theorem sc_l_least : FnScope N_l_least ["_law_heaps_here"] (defScope s_l_least) := ⟨rfl, rfl, rfl, by decide +kernel, rfl, by decide +kernel, by decide +kernel⟩
abbrev s_l_heap : Stmt := top 42
abbrev N_l_heap : List Str := ["_law_source_here", "_law_people_here", "_law_size"]
theorem sc_l_heap : FnScope N_l_heap ["_law_source_here", "_law_people_here", "_law_size"] (defScope s_l_heap) := ⟨rfl, rfl, rfl, by decide +kernel, rfl, by decide +kernel, by decide +kernel⟩
abbrev s_l_heaps : Stmt := top 43
abbrev N_l_heaps : List Str := ["_law_source_here", "_law_people_here", "_law_many", "_law_found", "_law_style", "_law_k", "_law_size"]
theorem sc_l_heaps : FnScope N_l_heaps ["_law_source_here", "_law_people_here", "_law_many"] (defScope s_l_heaps) := ⟨rfl, rfl, rfl, by decide +kernel, rfl, by decide +kernel, by decide +kernel⟩
abbrev s_l_lots : Stmt := top 44
abbrev N_l_lots : List Str := ["_law_source_here", "_law_people_here", "_law_most", "_law_many"]
theorem sc_l_lots : FnScope N_l_lots ["_law_source_here", "_law_people_here", "_law_most"] (defScope s_l_lots) := ⟨rfl, rfl, rfl, by decide +kernel, rfl, by decide +kernel, by decide +kernel⟩
abbrev s_l_people : Stmt := top 45
abbrev N_l_people : List Str := ["_law_source_here", "_law_most"]
theorem sc_l_people : FnScope N_l_people ["_law_source_here", "_law_most"] (defScope s_l_people) := ⟨rfl, rfl, rfl, by decide +kernel, rfl, by decide +kernel, by decide +kernel⟩
abbrev s_l_crowd : Stmt := top 46
abbrev N_l_crowd : List Str := ["_law_source_here", "_law_people_here", "_law_person"]
theorem sc_l_crowd : FnScope N_l_crowd ["_law_source_here", "_law_people_here"] (defScope s_l_crowd) := ⟨rfl, rfl, rfl, by decide +kernel, rfl, by decide +kernel, by decide +kernel⟩
abbrev s_l_all_crowds : Stmt := top 47
abbrev N_l_all_crowds : List Str := ["_law_people_here", "_law_found", "_law_person", "_law_crowd_here", "_law_size"]
theorem sc_l_all_crowds : FnScope N_l_all_crowds ["_law_people_here"] (defScope s_l_all_crowds) := ⟨rfl, rfl, rfl, by decide +kernel, rfl, by decide +kernel, by decide +kernel⟩
abbrev s_l_last : Stmt := top 48
abbrev N_l_last : List Str := ["_law_order", "_law_lot", "_law_person"]
theorem sc_l_last : FnScope N_l_last ["_law_order", "_law_lot"] (defScope s_l_last) := ⟨rfl, rfl, rfl, by decide +kernel, rfl, by decide +kernel, by decide +kernel⟩
abbrev s_l_others : Stmt := top 49
abbrev N_l_others : List Str := ["_law_lots_here", "_law_order", "_law_found", "_law_lot", "_law_last_here", "_law_person"]
theorem sc_l_others : FnScope N_l_others ["_law_lots_here", "_law_order"] (defScope s_l_others) := ⟨rfl, rfl, rfl, by decide +kernel, rfl, by decide +kernel, by decide +kernel⟩
abbrev s_l_let : Stmt := top 50
abbrev N_l_let : List Str := ["_law_others_here", "_law_order", "_law_crowd_here", "_law_inside", "_law_person", "_law_lot"]
theorem sc_l_let : FnScope N_l_let ["_law_others_here", "_law_order", "_law_crowd_here"] (defScope s_l_let) := ⟨rfl, rfl, rfl, by decide +kernel, rfl, by decide +kernel, by decide +kernel⟩
abbrev s_l_same : Stmt := top 51
abbrev N_l_same : List Str := ["_law_told", "_law_due", "_law_key", "_law_one", "_law_other"]
theorem sc_l_same : FnScope N_l_same ["_law_told", "_law_due"] (defScope s_l_same) := ⟨rfl, rfl, rfl, by decide +kernel, rfl, by decide +kernel, by decide +kernel⟩
abbrev s_law : Stmt := top 52
abbrev N_law : List Str := ["_law_script", "_law_k", "_law_source_here", "_law_people_here", "_law_lots_here", "_law_order", "_law_office", "_law_others_here", "_law_due", "_law_crowd_here", "_law_told", "_law_turn", "_law_inside", "_law_middle", "_law_person"]
theorem sc_law : FnScope N_law ["_law_script"] (defScope s_law) := ⟨rfl, rfl, rfl, by decide +kernel, rfl, by decide +kernel, by decide +kernel⟩
end LL
set_option Elab.async false
set_option linter.all false
set_option maxRecDepth 100000
set_option maxHeartbeats 4000000
namespace LL
open PySem PySem.Spec PyProof.Rows L2
/-! ### tests whose answer is known; comprehensions -/
theorem iteP {c A B : Prop} [Decidable c] (hc : c) (h : A) : if c then A else B := by
  rw [if_pos hc]
  exact h
theorem iteQ {c A B : Prop} [Decidable c] (hc : ¬ c) (h : B) : if c then A else B := by
  rw [if_neg hc]
  exact h
theorem qT {Q : V → Hp → Prop} {b : Bool} {H : Hp} (e : b = true) (q : Q (.bl true) H) : Q (.bl b) H := by
  rw [e]
  exact q
theorem qF {Q : V → Hp → Prop} {b : Bool} {H : Hp} (e : b = false) (q : Q (.bl false) H) : Q (.bl b) H := by
  rw [e]
  exact q
/-- each of the second list is told by its fellow of the first -/
abbrev Rel {α : Type} (R : α → V → Prop) (l : List α) (ys : List V) : Prop := Paired R l ys
theorem Rel.mono {α : Type} {R R' : α → V → Prop} {l : List α} {ys : List V} (r : Rel R l ys) (h : ∀ a y, R a y → R' a y) : Rel R' l ys := Paired.mapP r h
theorem Rel.eq {α : Type} {F : α → V} : ∀ {l : List α} {ys : List V}, Rel (fun a y => y = F a) l ys → ys = l.map F
  | _, _, .nil => rfl
  | _, _, .cons h t => by rw [h, Rel.eq t, List.map_cons]
theorem Rel.get {α : Type} {R : α → V → Prop} : ∀ {l : List α} {ys : List V} {i : Nat} {a : α}, Rel R l ys → l[i]? = some a → ∃ y, ys[i]? = some y ∧ R a y
  | _, _, _, _, .nil, e => by simp at e
  | _, _, 0, _, .cons r _, e => by
    simp at e
    subst e
    exact ⟨_, rfl, r⟩
  | _, _, i + 1, a, .cons r t, e => by
    obtain ⟨y, h1, h2⟩ := Rel.get (i := i) (a := a) t (by simpa using e)
    exact ⟨y, by simpa using h1, h2⟩
theorem Rel.length {α : Type} {R : α → V → Prop} {l : List α} {ys : List V} (r : Rel R l ys) : l.length = ys.length := Paired.length r
theorem Rel.app {α : Type} {R : α → V → Prop} : ∀ {l m : List α} {ys zs : List V}, Rel R l ys → Rel R m zs → Rel R (l ++ m) (ys ++ zs)
  | _, _, _, _, .nil, s => s
  | _, _, _, _, .cons r t, s => .cons r (Rel.app t s)
/-- refs of objects that are told -/
theorem Rel.refs {α : Type} {R : Addr → α → Prop} : ∀ {l : List α} {ys : List V}, Rel (fun a y => ∃ t, y = .ref t ∧ R t a) l ys → ∃ ks : List (Addr × α), ks.map (·.2) = l ∧ ys = (ks.map fun p => V.ref p.1) ∧ ∀ p ∈ ks, R p.1 p.2
  | _, _, .nil => ⟨[], rfl, rfl, fun _ h => by cases h⟩
  | a :: l, _, .cons h t => by
    obtain ⟨b, rfl, hb⟩ := h
    obtain ⟨ks, h1, h2, h3⟩ := Rel.refs t
    refine ⟨(b, a) :: ks, by rw [List.map_cons, h1], by rw [List.map_cons, h2], fun p hp => ?_⟩
    rcases List.mem_cons.mp hp with e | e
    · rw [e]
      exact hb
    · exact h3 p e
theorem filter_take {α : Type} {l : List α} {i : Nat} {a : α} (p : α → Bool) (h : l[i]? = some a) : (l.take (i + 1)).filter p = (l.take i).filter p ++ (if p a = true then [a] else []) := by
  rw [take_next h, List.filter_append]
  congr 1
  by_cases q : p a = true <;> simp [q]
/-- all tuples stand as they stood -/
def SameT (H H' : Hp) : Prop := ∀ b xs, H b = some (.tup xs) → H' b = some (.tup xs)
theorem SameT.of {H H' : Hp} (s : Same H H') : SameT H H' := fun b xs e => s b _ e
theorem SameT.trans {H H1 H2 : Hp} (a : SameT H H1) (b : SameT H1 H2) : SameT H H2 := fun c xs e => b c xs (a c xs e)
theorem SameT.upd {H : Hp} {D : Addr} {o u : HO} (e : H D = some o) (no : ∀ xs, o ≠ .tup xs) : SameT H (L2.upd H D u) := fun b xs eb => by
  rw [upd_ne (ne_of eb e fun z => no xs z.symm)]
  exact eb
/-- [elt for .. if ..] over any walk whose turns stand for the items of l: the items kept are those of which p holds -/
theorem lcRel {α : Type} {l : List α} {J : It} {n : Nat} {G : Hp → Prop} {Y : Nat → Hp → V → Hp → Prop} (w : Walk J n G Y) (hl : l.length = n) (p : α → Bool) (R : α → V → Hp → Prop) (mono : ∀ a y H H', SameT H H' → R a y H → R a y H') (few : n ≤ 1000000)
    {g : TG} {tt : TT} {te : TE} {vs : List Nat} {σ : L2.St} {H1 : Hp} {D : Addr} {Qd : Hp → Prop} (nD : H1 D = none) (hG : ∀ H, Same H1 H → G H)
    (hs : ∀ i a x H H' (kT : V → Hp → Prop) (kF : Hp → Prop), l[i]? = some a → Same H1 H → Y i H x H' → (p a = true → ∀ y H4, Same H H4 → R a y H4 → kT y H4) → (p a = false → ∀ H4, Same H H4 → kF H4) →
      g x (wipe σ vs) H' fun σ2 H2 => wipe σ2 vs = wipe σ vs ∧ tt σ2 H2 fun b H3 => if b = true then te σ2 H3 kT else kF H3)
    (hd : ∀ H ys, Same H1 H → H D = some (.lst ys) → Rel (fun a y => R a y H) (l.filter p) ys → Qd H) :
    ∃ W : Nat → Nat → Hp → Prop, (∃ m, W 0 m (upd H1 D (.lst []))) ∧ ∀ i m H, W i m H →
      (J.stop i H ∧ Qd H) ∨ (J.go i H ∧ ∃ Nx : Hp → Prop, (∀ H', Nx H' → ∃ m', m' < m ∧ W (i + 1) m' H') ∧ ∀ x H', J.yld i H x H' → g x (wipe σ vs) H' fun σ2 H2 => wipe σ2 vs = wipe σ vs ∧ tt σ2 H2 fun b H3 =>
        if b = true then te σ2 H3 fun y H4 => ∃ acc, H4 D = some (.lst acc) ∧ acc.length < sizeLine ∧ Nx (upd H4 D (.lst (acc ++ [y]))) else Nx H3) := by
  refine lc_it w (fun i H => Same H1 H ∧ ∃ ys, H D = some (.lst ys) ∧ Rel (fun a y => R a y H) ((l.take i).filter p) ys) ⟨same_upd nD, [], upd_same, .nil⟩ (fun i H _ q => hG H q.1) ?_ ?_
  · rintro i x H H' hi ⟨sm, ys, eD, rel⟩ y
    obtain ⟨a, ha⟩ : ∃ a, l[i]? = some a := ⟨l[i]'(by omega), List.getElem?_eq_getElem (by omega)⟩
    have lenle : ys.length ≤ i := by
      rw [← rel.length]
      exact Nat.le_trans (List.length_filter_le _ _) (by simp; omega)
    refine hs i a x H H' _ _ ha sm y (fun hp z H4 s4 r4 => ?_) (fun hp H4 s4 => ?_)
    · refine ⟨ys, s4 _ _ eD, small (by omega), sPut (sm.trans s4) nD, ys ++ [z], upd_same, ?_⟩
      rw [filter_take p ha, if_pos hp]
      have s5 : SameT H4 (upd H4 D (.lst (ys ++ [z]))) := SameT.upd (s4 _ _ eD) fun _ q => nomatch q
      exact Rel.app (rel.mono fun b v r => mono _ _ _ _ ((SameT.of s4).trans s5) r) (.cons (mono _ _ _ _ s5 r4) .nil)
    · refine ⟨sm.trans s4, ys, s4 _ _ eD, ?_⟩
      rw [filter_take p ha, hp, if_neg Bool.false_ne_true, List.append_nil]
      exact rel.mono fun b v r => mono _ _ _ _ (SameT.of s4) r
  · rintro H ⟨sm, ys, eD, rel⟩
    rw [take_all hl] at rel
    exact hd H ys sm eD rel
/-- .. where each item kept gives a value that is told -/
theorem lcFn {α : Type} {l : List α} {J : It} {n : Nat} {G : Hp → Prop} {Y : Nat → Hp → V → Hp → Prop} (w : Walk J n G Y) (hl : l.length = n) (p : α → Bool) (F : α → V) (few : n ≤ 1000000)
    {g : TG} {tt : TT} {te : TE} {vs : List Nat} {σ : L2.St} {H1 : Hp} {D : Addr} {Qd : Hp → Prop} (nD : H1 D = none) (hG : ∀ H, Same H1 H → G H)
    (hs : ∀ i a x H H' (kT : V → Hp → Prop) (kF : Hp → Prop), l[i]? = some a → Same H1 H → Y i H x H' → (p a = true → ∀ H4, Same H H4 → kT (F a) H4) → (p a = false → ∀ H4, Same H H4 → kF H4) →
      g x (wipe σ vs) H' fun σ2 H2 => wipe σ2 vs = wipe σ vs ∧ tt σ2 H2 fun b H3 => if b = true then te σ2 H3 kT else kF H3)
    (hd : ∀ H, Same H1 H → H D = some (.lst ((l.filter p).map F)) → Qd H) :
    ∃ W : Nat → Nat → Hp → Prop, (∃ m, W 0 m (upd H1 D (.lst []))) ∧ ∀ i m H, W i m H →
      (J.stop i H ∧ Qd H) ∨ (J.go i H ∧ ∃ Nx : Hp → Prop, (∀ H', Nx H' → ∃ m', m' < m ∧ W (i + 1) m' H') ∧ ∀ x H', J.yld i H x H' → g x (wipe σ vs) H' fun σ2 H2 => wipe σ2 vs = wipe σ vs ∧ tt σ2 H2 fun b H3 =>
        if b = true then te σ2 H3 fun y H4 => ∃ acc, H4 D = some (.lst acc) ∧ acc.length < sizeLine ∧ Nx (upd H4 D (.lst (acc ++ [y]))) else Nx H3) :=
  lcRel w hl p (fun a y _ => y = F a) (fun _ _ _ _ _ e => e) few nD hG (fun i a x H H' kT kF ha sm y h1 h2 => hs i a x H H' kT kF ha sm y (fun hp H4 s4 => h1 hp _ H4 s4 rfl) h2) fun H ys sm eD rel => hd H sm (by rw [eD, Rel.eq rel])
end LL
set_option Elab.async false
set_option linter.all false
set_option maxRecDepth 100000
set_option maxHeartbeats 4000000
namespace LL
open PySem PySem.Spec PyProof.Rows L2
section
variable {P : Program} {w : World} {K : PySem.W.Frag} {mg : Str → Option Value} {base : Heap} {f : Addr} {fd : FuncData}
/-! ### checks: every call of them passes -/
def spIsInt : Sp := fun vs H Q _ => ∃ i : Int, vs = [.int i] ∧ Q (.bl true) H
theorem ok_is_integer (F : Fun K "is_integer" "is_integer" s_is_integer f fd) (B : Bt mg) : FnOk P w K mg base CX0 1 f fd ["thing"] spIsInt := by
  refine F.ok sc_is_integer (fun vs H Q E h => ?_) (fun cdv A outer s H vs Q E hr h => ?_)
  · obtain ⟨i, rfl, _⟩ := h
    rfl
  · obtain ⟨i, rfl, q⟩ := h
    refine ⟨_, (pss_one (ps_ret (pe_and (pe_callB (k_isi K) (by rfl) B.t_isinstance b_isinstance (pa_cons (pv 0) (pa_cons (pe_bltn (v := .ty "int") (by rfl) B.t_int b_int rfl) pa_nil))) (pe_one (pe_not (pe_callB (k_isi K) (by rfl) B.t_isinstance b_isinstance (pa_cons (pv 0) (pa_cons (pe_bltn (v := .ty "bool") (by rfl) B.t_bool b_bool rfl) pa_nil)))))))), ?_⟩
    refine ⟨_, rfl, _, _, _, _, true, rfl, .ty _, .base (.int i), kit_ty (by decide +kernel), true, rfl, iteT ?_⟩
    exact ⟨_, rfl, _, _, _, _, false, rfl, .ty _, .base (.int i), kit_ty (by decide +kernel), false, rfl, q⟩
theorem ok_l_is_integer (F : Fun K "_law_is_integer" "_law_is_integer" s_l_is_integer f fd) (B : Bt mg) : FnOk P w K mg base CX0 1 f fd ["_law_thing"] spIsInt := by
  refine F.ok sc_l_is_integer (fun vs H Q E h => ?_) (fun cdv A outer s H vs Q E hr h => ?_)
  · obtain ⟨i, rfl, _⟩ := h
    rfl
  · obtain ⟨i, rfl, q⟩ := h
    refine ⟨_, (pss_one (ps_ret (pe_and (pe_callB (k_isi K) (by rfl) B.t_isinstance b_isinstance (pa_cons (pv 0) (pa_cons (pe_bltn (v := .ty "int") (by rfl) B.t_int b_int rfl) pa_nil))) (pe_one (pe_not (pe_callB (k_isi K) (by rfl) B.t_isinstance b_isinstance (pa_cons (pv 0) (pa_cons (pe_bltn (v := .ty "bool") (by rfl) B.t_bool b_bool rfl) pa_nil)))))))), ?_⟩
    refine ⟨_, rfl, _, _, _, _, true, rfl, .ty _, .base (.int i), kit_ty (by decide +kernel), true, rfl, iteT ?_⟩
    exact ⟨_, rfl, _, _, _, _, false, rfl, .ty _, .base (.int i), kit_ty (by decide +kernel), false, rfl, q⟩
def spWithin : Sp := fun vs H Q _ => ∃ i a b : Int, vs = [.int i, .int a, .int b] ∧ a ≤ i ∧ i ≤ b ∧ Q (.bl true) H
theorem ok_is_within (F : Fun K "is_within" "is_within" s_is_within f fd) (C_is_integer : Cal P w K mg base "is_integer" 1 ["thing"] spIsInt) : FnOk P w K mg base CX0 2 f fd ["thing", "least", "most"] spWithin := by
  refine F.ok sc_is_within (fun vs H Q E h => ?_) (fun cdv A outer s H vs Q E hr h => ?_)
  · obtain ⟨i, a, b, rfl, _⟩ := h
    rfl
  · obtain ⟨i, a, b, rfl, h1, h2, q⟩ := h
    refine ⟨_, (pss_one (ps_ret (pe_and (pe_cal C_is_integer hr (by decide) (by rfl) (pa_cons (pv 0) pa_nil)) (pe_one (pe_chain op_le op_le (pv 1) (pv 0) (pv 2)))))), ?_⟩
    refine ⟨_, rfl, i, rfl, true, rfl, iteT ?_⟩
    exact ⟨_, rfl, _, rfl, _, _, rfl, rfl, _, rfl, iteP (decide_eq_true h1) ⟨_, rfl, _, _, rfl, rfl, qT (decide_eq_true h2) q⟩⟩
def spAsc : Sp := fun vs H Q _ => ∃ (t : Addr) (c : List Nat), vs = [.ref t] ∧ Tp H t c ∧ c.Pairwise (· < ·) ∧ c.length ≤ 1000 ∧ ∀ H', Same H H' → Q (.bl true) H'
theorem ok_are_ascending (F : Fun K "are_ascending" "are_ascending" s_are_ascending f fd) (B : Bt mg) : FnOk P w K mg base CX0 1 f fd ["things"] spAsc := by
  refine F.ok sc_are_ascending (fun vs H Q E h => ?_) (fun cdv A outer s H vs Q E hr h => ?_)
  · obtain ⟨t, c, rfl, _⟩ := h
    rfl
  · obtain ⟨t, c, rfl, ht, hc, few, q⟩ := h
    refine ⟨_, (pss_one (ps_ret (pe_callB (k_all K rfl) (by rfl) B.t_all b_all (pa_cons (pe_lc (own := [("at", 1)]) (g := (gName 1)) (tt := tYes) rfl sc_are_ascending.nd (pi_range2 (by rfl) B.t_range (pa_cons pe_int (pa_cons (pe_callB (k_len K) (by rfl) B.t_len b_len (pa_cons (pv 0) pa_nil)) pa_nil))) (blkOk_by (own := [("at", 1)]) (N := N_are_ascending) (sc := defScope s_are_ascending) (by decide +kernel)) (fun _ _ _ _ _ => (pg_name (i := 1) sc_are_ascending.nd rfl (by first | exact .inl rfl | exact .inr rfl))) (fun _ _ _ _ _ => pts_nil) (fun _ _ _ _ _ => (pe_cmpR op_lt (pe_ix (k_ixT K) (pv 0) (pe_op op_sub (pv 1) pe_int) (fun _ _ => rfl)) (pe_ix (k_ixT K) (pv 0) (pv 1) (fun _ _ => rfl)) (nomark _)))) pa_nil)))), ?_⟩
    refine ⟨_, rfl, t, _, rfl, .inr ht.seq, 1, _, rfl, ?_, fun D nD => ?_⟩
    · rw [List.length_map]
      omega
    · have en : (((c.map vi).length : Int) - 1).toNat = c.length - 1 := by
        rw [List.length_map]
        omega
      rw [en]
      refine lcFn (l := List.range (c.length - 1)) walk_range (by simp) (fun _ => true) (fun _ => .bl true) (by omega) nD (fun _ _ => trivial) (fun i a x H1 H2 kT kF ha sm y h1 _ => ?_) (fun H1 sm eD => ?_)
      · obtain ⟨rfl, rfl⟩ := y
        have hi : i < c.length - 1 := by
          have := (List.getElem?_eq_some_iff.mp ha).1
          simpa using this
        have g1 : (c.map vi)[i]? = some (vi (c[i]'(by omega))) := by rw [List.getElem?_map, List.getElem?_eq_getElem (by omega)]; rfl
        have g2 : (c.map vi)[i + 1]? = some (vi (c[i + 1]'(by omega))) := by rw [List.getElem?_map, List.getElem?_eq_getElem (by omega)]; rfl
        have e1 : (1 : Int) + (i : Nat) - 1 = (i : Nat) := by omega
        have e2 : (1 : Int) + (i : Nat) = ((i + 1 : Nat) : Int) := by omega
        refine ⟨rfl, ?_⟩
        refine ⟨_, rfl, _, rfl, _, _, rfl, rfl, t, _, _, _, rfl, rfl, Tp.seq (sm _ _ ht), at_of e1 g1, ?_⟩
        refine ⟨_, rfl, _, rfl, t, _, _, _, rfl, rfl, Tp.seq (sm _ _ ht), at_of e2 g2, _, _, rfl, rfl, ?_⟩
        refine qT (Q := kT) (decide_eq_true ?_) (h1 rfl _ (Same.refl _))
        have := List.pairwise_iff_getElem.mp hc i (i + 1) (by omega) (by omega) (by omega)
        omega
      · refine ⟨D, List.replicate (c.length - 1) true, rfl, .inl (.inl ?_), ?_⟩
        · rw [eD, List.filter_eq_self.mpr fun _ _ => rfl]
          simp [List.map_const']
        · refine qT (Q := Q) ?_ (q _ sm)
          simp
end
end LL
set_option Elab.async false
set_option linter.all false
set_option maxRecDepth 100000
set_option maxHeartbeats 4000000
namespace LL
open PySem PySem.Spec PyProof.Rows L2
theorem yv {α β : Type} {f : α → β} {l : List α} {i : Nat} {a : α} {x : β} (h1 : l[i]? = some a) (h2 : (l.map f)[i]? = some x) : x = f a := by
  rw [List.getElem?_map, h1] at h2
  exact (Option.some.inj h2).symm
theorem range_at {n i a : Nat} (h : (List.range n)[i]? = some a) : a = i ∧ i < n := by
  have hi : i < n := by simpa using (List.getElem?_eq_some_iff.mp h).1
  rw [List.getElem?_range hi] at h
  exact ⟨(Option.some.inj h).symm, hi⟩
theorem vEq {a b : Int} : decide (V.int a = V.int b) = decide (a = b) := decide_eq_decide.mpr ⟨fun h => V.int.inj h, fun h => by rw [h]⟩
section
variable {P : Program} {w : World} {K : PySem.W.Frag} {mg : Str → Option Value} {base : Heap} {f : Addr} {fd : FuncData}
def spPers : Sp := fun vs H Q _ => ∃ (n : Nat) (t : Addr) (c : List Nat), vs = [vi n, .ref t] ∧ Tp H t c ∧ (∀ x ∈ c, x < n) ∧ c.length ≤ 1000 ∧ ∀ H', Same H H' → Q (.bl true) H'
theorem ok_are_persons (F : Fun K "are_persons" "are_persons" s_are_persons f fd) (B : Bt mg) (C_is_within : Cal P w K mg base "is_within" 2 ["thing", "least", "most"] spWithin) : FnOk P w K mg base CX0 3 f fd ["people", "thing"] spPers := by
  refine F.ok sc_are_persons (fun vs H Q E h => ?_) (fun cdv A outer s H vs Q E hr h => ?_)
  · obtain ⟨n, t, c, rfl, _⟩ := h
    rfl
  · obtain ⟨n, t, c, rfl, ht, hc, few, q⟩ := h
    refine ⟨_, (pss_one (ps_ret (pe_and (pe_callB (k_isi K) (by rfl) B.t_isinstance b_isinstance (pa_cons (pv 1) (pa_cons (pe_bltn (v := .ty "tuple") (by rfl) B.t_tuple b_tuple rfl) pa_nil))) (pe_one (pe_callB (k_all K rfl) (by rfl) B.t_all b_all (pa_cons (pe_lc (own := [("person", 2)]) (g := (gName 2)) (tt := tYes) rfl sc_are_persons.nd (k_tuple K (pv 1)) (blkOk_by (own := [("person", 2)]) (N := N_are_persons) (sc := defScope s_are_persons) (by decide +kernel)) (fun _ _ _ _ _ => (pg_name (i := 2) sc_are_persons.nd rfl (by first | exact .inl rfl | exact .inr rfl))) (fun _ _ _ _ _ => pts_nil) (fun _ _ _ _ _ => (pe_cal C_is_within hr (by decide) (by rfl) (pa_cons (pv 2) (pa_cons pe_int (pa_cons (pe_op op_sub (pv 0) pe_int) pa_nil)))))) pa_nil)))))), ?_⟩
    refine ⟨_, rfl, _, _, _, _, true, rfl, .ty _, .base (.tup ht), kit_ty (by decide +kernel), true, rfl, iteT ?_⟩
    refine ⟨_, rfl, t, rfl, ⟨_, ht.seq⟩, fun D nD => ?_⟩
    refine lcFn (l := c) walk_tup (by simp) (fun _ => true) (fun _ => .bl true) (by rw [List.length_map]; omega) nD (fun H1 sm => Tp.seq (sm _ _ ht)) (fun i a x H1 H2 kT kF ha sm y h1 _ => ?_) (fun H1 sm eD => ?_)
    · obtain ⟨rfl, hx⟩ := y
      obtain rfl := yv ha hx
      have hlt := hc a (List.mem_of_getElem? ha)
      refine ⟨rfl, ?_⟩
      refine ⟨_, rfl, _, rfl, _, _, rfl, rfl, _, _, _, rfl, ?_, ?_, h1 rfl _ (Same.refl _)⟩
      · omega
      · omega
    · refine ⟨D, List.replicate c.length true, rfl, .inl (.inl ?_), ?_⟩
      · rw [eD, List.filter_eq_self.mpr fun _ _ => rfl]
        simp [List.map_const']
      · refine qT (Q := Q) ?_ (q _ sm)
        simp
def spCrowd : Sp := fun vs H Q _ => ∃ (n : Nat) (t : Addr) (c : List Nat), vs = [vi n, .ref t] ∧ Tp H t c ∧ Asc n c ∧ n ≤ 1000 ∧ ∀ H', Same H H' → Q (.bl true) H'
theorem ok_is_crowd (F : Fun K "is_crowd" "is_crowd" s_is_crowd f fd) (C_are_persons : Cal P w K mg base "are_persons" 3 ["people", "thing"] spPers) (C_are_ascending : Cal P w K mg base "are_ascending" 1 ["things"] spAsc) : FnOk P w K mg base CX0 4 f fd ["people", "thing"] spCrowd := by
  refine F.ok sc_is_crowd (fun vs H Q E h => ?_) (fun cdv A outer s H vs Q E hr h => ?_)
  · obtain ⟨n, t, c, rfl, _⟩ := h
    rfl
  · obtain ⟨n, t, c, rfl, ht, hc, few, q⟩ := h
    have hl := asc_length hc
    refine ⟨_, (pss_one (ps_ret (pe_and (pe_cal C_are_persons hr (by decide) (by rfl) (pa_cons (pv 0) (pa_cons (pv 1) pa_nil))) (pe_one (pe_cal C_are_ascending hr (by decide) (by rfl) (pa_cons (pv 1) pa_nil)))))), ?_⟩
    exact ⟨_, rfl, _, rfl, n, t, c, rfl, ht, hc.2, by omega, fun H1 s1 => ⟨true, rfl, iteT ⟨_, rfl, t, c, rfl, s1 _ _ ht, hc.1, by omega, fun H2 s2 => q _ (s1.trans s2)⟩⟩⟩
def spLot : Sp := fun vs H Q _ => ∃ (n : Nat) (t : Addr) (c : List Nat), vs = [vi n, .ref t] ∧ Tp H t c ∧ Asc n c ∧ n ≤ 1000 ∧ 2 ≤ c.length ∧ ∀ H', Same H H' → Q (.bl true) H'
theorem ok_is_lot (F : Fun K "is_lot" "is_lot" s_is_lot f fd) (B : Bt mg) (C_is_crowd : Cal P w K mg base "is_crowd" 4 ["people", "thing"] spCrowd) : FnOk P w K mg base CX0 5 f fd ["people", "thing"] spLot := by
  refine F.ok sc_is_lot (fun vs H Q E h => ?_) (fun cdv A outer s H vs Q E hr h => ?_)
  · obtain ⟨n, t, c, rfl, _⟩ := h
    rfl
  · obtain ⟨n, t, c, rfl, ht, hc, few, two, q⟩ := h
    refine ⟨_, (pss_one (ps_ret (pe_and (pe_cal C_is_crowd hr (by decide) (by rfl) (pa_cons (pv 0) (pa_cons (pv 1) pa_nil))) (pe_one (pe_cmpR op_gt (pe_callB (k_len K) (by rfl) B.t_len b_len (pa_cons (pv 1) pa_nil)) pe_int (nomark _)))))), ?_⟩
    refine ⟨_, rfl, _, rfl, n, t, c, rfl, ht, hc, few, fun H1 s1 => ⟨true, rfl, iteT ?_⟩⟩
    refine ⟨_, rfl, t, _, rfl, .inr (Tp.seq (s1 _ _ ht)), _, _, rfl, rfl, qT (Q := Q) (decide_eq_true ?_) (q _ s1)⟩
    rw [List.length_map]
    omega
def spRow : Sp := fun vs H Q _ => ∃ (n : Nat) (t : Addr) (c : List Nat), vs = [vi n, .ref t] ∧ Tp H t c ∧ (∀ x ∈ c, x < n) ∧ c.Nodup ∧ c.length ≤ 1000 ∧ ∀ H', Same H H' → Q (.bl true) H'
theorem ok_is_row (F : Fun K "is_row" "is_row" s_is_row f fd) (B : Bt mg) (C_are_persons : Cal P w K mg base "are_persons" 3 ["people", "thing"] spPers) : FnOk P w K mg base CX0 4 f fd ["people", "thing"] spRow := by
  refine F.ok sc_is_row (fun vs H Q E h => ?_) (fun cdv A outer s H vs Q E hr h => ?_)
  · obtain ⟨n, t, c, rfl, _⟩ := h
    rfl
  · obtain ⟨n, t, c, rfl, ht, hc, nd, few, q⟩ := h
    refine ⟨_, (pss_one (ps_ret (pe_and (pe_cal C_are_persons hr (by decide) (by rfl) (pa_cons (pv 0) (pa_cons (pv 1) pa_nil))) (pe_one (pe_cmpR op_eq (pe_callB call_lenD (by rfl) B.t_len b_len (pa_cons (pe_dc (own := [("person", 2)]) (g := (gName 2)) (tt := tYes) rfl sc_is_row.nd (k_tuple K (pv 1)) (blkOk_by (own := [("person", 2)]) (N := N_is_row) (sc := defScope s_is_row) (by decide +kernel)) (fun _ _ _ _ _ => (pg_name (i := 2) sc_is_row.nd rfl (by first | exact .inl rfl | exact .inr rfl))) (fun _ _ _ _ _ => pts_nil) (fun _ _ _ _ _ => (pv 2)) (fun _ _ _ _ _ => pe_bl)) pa_nil)) (pe_callB (k_len K) (by rfl) B.t_len b_len (pa_cons (pv 1) pa_nil)) (nomark _)))))), ?_⟩
    refine ⟨_, rfl, _, rfl, n, t, c, rfl, ht, hc, few, fun H1 s1 => ⟨true, rfl, iteT ?_⟩⟩
    have ht1 : Tp H1 t c := s1 _ _ ht
    refine ⟨_, rfl, t, rfl, ⟨_, ht1.seq⟩, fun D nD => ?_⟩
    refine dcKit (walk_tup (xs := c.map vi)) (fun i H2 => Same H1 H2 ∧ ∃ kvs : List (Key × V), H2 D = some (.dK kvs) ∧ kvs.map (·.1) = kc (c.take i)) ⟨same_upd nD, [], upd_same, rfl⟩ (fun i H2 _ q => Tp.seq (q.1 _ _ ht1)) ?_ ?_
    · rintro i x H2 H3 hi ⟨sm, kvs, eD, ek⟩ ⟨rfl, hx⟩
      have hi' : i < c.length := by simpa using hi
      have ha : c[i]? = some c[i] := List.getElem?_eq_getElem hi'
      obtain rfl := yv ha hx
      have no : valV kvs (Sum.inl ((c[i] : Nat) : Int) : Key) = none := by
        cases e : valV kvs (Sum.inl ((c[i] : Nat) : Int) : Key) with
        | none => rfl
        | some v =>
          have m := valV_in e
          rw [ek] at m
          obtain ⟨y, hy, ey⟩ := List.mem_map.mp m
          have ey' : (y : Int) = (c[i] : Nat) := Sum.inl.inj ey
          have ey2 : y = c[i] := by omega
          subst ey2
          obtain ⟨j, hj⟩ := List.mem_iff_getElem?.mp hy
          rw [List.getElem?_take] at hj
          by_cases hji : j < i
          · rw [if_pos hji] at hj
            have := nd_ix nd hj ha
            omega
          · rw [if_neg hji] at hj
            cases hj
      have el : kvs.length = i := by
        have := congrArg List.length ek
        simpa [Nat.min_eq_left (Nat.le_of_lt hi')] using this
      refine ⟨rfl, ⟨_, rfl, kvs, Sum.inl _, rfl, eD, small (by omega), sPut sm nD, _, upd_same, ?_⟩⟩
      rw [putK_new _ no, List.map_append, ek, take_next ha]
      show _ = List.map _ (_ ++ _)
      rw [List.map_append]
      rfl
    · rintro H2 ⟨sm, kvs, eD, ek⟩
      have el : kvs.length = c.length := by
        have := congrArg List.length ek
        simpa using this
      refine ⟨D, kvs, rfl, eD, _, rfl, t, _, rfl, .inr (Tp.seq (sm _ _ ht1)), rfl, ?_⟩
      refine qT (Q := Q) ?_ (q _ (s1.trans sm))
      rw [vEq, List.length_map, el]
      simp
def spOrder : Sp := fun vs H Q _ => ∃ (n : Nat) (t : Addr) (c : List Nat), vs = [vi n, .ref t] ∧ Tp H t c ∧ (∀ x ∈ c, x < n) ∧ c.Nodup ∧ c.length = n ∧ n ≤ 1000 ∧ ∀ H', Same H H' → Q (.bl true) H'
theorem ok_is_order (F : Fun K "is_order" "is_order" s_is_order f fd) (B : Bt mg) (C_is_row : Cal P w K mg base "is_row" 4 ["people", "thing"] spRow) : FnOk P w K mg base CX0 5 f fd ["people", "thing"] spOrder := by
  refine F.ok sc_is_order (fun vs H Q E h => ?_) (fun cdv A outer s H vs Q E hr h => ?_)
  · obtain ⟨n, t, c, rfl, _⟩ := h
    rfl
  · obtain ⟨n, t, c, rfl, ht, hc, nd, el, few, q⟩ := h
    refine ⟨_, (pss_one (ps_ret (pe_and (pe_cal C_is_row hr (by decide) (by rfl) (pa_cons (pv 0) (pa_cons (pv 1) pa_nil))) (pe_one (pe_cmpR op_eq (pe_callB (k_len K) (by rfl) B.t_len b_len (pa_cons (pv 1) pa_nil)) (pv 0) (nomark _)))))), ?_⟩
    refine ⟨_, rfl, _, rfl, n, t, c, rfl, ht, hc, nd, by omega, fun H1 s1 => ⟨true, rfl, iteT ?_⟩⟩
    refine ⟨_, rfl, t, _, rfl, .inr (Tp.seq (s1 _ _ ht)), _, rfl, rfl, ?_⟩
    refine qT (Q := Q) ?_ (q _ s1)
    rw [vEq, List.length_map, el]
    simp
def spCheck : Sp := fun vs H Q _ => ∃ (n : Nat) (t : Addr) (c : List Nat), vs = [vi n, .ref t] ∧ Tp H t c ∧ Asc n c ∧ n ≤ 1000 ∧ ∀ H', Same H H' → Q .non H'
theorem ok_check_crowd (F : Fun K "check_crowd" "check_crowd" s_check_crowd f fd) (C_is_crowd : Cal P w K mg base "is_crowd" 4 ["people", "thing"] spCrowd) : FnOk P w K mg base CX0 5 f fd ["people", "thing"] spCheck := by
  refine F.ok sc_check_crowd (fun vs H Q E h => ?_) (fun cdv A outer s H vs Q E hr h => ?_)
  · obtain ⟨n, t, c, rfl, _⟩ := h
    rfl
  · obtain ⟨n, t, c, rfl, ht, hc, few, q⟩ := h
    refine ⟨_, (pss_one (ps_if (pt_not (pt_val (pe_cal C_is_crowd hr (by decide) (by rfl) (pa_cons (pv 0) (pa_cons (pv 1) pa_nil)))))
    (pss_one ps_never)
    pss_nil)), ?_⟩
    exact ⟨_, rfl, _, rfl, n, t, c, rfl, ht, hc, few, fun H1 s1 => ⟨true, rfl, iteF (q _ s1)⟩⟩
def spMany : Sp := fun vs H Q _ => ∃ a b : Int, vs = [.int a, .int b] ∧ a ≤ b ∧ Q .non H
theorem ok_check_many (F : Fun K "check_many" "check_many" s_check_many f fd) : FnOk P w K mg base CX0 1 f fd ["number", "most"] spMany := by
  refine F.ok sc_check_many (fun vs H Q E h => ?_) (fun cdv A outer s H vs Q E hr h => ?_)
  · obtain ⟨a, b, rfl, _⟩ := h
    rfl
  · obtain ⟨a, b, rfl, hab, q⟩ := h
    refine ⟨_, (pss_one (ps_if (pt_cmpR op_gt (pv 0) (pv 1) (nomark _))
    (pss_one ps_never)
    pss_nil)), ?_⟩
    exact ⟨_, rfl, _, rfl, _, _, rfl, rfl, _, rfl, iteQ (fun z => by have := of_decide_eq_true z; omega) q⟩
/-! ### crowds as bits -/
def spBits : Sp := fun vs H Q _ => ∃ (t : Addr) (c : List Nat), vs = [.ref t] ∧ Tp H t c ∧ (∀ x ∈ c, x ≤ 1000) ∧ c.length ≤ 1000 ∧ ∀ H', Same H H' → Q (vi (bitsN c)) H'
theorem sum_bits : ∀ c : List Nat, (c.map fun a : Nat => (1 : Int) * 2 ^ ((a : Int)).toNat).sum = ((bitsN c : Nat) : Int)
  | [] => rfl
  | x :: c => by
    have ih := sum_bits c
    simp only [bitsN, List.map_cons, List.sum_cons] at ih ⊢
    rw [ih]
    simp
theorem ok_bits_of (F : Fun K "bits_of" "bits_of" s_bits_of f fd) (B : Bt mg) : FnOk P w K mg base CX0 1 f fd ["crowd"] spBits := by
  refine F.ok sc_bits_of (fun vs H Q E h => ?_) (fun cdv A outer s H vs Q E hr h => ?_)
  · obtain ⟨t, c, rfl, _⟩ := h
    rfl
  · obtain ⟨t, c, rfl, ht, hc, few, q⟩ := h
    refine ⟨_, (pss_one (ps_ret (pe_callB (k_sum K rfl) (by rfl) B.t_sum b_sum (pa_cons (pe_lc (own := [("person", 1)]) (g := (gName 1)) (tt := tYes) rfl sc_bits_of.nd (k_tuple K (pv 0)) (blkOk_by (own := [("person", 1)]) (N := N_bits_of) (sc := defScope s_bits_of) (by decide +kernel)) (fun _ _ _ _ _ => (pg_name (i := 1) sc_bits_of.nd rfl (by first | exact .inl rfl | exact .inr rfl))) (fun _ _ _ _ _ => pts_nil) (fun _ _ _ _ _ => (pe_op op_shl pe_int (pv 1)))) pa_nil)))), ?_⟩
    refine ⟨_, rfl, t, rfl, ⟨_, ht.seq⟩, fun D nD => ?_⟩
    refine lcFn (l := c) walk_tup (by simp) (fun _ => true) (fun a => .int (1 * 2 ^ ((a : Int)).toNat)) (by rw [List.length_map]; omega) nD (fun H1 sm => Tp.seq (sm _ _ ht)) (fun i a x H1 H2 kT kF ha sm y h1 _ => ?_) (fun H1 sm eD => ?_)
    · obtain ⟨rfl, hx⟩ := y
      obtain rfl := yv ha hx
      have hlt := hc a (List.mem_of_getElem? ha)
      exact ⟨rfl, _, rfl, _, _, rfl, rfl, ⟨by omega, by omega, by decide⟩, h1 rfl _ (Same.refl _)⟩
    · refine ⟨D, c.map fun a : Nat => (1 : Int) * 2 ^ ((a : Int)).toNat, rfl, .inl (.inl ?_), ?_⟩
      · rw [eD, List.filter_eq_self.mpr fun _ _ => rfl, List.map_map]
        rfl
      · rw [sum_bits]
        exact q _ sm
def spCrowdOf : Sp := fun vs H Q _ => ∃ (b n : Nat), vs = [vi b] ∧ b < 2 ^ n ∧ n ≤ 1000 ∧ ∀ H' p, Same H H' → H p = none → Tp H' p (crd n b.testBit) → Q (.ref p) H'
theorem and_one (b j : Nat) : decide (V.int (Builtin.bitAnd ((b : Int) / 2 ^ ((0 : Int) + (j : Nat)).toNat) 1) = V.int 1) = b.testBit j := by
  have e0 : ((0 : Int) + (j : Nat)).toNat = j := by omega
  have e1 : ((b : Int) / 2 ^ j) = ((b / 2 ^ j : Nat) : Int) := by
    rw [Int.natCast_ediv]
    simp
  rw [vEq, e0, e1, bitAnd_pp (Int.natCast_nonneg _) (by decide)]
  have e2 : (((b / 2 ^ j : Nat) : Int)).toNat = b / 2 ^ j := Int.toNat_natCast _
  rw [e2, Nat.testBit_eq_decide_div_mod_eq]
  have e3 : (1 : Int).toNat = 1 := rfl
  rw [e3, Nat.and_one_is_mod]
  exact decide_eq_decide.mpr ⟨fun h => by omega, fun h => by omega⟩
theorem ok_crowd_of (F : Fun K "crowd_of" "crowd_of" s_crowd_of f fd) (B : Bt mg) : FnOk P w K mg base CX0 1 f fd ["bits"] spCrowdOf := by
  refine F.ok sc_crowd_of (fun vs H Q E h => ?_) (fun cdv A outer s H vs Q E hr h => ?_)
  · obtain ⟨b, n, rfl, _⟩ := h
    rfl
  · obtain ⟨b, n, rfl, hb, few, q⟩ := h
    have hL : Builtin.Int.intBits (b : Int) ≤ n := PySem.intBits_le_iff.mpr (by simpa using hb)
    have hL2 : b < 2 ^ Builtin.Int.intBits (b : Int) := by
      have := PySem.intBits_le_iff.mp (Nat.le_refl (Builtin.Int.intBits (b : Int)))
      simpa using this
    refine ⟨_, (pss_one (ps_ret (pe_callTy (k_tupOf K) (by rfl) B.t_tuple b_tuple (pa_cons (pe_lc (own := [("person", 1)]) (g := (gName 1)) rfl sc_crowd_of.nd (pi_range1 (by rfl) B.t_range (pa_cons (pe_bits (pv 0)) pa_nil)) (blkOk_by (own := [("person", 1)]) (N := N_crowd_of) (sc := defScope s_crowd_of) (by decide +kernel)) (fun _ _ _ _ _ => (pg_name (i := 1) sc_crowd_of.nd rfl (by first | exact .inl rfl | exact .inr rfl))) (fun _ _ _ _ _ => (pts_one (pt_cmpR op_eq (pe_op op_and (pe_op op_shr (pv 0) (pv 1)) pe_int) pe_int (nomark _)))) (fun _ _ _ _ _ => (pv 1))) pa_nil)))), ?_⟩
    refine ⟨_, rfl, _, rfl, _, rfl, ?_, ?_, fun D nD => ?_⟩
    · omega
    · omega
    · have en : ((Builtin.Int.intBits (b : Int) : Nat) : Int).toNat = Builtin.Int.intBits (b : Int) := Int.toNat_natCast _
      rw [en]
      refine lcFn (l := List.range (Builtin.Int.intBits (b : Int))) walk_range (by simp) b.testBit vi (by omega) nD (fun _ _ => trivial) (fun i a x H1 H2 kT kF ha sm y h1 h2 => ?_) (fun H1 sm eD => ?_)
      · obtain ⟨rfl, rfl⟩ := y
        obtain ⟨rfl, hi⟩ := range_at ha
        refine ⟨rfl, ?_⟩
        refine ⟨_, rfl, _, rfl, _, _, rfl, rfl, ?_, _, _, rfl, rfl, rfl, _, rfl, ?_⟩
        · omega
        · rw [and_one]
          refine ite2 (fun e => ⟨_, rfl, ?_⟩) (fun e => h2 (by simpa using e) _ (Same.refl _))
          have := h1 e _ (Same.refl _)
          simpa using this
      · refine ⟨D, _, rfl, .inl ⟨.inl (.inl eD), fun l nl => ?_⟩⟩
        refine q _ l (sNew sm nl) (sm.free nl) ?_
        have e : (List.range (Builtin.Int.intBits (b : Int))).filter b.testBit = crd n b.testBit := crowdOf_eq hb hL2
        show upd _ l _ l = _
        rw [upd_same, e]
def spHolds : Sp := fun vs H Q _ => ∃ a b : Nat, vs = [vi a, vi b] ∧ Q (.bl (decide (a &&& b = b))) H
theorem ok_holds (F : Fun K "holds" "holds" s_holds f fd) : FnOk P w K mg base CX0 1 f fd ["bits", "some"] spHolds := by
  refine F.ok sc_holds (fun vs H Q E h => ?_) (fun cdv A outer s H vs Q E hr h => ?_)
  · obtain ⟨a, b, rfl, _⟩ := h
    rfl
  · obtain ⟨a, b, rfl, q⟩ := h
    refine ⟨_, (pss_one (ps_ret (pe_cmpR op_eq (pe_op op_and (pv 0) (pv 1)) (pv 1) (nomark _)))), ?_⟩
    refine ⟨_, rfl, _, rfl, _, _, rfl, rfl, _, rfl, rfl, ?_⟩
    have e : decide (V.int (Builtin.bitAnd (a : Int) (b : Int)) = V.int (b : Int)) = decide (a &&& b = b) := by
      rw [vEq, bitAnd_pp (by omega) (by omega), Int.toNat_natCast, Int.toNat_natCast]
      exact decide_eq_decide.mpr ⟨fun h => by omega, fun h => by rw [h]⟩
    rw [← e] at q
    exact q
end
end LL
set_option Elab.async false
set_option linter.all false
set_option maxRecDepth 100000
set_option maxHeartbeats 4000000
namespace LL
open PySem PySem.Spec PyProof.Rows L2
/-- a pair of a crowd and its bits -/
def PR (c : List Nat) (y : V) (H : Hp) : Prop := ∃ t a, y = .ref t ∧ H t = some (.tup [.ref a, vi (bitsN c)]) ∧ Tp H a c
theorem PR.mono {c : List Nat} {y : V} {H H' : Hp} (s : SameT H H') (h : PR c y H) : PR c y H' := by
  obtain ⟨t, a, e, h1, h2⟩ := h
  exact ⟨t, a, e, s _ _ h1, s _ _ h2⟩
theorem Rel.mapL {α β : Type} {R : β → V → Prop} {g : α → β} : ∀ {l : List α} {ys : List V}, Rel (fun a y => R (g a) y) l ys → Rel R (l.map g) ys
  | _, _, .nil => .nil
  | _, _, .cons h t => .cons h (Rel.mapL t)
theorem flat_take {α β : Type} (g : α → List β) (l : List α) (j : Nat) : ((l.take j).map g).flatten.length ≤ (l.map g).flatten.length := by
  have e : l.map g = (l.take j).map g ++ (l.drop j).map g := by rw [← List.map_append, List.take_append_drop]
  rw [e, List.flatten_append, List.length_append]
  omega
theorem flat_next {α β : Type} (g : α → List β) {l : List α} {j : Nat} {a : α} (h : l[j]? = some a) : ((l.take (j + 1)).map g).flatten = ((l.take j).map g).flatten ++ g a := by
  rw [take_next h, List.map_append, List.flatten_append]
  simp
theorem atLast {l : List Nat} {d : List Nat} {p : Nat} (h : l = d ++ [p]) : atI (l.map vi) (-1) = some (vi p) := by
  subst h
  rw [List.map_append]
  exact atI_last _ _
theorem oneShl (b x : Nat) : Builtin.bitOr (b : Int) (1 * 2 ^ ((x : Int)).toNat) = ((b ||| 2 ^ x : Nat) : Int) := by
  have e : (1 : Int) * 2 ^ ((x : Int)).toNat = ((2 ^ x : Nat) : Int) := by simp
  rw [e, Bits.bitOr_pp (by omega) (Int.natCast_nonneg _), Int.toNat_natCast, Int.toNat_natCast]
section
variable {P : Program} {w : World} {K : PySem.W.Frag} {mg : Str → Option Value} {base : Heap} {f : Addr} {fd : FuncData}
def spSize : Sp := fun vs H Q _ => ∃ (n s : Nat), vs = [vi n, vi s] ∧ n ≤ 10 ∧ s ≤ 10 ∧ ∀ H' p, Same H H' → H p = none → H' p = some (.lst ((lev n s).map fun c => vi (bitsN c))) → Q (.ref p) H'
theorem ok_crowds_of_size (F : Fun K "crowds_of_size" "crowds_of_size" s_crowds_of_size f fd) (B : Bt mg) : FnOk P w K mg base CX0 1 f fd ["people", "size"] spSize := by
  refine F.ok sc_crowds_of_size (fun vs H Q E h => ?_) (fun cdv A outer s H vs Q E hr h => ?_)
  · obtain ⟨n, s, rfl, _⟩ := h
    rfl
  · obtain ⟨n, s, rfl, hn, hs, q⟩ := h
    refine ⟨_, (pss_cons (ps_set (i := 2) sc_crowds_of_size.nd rfl (by first | exact .inl rfl | exact .inr rfl) (pe_lst (pa_cons (pe_tup (pa_cons (pe_tup pa_nil) (pa_cons pe_int pa_nil))) pa_nil)))
    (pss_cons (ps_for PassesOwn.never rfl (pi_range1 (by rfl) B.t_range (pa_cons (pv 1) pa_nil)) (pg_name (i := 3) sc_crowds_of_size.nd rfl (by first | exact .inl rfl | exact .inr rfl))
    (pss_cons (ps_set (i := 4) sc_crowds_of_size.nd rfl (by first | exact .inl rfl | exact .inr rfl) (pe_lst pa_nil))
    (pss_cons (ps_for PassesOwn.never rfl (k_list K (pv 2)) (k_tup K (n := 2) rfl (pgs_cons (pg_name (i := 5) sc_crowds_of_size.nd rfl (by first | exact .inl rfl | exact .inr rfl)) (pgs_cons (pg_name (i := 6) sc_crowds_of_size.nd rfl (by first | exact .inl rfl | exact .inr rfl)) pgs_nil)))
    (pss_cons (ps_set (i := 7) sc_crowds_of_size.nd rfl (by first | exact .inl rfl | exact .inr rfl) (pe_cut (pe_ifExp (pt_cmpR op_gt (pe_callB (k_len K) (by rfl) B.t_len b_len (pa_cons (pv 5) pa_nil)) pe_int (nomark _)) (pe_op op_add (pe_ix (k_ixT K) (pv 5) (pe_un un_neg pe_int) (fun _ _ => rfl)) pe_int) pe_int)))
    (pss_one (ps_expr (pe_bm PySem.F.plainAttrs_list PySem.F.slot_list_extend PySem.F.type_list_extend mt_extend (pv 4) (pa_cons (pe_lc (own := [("person", 8)]) (g := (gName 8)) (tt := tYes) rfl sc_crowds_of_size.nd (pi_range2 (by rfl) B.t_range (pa_cons (pv 7) (pa_cons (pv 0) pa_nil))) (blkOk_by (own := [("person", 8)]) (N := N_crowds_of_size) (sc := defScope s_crowds_of_size) (by decide +kernel)) (fun _ _ _ _ _ => (pg_name (i := 8) sc_crowds_of_size.nd rfl (by first | exact .inl rfl | exact .inr rfl))) (fun _ _ _ _ _ => pts_nil) (fun _ _ _ _ _ => (pe_tup (pa_cons (pe_cut (pe_op (k_catA K) (pv 5) (pe_tup (pa_cons (pv 8) pa_nil)))) (pa_cons (pe_op op_or (pv 6) (pe_op op_shl pe_int (pv 8))) pa_nil))))) pa_nil))))))
    (pss_one (ps_set (i := 2) sc_crowds_of_size.nd rfl (by first | exact .inl rfl | exact .inr rfl) (pv 4))))))
    (pss_one (ps_ret (pe_lc (own := [("crowd", 5), ("bits", 6)]) (tt := tYes) rfl sc_crowds_of_size.nd (k_list K (pv 2)) (blkOk_by (own := [("crowd", 5), ("bits", 6)]) (N := N_crowds_of_size) (sc := defScope s_crowds_of_size) (by decide +kernel)) (fun _ _ _ _ _ => (k_tup K (n := 2) rfl (pgs_cons (pg_name (i := 5) sc_crowds_of_size.nd rfl (by first | exact .inl rfl | exact .inr rfl)) (pgs_cons (pg_name (i := 6) sc_crowds_of_size.nd rfl (by first | exact .inl rfl | exact .inr rfl)) pgs_nil)))) (fun _ _ _ _ _ => pts_nil) (fun _ _ _ _ _ => (pv 6))))))), ?_⟩
    -- the first list of pairs
    refine ⟨Nat.zero_le _, fun a0 na0 => ⟨by show 2 ≤ sizeLine; decide, fun t0 nt0 => ⟨by show 1 ≤ sizeLine; decide, fun f0 nf0 => ?_⟩⟩⟩
    have s0 : Same H (upd (upd (upd H a0 (.tup [])) t0 (.tup [.ref a0, .int 0])) f0 (.lst [.ref t0])) := sNew (sNew (same_upd na0) nt0) nf0
    have r0 : PR [] (.ref t0) (upd (upd (upd H a0 (.tup [])) t0 (.tup [.ref a0, .int 0])) f0 (.lst [.ref t0])) := by
      have h1 : (upd (upd H a0 (.tup [])) t0 (.tup [.ref a0, .int 0])) t0 = some (.tup [.ref a0, .int 0]) := upd_same
      have h2 : (upd (upd H a0 (.tup [])) t0 (.tup [.ref a0, .int 0])) a0 = some (.tup []) := by
        rw [upd_ne (ne_of_none upd_same nt0)]
        exact upd_same
      refine ⟨t0, a0, rfl, ?_, ?_⟩
      · rw [upd_ne (ne_of_none h1 nf0)]
        exact h1
      · show upd _ _ _ _ = _
        rw [upd_ne (ne_of_none h2 nf0)]
        exact h2
    have e0 : (upd (upd (upd H a0 (.tup [])) t0 (.tup [.ref a0, .int 0])) f0 (.lst [.ref t0])) f0 = some (.lst [.ref t0]) := upd_same
    generalize upd (upd (upd H a0 (.tup [])) t0 (.tup [.ref a0, .int 0])) f0 (.lst [.ref t0]) = H0 at s0 r0 e0 ⊢
    -- the turns
    refine ⟨_, rfl, _, rfl, by omega, by omega, ?_⟩
    rw [show ((s : Nat) : Int).toNat = s from Int.toNat_natCast _]
    refine for_it walk_range (fun i σ H1 => ∃ fo ys o3 o4 o5 o6 o7 o8, σ = [some (vi n), some (vi s), some (.ref fo), o3, o4, o5, o6, o7, o8] ∧ Same H H1 ∧ H1 fo = some (.lst ys) ∧ Rel (fun c y => PR c y H1) (lev n i) ys)
      ⟨f0, [.ref t0], none, none, none, none, none, none, rfl, s0, e0, .cons r0 .nil⟩ (fun _ _ _ _ _ => trivial) ?_ ?_
    · rintro i x σ H1 H1' hi ⟨fo, ys, o3, o4, o5, o6, o7, o8, rfl, sm, ef, rel⟩ ⟨rfl, rfl⟩
      have few := lev_few n hn i (by omega)
      have few1 := lev_few n hn (i + 1) (by omega)
      -- the longer ones
      refine ⟨Nat.zero_le _, fun D nD => ?_⟩
      have efD : (upd H1' D (.lst [])) fo = some (.lst ys) := by
        rw [upd_ne (ne_of_none ef nD)]
        exact ef
      -- each pair
      refine ⟨_, rfl, fo, rfl, ⟨ys, .inl (.inl efD)⟩, ?_⟩
      refine for_it (walk_list (xs := ys)) (fun j σ H2 => ∃ o3 o5 o6 o7 o8 zs, σ = [some (vi n), some (vi s), some (.ref fo), o3, some (.ref D), o5, o6, o7, o8] ∧ Same H1' H2 ∧ H2 D = some (.lst zs) ∧ Rel (fun c y => PR c y H2) (((lev n i).take j).map (ext n)).flatten zs)
        ⟨_, _, _, _, _, [], rfl, same_upd nD, upd_same, .nil⟩ (fun j σ H2 _ ⟨_, _, _, _, _, _, _, q, _⟩ => .inl (.inl (q _ _ ef))) ?_ ?_
      · rintro j x σ H2 H2' hj ⟨o3, o5, o6, o7, o8, zs, rfl, sm2, eD, rz⟩ ⟨rfl, hx⟩
        have hjl : j < (lev n i).length := by rw [rel.length]; exact hj
        obtain ⟨c, hc⟩ : ∃ c, (lev n i)[j]? = some c := ⟨_, List.getElem?_eq_getElem hjl⟩
        have hasc := lev_asc i c (List.mem_of_getElem? hc)
        obtain ⟨y, hy, t, a, rfl, ht, ha⟩ := rel.get hc
        obtain rfl : x = .ref t := Option.some.inj (hx.symm.trans hy)
        have ht2 := sm2 _ _ ht
        have ha2 : Tp H2' a c := sm2 _ _ ha
        refine ⟨t, _, rfl, .inl (.inl ht2), rfl, _, _, rfl, _, _, rfl, rfl, ?_⟩
        -- first
        refine ⟨fun v H' => v = vi (nxt c) ∧ H' = H2', ?_, ?_⟩
        · refine ⟨_, rfl, a, _, rfl, .inr ha2.seq, _, _, rfl, rfl, _, rfl, ?_⟩
          rcases List.eq_nil_or_concat c with e | ⟨d, l, e⟩
          · subst e
            exact iteQ (by simp) ⟨rfl, rfl⟩
          · rw [List.concat_eq_append] at e
            refine iteP (decide_eq_true ?_) ⟨_, rfl, 1, rfl, a, _, _, vi l, rfl, rfl, ha2.seq, atLast e, _, _, rfl, rfl, ?_, rfl⟩
            · rw [e]
              simp
            · rw [e, nxt_snoc]
              rfl
        rintro v H3 ⟨rfl, rfl⟩
        -- its longer ones
        refine ⟨_, rfl, .inl ⟨rfl, _, .inl (.inl eD)⟩, ?_⟩
        refine ⟨_, rfl, _, rfl, _, _, rfl, ⟨by omega, ?_, by omega, by omega⟩, fun L nL => ?_⟩
        · have : nxt c ≤ 10 := by
            rcases List.eq_nil_or_concat c with e | ⟨d, l, e⟩
            · subst e
              exact Nat.zero_le _
            · rw [List.concat_eq_append] at e
              subst e
              rw [nxt_snoc]
              have := hasc.2 l (List.mem_append_right _ List.mem_cons_self)
              omega
          omega
        have en : ((n : Int) - (nxt c : Nat)).toNat = n - nxt c := by omega
        rw [en]
        refine lcRel (l := List.range (n - nxt c)) walk_range (by simp) (fun _ => true) (fun k y H => PR (c ++ [nxt c + k]) y H) (fun k y H H' s r => r.mono s) (by omega) nL (fun _ _ => trivial) ?_ ?_
        · rintro k b x H4 H4' kT kF hb sm4 ⟨rfl, ex⟩ h1 _
          obtain ⟨rfl, hk⟩ := range_at hb
          obtain rfl : x = vi (nxt c + b) := ex.trans (congrArg V.int (by omega))
          have ha4 : Tp H4' a c := sm4 _ _ ha2
          refine ⟨rfl, ?_⟩
          refine ⟨fun v H' => ∃ r, v = .ref r ∧ Same H4' H' ∧ Tp H' r (c ++ [nxt c + b]), ?_, ?_⟩
          · refine ⟨_, rfl, _, rfl, by show 1 ≤ sizeLine; decide, fun p1 np1 => ?_⟩
            have s1 : Same H4' (upd H4' p1 (.tup [vi (nxt c + b)])) := same_upd np1
            refine ⟨a, p1, _, _, rfl, rfl, Tp.seq (s1 _ _ ha4), .inl (.inl upd_same), ?_, fun e => ⟨p1, rfl, s1, ?_⟩, (fun _ e => by cases e), fun _ _ p2 np2 => ⟨p2, rfl, sNew s1 np2, ?_⟩⟩
            · have := asc_length hasc
              refine small' ?_
              rw [List.length_map]
              simp
              omega
            · have e2 : c = [] := List.map_eq_nil_iff.mp e
              show upd _ _ _ _ = _
              rw [upd_same, e2]
              all_goals rfl
            · show upd _ _ _ _ = _
              rw [upd_same, List.map_append]
              rfl
          · rintro v H5 ⟨r, rfl, s5, hr5⟩
            refine ⟨_, rfl, _, rfl, _, _, rfl, rfl, ⟨by omega, by omega, by decide⟩, _, _, rfl, rfl, by show 2 ≤ sizeLine; decide, fun p3 np3 => ?_⟩
            refine h1 rfl _ _ (sNew s5 np3) ⟨p3, r, rfl, ?_, same_upd np3 _ _ hr5⟩
            rw [upd_same]
            exact congrArg (fun z : Int => some (HO.tup [V.ref r, V.int z])) ((oneShl _ _).trans (by rw [bits_asc_snoc hasc (by omega)]))
        · intro H5 ws sm5 eL relw
          have eD5 := sm5 _ _ eD
          rw [List.filter_eq_self.mpr fun _ _ => rfl] at relw
          have sT : SameT H5 (upd H5 D (.lst (zs ++ ws))) := SameT.upd eD5 fun _ q => nomatch q
          have rel2 : Rel (fun c y => PR c y (upd H5 D (.lst (zs ++ ws)))) (((lev n i).take (j + 1)).map (ext n)).flatten (zs ++ ws) := by
            rw [flat_next _ hc]
            exact Rel.app (rz.mono fun b v r => (r.mono (SameT.of sm5)).mono sT) (Rel.mapL (relw.mono fun b v r => r.mono sT))
          have lz := rel2.length
          have lf := flat_take (ext n) (lev n i) (j + 1)
          have lf2 : ((lev n i).map (ext n)).flatten.length ≤ 1024 := few1
          refine ⟨D, L, zs, ws, rfl, rfl, eD5, eL, ?_, ?_⟩
          · rw [← List.length_append, ← lz]
            exact small' (by omega)
          · exact ⟨_, _, _, _, _, zs ++ ws, rfl, sPut (sm2.trans sm5) nD, upd_same, rel2⟩
      · rintro σ H2 ⟨o3, o5, o6, o7, o8, zs, rfl, sm2, eD, rz⟩
        rw [take_all rel.length] at rz
        exact ⟨_, rfl, D, zs, _, _, _, _, _, _, rfl, sm.trans sm2, eD, rz⟩
    · rintro σ H1 ⟨fo, ys, o3, o4, o5, o6, o7, o8, rfl, sm, ef, rel⟩
      have few := lev_few n hn s hs
      refine ⟨_, rfl, fo, rfl, ⟨ys, .inl (.inl ef)⟩, fun D nD => ?_⟩
      refine lcFn (l := lev n s) (walk_list (xs := ys)) rel.length (fun _ => true) (fun c => vi (bitsN c)) (by rw [← rel.length]; omega) nD (fun H2 sm2 => .inl (.inl (sm2 _ _ ef))) ?_ ?_
      · rintro i c x H2 H2' kT kF hc sm2 ⟨rfl, hx⟩ h1 _
        obtain ⟨y, hy, t, a, rfl, ht, ha⟩ := rel.get hc
        obtain rfl : x = .ref t := Option.some.inj (hx.symm.trans hy)
        exact ⟨t, _, rfl, .inl (.inl (sm2 _ _ ht)), rfl, _, _, rfl, _, _, rfl, rfl, rfl, _, rfl, h1 rfl _ (Same.refl _)⟩
      · intro H2 sm2 eD
        rw [List.filter_eq_self.mpr fun _ _ => rfl] at eD
        exact q H2 D (sm.trans sm2) (sm.free nD) eD
end
end LL
set_option Elab.async false
set_option linter.all false
set_option maxRecDepth 100000
set_option maxHeartbeats 4000000
namespace LL
open PySem PySem.Spec PyProof.Rows L2
/-- a tuple of tuples of persons -/
def TT (H : Hp) (t : Addr) (ks : List (Addr × List Nat)) : Prop := H t = some (.tup (ks.map fun p => V.ref p.1)) ∧ ∀ p ∈ ks, Tp H p.1 p.2
theorem TT.same {H H' : Hp} {t : Addr} {ks : List (Addr × List Nat)} (h : TT H t ks) (s : Same H H') : TT H' t ks := ⟨s _ _ h.1, fun p hp => s _ _ (h.2 p hp)⟩
theorem TT.seq {K : PySem.W.Frag} {H : Hp} {t : Addr} {ks : List (Addr × List Nat)} (h : TT H t ks) : SqT K H t (ks.map fun p => V.ref p.1) := .inl (.inl h.1)
section
variable {P : Program} {w : World} {K : PySem.W.Frag} {mg : Str → Option Value} {base : Heap} {f : Addr} {fd : FuncData}
def spBySize : Sp := fun vs H Q _ => ∃ n : Nat, vs = [vi n] ∧ n ≤ 10 ∧ ∀ H' p, Same H H' → H p = none → H' p = some (.lst ((levs n (n + 1)).map fun c => vi (bitsN c))) → Q (.ref p) H'
theorem ok_crowds_by_size (F : Fun K "crowds_by_size" "crowds_by_size" s_crowds_by_size f fd) (B : Bt mg) (C_crowds_of_size : Cal P w K mg base "crowds_of_size" 1 ["people", "size"] spSize) : FnOk P w K mg base CX0 2 f fd ["people"] spBySize := by
  refine F.ok sc_crowds_by_size (fun vs H Q E h => ?_) (fun cdv A outer s H vs Q E hr h => ?_)
  · obtain ⟨n, rfl, _⟩ := h
    rfl
  · obtain ⟨n, rfl, hn, q⟩ := h
    refine ⟨_, (pss_one (ps_ret (pe_lc2 (own := [("size", 1), ("bits", 2)]) (g := (gName 1)) (g1 := (gName 2)) (tt := tYes) (tt1 := tYes) (vs1 := [2]) rfl sc_crowds_by_size.nd (pi_range1 (by rfl) B.t_range (pa_cons (pe_op op_add (pv 0) pe_int) pa_nil)) (blkOk_by (own := [("size", 1), ("bits", 2)]) (N := N_crowds_by_size) (sc := defScope s_crowds_by_size) (by decide +kernel)) (by decide) (fun _ _ _ _ _ => (pg_name (i := 1) sc_crowds_by_size.nd rfl (by first | exact .inl rfl | exact .inr rfl))) (fun _ _ _ _ _ => pts_nil) (fun _ _ _ _ _ => (k_list K (pe_cal C_crowds_of_size hr (by decide) (by rfl) (pa_cons (pv 0) (pa_cons (pv 1) pa_nil))))) (fun _ _ _ _ _ => (pg_name (i := 2) sc_crowds_by_size.nd rfl (by first | exact .inl rfl | exact .inr rfl))) (fun _ _ _ _ _ => pts_nil) (fun _ _ _ _ _ => (pv 2))))), ?_⟩
    refine ⟨_, rfl, _, _, rfl, rfl, _, rfl, by omega, by omega, fun D nD => ?_⟩
    have en : ((n : Int) + 1).toNat = n + 1 := by omega
    rw [en]
    refine ⟨fun i m H1 => m + i = n + 1 ∧ Same H H1 ∧ H1 D = some (.lst ((levs n i).map fun c => vi (bitsN c))), ⟨n + 1, rfl, same_upd nD, upd_same⟩, ?_⟩
    rintro i m H1 ⟨em, sm, eD⟩
    by_cases hi : i < n + 1
    · refine .inr ⟨hi, fun H2 => Same H H2 ∧ H2 D = some (.lst ((levs n (i + 1)).map fun c => vi (bitsN c))), fun H2 p => ⟨m - 1, by omega, by omega, p⟩, ?_⟩
      rintro x H2 ⟨rfl, ex⟩
      obtain rfl : x = vi i := ex.trans (congrArg V.int (by omega))
      have few := lev_few n hn i (by omega)
      have few2 := levs_few n hn (i + 1) (by omega)
      rw [levs_succ, List.length_append] at few2
      refine ⟨rfl, _, rfl, _, rfl, n, i, rfl, hn, by omega, fun H4 p s4 np ep => ?_⟩
      have npD : p ≠ D := fun e => by
        rw [e, eD] at np
        cases np
      refine ⟨p, rfl, ⟨_, .inl (.inl ep)⟩, fun j k H5 => k + j = (lev n i).length ∧ Same H H5 ∧ H5 p = some (.lst ((lev n i).map fun c => vi (bitsN c))) ∧ H5 D = some (.lst ((levs n i ++ (lev n i).take j).map fun c => vi (bitsN c))),
        ⟨_, rfl, sm.trans s4, ep, ?_⟩, ?_⟩
      · rw [s4 _ _ eD, List.take_zero, List.append_nil]
      · rintro j k H5 ⟨ek, s5, e5, d5⟩
        by_cases hj : j < (lev n i).length
        · obtain ⟨c, hc⟩ : ∃ c, (lev n i)[j]? = some c := ⟨_, List.getElem?_eq_getElem hj⟩
          have hx : ((lev n i).map fun c => vi (bitsN c))[j]? = some (vi (bitsN c)) := by
            rw [List.getElem?_map, hc]
            rfl
          refine .inr ⟨⟨_, _, .inl (.inl e5), hx⟩, fun H6 => Same H H6 ∧ H6 p = some (.lst ((lev n i).map fun c => vi (bitsN c))) ∧ H6 D = some (.lst ((levs n i ++ (lev n i).take (j + 1)).map fun c => vi (bitsN c))), fun H6 r => ⟨k - 1, by omega, by omega, r⟩, ?_⟩
          rintro x H6 ⟨rfl, fx⟩
          obtain rfl : x = vi (bitsN c) := Option.some.inj ((fx _ (.inl (.inl e5))).symm.trans hx)
          refine ⟨rfl, _, rfl, _, d5, ?_, sPut s5 nD, ?_, ?_⟩
          · rw [List.length_map, List.length_append, List.length_take]
            exact small (by omega)
          · rw [upd_ne npD]
            exact e5
          · rw [upd_same, take_next hc, ← List.append_assoc, List.map_append (l₁ := levs n i ++ (lev n i).take j)]
            rfl
        · refine .inl ⟨⟨_, .inl (.inl e5), ?_⟩, s5, ?_⟩
          · rw [List.length_map]
            omega
          · rw [d5, List.take_of_length_le (by omega), levs_succ]
    · have e : i = n + 1 := by omega
      subst e
      exact .inl ⟨Nat.le_refl _, q _ D sm nD eD⟩
def spWrong : Sp := fun vs H Q _ => ∃ (n : Nat) (t : Addr) (ks : List (Addr × List Nat)), vs = [vi n, .ref t] ∧ TT H t ks ∧ Lots n (ks.map (·.2)) ∧ n ≤ 1000 ∧ ∀ H', Same H H' → Q .non H'
theorem ok_first_wrong_lot (F : Fun K "first_wrong_lot" "first_wrong_lot" s_first_wrong_lot f fd) (B : Bt mg) (C_is_lot : Cal P w K mg base "is_lot" 5 ["people", "thing"] spLot) (C_bits_of : Cal P w K mg base "bits_of" 1 ["crowd"] spBits)
    (C_holds : Cal P w K mg base "holds" 1 ["bits", "some"] spHolds) : FnOk P w K mg base CX0 6 f fd ["people", "lots"] spWrong := by
  refine F.ok sc_first_wrong_lot (fun vs H Q E h => ?_) (fun cdv A outer s H vs Q E hr h => ?_)
  · obtain ⟨n, t, ks, rfl, _⟩ := h
    rfl
  · obtain ⟨n, t, ks, rfl, ht, hL, hn, q⟩ := h
    have lk : ks.length ≤ 60 := by simpa using hL.few
    refine ⟨_, (pss_cons (ps_set (i := 2) sc_first_wrong_lot.nd rfl (by first | exact .inl rfl | exact .inr rfl) (pe_lst pa_nil))
    (pss_cons (ps_for PassesOwn.never rfl (pi_enumT (by rfl) B.t_enumerate (pa_cons (pv 1) pa_nil)) (k_tup K (n := 2) rfl (pgs_cons (pg_name (i := 3) sc_first_wrong_lot.nd rfl (by first | exact .inl rfl | exact .inr rfl)) (pgs_cons (pg_name (i := 4) sc_first_wrong_lot.nd rfl (by first | exact .inl rfl | exact .inr rfl)) pgs_nil)))
    (pss_cons (ps_if (pt_cut (PW.pt (pw_or (pt_not (pt_val (pe_cal C_is_lot hr (by decide) (by rfl) (pa_cons (pv 0) (pa_cons (pv 4) pa_nil))))) (pw_or1 (PW.pt (pw_and (pt_cmpR op_gt (pv 3) pe_int (nomark _)) (pw_and1 (pt_not (pt_cmpR (k_ltT K hr.units0) (pe_ix (k_ixT K) (pv 1) (pe_op op_sub (pv 3) pe_int) (fun _ _ => rfl)) (pv 4) (nomark _))))))))))
    (pss_one (ps_ret (pv 3)))
    pss_nil)
    (pss_cons (ps_set (i := 5) sc_first_wrong_lot.nd rfl (by first | exact .inl rfl | exact .inr rfl) (pe_cal C_bits_of hr (by decide) (by rfl) (pa_cons (pv 4) pa_nil)))
    (pss_cons (ps_if (pt_val (pe_callB (k_any K rfl) (by rfl) B.t_any b_any (pa_cons (pe_lc (own := [("other", 6)]) (g := (gName 6)) (tt := tYes) rfl sc_first_wrong_lot.nd (k_list K (pv 2)) (blkOk_by (own := [("other", 6)]) (N := N_first_wrong_lot) (sc := defScope s_first_wrong_lot) (by decide +kernel)) (fun _ _ _ _ _ => (pg_name (i := 6) sc_first_wrong_lot.nd rfl (by first | exact .inl rfl | exact .inr rfl))) (fun _ _ _ _ _ => pts_nil) (fun _ _ _ _ _ => (pe_or (pe_cal C_holds hr (by decide) (by rfl) (pa_cons (pv 5) (pa_cons (pv 6) pa_nil))) (pe_one (pe_cal C_holds hr (by decide) (by rfl) (pa_cons (pv 6) (pa_cons (pv 5) pa_nil))))))) pa_nil)))
    (pss_one (ps_ret (pv 3)))
    pss_nil)
    (pss_one (ps_expr (pe_bm PySem.F.plainAttrs_list PySem.F.slot_list_append PySem.F.type_list_append mt_append (pv 2) (pa_cons (pv 5) pa_nil))))))))
    (pss_one (ps_ret pe_non)))), ?_⟩
    -- none yet
    refine ⟨Nat.zero_le _, fun fo nfo => ?_⟩
    have s0 : Same H (upd H fo (.lst [])) := same_upd nfo
    -- each lot
    refine ⟨_, rfl, t, _, rfl, (ht.same s0).seq, ?_⟩
    refine for_it (walkEnumT (xs := ks.map fun p => V.ref p.1)) (fun i σ H1 => ∃ o3 o4 o5 o6, σ = [some (vi n), some (.ref t), some (.ref fo), o3, o4, o5, o6] ∧ Same H H1 ∧ H1 fo = some (.lst ((ks.take i).map fun p => vi (bitsN p.2))))
      ⟨_, _, _, _, rfl, s0, upd_same⟩ (fun i σ H1 _ ⟨_, _, _, _, _, q, _⟩ => (ht.same q).seq) ?_ ?_
    · rintro i x σ H1 H2 hi ⟨o3, o4, o5, o6, rfl, sm, ef⟩ ⟨T, x1, x2, rfl, nT, rfl, e1, e2⟩
      obtain rfl : x1 = vi i := (Option.some.inj e1).symm
      have hi' : i < ks.length := by simpa using hi
      obtain ⟨k, hk⟩ : ∃ k, ks[i]? = some k := ⟨_, List.getElem?_eq_getElem hi'⟩
      obtain rfl := yv hk e2
      have mk := List.mem_of_getElem? hk
      have mk2 : k.2 ∈ ks.map (·.2) := List.mem_map.mpr ⟨k, mk, rfl⟩
      have hasc := hL.asc _ mk2
      have s2 : Same H (upd H1 T (.tup [vi i, .ref k.1])) := sNew sm nT
      have ef2 : (upd H1 T (.tup [vi i, .ref k.1])) fo = some (.lst ((ks.take i).map fun p => vi (bitsN p.2))) := same_upd nT _ _ ef
      refine ⟨T, _, rfl, .inl (.inl upd_same), rfl, _, _, rfl, _, _, rfl, rfl, ?_⟩
      generalize upd H1 T (.tup [vi i, .ref k.1]) = H2 at s2 ef2 ⊢
      -- a lot, and behind the one ahead
      refine ⟨fun b H' => b = false ∧ Same H2 H', ?_, ?_⟩
      · refine ⟨_, rfl, _, rfl, n, k.1, k.2, rfl, (ht.same s2).2 k mk, hasc, hn, hL.two _ mk2, fun H3 s3 => ⟨true, rfl, iteF ?_⟩⟩
        refine ⟨_, rfl, _, _, rfl, rfl, _, rfl, ?_⟩
        refine ite2 (fun e => ?_) (fun e => ⟨rfl, s3⟩)
        have pos : 0 < i := by
          have := of_decide_eq_true e
          omega
        obtain ⟨j, rfl⟩ : ∃ j, i = j + 1 := ⟨i - 1, by omega⟩
        obtain ⟨k0, hk0⟩ : ∃ k0, ks[j]? = some k0 := ⟨_, List.getElem?_eq_getElem (by omega)⟩
        have hT3 := (ht.same s2).same s3
        have g0 : (ks.map fun p => V.ref p.1)[j]? = some (.ref k0.1) := by
          rw [List.getElem?_map, hk0]
          rfl
        have ej : ((j + 1 : Nat) : Int) - 1 = (j : Nat) := by omega
        refine ⟨_, rfl, _, rfl, _, _, rfl, rfl, t, _, _, _, rfl, rfl, hT3.seq, at_of ej g0, _, rfl, ?_⟩
        refine ⟨k0.1, k.1, _, _, rfl, rfl, Tp.ints (hT3.2 k0 (List.mem_of_getElem? hk0)), Tp.ints (hT3.2 k mk), true, ?_, rfl, s3⟩
        have := List.pairwise_iff_getElem.mp hL.up j (j + 1) (by simpa using Nat.lt_of_succ_lt hi') (by simpa using hi') (by omega)
        have a0 : (ks.map (·.2))[j]'(by simpa using Nat.lt_of_succ_lt hi') = k0.2 := by
          have := (List.getElem?_eq_some_iff.mp hk0).2
          simp [this]
        have a1 : (ks.map (·.2))[j + 1]'(by simpa using hi') = k.2 := by
          have := (List.getElem?_eq_some_iff.mp hk).2
          simp [this]
        rw [a0, a1] at this
        rw [this]
      rintro b H3 ⟨rfl, s3⟩
      refine iteF ?_
      have hT3 := (ht.same s2).same s3
      -- its bits
      refine ⟨_, rfl, k.1, k.2, rfl, hT3.2 k mk, fun x hx => ?_, ?_, fun H4 s4 => ?_⟩
      · have := hasc.2 x hx
        omega
      · have := asc_length hasc
        omega
      have ef4 := s4 _ _ (s3 _ _ ef2)
      -- apart from all ahead
      refine ⟨_, rfl, fo, rfl, ⟨_, .inl (.inl ef4)⟩, fun D nD => ?_⟩
      refine lcFn (l := ks.take i) (walk_list (xs := (ks.take i).map fun p => vi (bitsN p.2))) (by simp) (fun _ => true) (fun _ => .bl false) (by simp; omega) nD (fun H5 s5 => .inl (.inl (s5 _ _ ef4))) ?_ ?_
      · rintro j p x H5 H6 kT kF hp s5 ⟨rfl, hx⟩ h1 _
        obtain rfl := yv hp hx
        have hp' : ks[j]? = some p := by
          rw [List.getElem?_take] at hp
          split at hp
          · exact hp
          · cases hp
        have hji : j < i := by
          rw [List.getElem?_take] at hp
          split at hp
          · assumption
          · cases hp
        have mp := List.mem_of_getElem? hp'
        have mp2 : p.2 ∈ ks.map (·.2) := List.mem_map.mpr ⟨p, mp, rfl⟩
        have pasc := hL.asc _ mp2
        have ne : p.2 ≠ k.2 := fun e => by
          have := List.pairwise_iff_getElem.mp hL.up j i (by simp; omega) (by simpa using hi') hji
          have a0 : (ks.map (·.2))[j]'(by simp; omega) = p.2 := by
            have := (List.getElem?_eq_some_iff.mp hp').2
            simp [this]
          have a1 : (ks.map (·.2))[i]'(by simpa using hi') = k.2 := by
            have := (List.getElem?_eq_some_iff.mp hk).2
            simp [this]
          rw [a0, a1, e] at this
          have irr : ∀ l : List Int, HT.lexLt l l = false := by
            intro l
            induction l with
            | nil => rfl
            | cons x r ih => rw [HT.lexLt_cons, if_pos rfl, ih]
          rw [irr] at this
          cases this
        have n1 : ¬ bitsN k.2 &&& bitsN p.2 = bitsN p.2 := fun e => by
          have := hL.apart _ mp2 _ mk2 ne
          rw [within_iff.mpr ((holds_bits hasc pasc).mp e)] at this
          cases this
        have n2 : ¬ bitsN p.2 &&& bitsN k.2 = bitsN k.2 := fun e => by
          have := hL.apart _ mk2 _ mp2 (Ne.symm ne)
          rw [within_iff.mpr ((holds_bits pasc hasc).mp e)] at this
          cases this
        refine ⟨rfl, ?_⟩
        refine ⟨_, rfl, _, rfl, _, _, rfl, _, rfl, ?_⟩
        refine iteQ (fun e => n1 (of_decide_eq_true e)) ?_
        exact ⟨_, rfl, _, rfl, _, _, rfl, qF (Q := kT) (decide_eq_false n2) (h1 rfl _ (Same.refl _))⟩
      · intro H5 s5 eD
        rw [List.filter_eq_self.mpr fun _ _ => rfl] at eD
        refine ⟨D, List.replicate (ks.take i).length false, rfl, .inl (.inl ?_), ?_⟩
        · rw [eD, List.map_const', List.map_replicate]
        · have e : (List.replicate (ks.take i).length false).any id = false := by simp
          refine ⟨_, rfl, ?_⟩
          rw [e]
          refine iteF ?_
          -- kept
          have ef5 := s5 _ _ ef4
          refine ⟨_, rfl, .inl ⟨rfl, _, .inl (.inl ef5)⟩, _, rfl, fo, _, _, rfl, rfl, ef5, ?_, ?_⟩
          · simp
            exact small (by omega)
          · refine ⟨_, _, _, _, rfl, sPut (((s2.trans s3).trans s4).trans s5) nfo, ?_⟩
            rw [upd_same, take_next hk, List.map_append]
            rfl
    · rintro σ H1 ⟨o3, o4, o5, o6, rfl, sm, ef⟩
      exact q _ sm
end
end LL
set_option Elab.async false
set_option linter.all false
set_option maxRecDepth 100000
set_option maxHeartbeats 4000000
namespace LL
open PySem PySem.Spec PyProof.Rows L2
/-- nothing else than x has changed -/
def SX (x : Addr) (H H' : Hp) : Prop := ∀ b o, b ≠ x → H b = some o → H' b = some o
theorem SX.upd {x : Addr} {H : Hp} {o : HO} : SX x H (L2.upd H x o) := fun b u n e => by
  rw [upd_ne n]
  exact e
theorem SX.trans {x : Addr} {H H1 H2 : Hp} (a : SX x H H1) (b : SX x H1 H2) : SX x H H2 := fun c o n e => b c o n (a c o n e)
theorem SX.same {x : Addr} {H H1 H2 : Hp} (a : SX x H H1) (b : Same H1 H2) : SX x H H2 := fun c o n e => b c o (a c o n e)
theorem SX.free {x p : Addr} {H H' : Hp} (s : SX x H H') (hx : H' x ≠ none) (n : H' p = none) : H p = none := by
  cases e : H p with
  | none => rfl
  | some o =>
    by_cases q : p = x
    · subst q
      exact absurd n hx
    · rw [s p o q e] at n
      cases n
theorem TT.sx {x C dx t : Addr} {fs : List (Str × V)} {H H' : Hp} {ks : List (Addr × List Nat)} (h : TT H t ks) (hx : H x = some (.ins C dx fs)) (s : SX x H H') : TT H' t ks :=
  ⟨s _ _ (ne_of h.1 hx (by intro z; cases z)) h.1, fun p hp => s _ _ (ne_of (h.2 p hp) hx (by intro z; cases z)) (h.2 p hp)⟩
theorem SX.made {x dx C : Addr} {H H' : Hp} (h : SX x (L2.upd (L2.upd H dx (.own x)) x (.ins C dx [])) H') (nx : H x = none) (nd : H dx = none) : Same H H' := fun b o e =>
  h b o (ne_of_none e nx) (by
    rw [upd_ne (ne_of_none e nx), upd_ne (ne_of_none e nd)]
    exact e)
/-! ### a book's attributes -/
theorem q1 : ¬ (("people" : Str) = "lots") := by decide +kernel
theorem q2 : ¬ (("people" : Str) = "masks") := by decide +kernel
theorem q3 : ¬ (("lots" : Str) = "masks") := by decide +kernel
def bookF (n : Nat) (t m : Addr) : List (Str × V) := putF "masks" (.ref m) (putF "lots" (.ref t) (putF "people" (vi n) []))
theorem bookF_people (n : Nat) (t m : Addr) : (bookF n t m).lookup ("people" : Str) = some (vi n) := by
  unfold bookF
  rw [lookup_putF, if_neg q2, lookup_putF, if_neg q1, lookup_putF, if_pos rfl]
theorem bookF_lots (n : Nat) (t m : Addr) : (bookF n t m).lookup ("lots" : Str) = some (.ref t) := by
  unfold bookF
  rw [lookup_putF, if_neg q3, lookup_putF, if_pos rfl]
theorem bookF_masks (n : Nat) (t m : Addr) : (bookF n t m).lookup ("masks" : Str) = some (.ref m) := by
  unfold bookF
  rw [lookup_putF, if_pos rfl]
/-- what the walk asks of the class Book -/
structure ClB (K : PySem.W.Frag) (C : Addr) : Prop where
  cl : Cls K C
  nP : NoAttr K C "people"
  nL : NoAttr K C "lots"
  nM : NoAttr K C "masks"
theorem putF_len (f : Str) (v : V) (fs : List (Str × V)) (k : Nat) (h : fs.length ≤ k) : (putF f v fs).length ≤ k + 1 := Nat.le_trans (length_putF f v fs) (by omega)
section
variable {P : Program} {w : World} {K : PySem.W.Frag} {mg : Str → Option Value} {base : Heap} {f : Addr} {fd : FuncData}
def spKeep (C : Addr) : Sp := fun vs H Q _ => ∃ (x dx : Addr) (n : Nat) (t : Addr) (ks : List (Addr × List Nat)), vs = [.ref x, vi n, .ref t] ∧ H x = some (.ins C dx []) ∧ TT H t ks ∧ n ≤ 1000 ∧ Lots n (ks.map (·.2)) ∧
  ∀ H' m, SX x H H' → H m = none → H' x = some (.ins C dx (bookF n t m)) → H' m = some (.lst (ks.map fun p => vi (bitsN p.2))) → Q .non H'
theorem ok_keep {C : Addr} (F : Fun K "keep" "Book.keep" s_Book_keep f fd) (T : ClB K C) (C_bits_of : Cal P w K mg base "bits_of" 1 ["crowd"] spBits) : FnOk P w K mg base CX0 2 f fd ["self", "people", "lots"] (spKeep C) := by
  refine F.ok sc_Book_keep (fun vs H Q E h => ?_) (fun cdv A outer s H vs Q E hr h => ?_)
  · obtain ⟨x, dx, n, t, ks, rfl, _⟩ := h
    rfl
  · obtain ⟨x, dx, n, t, ks, rfl, hx, ht, hn, hL, q⟩ := h
    have lk : ks.length ≤ 60 := by simpa using hL.few
    refine ⟨_, (pss_cons (ps_fld (pv 0) (pv 1) rfl)
    (pss_cons (ps_fld (pv 0) (pv 2) rfl)
    (pss_one (ps_fld (pv 0) (pe_lc (own := [("lot", 3)]) (g := (gName 3)) (tt := tYes) rfl sc_Book_keep.nd (k_tuple K (pv 2)) (blkOk_by (own := [("lot", 3)]) (N := N_Book_keep) (sc := defScope s_Book_keep) (by decide +kernel)) (fun _ _ _ _ _ => (pg_name (i := 3) sc_Book_keep.nd rfl (by first | exact .inl rfl | exact .inr rfl))) (fun _ _ _ _ _ => pts_nil) (fun _ _ _ _ _ => (pe_cal C_bits_of hr (by decide) (by rfl) (pa_cons (pv 3) pa_nil)))) rfl)))), ?_⟩
    refine ⟨_, rfl, _, rfl, x, C, dx, [], rfl, hx, T.cl, T.nP, by show 0 < 1000; decide, ?_⟩
    refine ⟨_, rfl, _, rfl, x, C, dx, _, rfl, upd_same, T.cl, T.nL, by show 1 < 1000; decide, ?_⟩
    have sx : SX x H (upd (upd H x (.ins C dx (putF "people" (vi n) []))) x (.ins C dx (putF "lots" (.ref t) (putF "people" (vi n) [])))) := SX.trans SX.upd SX.upd
    have ex : (upd (upd H x (.ins C dx (putF "people" (vi n) []))) x (.ins C dx (putF "lots" (.ref t) (putF "people" (vi n) [])))) x = some (.ins C dx (putF "lots" (.ref t) (putF "people" (vi n) []))) := upd_same
    generalize upd (upd H x (.ins C dx (putF "people" (vi n) []))) x (.ins C dx (putF "lots" (.ref t) (putF "people" (vi n) []))) = H1 at sx ex ⊢
    have ht1 := ht.sx hx sx
    refine ⟨_, rfl, t, rfl, ⟨_, ht1.seq⟩, fun D nD => ?_⟩
    refine lcFn (l := ks) (walk_tup (xs := ks.map fun p => V.ref p.1)) (by simp) (fun _ => true) (fun p => vi (bitsN p.2)) (by simp; omega) nD (fun H2 s2 => (ht1.same s2).seq) ?_ ?_
    · rintro i p y H2 H3 kT kF hp s2 ⟨rfl, hy⟩ h1 _
      obtain rfl := yv hp hy
      have mp := List.mem_of_getElem? hp
      have pasc := hL.asc _ (List.mem_map.mpr ⟨p, mp, rfl⟩)
      refine ⟨rfl, _, rfl, p.1, p.2, rfl, (ht1.same s2).2 p mp, fun z hz => ?_, ?_, fun H4 s4 => h1 rfl _ s4⟩
      · have := pasc.2 z hz
        omega
      · have := asc_length pasc
        omega
    · intro H2 s2 eD
      rw [List.filter_eq_self.mpr fun _ _ => rfl] at eD
      refine ⟨_, rfl, x, C, dx, _, rfl, s2 _ _ ex, T.cl, T.nM, ?_, ?_⟩
      · have := putF_len "lots" (.ref t) _ 1 (putF_len "people" (vi n) [] 0 (Nat.zero_le _))
        omega
      · refine q _ D ((sx.same s2).trans SX.upd) (sx.free (by rw [ex]; exact fun z => nomatch z) nD) upd_same ?_
        rw [upd_ne (ne_of_none ex nD).symm]
        exact eD
def spBook (C : Addr) : Sp := fun vs H Q _ => ∃ (x dx : Addr) (n : Nat) (t : Addr) (ks : List (Addr × List Nat)), vs = [.ref x, vi n, .ref t] ∧ H x = some (.ins C dx []) ∧ TT H t ks ∧ 1 ≤ n ∧ n ≤ 12 ∧ Lots n (ks.map (·.2)) ∧
  ∀ H' m, SX x H H' → H m = none → H' x = some (.ins C dx (bookF n t m)) → H' m = some (.lst (ks.map fun p => vi (bitsN p.2))) → Q .non H'
theorem ok_Book {C fK : Addr} {fdK : FuncData} (F : Fun K "__init__" "Book.__init__" s_Book_init f fd) (B : Bt mg) (T : ClB K C) (mK : Meth K C "keep" fK) (K_keep : FnOk P w K mg base CX0 2 fK fdK ["self", "people", "lots"] (spKeep C)) (bK : Binds K fdK ["self", "people", "lots"] []) {tk1 tk2 : Tok} (hMP : mg "MOST_PEOPLE" = some (.int 12 tk1)) (hML : mg "MOST_LOTS" = some (.int 60 tk2))
    (C_is_within : Cal P w K mg base "is_within" 2 ["thing", "least", "most"] spWithin) (C_first_wrong_lot : Cal P w K mg base "first_wrong_lot" 6 ["people", "lots"] spWrong) : FnOk P w K mg base CX0 7 f fd ["self", "people", "lots"] (spBook C) := by
  refine F.ok sc_Book_init (fun vs H Q E h => ?_) (fun cdv A outer s H vs Q E hr h => ?_)
  · obtain ⟨x, dx, n, t, ks, rfl, _⟩ := h
    rfl
  · obtain ⟨x, dx, n, t, ks, rfl, hx, ht, n1, n12, hL, q⟩ := h
    have lk : ks.length ≤ 60 := by simpa using hL.few
    have cB := T.cl
    have hr1 := hr.mono (show 2 ≤ 6 by decide)
    refine ⟨_, (pss_cons (ps_if (pt_not (pt_val (pe_cal C_is_within hr (by decide) (by rfl) (pa_cons (pv 1) (pa_cons pe_int (pa_cons (pe_glob (v := .int 12) (by rfl) hMP ⟨_, rfl⟩) pa_nil))))))
    (pss_one ps_never)
    pss_nil)
    (pss_cons (ps_if (PW.pt (pw_or (pt_not (pt_val (pe_callB (k_isi K) (by rfl) B.t_isinstance b_isinstance (pa_cons (pv 2) (pa_cons (pe_bltn (v := .ty "tuple") (by rfl) B.t_tuple b_tuple rfl) pa_nil))))) (pw_or1 (pt_cmpR op_gt (pe_callB (k_len K) (by rfl) B.t_len b_len (pa_cons (pv 2) pa_nil)) (pe_glob (v := .int 60) (by rfl) hML ⟨_, rfl⟩) (nomark _)))))
    (pss_one ps_never)
    pss_nil)
    (pss_cons (ps_set (i := 3) sc_Book_init.nd rfl (by first | exact .inl rfl | exact .inr rfl) (pe_cal C_first_wrong_lot hr (by decide) (by rfl) (pa_cons (pv 1) (pa_cons (pv 2) pa_nil))))
    (pss_cons (ps_if (pt_cmp (pc_notN (pv 3)))
    (pss_one ps_never)
    pss_nil)
    (pss_one (ps_expr (pe_meth (pv 0) cB mK K_keep hr1 bK .nil pass0 (pa_cons (pv 1) (pa_cons (pv 2) pa_nil))))))))), ?_⟩
    refine ⟨_, rfl, n, 1, 12, rfl, by omega, by omega, true, rfl, iteF ?_⟩
    refine ⟨_, rfl, _, _, _, _, true, rfl, .ty _, .base (.tup ht.1), kit_ty (by decide +kernel), true, rfl, iteF ?_⟩
    refine ⟨_, rfl, t, _, rfl, .inr ht.seq, _, _, rfl, rfl, _, rfl, iteQ (fun z => ?_) ?_⟩
    · have := of_decide_eq_true z
      rw [List.length_map] at this
      omega
    refine ⟨_, rfl, _, rfl, n, t, ks, rfl, ht, hL, by omega, fun H1 s1 => ?_⟩
    refine ⟨_, rfl, false, by simp, iteF ?_⟩
    refine ⟨_, rfl, x, dx, _, rfl, s1 _ _ hx, rfl, _, rfl, _, rfl, x, dx, n, t, ks, rfl, s1 _ _ hx, ht.same s1, by omega, hL, fun H' m sx nm ex em => ?_⟩
    exact q H' m (fun b o nb e => sx b o nb (s1 b o e)) (s1.free nm) ex em
end
end LL
set_option Elab.async false
set_option linter.all false
set_option maxRecDepth 100000
set_option maxHeartbeats 4000000
namespace LL
open PySem PySem.Spec PyProof.Rows L2
/-- a book stands at b -/
structure BookAt (C : Addr) (H : Hp) (b : Addr) (n : Nat) (t m : Addr) (ks : List (Addr × List Nat)) : Prop where
  ob : ∃ dx, H b = some (.ins C dx (bookF n t m))
  tt : TT H t ks
  ms : H m = some (.lst (ks.map fun p => vi (bitsN p.2)))
theorem BookAt.same {C : Addr} {H H' : Hp} {b : Addr} {n : Nat} {t m : Addr} {ks : List (Addr × List Nat)} (h : BookAt C H b n t m ks) (s : Same H H') : BookAt C H' b n t m ks := by
  obtain ⟨dx, e⟩ := h.ob
  exact ⟨⟨dx, s _ _ e⟩, h.tt.same s, s _ _ h.ms⟩
theorem BookAt.sx {C : Addr} {H H' : Hp} {b x C' dx' : Addr} {fs' : List (Str × V)} {n : Nat} {t m : Addr} {ks : List (Addr × List Nat)} (h : BookAt C H b n t m ks) (hb : b ≠ x) (hx : H x = some (.ins C' dx' fs')) (s : SX x H H') : BookAt C H' b n t m ks := by
  obtain ⟨dx, e⟩ := h.ob
  exact ⟨⟨dx, s _ _ hb e⟩, h.tt.sx hx s, s _ _ (ne_of h.ms hx (by intro z; cases z)) h.ms⟩
/-- a list of all persons -/
structure Ord (n : Nat) (O : List Nat) : Prop where
  nd : O.Nodup
  mem : ∀ x, x ∈ O ↔ x < n
  len : O.length = n
theorem idx_get {O : List Nat} {x : Nat} (h : x ∈ O) : O[O.idxOf x]? = some x := by
  have hl := List.idxOf_lt_length_iff.mpr h
  rw [List.getElem?_eq_getElem hl, List.getElem_idxOf hl]
abbrev scope_in_lasts_in : Scope := match defBody s_lasts_in with
  | [_, .Return (some (.Call _ [.ListComp _ _ sc _] _ _)) _] => sc
  | _ => defScope s_lasts_in
section
variable {P : Program} {w : World} {K : PySem.W.Frag} {mg : Str → Option Value} {base : Heap} {f : Addr} {fd : FuncData}
def spLasts (C : Addr) : Sp := fun vs H Q _ => ∃ (b : Addr) (n : Nat) (t m : Addr) (ks : List (Addr × List Nat)) (o : Addr) (O : List Nat), vs = [.ref b, .ref o] ∧ BookAt C H b n t m ks ∧ Lots n (ks.map (·.2)) ∧ n ≤ 12 ∧ Tp H o O ∧ Ord n O ∧
  ∀ H' p, Same H H' → H p = none → Tp H' p (ks.map fun k => lst O k.2) → Q (.ref p) H'
theorem ok_lasts_in {C : Addr} (F : Fun K "lasts_in" "lasts_in" s_lasts_in f fd) (B : Bt mg) (T : ClB K C) : FnOk P w K mg base CX0 1 f fd ["book", "order"] (spLasts C) := by
  refine F.ok sc_lasts_in (fun vs H Q E h => ?_) (fun cdv A outer s H vs Q E hr h => ?_)
  · obtain ⟨b, n, t, m, ks, o, O, rfl, _⟩ := h
    rfl
  · obtain ⟨b, n, t, m, ks, o, O, rfl, hB, hL, hn, hO, ho, q⟩ := h
    have lk : ks.length ≤ 60 := by simpa using hL.few
    have hu := hu_of hr
    refine ⟨_, (pss_cons (ps_set (i := 2) sc_lasts_in.nd rfl (by first | exact .inl rfl | exact .inr rfl) (pe_dc (own := [("place", 3), ("person", 4)]) (tt := tYes) rfl sc_lasts_in.nd (pi_enumT (by rfl) B.t_enumerate (pa_cons (pv 1) pa_nil)) (blkOk_by (own := [("place", 3), ("person", 4)]) (N := N_lasts_in) (sc := defScope s_lasts_in) (by decide +kernel)) (fun _ _ _ _ _ => (k_tup K (n := 2) rfl (pgs_cons (pg_name (i := 3) sc_lasts_in.nd rfl (by first | exact .inl rfl | exact .inr rfl)) (pgs_cons (pg_name (i := 4) sc_lasts_in.nd rfl (by first | exact .inl rfl | exact .inr rfl)) pgs_nil)))) (fun _ _ _ _ _ => pts_nil) (fun _ _ _ _ _ => (pv 4)) (fun _ _ _ _ _ => (pv 3))))
    (pss_one (ps_ret (pe_callTy (k_tupOf K) (by rfl) B.t_tuple b_tuple (pa_cons (pe_lc (own := [("lot", 5)]) (g := (gName 5)) (tt := tYes) rfl sc_lasts_in.nd (k_tuple K (k_fld K (pv 0))) (blkOk_by (own := [("lot", 5)]) (N := N_lasts_in) (sc := defScope s_lasts_in) (by decide +kernel)) (fun _ _ _ _ _ => (pg_name (i := 5) sc_lasts_in.nd rfl (by first | exact .inl rfl | exact .inr rfl))) (fun _ _ _ _ _ => pts_nil) (fun _ _ _ _ _ => (pe_ix (k_ixT K) (pe_callB (k_maxP K rfl hu) (by rfl) B.t_max b_max (pa_cons (pe_lc (own := [("person", 4)]) (g := (gName 4)) (tt := tYes) rfl sc_lasts_in.nd (k_tuple K (pv 5)) (blkOk_by (own := [("person", 4)]) (N := N_lasts_in) (sc := relS scope_in_lasts_in (defScope s_lasts_in)) (by decide +kernel)) (fun _ _ _ _ _ => (pg_name (i := 4) sc_lasts_in.nd rfl (by first | exact .inl rfl | exact .inr rfl))) (fun _ _ _ _ _ => pts_nil) (fun _ _ _ _ _ => (pe_tup (pa_cons (pe_dget hu (pv 2) (pv 4) (fun _ _ => rfl)) (pa_cons (pv 4) pa_nil))))) pa_nil)) pe_int (fun _ _ => rfl)))) pa_nil))))), ?_⟩
    -- places
    refine ⟨_, rfl, o, _, rfl, hO.seq, fun D nD => ?_⟩
    refine dcKit (walkEnumT (xs := O.map vi)) (fun i H2 => Same H H2 ∧ ∃ kvs : List (Key × V), H2 D = some (.dK kvs) ∧ kvs.length ≤ i ∧ ∀ j x, j < i → O[j]? = some x → valV kvs (Sum.inl (x : Int) : Key) = some (vi j)) ⟨same_upd nD, [], upd_same, Nat.le_refl _, fun j x h => by omega⟩ (fun i H2 _ q => Tp.seq (q.1 _ _ hO)) ?_ ?_
    · rintro i x H2 H3 hi ⟨sm, kvs, eD, el, ek⟩ ⟨T0, x1, x2, rfl, nT, rfl, e1, e2⟩
      obtain rfl : x1 = vi i := (Option.some.inj e1).symm
      have hi' : i < O.length := by simpa using hi
      have ha : O[i]? = some O[i] := List.getElem?_eq_getElem hi'
      obtain rfl := yv ha e2
      have ln := ho.len
      refine ⟨T0, _, rfl, .inl (.inl upd_same), rfl, _, _, rfl, _, _, rfl, rfl, rfl, _, rfl, _, rfl, kvs, Sum.inl _, rfl, same_upd nT _ _ eD, small (by omega), sPut (sNew sm nT) nD, _, upd_same, ?_, ?_⟩
      · have := length_putK kvs (Sum.inl ((O[i] : Nat) : Int) : Key) (vi i)
        omega
      · intro j x hj hx
        rw [valV_put]
        by_cases e : j = i
        · subst e
          obtain rfl : O[j] = x := Option.some.inj (ha.symm.trans hx)
          rw [if_pos rfl]
        · rw [if_neg fun z => ?_]
          · exact ek j x (by omega) hx
          · have z2 : (x : Int) = (O[i] : Nat) := Sum.inl.inj z
            have z3 : x = O[i] := by omega
            subst z3
            exact e (nd_ix ho.nd hx ha)
    · rintro H2 ⟨sm, kvs, eD, _, ek⟩
      have val : ∀ x, x ∈ O → valV kvs (Sum.inl (x : Int) : Key) = some (vi (O.idxOf x)) := fun x hx => ek _ x (by simpa using List.idxOf_lt_length_iff.mpr hx) (idx_get hx)
      have hB2 := hB.same sm
      obtain ⟨dx, eb⟩ := hB2.ob
      -- the lasts
      refine ⟨_, rfl, b, C, dx, _, _, rfl, eb, T.cl, T.nL, bookF_lots n t m, t, rfl, ⟨_, hB2.tt.seq⟩, fun D2 nD2 => ?_⟩
      refine lcFn (l := ks) (walk_tup (xs := ks.map fun p => V.ref p.1)) (by simp) (fun _ => true) (fun p => vi (lst O p.2)) (by simp; omega) nD2 (fun H3 s3 => (hB2.tt.same s3).seq) ?_ ?_
      · rintro i p y H3 H4 kT kF hp s3 ⟨rfl, hy⟩ h1 _
        obtain rfl := yv hp hy
        have mp := List.mem_of_getElem? hp
        have mp2 : p.2 ∈ ks.map (·.2) := List.mem_map.mpr ⟨p, mp, rfl⟩
        have pasc := hL.asc _ mp2
        have pl := asc_length pasc
        have htp := (hB2.tt.same s3).2 p mp
        have eD3 := s3 _ _ eD
        refine ⟨rfl, ?_⟩
        refine ⟨_, rfl, p.1, rfl, ⟨_, htp.seq⟩, fun D3 nD3 => ?_⟩
        refine lcRel (l := p.2) (walk_tup (xs := p.2.map vi)) (by simp) (fun _ => true) (fun x y H => ∃ T, y = .ref T ∧ H T = some (.tup [vi (O.idxOf x), vi x])) ?_ (by simp; omega) nD3 (fun H5 s5 => Tp.seq (s5 _ _ htp)) ?_ ?_
        · rintro a y H5 H6 s ⟨T1, e, h⟩
          exact ⟨T1, e, s _ _ h⟩
        · rintro j x y H5 H6 kT2 kF2 hx s5 ⟨rfl, hy⟩ h2 _
          obtain rfl := yv hx hy
          have mx := pasc.2 x (List.mem_of_getElem? hx)
          have vx := val x ((ho.mem x).mpr mx)
          have g := DGet.k (k := (Sum.inl (x : Int) : Key)) (s5 _ _ eD3)
          rw [vx] at g
          refine ⟨rfl, _, rfl, _, rfl, D, _, rfl, g, _, rfl, by show 2 ≤ sizeLine; decide, fun T1 nT1 => ?_⟩
          exact h2 rfl _ _ (same_upd nT1) ⟨T1, rfl, upd_same⟩
        · intro H5 ys s5 eL rel
          rw [List.filter_eq_self.mpr fun _ _ => rfl] at rel
          obtain ⟨ks2, e1, rfl, e3⟩ := Rel.refs rel
          have two := hL.two _ mp2
          refine ⟨D3, ks2.map (fun k => (k.1, ((O.idxOf k.2 : Nat) : Int), ((k.2 : Nat) : Int))), rfl, .inl (.inl ?_), fun z => ?_, ?_, ?_⟩
          · rw [eL, List.map_map]
            rfl
          · have z2 := List.map_eq_nil_iff.mp z
            rw [z2] at e1
            rw [← e1] at two
            simp at two
          · intro k hk
            obtain ⟨k2, hk2, rfl⟩ := List.mem_map.mp hk
            exact e3 k2 hk2
          · intro k hk hmax
            obtain ⟨k2, hk2, rfl⟩ := List.mem_map.mp hk
            have mk2 : k2.2 ∈ p.2 := by
              rw [← e1]
              exact List.mem_map.mpr ⟨k2, hk2, rfl⟩
            have el : lst O p.2 = k2.2 := by
              refine (lst_of (k := O.idxOf k2.2) (idx_get ((ho.mem _).mpr (pasc.2 _ mk2))) mk2 fun j x hj hx => ?_).1
              rw [← e1] at hx
              obtain ⟨k3, hk3, rfl⟩ := List.mem_map.mp hx
              have := hmax _ (List.mem_map.mpr ⟨k3, hk3, rfl⟩)
              have ej : j = O.idxOf k3.2 := nd_ix ho.nd hj (idx_get (List.mem_of_getElem? hj))
              simp only at this
              omega
            refine ⟨k2.1, _, _, vi k2.2, rfl, rfl, .inl (.inl (e3 k2 hk2)), rfl, ?_⟩
            rw [← el]
            exact h1 rfl _ s5
      · intro H3 s3 eD3
        rw [List.filter_eq_self.mpr fun _ _ => rfl] at eD3
        refine ⟨D2, _, rfl, .inl ⟨.inl (.inl eD3), fun l nl => ?_⟩⟩
        refine q _ l (sNew (sm.trans s3) nl) ((sm.trans s3).free nl) ?_
        show upd _ l _ l = _
        rw [upd_same, List.map_map]
        rfl
end
end LL
set_option Elab.async false
set_option linter.all false
set_option maxRecDepth 100000
set_option maxHeartbeats 4000000
namespace LL
open PySem PySem.Spec PyProof.Rows L2
theorem r1 : ¬ (("book" : Str) = "order") := by decide +kernel
theorem r2 : ¬ (("book" : Str) = "kept_lasts") := by decide +kernel
theorem r3 : ¬ (("book" : Str) = "bars") := by decide +kernel
theorem r4 : ¬ (("order" : Str) = "kept_lasts") := by decide +kernel
theorem r5 : ¬ (("order" : Str) = "bars") := by decide +kernel
theorem r6 : ¬ (("kept_lasts" : Str) = "bars") := by decide +kernel
def offF (b o l d : Addr) : List (Str × V) := putF "bars" (.ref d) (putF "kept_lasts" (.ref l) (putF "order" (.ref o) (putF "book" (.ref b) [])))
theorem offF_book (b o l d : Addr) : (offF b o l d).lookup ("book" : Str) = some (.ref b) := by
  unfold offF
  rw [lookup_putF, if_neg r3, lookup_putF, if_neg r2, lookup_putF, if_neg r1, lookup_putF, if_pos rfl]
theorem offF_order (b o l d : Addr) : (offF b o l d).lookup ("order" : Str) = some (.ref o) := by
  unfold offF
  rw [lookup_putF, if_neg r5, lookup_putF, if_neg r4, lookup_putF, if_pos rfl]
theorem offF_lasts (b o l d : Addr) : (offF b o l d).lookup ("kept_lasts" : Str) = some (.ref l) := by
  unfold offF
  rw [lookup_putF, if_neg r6, lookup_putF, if_pos rfl]
theorem offF_bars (b o l d : Addr) : (offF b o l d).lookup ("bars" : Str) = some (.ref d) := by
  unfold offF
  rw [lookup_putF, if_pos rfl]
/-- what the walk asks of the class Office -/
structure ClO (K : PySem.W.Frag) (C : Addr) : Prop where
  cl : Cls K C
  nB : NoAttr K C "book"
  nO : NoAttr K C "order"
  nK : NoAttr K C "kept_lasts"
  nA : NoAttr K C "bars"
/-- what isinstance asks of a book -/
structure InsB (K : PySem.W.Frag) (C : Addr) : Prop where
  ha : PySem.W.findIn K (.ref C) "__class__" = some (some (.builtin "object.__class__"))
  hn : PySem.W.specialIn K (.builtin "object.__class__") "__get__" = some (some (.builtin "getset_descriptor.__get__"))
  htk : PySem.W.takesIn K (.builtin "object.__class__") = some true
  hm : PySem.W.mroIn K C (.type "object") = some true
/-- the bars of one person: the others as bits, and a number -/
abbrev BarR (x : List Nat) (y : V) (H : Hp) : Prop := ∃ (T : Addr) (z : V), y = .ref T ∧ H T = some (.tup [vi (bitsN x), z])
theorem BarR.mono {x : List Nat} {y : V} {H H' : Hp} (s : SameT H H') (h : BarR x y H) : BarR x y H' := by
  obtain ⟨T, z, e, h⟩ := h
  exact ⟨T, z, e, s _ _ h⟩
/-- an office stands at a -/
structure OffAt (CB CO : Addr) (H : Hp) (a : Addr) (n : Nat) (ks : List (Addr × List Nat)) (O : List Nat) : Prop where
  ex : ∃ dx b o l d t m kvs, H a = some (.ins CO dx (offF b o l d)) ∧ BookAt CB H b n t m ks ∧ Tp H o O ∧ H d = some (.dK kvs) ∧
    ∀ p, p < n → ∃ L ys, valV kvs (Sum.inl (p : Int) : Key) = some (.ref L) ∧ H L = some (.lst ys) ∧ Rel (fun x y => BarR x y H) (oth O (ks.map (·.2)) p) ys
theorem OffAt.same {CB CO : Addr} {H H' : Hp} {a : Addr} {n : Nat} {ks : List (Addr × List Nat)} {O : List Nat} (h : OffAt CB CO H a n ks O) (s : Same H H') : OffAt CB CO H' a n ks O := by
  obtain ⟨dx, b, o, l, d, t, m, kvs, e1, e2, e3, e4, e5⟩ := h.ex
  refine ⟨dx, b, o, l, d, t, m, kvs, s _ _ e1, e2.same s, s _ _ e3, s _ _ e4, fun p hp => ?_⟩
  obtain ⟨L, ys, h1, h2, h3⟩ := e5 p hp
  exact ⟨L, ys, h1, s _ _ h2, h3.mono fun x y r => r.mono (SameT.of s)⟩
/-- .. whose lists were not there in Hz -/
structure OffFr (Hz : Hp) (CB CO : Addr) (H : Hp) (a : Addr) (n : Nat) (ks : List (Addr × List Nat)) (O : List Nat) : Prop where
  ex : ∃ dx b o l d t m kvs, H a = some (.ins CO dx (offF b o l d)) ∧ BookAt CB H b n t m ks ∧ Hz m = none ∧ Tp H o O ∧ H d = some (.dK kvs) ∧
    ∀ p, p < n → ∃ L ys, valV kvs (Sum.inl (p : Int) : Key) = some (.ref L) ∧ Hz L = none ∧ H L = some (.lst ys) ∧ Rel (fun x y => BarR x y H) (oth O (ks.map (·.2)) p) ys
theorem OffFr.at_ {Hz : Hp} {CB CO : Addr} {H : Hp} {a : Addr} {n : Nat} {ks : List (Addr × List Nat)} {O : List Nat} (h : OffFr Hz CB CO H a n ks O) : OffAt CB CO H a n ks O := by
  obtain ⟨dx, b, o, l, d, t, m, kvs, e1, e2, _, e3, e4, e5⟩ := h.ex
  refine ⟨dx, b, o, l, d, t, m, kvs, e1, e2, e3, e4, fun p hp => ?_⟩
  obtain ⟨L, ys, h1, _, h2, h3⟩ := e5 p hp
  exact ⟨L, ys, h1, h2, h3⟩
theorem OffFr.keep {Hz : Hp} {CB CO : Addr} {H H' : Hp} {a : Addr} {n : Nat} {ks : List (Addr × List Nat)} {O : List Nat} (h : OffFr Hz CB CO H a n ks O)
    (k : ∀ b u, H b = some u → ((∃ xs, u = .tup xs) ∨ (∃ C dx fs, u = .ins C dx fs) ∨ (∃ kvs, u = .dK kvs) ∨ ∃ xs, u = .lst xs ∧ Hz b = none) → H' b = some u) : OffFr Hz CB CO H' a n ks O := by
  obtain ⟨dx, b, o, l, d, t, m, kvs, e1, e2, e0, e3, e4, e5⟩ := h.ex
  obtain ⟨dxb, eb⟩ := e2.ob
  have kt : SameT H H' := fun c xs e => k c _ e (.inl ⟨xs, rfl⟩)
  refine ⟨dx, b, o, l, d, t, m, kvs, k _ _ e1 (.inr (.inl ⟨_, _, _, rfl⟩)), ⟨⟨dxb, k _ _ eb (.inr (.inl ⟨_, _, _, rfl⟩))⟩, ⟨kt _ _ e2.tt.1, fun p hp => kt _ _ (e2.tt.2 p hp)⟩, k _ _ e2.ms (.inr (.inr (.inr ⟨_, rfl, e0⟩)))⟩, e0, kt _ _ e3, k _ _ e4 (.inr (.inr (.inl ⟨_, rfl⟩))), fun p hp => ?_⟩
  obtain ⟨L, ys, h1, h0, h2, h3⟩ := e5 p hp
  exact ⟨L, ys, h1, h0, k _ _ h2 (.inr (.inr (.inr ⟨_, rfl, h0⟩))), h3.mono fun x y r => r.mono kt⟩
theorem OffFr.same {Hz : Hp} {CB CO : Addr} {H H' : Hp} {a : Addr} {n : Nat} {ks : List (Addr × List Nat)} {O : List Nat} (h : OffFr Hz CB CO H a n ks O) (s : Same H H') : OffFr Hz CB CO H' a n ks O := h.keep fun b u e _ => s _ _ e
theorem bookF_ne (n : Nat) (t m : Addr) : bookF n t m ≠ [] := fun z => by
  have := bookF_people n t m
  rw [z] at this
  cases this
theorem oth_next {O : List Nat} {ls : List (List Nat)} {i : Nat} {k : List Nat} (h : ls[i]? = some k) (p : Nat) : oth O (ls.take (i + 1)) p = oth O (ls.take i) p ++ (if lst O k = p then [k.filter fun x => !decide (x = p)] else []) := by
  unfold oth
  rw [take_next h, List.filter_append, List.map_append]
  congr 1
  by_cases e : lst O k = p <;> simp [e]
theorem oth_len (O : List Nat) (ls : List (List Nat)) (p : Nat) : (oth O ls p).length ≤ ls.length := by
  unfold oth
  rw [List.length_map]
  exact List.length_filter_le _ _
theorem xorShl {n : Nat} {c : List Nat} {p : Nat} (h : Asc n c) (hp : p ∈ c) : Builtin.bitXor ((bitsN c : Nat) : Int) (1 * 2 ^ ((p : Int)).toNat) = ((bitsN (c.filter fun x => !decide (x = p)) : Nat) : Int) := by
  have e : (1 : Int) * 2 ^ ((p : Int)).toNat = ((2 ^ p : Nat) : Int) := by simp
  rw [e, Bits.bitXor_pp (Int.natCast_nonneg _) (Int.natCast_nonneg _), Int.toNat_natCast, Int.toNat_natCast, bits_without h hp]
section
variable {P : Program} {w : World} {K : PySem.W.Frag} {mg : Str → Option Value} {base : Heap} {f : Addr} {fd : FuncData}
def spOffice (CB CO : Addr) : Sp := fun vs H Q _ => ∃ (Hz : Hp) (x dx : Addr) (b : Addr) (n : Nat) (t m : Addr) (ks : List (Addr × List Nat)) (o : Addr) (O : List Nat), vs = [.ref x, .ref b, .ref o] ∧ H x = some (.ins CO dx []) ∧ BookAt CB H b n t m ks ∧ 1 ≤ n ∧ n ≤ 12 ∧ Lots n (ks.map (·.2)) ∧ Tp H o O ∧ Ord n O ∧ Same Hz H ∧ Hz m = none ∧
  ∀ H', SX x H H' → OffFr Hz CB CO H' x n ks O → Q .non H'
theorem ok_Office {cB cO : Addr} (F : Fun K "__init__" "Office.__init__" s_Office_init f fd) (B : Bt mg) (T : ClB K cB) (TO : ClO K cO) (TI : InsB K cB) (hBook : mg "Book" = some (.ref cB))
    (C_is_order : Cal P w K mg base "is_order" 5 ["people", "thing"] spOrder) (C_lasts_in : Cal P w K mg base "lasts_in" 1 ["book", "order"] (spLasts cB)) : FnOk P w K mg base CX0 6 f fd ["self", "book", "order"] (spOffice cB cO) := by
  refine F.ok sc_Office_init (fun vs H Q E h => ?_) (fun cdv A outer s H vs Q E hr h => ?_)
  · obtain ⟨Hz, x, dx, b, n, t, m, ks, o, O, rfl, _⟩ := h
    rfl
  · obtain ⟨Hz, x, dx, b, n, t, m, ks, o, O, rfl, hx, hB, n1, n12, hL, hO, ho, sz, hm, q⟩ := h
    have lk : ks.length ≤ 60 := by simpa using hL.few
    have lO := ho.len
    have hu := hu_of hr
    obtain ⟨dxb, eb⟩ := hB.ob
    have nbx : b ≠ x := ne_of eb hx (fun z => bookF_ne n t m (by injection z))
    refine ⟨_, (pss_cons (ps_if (pt_not (pt_val (pe_callB (k_isi K) (by rfl) B.t_isinstance b_isinstance (pa_cons (pv 1) (pa_cons (pe_glob (v := .ref cB) (by rfl) hBook rfl) pa_nil)))))
    (pss_one ps_never)
    pss_nil)
    (pss_cons (ps_if (pt_not (pt_val (pe_cal C_is_order hr (by decide) (by rfl) (pa_cons (k_fld K (pv 1)) (pa_cons (pv 2) pa_nil)))))
    (pss_one ps_never)
    pss_nil)
    (pss_cons (ps_fld (pv 0) (pv 1) rfl)
    (pss_cons (ps_fld (pv 0) (pv 2) rfl)
    (pss_cons (ps_fld (pv 0) (pe_cal C_lasts_in hr (by decide) (by rfl) (pa_cons (pv 1) (pa_cons (pv 2) pa_nil))) rfl)
    (pss_cons (ps_fld (pv 0) (pe_dc (own := [("person", 5)]) (g := (gName 5)) (tt := tYes) rfl sc_Office_init.nd (k_tuple K (pv 2)) (blkOk_by (own := [("person", 5)]) (N := N_Office_init) (sc := defScope s_Office_init) (by decide +kernel)) (fun _ _ _ _ _ => (pg_name (i := 5) sc_Office_init.nd rfl (by first | exact .inl rfl | exact .inr rfl))) (fun _ _ _ _ _ => pts_nil) (fun _ _ _ _ _ => (pv 5)) (fun _ _ _ _ _ => (pe_lst pa_nil))) rfl)
    (pss_one (ps_for PassesOwn.never rfl (pi_enumT (by rfl) B.t_enumerate (pa_cons (k_fld K (pv 0)) pa_nil)) (k_tup K (n := 2) rfl (pgs_cons (pg_name (i := 3) sc_Office_init.nd rfl (by first | exact .inl rfl | exact .inr rfl)) (pgs_cons (pg_name (i := 4) sc_Office_init.nd rfl (by first | exact .inl rfl | exact .inr rfl)) pgs_nil)))
    (pss_one (ps_expr (pe_bm PySem.F.plainAttrs_list PySem.F.slot_list_append PySem.F.type_list_append mt_append (pe_dget hu (k_fld K (pv 0)) (pv 4) (fun _ _ => rfl)) (pa_cons (pe_tup (pa_cons (pe_op op_xor (pe_ix (k_ixL K) (k_fld K (pv 1)) (pv 3) (fun _ _ => rfl)) (pe_op op_shl pe_int (pv 4))) (pa_cons (pv 3) pa_nil))) pa_nil)))))))))))), ?_⟩
    -- a book
    refine ⟨_, rfl, _, _, _, _, true, rfl, .own cB, .base (.ins eb T.cl TI.ha TI.hn TI.htk TI.hm), by unfold PySem.W.kitOne; rw [if_pos (beq_self_eq_true _)], true, rfl, iteF ?_⟩
    -- a list
    refine ⟨_, rfl, b, cB, dxb, _, _, rfl, eb, T.cl, T.nP, bookF_people n t m, _, rfl, n, o, O, rfl, hO, fun y hy => (ho.mem y).mp hy, ho.nd, ho.len, by omega, fun H1 s1 => ⟨true, rfl, iteF ?_⟩⟩
    have hx1 := s1 _ _ hx
    have hB1 := hB.same s1
    have hO1 : Tp H1 o O := s1 _ _ hO
    -- both kept
    refine ⟨_, rfl, _, rfl, x, cO, dx, [], rfl, hx1, TO.cl, TO.nB, by show 0 < 1000; decide, ?_⟩
    refine ⟨_, rfl, _, rfl, x, cO, dx, _, rfl, upd_same, TO.cl, TO.nO, by show 1 < 1000; decide, ?_⟩
    have sx : SX x H1 (upd (upd H1 x (.ins cO dx (putF "book" (.ref b) []))) x (.ins cO dx (putF "order" (.ref o) (putF "book" (.ref b) [])))) := SX.trans SX.upd SX.upd
    have ex : (upd (upd H1 x (.ins cO dx (putF "book" (.ref b) []))) x (.ins cO dx (putF "order" (.ref o) (putF "book" (.ref b) [])))) x = some (.ins cO dx (putF "order" (.ref o) (putF "book" (.ref b) []))) := upd_same
    generalize upd (upd H1 x (.ins cO dx (putF "book" (.ref b) []))) x (.ins cO dx (putF "order" (.ref o) (putF "book" (.ref b) []))) = H2 at sx ex ⊢
    have hB2 := hB1.sx nbx hx1 sx
    have nox : o ≠ x := ne_of hO1 hx1 (by intro z; cases z)
    have hO2 : Tp H2 o O := sx _ _ nox hO1
    -- the lasts
    refine ⟨_, rfl, _, rfl, b, n, t, m, ks, o, O, rfl, hB2, hL, n12, hO2, ho, fun H3 l s3 nl hl => ?_⟩
    have lx : l ≠ x := fun e => by
      rw [e, ex] at nl
      cases nl
    refine ⟨_, rfl, x, cO, dx, _, rfl, s3 _ _ ex, TO.cl, TO.nK, ?_, ?_⟩
    · have := putF_len "order" (.ref o) _ 1 (putF_len "book" (.ref b) [] 0 (Nat.zero_le _))
      omega
    have sx4 : SX x H2 (upd H3 x (.ins cO dx (putF "kept_lasts" (.ref l) (putF "order" (.ref o) (putF "book" (.ref b) []))))) := fun c u nc e => by
      rw [upd_ne nc]
      exact s3 _ _ e
    have ex4 : (upd H3 x (.ins cO dx (putF "kept_lasts" (.ref l) (putF "order" (.ref o) (putF "book" (.ref b) []))))) x = some (.ins cO dx (putF "kept_lasts" (.ref l) (putF "order" (.ref o) (putF "book" (.ref b) [])))) := upd_same
    have hl4 : Tp (upd H3 x (.ins cO dx (putF "kept_lasts" (.ref l) (putF "order" (.ref o) (putF "book" (.ref b) []))))) l (ks.map fun k => lst O k.2) := by
      show upd _ _ _ _ = _
      rw [upd_ne lx]
      exact hl
    generalize upd H3 x (.ins cO dx (putF "kept_lasts" (.ref l) (putF "order" (.ref o) (putF "book" (.ref b) [])))) = H4 at sx4 ex4 hl4 ⊢
    have hB4 := hB2.sx nbx ex sx4
    have hO4 : Tp H4 o O := sx4 _ _ nox hO2
    -- the empty bars
    refine ⟨_, rfl, o, rfl, ⟨_, hO4.seq⟩, fun D nD => ?_⟩
    refine dcKit (walk_tup (xs := O.map vi)) (fun i H5 => Same H4 H5 ∧ ∃ kvs : List (Key × V), H5 D = some (.dK kvs) ∧ kvs.length ≤ i ∧ (∀ j p, j < i → O[j]? = some p → ∃ L, valV kvs (Sum.inl (p : Int) : Key) = some (.ref L) ∧ H4 L = none ∧ H5 L = some (.lst [])) ∧ (∀ y L, valV kvs y = some (.ref L) → H5 L = some (.lst [])) ∧ ∀ y z L, valV kvs y = some (.ref L) → valV kvs z = some (.ref L) → y = z)
      ⟨same_upd nD, [], upd_same, Nat.le_refl _, fun j p h => by omega, (fun y L h => by cases h), (fun y z L h => by cases h)⟩ (fun i H5 _ q => Tp.seq (q.1 _ _ hO4)) ?_ ?_
    · rintro i y H5 H6 hi ⟨sm, kvs, eD, el, ek, e0, inj⟩ ⟨rfl, hy⟩
      have hi' : i < O.length := by simpa using hi
      have ha : O[i]? = some O[i] := List.getElem?_eq_getElem hi'
      obtain rfl := yv ha hy
      refine ⟨rfl, _, rfl, Nat.zero_le _, fun L nL => ?_⟩
      have eD6 : (upd H6 L (.lst [])) D = some (.dK kvs) := same_upd nL _ _ eD
      have nLD : ∀ c u, H6 c = some u → c ≠ D → (upd (upd H6 L (.lst [])) D (.dK (putK kvs (Sum.inl ((O[i] : Nat) : Int) : Key) (.ref L)))) c = some u := fun c u e n => by
        rw [upd_ne n]
        exact same_upd nL _ _ e
      have nl : ∀ z, valV kvs z ≠ some (.ref L) := fun z e => by
        have := e0 z L e
        rw [nL] at this
        cases this
      have LD : L ≠ D := fun e => by
        rw [e, eD] at nL
        cases nL
      have eL : (upd (upd H6 L (.lst [])) D (.dK (putK kvs (Sum.inl ((O[i] : Nat) : Int) : Key) (.ref L)))) L = some (.lst []) := by
        rw [upd_ne LD]
        exact upd_same
      have nD' : ∀ c, H6 c = some (.lst []) → c ≠ D := fun c e => ne_of e eD (by intro z; cases z)
      refine ⟨kvs, Sum.inl _, rfl, eD6, small (by omega), sPut (sNew sm nL) nD, _, upd_same, ?_, ?_, ?_, ?_⟩
      · have := length_putK kvs (Sum.inl ((O[i] : Nat) : Int) : Key) (.ref L)
        omega
      · intro j p hj hp
        rw [valV_put]
        by_cases e : j = i
        · subst e
          obtain rfl : O[j] = p := Option.some.inj (ha.symm.trans hp)
          rw [if_pos rfl]
          exact ⟨L, rfl, sm.free nL, eL⟩
        · rw [if_neg fun z => ?_]
          · obtain ⟨L', h1, h2, h3⟩ := ek j p (by omega) hp
            exact ⟨L', h1, h2, nLD _ _ h3 (nD' _ h3)⟩
          · have z2 : (p : Int) = (O[i] : Nat) := Sum.inl.inj z
            have z3 : p = O[i] := by omega
            subst z3
            exact e (nd_ix ho.nd hp ha)
      · intro z L' h
        rw [valV_put] at h
        by_cases e : z = (Sum.inl ((O[i] : Nat) : Int) : Key)
        · rw [if_pos e] at h
          cases h
          exact eL
        · rw [if_neg e] at h
          have := e0 z L' h
          exact nLD _ _ this (nD' _ this)
      · intro y z L' h1 h2
        rw [valV_put] at h1 h2
        by_cases e1 : y = (Sum.inl ((O[i] : Nat) : Int) : Key)
        · rw [if_pos e1] at h1
          cases h1
          by_cases e2 : z = (Sum.inl ((O[i] : Nat) : Int) : Key)
          · rw [e1, e2]
          · rw [if_neg e2] at h2
            exact absurd h2 (nl z)
        · rw [if_neg e1] at h1
          by_cases e2 : z = (Sum.inl ((O[i] : Nat) : Int) : Key)
          · rw [if_pos e2] at h2
            cases h2
            exact absurd h1 (nl y)
          · rw [if_neg e2] at h2
            exact inj y z L' h1 h2
    rintro H5 ⟨sm, kvs, eD, el, ek, _, inj⟩
    have ek5 : ∀ p, p < n → ∃ L, valV kvs (Sum.inl (p : Int) : Key) = some (.ref L) ∧ H4 L = none ∧ H5 L = some (.lst []) := fun p hp => by
      have mp := (ho.mem p).mpr hp
      exact ek _ p (by simpa using List.idxOf_lt_length_iff.mpr mp) (idx_get mp)
    have ex5 := sm _ _ ex4
    refine ⟨_, rfl, x, cO, dx, _, rfl, ex5, TO.cl, TO.nA, ?_, ?_⟩
    · have := putF_len "kept_lasts" (.ref l) _ 2 (putF_len "order" (.ref o) _ 1 (putF_len "book" (.ref b) [] 0 (Nat.zero_le _)))
      omega
    have sx6 : SX x H4 (upd H5 x (.ins cO dx (offF b o l D))) := fun c u nc e => by
      rw [upd_ne nc]
      exact sm _ _ e
    have ex6 : (upd H5 x (.ins cO dx (offF b o l D))) x = some (.ins cO dx (offF b o l D)) := upd_same
    have eD6 : (upd H5 x (.ins cO dx (offF b o l D))) D = some (.dK kvs) := by
      rw [upd_ne (ne_of eD ex5 (by intro z; cases z))]
      exact eD
    have ek6 : ∀ p, p < n → ∃ L, valV kvs (Sum.inl (p : Int) : Key) = some (.ref L) ∧ H4 L = none ∧ (upd H5 x (.ins cO dx (offF b o l D))) L = some (.lst []) := fun p hp => by
      obtain ⟨L, h1, h2, h3⟩ := ek5 p hp
      refine ⟨L, h1, h2, ?_⟩
      rw [upd_ne (ne_of h3 ex5 (by intro z; cases z))]
      exact h3
    have e6 : upd H5 x (.ins cO dx (putF "bars" (.ref D) (putF "kept_lasts" (.ref l) (putF "order" (.ref o) (putF "book" (.ref b) []))))) = upd H5 x (.ins cO dx (offF b o l D)) := rfl
    rw [e6]
    generalize upd H5 x (.ins cO dx (offF b o l D)) = H6 at sx6 ex6 eD6 ek6 ⊢
    have hl6 : Tp H6 l (ks.map fun k => lst O k.2) := sx6 _ _ lx hl4
    have hB6 := hB4.sx nbx ex4 sx6
    -- each last fills a bar
    refine ⟨_, rfl, x, cO, dx, _, _, rfl, ex6, TO.cl, TO.nK, offF_lasts b o l D, l, _, rfl, hl6.seq, ?_⟩
    refine for_it (walkEnumT (xs := (ks.map fun k => lst O k.2).map vi)) (fun i σ H7 => ∃ o3 o4 o5, σ = [some (.ref x), some (.ref b), some (.ref o), o3, o4, o5] ∧ SX x H4 H7 ∧ H7 x = some (.ins cO dx (offF b o l D)) ∧ H7 D = some (.dK kvs) ∧
        ∀ p, p < n → ∃ L ys, valV kvs (Sum.inl (p : Int) : Key) = some (.ref L) ∧ H4 L = none ∧ H7 L = some (.lst ys) ∧ Rel (fun x y => BarR x y H7) (oth O ((ks.map (·.2)).take i) p) ys)
      ⟨_, _, _, rfl, sx6, ex6, eD6, fun p hp => ?_⟩ (fun i σ H7 _ ⟨_, _, _, _, q, _⟩ => Tp.seq (q _ _ lx hl4)) ?_ ?_
    · obtain ⟨L, h1, h2, h3⟩ := ek6 p hp
      exact ⟨L, [], h1, h2, h3, .nil⟩
    · rintro i y σ H7 H8 hi ⟨o3, o4, o5, rfl, s7, ex7, eD7, ek7⟩ ⟨T0, x1, x2, rfl, nT, rfl, e1, e2⟩
      obtain rfl : x1 = vi i := (Option.some.inj e1).symm
      have hi' : i < ks.length := by simpa using hi
      obtain ⟨k, hk⟩ : ∃ k, ks[i]? = some k := ⟨_, List.getElem?_eq_getElem hi'⟩
      have hk1 : (ks.map fun k => lst O k.2)[i]? = some (lst O k.2) := by
        rw [List.getElem?_map, hk]
        rfl
      have hk2 : (ks.map (·.2))[i]? = some k.2 := by
        rw [List.getElem?_map, hk]
        rfl
      obtain rfl := yv hk1 e2
      have mk2 : k.2 ∈ ks.map (·.2) := List.mem_of_getElem? hk2
      have hasc := hL.asc _ mk2
      have two := hL.two _ mk2
      obtain ⟨lin, linO, _⟩ : lst O k.2 ∈ k.2 ∧ lst O k.2 ∈ O ∧ _ := lst_mem (by
        obtain ⟨z, hz⟩ : ∃ z, z ∈ k.2 := by
          cases hc : k.2 with
          | nil =>
            rw [hc] at two
            simp at two
          | cons z r => exact ⟨z, List.mem_cons_self⟩
        exact ⟨z, (ho.mem z).mpr (hasc.2 z hz), hz⟩)
      have pn : lst O k.2 < n := hasc.2 _ lin
      obtain ⟨L, ys, v1, v2, v3, v4⟩ := ek7 _ pn
      have sn : Same H7 (upd H7 T0 (.tup [vi i, vi (lst O k.2)])) := same_upd nT
      refine ⟨T0, _, rfl, .inl (.inl upd_same), rfl, _, _, rfl, _, _, rfl, rfl, ?_⟩
      generalize upd H7 T0 (.tup [vi i, vi (lst O k.2)]) = H8 at sn ⊢
      have g := DGet.k (k := (Sum.inl ((lst O k.2 : Nat) : Int) : Key)) (sn _ _ eD7)
      rw [v1] at g
      have hB8 := (hB4.sx nbx ex4 s7).same sn
      obtain ⟨dxb8, eb8⟩ := hB8.ob
      have gm : (ks.map fun p => vi (bitsN p.2))[i]? = some (vi (bitsN k.2)) := by
        rw [List.getElem?_map, hk]
        rfl
      refine ⟨_, rfl, x, cO, dx, _, _, rfl, sn _ _ ex7, TO.cl, TO.nA, offF_bars b o l D, _, rfl, D, _, rfl, g, .inl ⟨rfl, _, .inl (.inl (sn _ _ v3))⟩, ?_⟩
      refine ⟨_, rfl, b, cB, dxb8, _, _, rfl, eb8, T.cl, T.nM, bookF_masks n t m, _, rfl, m, _, _, _, rfl, rfl, .inl (.inl hB8.ms), at_of rfl gm, _, rfl, _, _, rfl, rfl, ⟨by omega, by omega, by decide⟩, _, _, rfl, rfl, _, rfl, by show 2 ≤ sizeLine; decide, fun T1 nT1 => ?_⟩
      dsimp only
      rw [xorShl hasc lin]
      have s9 := sNew sn nT1 (o := .tup [vi (bitsN (k.2.filter fun x => !decide (x = lst O k.2))), vi i])
      have lim : ys.length ≤ 60 := by
        rw [← v4.length]
        refine Nat.le_trans (oth_len _ _ _) ?_
        simp
        omega
      refine ⟨L, ys, _, rfl, rfl, s9 _ _ v3, small (by omega), ?_⟩
      have eT1 : (upd H8 T1 (.tup [vi (bitsN (k.2.filter fun x => !decide (x = lst O k.2))), vi i])) T1 = some (.tup [vi (bitsN (k.2.filter fun x => !decide (x = lst O k.2))), vi i]) := upd_same
      generalize upd H8 T1 (.tup [vi (bitsN (k.2.filter fun x => !decide (x = lst O k.2))), vi i]) = H9 at s9 eT1 ⊢
      have v9 := s9 _ _ v3
      have sT : SameT H9 (upd H9 L (.lst (ys ++ [.ref T1]))) := SameT.upd v9 fun _ q => nomatch q
      have kp : ∀ c u, H9 c = some u → u ≠ .lst ys → (upd H9 L (.lst (ys ++ [.ref T1]))) c = some u := fun c u e n => by
        rw [upd_ne (ne_of e v9 n)]
        exact e
      refine ⟨_, _, _, rfl, fun c u nc e => ?_, kp _ _ (s9 _ _ ex7) (by intro z; cases z), kp _ _ (s9 _ _ eD7) (by intro z; cases z), fun p hp => ?_⟩
      · rw [upd_ne (ne_of_none e v2)]
        exact s9 _ _ (s7 _ _ nc e)
      · by_cases e : lst O k.2 = p
        · subst e
          refine ⟨L, ys ++ [.ref T1], v1, v2, upd_same, ?_⟩
          rw [oth_next hk2, if_pos rfl]
          exact Rel.app (v4.mono fun x y r => (r.mono (SameT.of s9)).mono sT) (.cons ⟨T1, _, rfl, sT _ _ eT1⟩ .nil)
        · obtain ⟨L', ys', w1, w2, w3, w4⟩ := ek7 p hp
          have LL' : L' ≠ L := fun z => by
            rw [z] at w1
            have := inj _ _ _ v1 w1
            have z2 : ((lst O k.2 : Nat) : Int) = (p : Nat) := Sum.inl.inj this
            exact e (by omega)
          refine ⟨L', ys', w1, w2, ?_, ?_⟩
          · rw [upd_ne LL']
            exact s9 _ _ w3
          · rw [oth_next hk2, if_neg e, List.append_nil]
            exact w4.mono fun x y r => (r.mono (SameT.of s9)).mono sT
    · rintro σ H7 ⟨o3, o4, o5, rfl, s7, ex7, eD7, ek7⟩
      have e2 : (ks.map (·.2)).take ((ks.map fun k => lst O k.2).map vi).length = ks.map (·.2) := List.take_of_length_le (by simp)
      rw [e2] at ek7
      refine q H7 (fun c u nc e => s7 _ _ nc (sx4 _ _ nc (sx _ _ nc (s1 _ _ e)))) ⟨dx, b, o, l, D, t, m, kvs, ex7, hB4.sx nbx ex4 s7, hm, s7 _ _ nox hO4, eD7, fun p hp => ?_⟩
      obtain ⟨L, ys, h1, h2, h3, h4⟩ := ek7 p hp
      have n2 : H2 L = none := sx4.free (by rw [ex4]; exact fun z => nomatch z) h2
      have n1 : H1 L = none := sx.free (by rw [ex]; exact fun z => nomatch z) n2
      exact ⟨L, ys, h1, (sz.trans s1).free n1, h3, h4⟩
end
end LL
set_option Elab.async false
set_option linter.all false
set_option maxRecDepth 100000
set_option maxHeartbeats 4000000
namespace LL
open PySem PySem.Spec PyProof.Rows L2
theorem and_one2 (b j : Nat) : decide (V.int (Builtin.bitAnd ((b : Int) / 2 ^ ((j : Int)).toNat) 1) = V.int 1) = b.testBit j := by
  have := and_one b j
  rwa [Int.zero_add] at this
/-- the bars of a person as bits -/
abbrev barB (O : List Nat) (ls : List (List Nat)) (p : Nat) : List Nat := (oth O ls p).map bitsN
theorem oth_asc {n : Nat} {O : List Nat} {ls : List (List Nat)} (hL : Lots n ls) {p : Nat} {o : List Nat} (h : o ∈ oth O ls p) : Asc n o := by
  unfold oth at h
  obtain ⟨l, hl, rfl⟩ := List.mem_map.mp h
  exact asc_filter (hL.asc _ (List.mem_filter.mp hl).1) _
theorem putK_keys {κ : Type} [DecidableEq κ] (kvs : List (κ × V)) (k : κ) (v : V) : (valV kvs k = none ∧ (putK kvs k v).map (·.1) = kvs.map (·.1) ++ [k]) ∨ (k ∈ kvs.map (·.1) ∧ (putK kvs k v).map (·.1) = kvs.map (·.1)) := by
  cases e : valV kvs k with
  | none =>
    refine .inl ⟨rfl, ?_⟩
    rw [putK_new _ e, List.map_append]
    rfl
  | some x =>
    refine .inr ⟨valV_in e, ?_⟩
    unfold putK
    have a : (kvs.any fun kv => decide (kv.1 = k)) = true := by rw [valV_any, e]; rfl
    rw [if_pos a, List.map_map]
    refine List.map_congr_left fun q _ => ?_
    show (if q.1 = k then (q.1, v) else q).1 = q.1
    split <;> rfl
theorem putK_nodup {κ : Type} [DecidableEq κ] {kvs : List (κ × V)} (k : κ) (v : V) (h : (kvs.map (·.1)).Nodup) : ((putK kvs k v).map (·.1)).Nodup := by
  rcases putK_keys kvs k v with ⟨e, q⟩ | ⟨_, q⟩
  · rw [q]
    exact List.nodup_append.mpr ⟨h, by simp, fun a ha b hb => by
      rw [List.mem_singleton.mp hb]
      rintro rfl
      exact valV_not e ha⟩
  · rw [q]
    exact h
theorem putK_mem {κ : Type} [DecidableEq κ] {kvs : List (κ × V)} {k : κ} {v : V} {x : κ} (h : x ∈ (putK kvs k v).map (·.1)) : x = k ∨ x ∈ kvs.map (·.1) := by
  rcases putK_keys kvs k v with ⟨_, q⟩ | ⟨_, q⟩
  · rw [q] at h
    rcases List.mem_append.mp h with a | a
    · exact .inr a
    · exact .inl (List.mem_singleton.mp a)
  · rw [q] at h
    exact .inr h
/-- a dict from all crowds to what g tells -/
structure DictOk (H : Hp) (d : Addr) (n : Nat) (g : List Nat → List Nat) (kvs : List (List Key × V)) : Prop where
  at_ : H d = some (.dT kvs)
  keys : ∀ k ∈ kvs.map (·.1), ∃ c, Asc n c ∧ k = kc c
  nd : (kvs.map (·.1)).Nodup
  val : ∀ c, Asc n c → ∃ a, valV kvs (kc c) = some (.ref a) ∧ Tp H a (g c)
section
variable {P : Program} {w : World} {K : PySem.W.Frag} {mg : Str → Option Value} {base : Heap} {f : Addr} {fd : FuncData}
def spBarred (CB CO : Addr) : Sp := fun vs H Q _ => ∃ (a : Addr) (n : Nat) (ks : List (Addr × List Nat)) (O : List Nat) (b p : Nat), vs = [.ref a, vi b, vi p] ∧ OffAt CB CO H a n ks O ∧ ks.length ≤ 60 ∧ p < n ∧
  ∀ H', Same H H' → Q (.bl ((barB O (ks.map (·.2)) p).any fun o => decide (b &&& o = o))) H'
theorem ok_is_barred {cB cO : Addr} (F : Fun K "is_barred" "is_barred" s_is_barred f fd) (B : Bt mg) (TO : ClO K cO) (C_holds : Cal P w K mg base "holds" 1 ["bits", "some"] spHolds) : FnOk P w K mg base CX0 2 f fd ["office", "inside", "person"] (spBarred cB cO) := by
  refine F.ok sc_is_barred (fun vs H Q E h => ?_) (fun cdv A outer s H vs Q E hr h => ?_)
  · obtain ⟨a, n, ks, O, b, p, rfl, _⟩ := h
    rfl
  · obtain ⟨a, n, ks, O, b, p, rfl, hA, lk, hp, q⟩ := h
    have hu := hu_of hr
    obtain ⟨dx, bk, o, l, d, t, m, kvs, e1, e2, e3, e4, e5⟩ := hA.ex
    obtain ⟨L, ys, v1, v2, v3⟩ := e5 p hp
    refine ⟨_, (pss_one (ps_ret (pe_callB (k_any K rfl) (by rfl) B.t_any b_any (pa_cons (pe_lc (own := [("others", 3), ("number", 4)]) (tt := tYes) rfl sc_is_barred.nd (k_list K (pe_dget hu (k_fld K (pv 0)) (pv 2) (fun _ _ => rfl))) (blkOk_by (own := [("others", 3), ("number", 4)]) (N := N_is_barred) (sc := defScope s_is_barred) (by decide +kernel)) (fun _ _ _ _ _ => (k_tup K (n := 2) rfl (pgs_cons (pg_name (i := 3) sc_is_barred.nd rfl (by first | exact .inl rfl | exact .inr rfl)) (pgs_cons (pg_name (i := 4) sc_is_barred.nd rfl (by first | exact .inl rfl | exact .inr rfl)) pgs_nil)))) (fun _ _ _ _ _ => pts_nil) (fun _ _ _ _ _ => (pe_cal C_holds hr (by decide) (by rfl) (pa_cons (pv 1) (pa_cons (pv 3) pa_nil))))) pa_nil)))), ?_⟩
    have g := DGet.k (k := (Sum.inl (p : Int) : Key)) e4
    rw [v1] at g
    have ll := oth_len O (ks.map (·.2)) p
    rw [List.length_map] at ll
    refine ⟨_, rfl, a, cO, dx, _, _, rfl, e1, TO.cl, TO.nA, offF_bars bk o l d, _, rfl, d, _, rfl, g, L, rfl, ⟨_, .inl (.inl v2)⟩, fun D nD => ?_⟩
    refine lcFn (l := oth O (ks.map (·.2)) p) (walk_list (xs := ys)) v3.length (fun _ => true) (fun x => .bl (decide (b &&& bitsN x = bitsN x))) (by rw [← v3.length]; omega) nD (fun H1 s1 => .inl (.inl (s1 _ _ v2))) ?_ ?_
    · rintro i x y H1 H2 kT kF hx s1 ⟨rfl, hy⟩ h1 _
      obtain ⟨z, hz, T0, w0, rfl, hT⟩ := v3.get hx
      obtain rfl : y = .ref T0 := Option.some.inj (hy.symm.trans hz)
      exact ⟨T0, _, rfl, .inl (.inl (s1 _ _ hT)), rfl, _, _, rfl, _, _, rfl, rfl, rfl, _, rfl, _, rfl, b, bitsN x, rfl, h1 rfl _ (Same.refl _)⟩
    · intro H1 s1 eD
      rw [List.filter_eq_self.mpr fun _ _ => rfl] at eD
      refine ⟨D, (oth O (ks.map (·.2)) p).map fun x => decide (b &&& bitsN x = bitsN x), rfl, .inl (.inl ?_), ?_⟩
      · rw [eD, List.map_map]
        rfl
      · have := q H1 s1
        rw [List.any_map] at this ⊢
        exact this
def spIn (CB CO : Addr) : Sp := fun vs H Q _ => ∃ (a : Addr) (n : Nat) (ks : List (Addr × List Nat)) (O : List Nat) (b : Nat), vs = [.ref a, vi b] ∧ OffAt CB CO H a n ks O ∧ ks.length ≤ 60 ∧ Ord n O ∧ n ≤ 12 ∧
  ∀ H', Same H H' → Q (vi (inB (barB O (ks.map (·.2))) b O 0)) H'
theorem ok_in_bits {cB cO : Addr} (F : Fun K "in_bits" "in_bits" s_in_bits f fd) (TO : ClO K cO) (C_is_barred : Cal P w K mg base "is_barred" 2 ["office", "inside", "person"] (spBarred cB cO)) : FnOk P w K mg base CX0 3 f fd ["office", "bits"] (spIn cB cO) := by
  refine F.ok sc_in_bits (fun vs H Q E h => ?_) (fun cdv A outer s H vs Q E hr h => ?_)
  · obtain ⟨a, n, ks, O, b, rfl, _⟩ := h
    rfl
  · obtain ⟨a, n, ks, O, b, rfl, hA, lk, ho, hn, q⟩ := h
    obtain ⟨dx, bk, o, l, d, t, m, kvs, e1, e2, e3, e4, e5⟩ := hA.ex
    refine ⟨_, (pss_cons (ps_set (i := 2) sc_in_bits.nd rfl (by first | exact .inl rfl | exact .inr rfl) pe_int)
    (pss_cons (ps_for PassesOwn.never rfl (k_tuple K (k_fld K (pv 0))) (pg_name (i := 3) sc_in_bits.nd rfl (by first | exact .inl rfl | exact .inr rfl))
    (pss_one (ps_if (PW.pt (pw_and (pt_cmpR op_eq (pe_op op_and (pe_op op_shr (pv 1) (pv 3)) pe_int) pe_int (nomark _)) (pw_and1 (pt_not (pt_val (pe_cal C_is_barred hr (by decide) (by rfl) (pa_cons (pv 0) (pa_cons (pv 2) (pa_cons (pv 3) pa_nil)))))))))
    (pss_one (ps_set (i := 2) sc_in_bits.nd rfl (by first | exact .inl rfl | exact .inr rfl) (pe_op op_or (pv 2) (pe_op op_shl pe_int (pv 3)))))
    pss_nil)))
    (pss_one (ps_ret (pv 2))))), ?_⟩
    refine ⟨_, rfl, a, cO, dx, _, _, rfl, e1, TO.cl, TO.nO, offF_order bk o l d, o, rfl, ⟨_, e3.seq⟩, ?_⟩
    refine for_it (walk_tup (xs := O.map vi)) (fun i σ H1 => ∃ o3, σ = [some (.ref a), some (vi b), some (vi (inB (barB O (ks.map (·.2))) b (O.take i) 0)), o3] ∧ Same H H1) ⟨_, rfl, Same.refl _⟩ (fun i σ H1 _ ⟨_, _, s1⟩ => Tp.seq (s1 _ _ e3)) ?_ ?_
    · rintro i x σ H1 H2 hi ⟨o3, rfl, s1⟩ ⟨rfl, hx⟩
      have hi' : i < O.length := by simpa using hi
      obtain ⟨p, hp⟩ : ∃ p, O[i]? = some p := ⟨_, List.getElem?_eq_getElem hi'⟩
      obtain rfl := yv hp hx
      have pn := (ho.mem p).mp (List.mem_of_getElem? hp)
      have nxt := inB_snoc (barB O (ks.map (·.2))) b p (O.take i) 0
      rw [← take_next hp] at nxt
      refine ⟨_, rfl, _, rfl, _, _, rfl, rfl, by omega, _, _, rfl, rfl, rfl, _, rfl, ?_⟩
      rw [and_one2]
      refine ite2 (fun e => ?_) (fun e => iteF ⟨some (vi p), ?_, s1⟩)
      · refine ⟨_, rfl, _, rfl, _, rfl, a, n, ks, O, _, p, rfl, hA.same s1, lk, pn, fun H3 s3 => ⟨_, rfl, ?_⟩⟩
        cases eb : (barB O (ks.map (·.2)) p).any fun o => decide (inB (barB O (ks.map (·.2))) b (O.take i) 0 &&& o = o) with
        | true =>
          refine iteF ⟨some (vi p), ?_, s1.trans s3⟩
          rw [nxt, e, eb]
          rfl
        | false =>
          refine iteT ⟨_, rfl, _, rfl, _, _, rfl, rfl, ⟨by omega, by omega, by decide⟩, _, _, rfl, rfl, ⟨some (vi p), ?_, s1.trans s3⟩⟩
          rw [nxt, e, eb, if_pos (by rfl)]
          dsimp only
          rw [oneShl]
          rfl
      · rw [nxt, if_neg (by simp [e])]
        rfl
    · rintro σ H1 ⟨o3, rfl, s1⟩
      have e2 : O.take (O.map vi).length = O := List.take_of_length_le (by simp)
      refine ⟨_, rfl, ?_⟩
      rw [e2]
      exact q _ s1
def spLetIn (CB CO : Addr) : Sp := fun vs H Q _ => ∃ (a : Addr) (n : Nat) (ks : List (Addr × List Nat)) (O : List Nat) (c : Addr) (cr : List Nat), vs = [.ref a, .ref c] ∧ OffAt CB CO H a n ks O ∧ Lots n (ks.map (·.2)) ∧ Ord n O ∧ n ≤ 12 ∧ Tp H c cr ∧ Asc n cr ∧
  ∀ H' p, Same H H' → H p = none → Tp H' p (LET n O (oth O (ks.map (·.2))) cr) → Q (.ref p) H'
theorem ok_let_in {cB cO : Addr} (F : Fun K "let_in" "let_in" s_let_in f fd) (T : ClB K cB) (TO : ClO K cO) (C_check_crowd : Cal P w K mg base "check_crowd" 5 ["people", "thing"] spCheck) (C_crowd_of : Cal P w K mg base "crowd_of" 1 ["bits"] spCrowdOf) (C_in_bits : Cal P w K mg base "in_bits" 3 ["office", "bits"] (spIn cB cO))
    (C_bits_of : Cal P w K mg base "bits_of" 1 ["crowd"] spBits) : FnOk P w K mg base CX0 6 f fd ["office", "crowd"] (spLetIn cB cO) := by
  refine F.ok sc_let_in (fun vs H Q E h => ?_) (fun cdv A outer s H vs Q E hr h => ?_)
  · obtain ⟨a, n, ks, O, c, cr, rfl, _⟩ := h
    rfl
  · obtain ⟨a, n, ks, O, c, cr, rfl, hA, hL, ho, hn, hc, ac, q⟩ := h
    obtain ⟨dx, bk, o, l, d, t, m, kvs, e1, e2, e3, e4, e5⟩ := hA.ex
    obtain ⟨dxb, eb⟩ := e2.ob
    refine ⟨_, (pss_cons (ps_expr (pe_cal C_check_crowd hr (by decide) (by rfl) (pa_cons (k_fld K (k_fld K (pv 0))) (pa_cons (pv 1) pa_nil))))
    (pss_one (ps_ret (pe_cal C_crowd_of hr (by decide) (by rfl) (pa_cons (pe_cal C_in_bits hr (by decide) (by rfl) (pa_cons (pv 0) (pa_cons (pe_cal C_bits_of hr (by decide) (by rfl) (pa_cons (pv 1) pa_nil)) pa_nil))) pa_nil))))), ?_⟩
    refine ⟨_, rfl, a, cO, dx, _, _, rfl, e1, TO.cl, TO.nB, offF_book bk o l d, bk, cB, dxb, _, _, rfl, eb, T.cl, T.nP, bookF_people n t m, _, rfl, n, c, cr, rfl, hc, ac, by omega, fun H1 s1 => ?_⟩
    refine ⟨_, rfl, _, rfl, c, cr, rfl, s1 _ _ hc, fun y hy => ?_, ?_, fun H2 s2 => ?_⟩
    · have := ac.2 y hy
      omega
    · have := asc_length ac
      omega
    have lb := bits_lt ac
    obtain ⟨b1, b2⟩ := inB_LET (O := O) (B := barB O (ks.map (·.2))) (oth := oth O (ks.map (·.2))) lb (fun x hx => (ho.mem x).mp hx) fun p _ => ⟨rfl, fun y hy => oth_asc hL hy⟩
    rw [crowd_bits ac] at b2
    refine ⟨a, n, ks, O, _, rfl, hA.same (s1.trans s2), by simpa using hL.few, ho, hn, fun H3 s3 => ?_⟩
    refine ⟨_, n, rfl, b1, by omega, fun H4 p s4 np hp => ?_⟩
    rw [b2] at hp
    have s13 := (s1.trans s2).trans s3
    exact q H4 p (s13.trans s4) (s13.free np) hp
def spOutcomes (CB CO : Addr) : Sp := fun vs H Q _ => ∃ (a : Addr) (n : Nat) (ks : List (Addr × List Nat)) (O : List Nat), vs = [.ref a] ∧ OffAt CB CO H a n ks O ∧ Lots n (ks.map (·.2)) ∧ Ord n O ∧ n ≤ 10 ∧
  ∀ H' d kvs, Same H H' → H d = none → DictOk H' d n (LET n O (oth O (ks.map (·.2)))) kvs → Q (.ref d) H'
theorem ok_outcomes {cB cO : Addr} (F : Fun K "outcomes" "outcomes" s_outcomes f fd) (T : ClB K cB) (TO : ClO K cO) {tk : Tok} (hMD : mg "MOST_LISTED" = some (.int 10 tk)) (C_check_many : Cal P w K mg base "check_many" 1 ["number", "most"] spMany) (C_crowd_of : Cal P w K mg base "crowd_of" 1 ["bits"] spCrowdOf)
    (C_in_bits : Cal P w K mg base "in_bits" 3 ["office", "bits"] (spIn cB cO)) (C_crowds_by_size : Cal P w K mg base "crowds_by_size" 2 ["people"] spBySize) : FnOk P w K mg base CX0 4 f fd ["office"] (spOutcomes cB cO) := by
  refine F.ok sc_outcomes (fun vs H Q E h => ?_) (fun cdv A outer s H vs Q E hr h => ?_)
  · obtain ⟨a, n, ks, O, rfl, _⟩ := h
    rfl
  · obtain ⟨a, n, ks, O, rfl, hA, hL, ho, hn, q⟩ := h
    have hu := hu_of hr
    obtain ⟨dx, bk, o, l, d, t, m, kvs0, e1, e2, e3, e4, e5⟩ := hA.ex
    obtain ⟨dxb, eb⟩ := e2.ob
    have few := levs_few n hn (n + 1) (by omega)
    refine ⟨_, (pss_cons (ps_expr (pe_cal C_check_many hr (by decide) (by rfl) (pa_cons (k_fld K (k_fld K (pv 0))) (pa_cons (pe_glob (v := .int 10) (by rfl) hMD ⟨_, rfl⟩) pa_nil))))
    (pss_one (ps_ret (pe_dcT (own := [("bits", 1)]) (g := (gName 1)) (tt := tYes) rfl hu sc_outcomes.nd (k_list K (pe_cal C_crowds_by_size hr (by decide) (by rfl) (pa_cons (k_fld K (k_fld K (pv 0))) pa_nil))) (blkOk_by (own := [("bits", 1)]) (N := N_outcomes) (sc := defScope s_outcomes) (by decide +kernel)) (fun _ _ _ _ _ => (pg_name (i := 1) sc_outcomes.nd rfl (by first | exact .inl rfl | exact .inr rfl))) (fun _ _ _ _ _ => pts_nil) (fun _ _ _ _ _ => (pe_cal C_crowd_of hr (by decide) (by rfl) (pa_cons (pv 1) pa_nil))) (fun _ _ _ _ _ => (pe_cal C_crowd_of hr (by decide) (by rfl) (pa_cons (pe_cal C_in_bits hr (by decide) (by rfl) (pa_cons (pv 0) (pa_cons (pv 1) pa_nil))) pa_nil))))))), ?_⟩
    refine ⟨_, rfl, a, cO, dx, _, _, rfl, e1, TO.cl, TO.nB, offF_book bk o l d, bk, cB, dxb, _, _, rfl, eb, T.cl, T.nP, bookF_people n t m, _, _, rfl, by omega, ?_⟩
    refine ⟨_, rfl, a, cO, dx, _, _, rfl, e1, TO.cl, TO.nB, offF_book bk o l d, bk, cB, dxb, _, _, rfl, eb, T.cl, T.nP, bookF_people n t m, n, rfl, hn, fun H1 p s1 np hp => ?_⟩
    refine ⟨p, rfl, ⟨_, .inl (.inl hp)⟩, fun D nD => ?_⟩
    refine dcTit (walk_list (xs := (levs n (n + 1)).map fun c => vi (bitsN c))) (fun i H2 => Same H1 H2 ∧ ∃ kvs : List (List Key × V), H2 D = some (.dT kvs) ∧ kvs.length ≤ i ∧ (∀ k ∈ kvs.map (·.1), ∃ c, Asc n c ∧ k = kc c) ∧ (kvs.map (·.1)).Nodup ∧
        ∀ j c, j < i → (levs n (n + 1))[j]? = some c → ∃ r, valV kvs (kc c) = some (.ref r) ∧ Tp H2 r (LET n O (oth O (ks.map (·.2))) c))
      ⟨same_upd nD, [], upd_same, Nat.le_refl _, (fun k h => by cases h), List.nodup_nil, fun j c h => by omega⟩ (fun i H2 _ q => .inl (.inl (q.1 _ _ hp))) ?_ ?_
    · rintro i x H2 H3 hi ⟨sm, kvs, eD, el, ek, nd, ev⟩ ⟨rfl, hx⟩
      have hi' : i < (levs n (n + 1)).length := by simpa using hi
      obtain ⟨c, hc⟩ : ∃ c, (levs n (n + 1))[i]? = some c := ⟨_, List.getElem?_eq_getElem hi'⟩
      obtain rfl := yv hc hx
      have ac : Asc n c := levs_mem.mp (List.mem_of_getElem? hc)
      have lb := bits_lt ac
      obtain ⟨b1, b2⟩ := inB_LET (O := O) (B := barB O (ks.map (·.2))) (oth := oth O (ks.map (·.2))) lb (fun x hx => (ho.mem x).mp hx) fun p _ => ⟨rfl, fun y hy => oth_asc hL hy⟩
      rw [crowd_bits ac] at b2
      refine ⟨rfl, _, rfl, bitsN c, n, rfl, lb, by omega, fun H4 r s4 nr hr => ?_⟩
      rw [crowd_bits ac] at hr
      refine ⟨_, rfl, _, rfl, a, n, ks, O, _, rfl, hA.same ((s1.trans sm).trans s4), by simpa using hL.few, ho, by omega, fun H5 s5 => ?_⟩
      refine ⟨_, n, rfl, b1, by omega, fun H6 r2 s6 nr2 hr2 => ?_⟩
      rw [b2] at hr2
      have s26 := (s4.trans s5).trans s6
      have eD6 := s26 _ _ eD
      have sT : SameT H6 (upd H6 D (.dT (putK kvs (kc c) (.ref r2)))) := SameT.upd eD6 fun _ q => nomatch q
      refine ⟨kvs, kc c, r, rfl, ?_, eD6, small (by omega), sPut (sm.trans s26) nD, _, upd_same, ?_, ?_, putK_nodup _ _ nd, ?_⟩
      · rw [kc_vals]
        exact s6 _ _ (s5 _ _ hr)
      · have := length_putK kvs (kc c) (.ref r2)
        omega
      · intro k hk
        rcases putK_mem hk with e | e
        · exact ⟨c, ac, e⟩
        · exact ek k e
      · intro j c' hj hc'
        rw [valV_put]
        by_cases e : kc c' = kc c
        · obtain rfl := kc_inj e
          rw [if_pos rfl]
          exact ⟨r2, rfl, sT _ _ hr2⟩
        · rw [if_neg e]
          have ji : j ≠ i := fun z => by
            subst z
            rw [hc] at hc'
            exact e (by rw [Option.some.inj hc'])
          obtain ⟨r', h1, h2⟩ := ev j c' (by omega) hc'
          exact ⟨r', h1, sT _ _ (s26 _ _ h2)⟩
    · rintro H2 ⟨sm, kvs, eD, el, ek, nd, ev⟩
      refine q H2 D kvs (s1.trans sm) (s1.free nD) ⟨eD, ek, nd, fun c ac => ?_⟩
      obtain ⟨j, hj⟩ := List.mem_iff_getElem?.mp (levs_mem.mpr ac)
      exact ev j c (by simpa using (List.getElem?_eq_some_iff.mp hj).1) hj
end
end LL
set_option Elab.async false
set_option linter.all false
set_option maxRecDepth 100000
set_option maxHeartbeats 4000000
namespace LL
open PySem PySem.Spec PyProof.Rows L2
theorem SX.of {x : Addr} {H H' : Hp} (s : Same H H') : SX x H H' := fun b o _ e => s b o e
theorem SX.fresh {x : Addr} {H0 H H' : Hp} (s : Same H0 H) (n : H0 x = none) (t : SX x H H') : Same H0 H' := fun b o e => t b o (ne_of_none e n) (s b o e)
theorem lsame {K : PySem.W.Frag} {H H' : Hp} {a : Addr} {xs : List V} (h : SqL K H a xs) (s : Same H H') : SqL K H' a xs :=
  h.elim (fun h => .inl (h.elim (fun h => .inl (s _ _ h)) fun ⟨o, h⟩ => .inr ⟨o, s _ _ h⟩)) fun h => .inr h
theorem erase_map {α β : Type} (f : α → β) : ∀ (l : List α) (k : Nat), (l.map f).eraseIdx k = (l.eraseIdx k).map f
  | [], _ => rfl
  | _ :: _, 0 => rfl
  | a :: l, k + 1 => by
    show f a :: (l.map f).eraseIdx k = f a :: (l.eraseIdx k).map f
    rw [erase_map f l k]
theorem erase_perm {α : Type} : ∀ {l : List α} {k : Nat} {x : α}, l[k]? = some x → (x :: l.eraseIdx k).Perm l
  | [], _, _, h => by simp at h
  | a :: l, 0, x, h => by
    obtain rfl : a = x := by simpa using h
    exact List.Perm.refl _
  | a :: l, k + 1, x, h => by
    have ih := erase_perm (l := l) (k := k) (x := x) (by simpa using h)
    exact (List.Perm.swap a x _).trans (ih.cons a)
theorem inV_vi (p : Nat) : ∀ c : List Nat, inV (vi p) (c.map vi) = decide (p ∈ c)
  | [] => rfl
  | x :: c => by
    have ih := inV_vi p c
    show (((x : Int) == (p : Int)) || inV (vi p) (c.map vi)) = _
    rw [ih]
    by_cases e : x = p
    · subst e
      simp
    · have e2 : ¬ (x : Int) = (p : Int) := by omega
      have e3 : ¬ p = x := fun z => e z.symm
      simp [e2, e3]
theorem flat_vi (c : List Nat) : (c.map vi).all flatV = true := by
  rw [List.all_map]
  exact List.all_eq_true.mpr fun _ _ => rfl
theorem emod_in (z : Int) : -(2 ^ 64) < z % 2147483647 ∧ z % 2147483647 < 2 ^ 64 := by
  have := Int.emod_nonneg z (show (2147483647 : Int) ≠ 0 by decide)
  have := Int.emod_lt_of_pos z (show (0 : Int) < 2147483647 by decide)
  omega
/-- a source of draws -/
def Src (H : Hp) (a : Addr) : Prop := ∃ v0 v1 v2 v3 v4 : Int, H a = some (.lst [.int v0, .int v1, .int v2, .int v3, .int v4])
theorem Src.same {H H' : Hp} {a : Addr} (h : Src H a) (s : Same H H') : Src H' a := by
  obtain ⟨v0, v1, v2, v3, v4, e⟩ := h
  exact ⟨v0, v1, v2, v3, v4, s _ _ e⟩
theorem Src.ne {H : Hp} {a p : Addr} (h : Src H a) (n : H p = none) : p ≠ a := by
  obtain ⟨v0, v1, v2, v3, v4, e⟩ := h
  rintro rfl
  rw [n] at e
  cases e
theorem Src.no {H : Hp} {a : Addr} (h : Src H a) : H a ≠ Option.none := by
  obtain ⟨v0, v1, v2, v3, v4, e⟩ := h
  rw [e]
  exact fun z => nomatch z
section
variable {P : Program} {w : World} {K : PySem.W.Frag} {mg : Str → Option Value} {base : Heap} {f : Addr} {fd : FuncData}
def spSource (K : PySem.W.Frag) : Sp := fun vs H Q _ => ∃ (a : Addr) (ns : List Int) (k : Nat), vs = [.ref a, vi k] ∧ SqL K H a (ns.map V.int) ∧ ns.length ≤ 63 ∧ ∀ H' p, Same H H' → H p = none → Src H' p → Q (.ref p) H'
theorem ok_source (F : Fun K "_law_source" "_law_source" s_l_source f fd) (B : Bt mg) : FnOk P w K mg base CX0 1 f fd ["_law_script", "_law_k"] (spSource K) := by
  refine F.ok sc_l_source (fun vs H Q E h => ?_) (fun cdv A outer s H vs Q E hr h => ?_)
  · obtain ⟨a, ns, k, rfl, _⟩ := h
    rfl
  · obtain ⟨a, ns, k, rfl, hs, few, q⟩ := h
    refine ⟨_, (pss_cons (ps_set (i := 2) sc_l_source.nd rfl (by first | exact .inl rfl | exact .inr rfl) pe_int)
    (pss_cons (ps_for PassesOwn.never rfl (k_list K (pe_slice (k_slL K) (pv 0) po_none (po_some pe_int))) (pg_name (i := 3) sc_l_source.nd rfl (by first | exact .inl rfl | exact .inr rfl))
    (pss_one (ps_set (i := 2) sc_l_source.nd rfl (by first | exact .inl rfl | exact .inr rfl) (pe_op op_mod (pe_callTy call_int1 (by rfl) B.t_int b_int (pa_cons (pe_op op_add (pe_op op_add (pe_op op_mul (pv 2) pe_int) (pe_op op_mod (pe_callTy call_int1 (by rfl) B.t_int b_int (pa_cons (pv 3) pa_nil)) pe_int)) pe_int) pa_nil)) pe_int))))
    (pss_cons (ps_set (i := 4) sc_l_source.nd rfl (by first | exact .inl rfl | exact .inr rfl) (pe_cut (pe_ifExp (pt_cmpR op_lt (pv 1) (pe_callB (k_len K) (by rfl) B.t_len b_len (pa_cons (pv 0) pa_nil)) (nomark _)) (pe_callTy call_int1 (by rfl) B.t_int b_int (pa_cons (pe_ix (k_ixL K) (pv 0) (pv 1) (fun _ _ => rfl)) pa_nil)) pe_int)))
    (pss_one (ps_ret (pe_lst (pa_cons (pe_cut (pe_ifExp (pt_cmpR op_ge (pv 4) (pe_op op_pow pe_int pe_int) (nomark _)) (pv 4) pe_int)) (pa_cons (pe_op op_mod (pe_callTy call_int1 (by rfl) B.t_int b_int (pa_cons (pv 4) pa_nil)) pe_int) (pa_cons (pv 2) (pa_cons (pe_op op_add (pv 1) pe_int) (pa_cons pe_int pa_nil))))))))))), ?_⟩
    refine ⟨_, rfl, _, rfl, a, _, rfl, hs, fun p np => ⟨p, rfl, ⟨_, .inl (.inl upd_same)⟩, ?_⟩⟩
    have s0 := same_upd np (o := .lst (cutV (ns.map V.int) none (some 63)))
    refine for_it (walk_list (xs := cutV (ns.map V.int) none (some 63))) (fun i σ H1 => ∃ (z : Int) (o3 o4 : Option V), σ = [some (.ref a), some (vi k), some (.int z), o3, o4] ∧ Same H H1 ∧ H1 p = some (.lst (cutV (ns.map V.int) none (some 63)))) ⟨29, _, _, rfl, s0, upd_same⟩ (fun i σ H1 _ ⟨_, _, _, _, _, e⟩ => .inl (.inl e)) ?_ ?_
    · rintro i x σ H1 H2 hi ⟨z, o3, o4, rfl, s1, ep⟩ ⟨rfl, hx⟩
      have mx : x ∈ ns.map V.int := List.mem_of_mem_drop (List.mem_of_mem_take (List.mem_of_getElem? hx))
      obtain ⟨y, _, rfl⟩ := List.mem_map.mp mx
      refine ⟨_, rfl, _, _, rfl, rfl, .inr ⟨by decide, by decide⟩, _, rfl, .inl ⟨y, rfl, _, _, rfl, rfl, by show (0 : Int) < _; decide, _, _, rfl, rfl, _, _, rfl, rfl, .inl ⟨_, rfl, _, _, rfl, rfl, by show (0 : Int) < _; decide, ?_⟩⟩⟩
      exact ⟨_, _, _, rfl, s1, ep⟩
    · rintro σ H1 ⟨z, o3, o4, rfl, s1, ep⟩
      have hs1 := lsame hs s1
      refine ⟨fun v H' => ∃ c : Int, v = .int c ∧ H' = H1, ?_, ?_⟩
      · refine ⟨_, rfl, _, rfl, a, _, rfl, .inl hs1, _, _, rfl, rfl, _, rfl, ite2 (fun e => ?_) (fun _ => ⟨0, rfl, rfl⟩)⟩
        have lt : k < ns.length := by
          have := of_decide_eq_true e
          rw [List.length_map] at this
          omega
        have g : (ns.map V.int)[k]? = some (.int ns[k]) := by rw [List.getElem?_map, List.getElem?_eq_getElem lt]; rfl
        exact ⟨_, rfl, _, rfl, a, _, _, _, rfl, rfl, hs1, at_of rfl g, .inl ⟨_, rfl, _, rfl, rfl⟩⟩
      · rintro v H2 ⟨c, rfl, rfl⟩
        refine ⟨fun v H' => ∃ c : Int, v = .int c ∧ H' = H2, ?_, ?_⟩
        · refine ⟨_, rfl, _, _, rfl, rfl, ⟨by decide, by decide, by decide⟩, _, _, rfl, rfl, _, rfl, ite2 (fun e => ⟨_, rfl, _, rfl, rfl⟩) (fun _ => ⟨0, rfl, rfl⟩)⟩
        · rintro v H3 ⟨c2, rfl, rfl⟩
          refine ⟨_, rfl, .inl ⟨_, rfl, _, _, rfl, rfl, by show (0 : Int) < _; decide, _, rfl, _, rfl, _, _, rfl, rfl, by show 5 ≤ sizeLine; decide, fun r nr => ?_⟩⟩
          exact q _ r (sNew s1 nr) (s1.free nr) ⟨_, _, _, _, _, upd_same⟩
def spDraw : Sp := fun vs H Q _ => ∃ (a : Addr) (m : Nat), vs = [.ref a, vi m] ∧ Src H a ∧ 0 < m ∧ m ≤ 1000 ∧ ∀ (r : Nat) H', r < m → SX a H H' → Src H' a → Q (vi r) H'
theorem ok_draw (F : Fun K "_law_draw" "_law_draw" s_l_draw f fd) (B : Bt mg) : FnOk P w K mg base CX0 1 f fd ["_law_source_here", "_law_many"] spDraw := by
  refine F.ok sc_l_draw (fun vs H Q E h => ?_) (fun cdv A outer s H vs Q E hr h => ?_)
  · obtain ⟨a, m, rfl, _⟩ := h
    rfl
  · obtain ⟨a, m, rfl, ⟨v0, v1, v2, v3, v4, ha⟩, m0, m1, q⟩ := h
    have fin : ∀ (z : Int) H', SX a H H' → Src H' a → Q (.int (z % (m : Nat))) H' := fun z H' s1 s2 => by
      have h1 := Int.emod_nonneg z (show (m : Int) ≠ 0 by omega)
      have h2 := Int.emod_lt_of_pos z (show (0 : Int) < (m : Nat) by omega)
      obtain ⟨r, hr⟩ := Int.eq_ofNat_of_zero_le h1
      rw [hr] at h2 ⊢
      exact q r H' (by omega) s1 s2
    refine ⟨_, (pss_cons (ps_if (pt_cmpR op_gt (pe_ix (k_ixL K) (pv 0) pe_int (fun _ _ => rfl)) pe_int (nomark _))
    (pss_cons (ps_set (i := 2) sc_l_draw.nd rfl (by first | exact .inl rfl | exact .inr rfl) (pe_op op_mod (pe_callTy call_int1 (by rfl) B.t_int b_int (pa_cons (pe_ix (k_ixL K) (pv 0) pe_int (fun _ _ => rfl)) pa_nil)) (pv 1)))
    (pss_cons (ps_asg (pe_op op_fdiv (pe_ix (k_ixL K) (pv 0) pe_int (fun _ _ => rfl)) (pv 1)) (pg_sub (pv 0) pe_int set_list))
    (pss_one (ps_ret (pv 2)))))
    pss_nil)
    (pss_cons (ps_asg (pe_op op_add (pe_ix (k_ixL K) (pv 0) pe_int (fun _ _ => rfl)) pe_int) (pg_sub (pv 0) pe_int set_list))
    (pss_cons (ps_set (i := 3) sc_l_draw.nd rfl (by first | exact .inl rfl | exact .inr rfl) (pe_op op_mod (pe_callTy call_int1 (by rfl) B.t_int b_int (pa_cons (pe_op op_mul (pe_op op_add (pe_op op_add (pe_op op_add (pe_ix (k_ixL K) (pv 0) pe_int (fun _ _ => rfl)) (pe_ix (k_ixL K) (pv 0) pe_int (fun _ _ => rfl))) (pe_op op_mul pe_int (pe_ix (k_ixL K) (pv 0) pe_int (fun _ _ => rfl)))) (pe_op op_mul pe_int (pe_ix (k_ixL K) (pv 0) pe_int (fun _ _ => rfl)))) pe_int) pa_nil)) pe_int))
    (pss_cons (ps_set (i := 3) sc_l_draw.nd rfl (by first | exact .inl rfl | exact .inr rfl) (pe_op op_mod (pe_callTy call_int1 (by rfl) B.t_int b_int (pa_cons (pe_op op_mul (pv 3) (pe_op op_add (pe_op op_fdiv (pv 3) pe_int) pe_int)) pa_nil)) pe_int))
    (pss_cons (ps_set (i := 3) sc_l_draw.nd rfl (by first | exact .inl rfl | exact .inr rfl) (pe_op op_mod (pe_callTy call_int1 (by rfl) B.t_int b_int (pa_cons (pe_op op_mul (pv 3) (pe_op op_add (pe_op op_fdiv (pv 3) pe_int) pe_int)) pa_nil)) pe_int))
    (pss_one (ps_ret (pe_op op_mod (pe_callTy call_int1 (by rfl) B.t_int b_int (pa_cons (pe_op op_fdiv (pv 3) pe_int) pa_nil)) (pv 1))))))))), ?_⟩
    refine ⟨_, rfl, a, _, _, _, rfl, rfl, .inl (.inl ha), rfl, _, _, rfl, rfl, _, rfl, ite2 (fun e => ?_) (fun e => ?_)⟩
    · refine ⟨_, rfl, a, _, _, _, rfl, rfl, .inl (.inl ha), rfl, .inl ⟨_, rfl, _, rfl, _, _, rfl, rfl, by omega, ?_⟩⟩
      refine ⟨_, rfl, a, _, _, _, rfl, rfl, .inl (.inl ha), rfl, _, rfl, _, _, rfl, rfl, ⟨by omega, by omega⟩, _, rfl, a, _, _, _, rfl, rfl, ha, rfl, ?_⟩
      exact ⟨_, rfl, fin _ _ SX.upd ⟨_, _, _, _, _, upd_same⟩⟩
    · refine ⟨_, rfl, a, _, _, _, rfl, rfl, .inl (.inl ha), rfl, _, _, rfl, rfl, _, rfl, a, _, _, _, rfl, rfl, ha, rfl, ?_⟩
      refine ⟨_, rfl, a, _, _, _, rfl, rfl, .inl (.inl upd_same), rfl, _, rfl, a, _, _, _, rfl, rfl, .inl (.inl upd_same), rfl, _, _, rfl, rfl, _, rfl, a, _, _, _, rfl, rfl, .inl (.inl upd_same), rfl, _, _, rfl, rfl, .inl ⟨by decide, by decide⟩, _, _, rfl, rfl, _, rfl, a, _, _, _, rfl, rfl, .inl (.inl upd_same), rfl, _, _, rfl, rfl, .inl ⟨by decide, by decide⟩, _, _, rfl, rfl, _, _, rfl, rfl, .inr ⟨by decide, by decide⟩, .inl ⟨_, rfl, _, _, rfl, rfl, by show (0 : Int) < _; decide, ?_⟩⟩
      refine ⟨_, rfl, _, rfl, _, _, rfl, rfl, ⟨by decide, by decide⟩, _, _, rfl, rfl, _, _, rfl, rfl, .inl (emod_in _), .inl ⟨_, rfl, _, _, rfl, rfl, by show (0 : Int) < _; decide, ?_⟩⟩
      refine ⟨_, rfl, _, rfl, _, _, rfl, rfl, ⟨by decide, by decide⟩, _, _, rfl, rfl, _, _, rfl, rfl, .inl (emod_in _), .inl ⟨_, rfl, _, _, rfl, rfl, by show (0 : Int) < _; decide, ?_⟩⟩
      refine ⟨_, rfl, _, _, rfl, rfl, ⟨by decide, by decide⟩, .inl ⟨_, rfl, _, rfl, _, _, rfl, rfl, by omega, ?_⟩⟩
      exact fin _ _ SX.upd ⟨_, _, _, _, _, upd_same⟩
def spPerm : Sp := fun vs H Q _ => ∃ (a : Addr) (n : Nat), vs = [.ref a, vi n] ∧ Src H a ∧ n ≤ 12 ∧ ∀ H' p O, SX a H H' → Src H' a → H p = none → Tp H' p O → Ord n O → Q (.ref p) H'
theorem ok_perm (F : Fun K "_law_perm" "_law_perm" s_l_perm f fd) (B : Bt mg) (C_l_draw : Cal P w K mg base "_law_draw" 1 ["_law_source_here", "_law_many"] spDraw) : FnOk P w K mg base CX0 2 f fd ["_law_source_here", "_law_many"] spPerm := by
  refine F.ok sc_l_perm (fun vs H Q E h => ?_) (fun cdv A outer s H vs Q E hr h => ?_)
  · obtain ⟨a, n, rfl, _⟩ := h
    rfl
  · obtain ⟨a, n, rfl, ha, hn, q⟩ := h
    have eR : rgV 0 (n : Int) = (List.range n).map vi := by
      unfold rgV
      rw [show ((n : Int) - 0).toNat = n by omega]
      refine List.map_congr_left fun i _ => ?_
      rw [Int.zero_add]
    refine ⟨_, (pss_cons (ps_set (i := 2) sc_l_perm.nd rfl (by first | exact .inl rfl | exact .inr rfl) (pe_listRg rfl (by rfl) B.t_list (prg_1 (by rfl) B.t_range (pv 1))))
    (pss_cons (ps_set (i := 3) sc_l_perm.nd rfl (by first | exact .inl rfl | exact .inr rfl) (pe_lst pa_nil))
    (pss_cons (ps_for PassesOwn.never rfl (pi_range1 (by rfl) B.t_range (pa_cons (pv 1) pa_nil)) (pg_name (i := 4) sc_l_perm.nd rfl (by first | exact .inl rfl | exact .inr rfl))
    (pss_one (ps_expr (pe_bm PySem.F.plainAttrs_list PySem.F.slot_list_append PySem.F.type_list_append mt_append (pv 3) (pa_cons (pe_bm PySem.F.plainAttrs_list PySem.F.slot_list_pop PySem.F.type_list_pop mt_popAt (pv 2) (pa_cons (pe_cal C_l_draw hr (by decide) (by rfl) (pa_cons (pv 0) (pa_cons (pe_callB (k_len K) (by rfl) B.t_len b_len (pa_cons (pv 2) pa_nil)) pa_nil))) pa_nil)) pa_nil)))))
    (pss_one (ps_ret (pe_callTy (k_tupOf K) (by rfl) B.t_tuple b_tuple (pa_cons (pv 3) pa_nil))))))), ?_⟩
    refine ⟨_, rfl, n, rfl, RgOk.of_le (by omega) (by omega) (by omega) (by omega), fun L nL => ?_⟩
    rw [eR]
    have s1 : Same H (upd H L (.lst ((List.range n).map vi))) := same_upd nL
    have eL : (upd H L (.lst ((List.range n).map vi))) L = some (.lst ((List.range n).map vi)) := upd_same
    generalize upd H L (.lst ((List.range n).map vi)) = H1 at s1 eL ⊢
    refine ⟨Nat.zero_le _, fun D nD => ?_⟩
    have s2 : Same H (upd H1 D (.lst [])) := sNew s1 nD
    have DL : L ≠ D := ne_of_none eL nD
    have nD0 : H D = none := s1.free nD
    have eL2 : (upd H1 D (.lst [])) L = some (.lst ((List.range n).map vi)) := same_upd nD _ _ eL
    have ha2 := ha.same s2
    have eD2 : (upd H1 D (.lst [])) D = some (.lst []) := upd_same
    generalize upd H1 D (.lst []) = H2 at s2 eL2 eD2 ha2 ⊢
    refine ⟨_, rfl, _, rfl, by omega, by omega, ?_⟩
    rw [show ((n : Nat) : Int).toNat = n from Int.toNat_natCast _]
    refine for_it walk_range (fun i σ H3 => ∃ (o4 : Option V) (rem got : List Nat), σ = [some (.ref a), some (vi n), some (.ref L), some (.ref D), o4] ∧ SX a H H3 ∧ Src H3 a ∧ H3 L = some (.lst (rem.map vi)) ∧ H3 D = some (.lst (got.map vi)) ∧ (got ++ rem).Perm (List.range n) ∧ got.length = i)
      ⟨none, List.range n, [], rfl, SX.of s2, ha2, eL2, eD2, List.Perm.refl _, rfl⟩ (fun _ _ _ _ _ => trivial) ?_ ?_
    · rintro i x σ H3 H4 hi ⟨o4, rem, got, rfl, sx, hs, el, ed, pm, gl⟩ ⟨rfl, rfl⟩
      have ln := pm.length_eq
      rw [List.length_append, List.length_range] at ln
      refine ⟨_, rfl, .inl ⟨rfl, _, .inl (.inl ed)⟩, _, rfl, .inl ⟨rfl, _, .inl (.inl el)⟩, _, rfl, _, rfl, L, _, rfl, .inl (.inl (.inl el)), a, rem.length, ?_, hs, by omega, by omega, fun r H5 hr s5 hs5 => ?_⟩
      · rw [List.length_map]
        rfl
      have La : L ≠ a := ha.ne nL
      have Da : D ≠ a := ha.ne nD0
      have el5 := s5 _ _ La el
      have ed5 := s5 _ _ Da ed
      obtain ⟨z, hz⟩ : ∃ z, rem[r]? = some z := ⟨_, List.getElem?_eq_getElem hr⟩
      refine ⟨L, _, _, r, vi z, rfl, rfl, el5, by omega, by omega, ?_, ?_, ?_⟩
      · refine (ixN_seq ?_).1
        unfold ixN
        rw [if_pos (by omega), if_pos (by rw [List.length_map]; omega), Int.toNat_natCast]
      · rw [List.getElem?_map, hz]
        rfl
      · have ed6 : (upd H5 L (.lst ((rem.map vi).eraseIdx r))) D = some (.lst (got.map vi)) := by
          rw [upd_ne DL.symm]
          exact ed5
        refine ⟨D, _, _, rfl, rfl, ed6, small (by rw [List.length_map]; omega), ?_⟩
        refine ⟨some (vi i), rem.eraseIdx r, got ++ [z], ?_, fun b o nb e => ?_, ?_, ?_, ?_, ?_, ?_⟩
        · simp
        · rw [upd_ne (ne_of_none e nD0), upd_ne (ne_of_none e nL)]
          exact s5 _ _ nb (sx _ _ nb e)
        · obtain ⟨v0, v1, v2, v3, v4, e⟩ := hs5
          refine ⟨v0, v1, v2, v3, v4, ?_⟩
          rw [upd_ne Da.symm, upd_ne La.symm]
          exact e
        · rw [upd_ne DL, upd_same, erase_map]
        · rw [upd_same, List.map_append]
          rfl
        · refine List.Perm.trans ?_ pm
          rw [List.append_assoc]
          exact List.Perm.append_left got (erase_perm hz)
        · simp [gl]
    · rintro σ H3 ⟨o4, rem, got, rfl, sx, hs, el, ed, pm, gl⟩
      have ln := pm.length_eq
      rw [List.length_append, List.length_range] at ln
      have er : rem = [] := List.length_eq_zero_iff.mp (by omega)
      subst er
      rw [List.append_nil] at pm
      refine ⟨_, rfl, D, _, rfl, .inl ⟨.inl (.inl ed), fun l nl => ?_⟩⟩
      refine q _ l got (fun b o nb e => ?_) ?_ ?_ upd_same ⟨?_, fun y => ?_, by rw [gl]⟩
      · exact same_upd nl _ _ (sx _ _ nb e)
      · exact hs.same (same_upd nl)
      · exact sx.free hs.no nl
      · exact pm.nodup_iff.mpr List.nodup_range
      · rw [pm.mem_iff, List.mem_range]
def spAllIn (K : PySem.W.Frag) : Sp := fun vs H Q _ => ∃ (p q : Addr) (c d : List Nat), vs = [.ref p, .ref q] ∧ SqT K H p (c.map vi) ∧ (SqL K H q (d.map vi) ∨ SqT K H q (d.map vi)) ∧ c.length ≤ 1000 ∧ ∀ H', Same H H' → Q (.bl (within c d)) H'
def spAllInL (K : PySem.W.Frag) : Sp := fun vs H Q _ => ∃ (p q : Addr) (c d : List Nat), vs = [.ref p, .ref q] ∧ SqL K H p (c.map vi) ∧ (SqL K H q (d.map vi) ∨ SqT K H q (d.map vi)) ∧ c.length ≤ 1000 ∧ ∀ H', Same H H' → Q (.bl (within c d)) H'
theorem tsame {K : PySem.W.Frag} {H H' : Hp} {a : Addr} {xs : List V} (h : SqT K H a xs) (s : Same H H') : SqT K H' a xs :=
  h.elim (fun h => .inl (h.elim (fun h => .inl (s _ _ h)) fun ⟨o, h⟩ => .inr ⟨o, s _ _ h⟩)) fun h => .inr h
theorem ok_within (F : Fun K "_law_within" "_law_within" s_l_within f fd) (B : Bt mg) : FnOk P w K mg base CX0 1 f fd ["_law_part", "_law_whole"] (spAllIn K) := by
  refine F.ok sc_l_within (fun vs H Q E h => ?_) (fun cdv A outer s H vs Q E hr h => ?_)
  · obtain ⟨p, q', c, d, rfl, _⟩ := h
    rfl
  · obtain ⟨p, q', c, d, rfl, hp, hq, few, q⟩ := h
    refine ⟨_, (pss_one (ps_ret (pe_callB (k_all K rfl) (by rfl) B.t_all b_all (pa_cons (pe_lc (own := [("_law_person", 2)]) (g := (gName 2)) (tt := tYes) rfl sc_l_within.nd (k_tuple K (pv 0)) (blkOk_by (own := [("_law_person", 2)]) (N := N_l_within) (sc := defScope s_l_within) (by decide +kernel)) (fun _ _ _ _ _ => (pg_name (i := 2) sc_l_within.nd rfl (by first | exact .inl rfl | exact .inr rfl))) (fun _ _ _ _ _ => pts_nil) (fun _ _ _ _ _ => (pe_cmpR (k_in K) (pv 2) (pv 1) (by with_unfolding_all rfl)))) pa_nil)))), ?_⟩
    refine ⟨_, rfl, p, rfl, ⟨_, hp⟩, fun D nD => ?_⟩
    refine lcFn (l := c) (walk_tup (xs := c.map vi)) (by simp) (fun _ => true) (fun x => .bl (decide (x ∈ d))) (by simp; omega) nD (fun H1 s1 => tsame hp s1) ?_ ?_
    · rintro i x y H1 H2 kT kF hx s1 ⟨rfl, hy⟩ h1 _
      obtain rfl := yv hx hy
      refine ⟨rfl, _, rfl, _, rfl, q', d.map vi, rfl, hq.imp (fun z => lsame z s1) (fun z => tsame z s1), rfl, flat_vi d, ?_⟩
      rw [if_neg Bool.false_ne_true, inV_vi]
      exact h1 rfl _ (Same.refl _)
    · intro H1 s1 eD
      rw [List.filter_eq_self.mpr fun _ _ => rfl] at eD
      refine ⟨D, c.map fun x => decide (x ∈ d), rfl, .inl (.inl ?_), ?_⟩
      · rw [eD, List.map_map]
        rfl
      · have := q H1 s1
        unfold within at this
        rw [List.all_map]
        exact this
theorem ok_withinL (F : Fun K "_law_within" "_law_within" s_l_within f fd) (B : Bt mg) : FnOk P w K mg base CX0 1 f fd ["_law_part", "_law_whole"] (spAllInL K) := by
  refine F.ok sc_l_within (fun vs H Q E h => ?_) (fun cdv A outer s H vs Q E hr h => ?_)
  · obtain ⟨p, q', c, d, rfl, _⟩ := h
    rfl
  · obtain ⟨p, q', c, d, rfl, hp, hq, few, q⟩ := h
    refine ⟨_, (pss_one (ps_ret (pe_callB (k_all K rfl) (by rfl) B.t_all b_all (pa_cons (pe_lc (own := [("_law_person", 2)]) (g := (gName 2)) (tt := tYes) rfl sc_l_within.nd (k_list K (pv 0)) (blkOk_by (own := [("_law_person", 2)]) (N := N_l_within) (sc := defScope s_l_within) (by decide +kernel)) (fun _ _ _ _ _ => (pg_name (i := 2) sc_l_within.nd rfl (by first | exact .inl rfl | exact .inr rfl))) (fun _ _ _ _ _ => pts_nil) (fun _ _ _ _ _ => (pe_cmpR (k_in K) (pv 2) (pv 1) (by with_unfolding_all rfl)))) pa_nil)))), ?_⟩
    refine ⟨_, rfl, p, rfl, ⟨_, hp⟩, fun D nD => ?_⟩
    refine lcFn (l := c) (walk_list (xs := c.map vi)) (by simp) (fun _ => true) (fun x => .bl (decide (x ∈ d))) (by simp; omega) nD (fun H1 s1 => lsame hp s1) ?_ ?_
    · rintro i x y H1 H2 kT kF hx s1 ⟨rfl, hy⟩ h1 _
      obtain rfl := yv hx hy
      refine ⟨rfl, _, rfl, _, rfl, q', d.map vi, rfl, hq.imp (fun z => lsame z s1) (fun z => tsame z s1), rfl, flat_vi d, ?_⟩
      rw [if_neg Bool.false_ne_true, inV_vi]
      exact h1 rfl _ (Same.refl _)
    · intro H1 s1 eD
      rw [List.filter_eq_self.mpr fun _ _ => rfl] at eD
      refine ⟨D, c.map fun x => decide (x ∈ d), rfl, .inl (.inl ?_), ?_⟩
      · rw [eD, List.map_map]
        rfl
      · have := q H1 s1
        unfold within at this
        rw [List.all_map]
        exact this
def spLast : Sp := fun vs H Q _ => ∃ (o t : Addr) (O c : List Nat), vs = [.ref o, .ref t] ∧ Tp H o O ∧ Tp H t c ∧ O.length ≤ 1000 ∧ (∃ x ∈ O, x ∈ c) ∧ ∀ H', Same H H' → Q (vi (lst O c)) H'
theorem ok_last (F : Fun K "_law_last" "_law_last" s_l_last f fd) (B : Bt mg) : FnOk P w K mg base CX0 1 f fd ["_law_order", "_law_lot"] spLast := by
  refine F.ok sc_l_last (fun vs H Q E h => ?_) (fun cdv A outer s H vs Q E hr h => ?_)
  · obtain ⟨o, t, O, c, rfl, _⟩ := h
    rfl
  · obtain ⟨o, t, O, c, rfl, hO, hc, few, ne, q⟩ := h
    refine ⟨_, (pss_one (ps_ret (pe_ix (k_ixL K) (pe_lc (own := [("_law_person", 2)]) (g := (gName 2)) rfl sc_l_last.nd (k_tuple K (pv 0)) (blkOk_by (own := [("_law_person", 2)]) (N := N_l_last) (sc := defScope s_l_last) (by decide +kernel)) (fun _ _ _ _ _ => (pg_name (i := 2) sc_l_last.nd rfl (by first | exact .inl rfl | exact .inr rfl))) (fun _ _ _ _ _ => (pts_one (pt_cmpR (k_in K) (pv 2) (pv 1) (by with_unfolding_all rfl)))) (fun _ _ _ _ _ => (pv 2))) (pe_un un_neg pe_int) (fun _ _ => rfl)))), ?_⟩
    refine ⟨_, rfl, o, rfl, ⟨_, hO.seq⟩, fun D nD => ?_⟩
    refine lcFn (l := O) (walk_tup (xs := O.map vi)) (by simp) (fun x => decide (x ∈ c)) vi (by simp; omega) nD (fun H1 s1 => Tp.seq (s1 _ _ hO)) ?_ ?_
    · rintro i x y H1 H2 kT kF hx s1 ⟨rfl, hy⟩ h1 h2
      obtain rfl := yv hx hy
      refine ⟨rfl, _, rfl, _, rfl, t, c.map vi, rfl, .inr (Tp.seq (s1 _ _ hc)), rfl, flat_vi c, _, rfl, ?_⟩
      rw [if_neg Bool.false_ne_true, inV_vi]
      exact ite2 (fun e => ⟨_, rfl, h1 e _ (Same.refl _)⟩) (fun e => h2 (by simpa using e) _ (Same.refl _))
    · intro H1 s1 eD
      obtain ⟨_, _, hl⟩ := lst_mem ne
      obtain ⟨d, hd⟩ := List.getLast?_eq_some_iff.mp hl
      refine ⟨1, rfl, D, _, _, _, rfl, rfl, .inl (.inl eD), ?_, q _ s1⟩
      rw [hd]
      exact atLast rfl
def spCrowdR : Sp := fun vs H Q _ => ∃ (a : Addr) (n : Nat), vs = [.ref a, vi n] ∧ Src H a ∧ n ≤ 1000 ∧ ∀ H' p c, SX a H H' → Src H' a → H p = none → Tp H' p c → Asc n c → Q (.ref p) H'
theorem ok_crowd (F : Fun K "_law_crowd" "_law_crowd" s_l_crowd f fd) (B : Bt mg) (C_l_draw : Cal P w K mg base "_law_draw" 1 ["_law_source_here", "_law_many"] spDraw) : FnOk P w K mg base CX0 2 f fd ["_law_source_here", "_law_people_here"] spCrowdR := by
  refine F.ok sc_l_crowd (fun vs H Q E h => ?_) (fun cdv A outer s H vs Q E hr h => ?_)
  · obtain ⟨a, n, rfl, _⟩ := h
    rfl
  · obtain ⟨a, n, rfl, ha, hn, q⟩ := h
    refine ⟨_, (pss_one (ps_ret (pe_callTy (k_tupOf K) (by rfl) B.t_tuple b_tuple (pa_cons (pe_lc (own := [("_law_person", 2)]) (g := (gName 2)) rfl sc_l_crowd.nd (pi_range1 (by rfl) B.t_range (pa_cons (pv 1) pa_nil)) (blkOk_by (own := [("_law_person", 2)]) (N := N_l_crowd) (sc := defScope s_l_crowd) (by decide +kernel)) (fun _ _ _ _ _ => (pg_name (i := 2) sc_l_crowd.nd rfl (by first | exact .inl rfl | exact .inr rfl))) (fun _ _ _ _ _ => (pts_one (pt_cmpR op_gt (pe_cal C_l_draw hr (by decide) (by rfl) (pa_cons (pv 0) (pa_cons pe_int pa_nil))) pe_int (nomark _)))) (fun _ _ _ _ _ => (pv 2))) pa_nil)))), ?_⟩
    refine ⟨_, rfl, _, rfl, by omega, by omega, fun D nD => ?_⟩
    rw [show ((n : Nat) : Int).toNat = n from Int.toNat_natCast _]
    have Da := ha.ne nD
    refine lc_it walk_range (fun i H1 => SX a H H1 ∧ Src H1 a ∧ ∃ c, H1 D = some (.lst (c.map vi)) ∧ Asc i c) ⟨SX.of (same_upd nD), ha.same (same_upd nD), [], upd_same, .nil, fun x h => by cases h⟩ (fun _ _ _ _ => trivial) ?_ ?_
    · rintro i x H1 H2 hi ⟨sx, hs, c, ed, ac⟩ ⟨rfl, rfl⟩
      have ac1 : Asc (i + 1) c := ⟨ac.1, fun x hx => Nat.lt_succ_of_lt (ac.2 x hx)⟩
      refine ⟨rfl, _, rfl, a, 3, rfl, hs, by decide, by decide, fun r H3 hr s3 hs3 => ?_⟩
      have ed3 := s3 _ _ Da ed
      refine ⟨_, _, rfl, rfl, _, rfl, ite2 (fun e => ?_) (fun e => ⟨sx.trans s3, hs3, c, ed3, ac1⟩)⟩
      have lc := asc_length ac
      refine ⟨_, rfl, _, ed3, small (by rw [List.length_map]; omega), ?_, ?_, c ++ [i], ?_, ?_⟩
      · intro b o nb e
        rw [upd_ne (ne_of_none e nD)]
        exact s3 _ _ nb (sx _ _ nb e)
      · obtain ⟨v0, v1, v2, v3, v4, e⟩ := hs3
        refine ⟨v0, v1, v2, v3, v4, ?_⟩
        rw [upd_ne Da.symm]
        exact e
      · rw [upd_same, List.map_append]
        simp
      · refine asc_snoc ac1 ?_ (Nat.lt_succ_self _)
        rcases List.eq_nil_or_concat c with e | ⟨d', l, e⟩
        · subst e
          exact Nat.zero_le _
        · rw [List.concat_eq_append] at e
          subst e
          rw [nxt_snoc]
          exact ac.2 l (List.mem_append_right _ List.mem_cons_self)
    · rintro H1 ⟨sx, hs, c, ed, ac⟩
      refine ⟨D, _, rfl, .inl ⟨.inl (.inl ed), fun l nl => ?_⟩⟩
      exact q _ l c (fun b o nb e => same_upd nl _ _ (sx _ _ nb e)) (hs.same (same_upd nl)) (sx.free hs.no nl) upd_same ac
def spPeople : Sp := fun vs H Q _ => ∃ (a : Addr) (m : Nat), vs = [.ref a, vi m] ∧ Src H a ∧ 1 ≤ m ∧ m ≤ 1000 ∧ ∀ (r : Nat) H', 1 ≤ r → r ≤ m → SX a H H' → Src H' a → Q (vi r) H'
theorem ok_people (F : Fun K "_law_people" "_law_people" s_l_people f fd) (B : Bt mg) (C_l_draw : Cal P w K mg base "_law_draw" 1 ["_law_source_here", "_law_many"] spDraw) : FnOk P w K mg base CX0 2 f fd ["_law_source_here", "_law_most"] spPeople := by
  refine F.ok sc_l_people (fun vs H Q E h => ?_) (fun cdv A outer s H vs Q E hr h => ?_)
  · obtain ⟨a, m, rfl, _⟩ := h
    rfl
  · obtain ⟨a, m, rfl, ha, m1, m2, q⟩ := h
    refine ⟨_, (pss_one (ps_ret (pe_ifExp (pt_cmpR op_gt (pe_cal C_l_draw hr (by decide) (by rfl) (pa_cons (pv 0) (pa_cons pe_int pa_nil))) pe_int (nomark _)) (pe_callB (call_max2 rfl) (by rfl) B.t_max b_max (pa_cons pe_int (pa_cons (pe_op op_sub (pv 1) (pe_cal C_l_draw hr (by decide) (by rfl) (pa_cons (pv 0) (pa_cons pe_int pa_nil)))) pa_nil))) (pe_op op_add pe_int (pe_cal C_l_draw hr (by decide) (by rfl) (pa_cons (pv 0) (pa_cons (pv 1) pa_nil))))))), ?_⟩
    refine ⟨_, rfl, a, 3, rfl, ha, by decide, by decide, fun r H1 hr s1 hs1 => ⟨_, _, rfl, rfl, _, rfl, ite2 (fun e => ?_) (fun e => ?_)⟩⟩
    · refine ⟨_, rfl, _, rfl, a, 3, rfl, hs1, by decide, by decide, fun r2 H2 hr2 s2 hs2 => ⟨_, _, rfl, rfl, _, _, rfl, ?_⟩⟩
      by_cases c : ((m : Nat) : Int) - (r2 : Nat) > 1
      · rw [if_pos c]
        have e2 : ((m : Nat) : Int) - (r2 : Nat) = ((m - r2 : Nat) : Int) := by omega
        rw [e2]
        exact q _ _ (by omega) (by omega) (s1.trans s2) hs2
      · rw [if_neg c]
        exact q 1 _ (by omega) (by omega) (s1.trans s2) hs2
    · refine ⟨_, rfl, _, rfl, a, m, rfl, hs1, by omega, by omega, fun r2 H2 hr2 s2 hs2 => ⟨_, _, rfl, rfl, ?_⟩⟩
      have e2 : (1 : Int) + (r2 : Nat) = ((r2 + 1 : Nat) : Int) := by omega
      have := q (r2 + 1) H2 (by omega) (by omega) (s1.trans s2) hs2
      dsimp only
      rw [e2]
      exact this
end
end LL
set_option Elab.async false
set_option linter.all false
set_option maxRecDepth 100000
set_option maxHeartbeats 4000000
namespace LL
open PySem PySem.Spec PyProof.Rows L2
theorem shapedT (ns : List Int) : SeqAt.shaped (encT ns) = true := by
  have h1 : ∀ ns : List Int, PyData.canLayAll0 (ns.map PyData.int) = true := fun ns => by
    induction ns with
    | nil => simp [PyData.canLayAll0]
    | cons n r ih => simp [PyData.canLayAll0, PyData.canLay0, ih]
  have h2 := depthT ns
  show (PyData.canLay0 (encT ns) && decide (PyData.depth (encT ns) ≤ 64)) = true
  rw [Bool.and_eq_true]
  exact ⟨by simp only [encT, PyData.canLay0]; exact h1 ns, decide_eq_true (by omega)⟩
theorem eqvT (a b : List Int) : PyData.eqv (encT a) (encT b) = decide (a = b) := by
  simp only [encT, PyData.eqv]
  exact PySem.W.ked_eqvAll a b
/-- persons as ints -/
abbrev zs (c : List Nat) : List Int := c.map fun n : Nat => (n : Int)
theorem zs_inj {c d : List Nat} (h : zs c = zs d) : c = d := List.map_inj_right (fun a b e => by
  have : (a : Int) = (b : Int) := e
  omega) |>.mp h
theorem dpV {K : PySem.W.Frag} {H : Hp} {t : Addr} {c : List Nat} (h : Tp H t c) : Dp K H (.ref t) (encT (zs c)) := dpTup h.ints
theorem sub_len {α : Type} [DecidableEq α] : ∀ {l m : List α}, l.Nodup → (∀ x ∈ l, x ∈ m) → l.length ≤ m.length
  | [], _, _, _ => Nat.zero_le _
  | x :: l, m, nd, h => by
    obtain ⟨n1, n2⟩ := List.nodup_cons.mp nd
    have mx := h x List.mem_cons_self
    have ih := sub_len (l := l) (m := m.erase x) n2 fun y hy => (List.mem_erase_of_ne (by rintro rfl; exact n1 hy)).mpr (h y (List.mem_cons_of_mem _ hy))
    have := List.length_erase_of_mem mx
    have := List.length_pos_of_mem mx
    simp only [List.length_cons]
    omega
theorem back_map {α β : Type} {φ : α → β} {ks : List α} : ∀ {ls : List β}, (∀ p ∈ ls, ∃ k ∈ ks, p = φ k) → ∃ ms : List α, ls = ms.map φ ∧ ∀ k ∈ ms, k ∈ ks
  | [], _ => ⟨[], rfl, fun _ h => by cases h⟩
  | p :: ls, h => by
    obtain ⟨k, hk, rfl⟩ := h p List.mem_cons_self
    obtain ⟨ms, e, hm⟩ := back_map (ls := ls) fun q hq => h q (List.mem_cons_of_mem _ hq)
    refine ⟨k :: ms, by rw [e]; rfl, fun j hj => ?_⟩
    rcases List.mem_cons.mp hj with z | z
    · rw [z]
      exact hk
    · exact hm j z
section
variable {P : Program} {w : World} {K : PySem.W.Frag} {mg : Str → Option Value} {base : Heap} {f : Addr} {fd : FuncData}
def spHeap : Sp := fun vs H Q _ => ∃ (a : Addr) (n s : Nat), vs = [.ref a, vi n, vi s] ∧ Src H a ∧ n ≤ 12 ∧ 2 ≤ s ∧ s ≤ n ∧ ∀ H' p c, SX a H H' → Src H' a → Tp H' p c → Asc n c → 2 ≤ c.length → Q (.ref p) H'
theorem ok_heap (F : Fun K "_law_heap" "_law_heap" s_l_heap f fd) (B : Bt mg) (C_l_perm : Cal P w K mg base "_law_perm" 2 ["_law_source_here", "_law_many"] spPerm) : FnOk P w K mg base CX0 3 f fd ["_law_source_here", "_law_people_here", "_law_size"] spHeap := by
  refine F.ok sc_l_heap (fun vs H Q E h => ?_) (fun cdv A outer s H vs Q E hr h => ?_)
  · obtain ⟨a, n, s, rfl, _⟩ := h
    rfl
  · obtain ⟨a, n, sz, rfl, ha, hn, two, szn, q⟩ := h
    refine ⟨_, (pss_one (ps_ret (pe_callTy (k_tupOf K) (by rfl) B.t_tuple b_tuple (pa_cons (pe_callB (k_sortTI K) (by rfl) B.t_sorted b_sorted (pa_cons (pe_cut (pe_slice (k_slT K) (pe_cal C_l_perm hr (by decide) (by rfl) (pa_cons (pv 0) (pa_cons (pv 1) pa_nil))) po_none (po_some (pv 2)))) pa_nil)) pa_nil)))), ?_⟩
    refine ⟨fun v H' => ∃ r d, v = .ref r ∧ SX a H H' ∧ Src H' a ∧ Tp H' r d ∧ d.Nodup ∧ (∀ x ∈ d, x < n) ∧ d.length = sz, ?_, ?_⟩
    · refine ⟨_, rfl, _, rfl, a, n, rfl, ha, hn, fun H1 p O s1 hs1 np hp ho => ?_⟩
      have e1 : cutV (O.map vi) none (some (sz : Int)) = (O.take sz).map vi := by
        unfold cutV
        rw [HT.sIx_none, HT.sIx_nat, List.length_map, ho.len, Nat.min_eq_left szn]
        simp [List.map_take]
      have nd : (O.take sz).Nodup := List.Nodup.sublist (List.take_sublist _ _) ho.nd
      have mem : ∀ x ∈ O.take sz, x < n := fun x hx => (ho.mem x).mp (List.mem_of_mem_take hx)
      have ln : (O.take sz).length = sz := by
        rw [List.length_take, ho.len]
        omega
      refine ⟨_, rfl, _, rfl, p, _, rfl, hp.seq, fun c => ?_, fun _ r nr => ?_⟩
      · have e2 : O.take sz = O := List.take_of_length_le (by
          have := c.2
          rw [HT.sIx_nat, List.length_map, ho.len] at this
          rw [ho.len]
          omega)
        rw [e2] at nd mem ln
        exact ⟨p, O, rfl, s1, hs1, hp, nd, mem, ln⟩
      · refine ⟨r, O.take sz, rfl, fun b o nb e => same_upd nr _ _ (s1 _ _ nb e), hs1.same (same_upd nr), ?_, nd, mem, ln⟩
        show upd _ _ _ _ = _
        rw [upd_same, e1]
    · rintro v H1 ⟨r, d, rfl, s1, hs1, hd, nd, mem, ln⟩
      refine ⟨r, zs d, rfl, hd.ints, fun ms p2 pm asc np2 => ?_⟩
      have em := ints_sorted pm asc nd mem
      refine ⟨p2, _, rfl, .inl ⟨.inl (.inl upd_same), fun l nl => ?_⟩⟩
      have s3 : Same H1 (upd (upd H1 p2 (.lst (ms.map V.int))) l (.tup (ms.map V.int))) := sNew (same_upd np2) nl
      refine q _ l (crd n fun x => decide (x ∈ d)) (fun b o nb e => s3 _ _ (s1 _ _ nb e)) (hs1.same s3) ?_ (crd_asc _ _) ?_
      · show upd _ _ _ _ = _
        rw [upd_same, em, vi_ints]
      · have h1 := congrArg List.length em
        rw [pm.length_eq, List.length_map, List.length_map] at h1
        omega
/-- heaps that stand at their addresses -/
def HS (n : Nat) (H : Hp) (ks : List (Addr × List Nat)) : Prop := ∀ k ∈ ks, Tp H k.1 k.2 ∧ Asc n k.2 ∧ 2 ≤ k.2.length
def spHeaps : Sp := fun vs H Q _ => ∃ (a : Addr) (n m : Nat), vs = [.ref a, vi n, vi m] ∧ Src H a ∧ 2 ≤ n ∧ n ≤ 12 ∧ m ≤ 40 ∧ ∀ H' p ks, SX a H H' → Src H' a → H' p = some (.lst (ks.map fun k : Addr × List Nat => V.ref k.1)) → HS n H' ks → ks.length = m → Q (.ref p) H'
theorem ok_heaps (F : Fun K "_law_heaps" "_law_heaps" s_l_heaps f fd) (B : Bt mg) (C_l_draw : Cal P w K mg base "_law_draw" 1 ["_law_source_here", "_law_many"] spDraw) (C_l_heap : Cal P w K mg base "_law_heap" 3 ["_law_source_here", "_law_people_here", "_law_size"] spHeap) : FnOk P w K mg base CX0 4 f fd ["_law_source_here", "_law_people_here", "_law_many"] spHeaps := by
  refine F.ok sc_l_heaps (fun vs H Q E h => ?_) (fun cdv A outer s H vs Q E hr h => ?_)
  · obtain ⟨a, n, m, rfl, _⟩ := h
    rfl
  · obtain ⟨a, n, m, rfl, ha, two, hn, hm, q⟩ := h
    refine ⟨_, (pss_cons (ps_set (i := 3) sc_l_heaps.nd rfl (by first | exact .inl rfl | exact .inr rfl) (pe_lst pa_nil))
    (pss_cons (ps_set (i := 4) sc_l_heaps.nd rfl (by first | exact .inl rfl | exact .inr rfl) (pe_cal C_l_draw hr (by decide) (by rfl) (pa_cons (pv 0) (pa_cons pe_int pa_nil))))
    (pss_cons (ps_for PassesOwn.never rfl (pi_range1 (by rfl) B.t_range (pa_cons (pv 2) pa_nil)) (pg_name (i := 5) sc_l_heaps.nd rfl (by first | exact .inl rfl | exact .inr rfl))
    (pss_cons (ps_set (i := 6) sc_l_heaps.nd rfl (by first | exact .inl rfl | exact .inr rfl) (pe_op op_add pe_int (pe_cal C_l_draw hr (by decide) (by rfl) (pa_cons (pv 0) (pa_cons (pe_cut (pe_callB (call_min2 rfl) (by rfl) B.t_min b_min (pa_cons (pe_op op_sub (pv 1) pe_int) (pa_cons (pe_ix (k_ixT K) (pe_tup (pa_cons pe_int (pa_cons pe_int (pa_cons pe_int (pa_cons pe_int pa_nil))))) (pv 4) (fun _ _ => rfl)) pa_nil)))) pa_nil)))))
    (pss_one (ps_expr (pe_bm PySem.F.plainAttrs_list PySem.F.slot_list_append PySem.F.type_list_append mt_append (pv 3) (pa_cons (pe_cal C_l_heap hr (by decide) (by rfl) (pa_cons (pv 0) (pa_cons (pv 1) (pa_cons (pv 6) pa_nil)))) pa_nil))))))
    (pss_one (ps_ret (pv 3)))))), ?_⟩
    refine ⟨Nat.zero_le _, fun D nD => ?_⟩
    have Da := ha.ne nD
    refine ⟨_, rfl, a, 4, rfl, ha.same (same_upd nD), by decide, by decide, fun st H1 hst s1 hs1 => ?_⟩
    have ed1 : H1 D = some (.lst []) := s1 _ _ Da upd_same
    have sx1 : SX a H H1 := fun b o nb e => s1 _ _ nb (same_upd nD _ _ e)
    refine ⟨_, rfl, _, rfl, by omega, by omega, ?_⟩
    rw [show ((m : Nat) : Int).toNat = m from Int.toNat_natCast _]
    refine for_it walk_range (fun i σ H2 => ∃ (o5 o6 : Option V) (ks : List (Addr × List Nat)), σ = [some (.ref a), some (vi n), some (vi m), some (.ref D), some (vi st), o5, o6] ∧ SX a H H2 ∧ Src H2 a ∧ H2 D = some (.lst (ks.map fun k => V.ref k.1)) ∧ HS n H2 ks ∧ ks.length = i)
      ⟨none, none, [], rfl, sx1, hs1, ed1, (fun k h => by cases h), rfl⟩ (fun _ _ _ _ _ => trivial) ?_ ?_
    · rintro i x σ H2 H2' hi ⟨o5, o6, ks, rfl, sx, hs, ed, hk, kl⟩ ⟨rfl, rfl⟩
      refine ⟨_, rfl, ⟨fun v H' => ∃ mm : Nat, v = vi mm ∧ 1 ≤ mm ∧ mm ≤ n - 1 ∧ Same H2' H', ?_, ?_⟩⟩
      · refine ⟨_, rfl, _, _, rfl, rfl, by show 4 ≤ sizeLine; decide, fun T nT => ?_⟩
        have es : ∃ v : Nat, [V.int 1, .int 2, .int 3, .int 5][st]? = some (vi v) ∧ 1 ≤ v := by
          rcases st with _ | _ | _ | _ | st
          · exact ⟨1, rfl, by omega⟩
          · exact ⟨2, rfl, by omega⟩
          · exact ⟨3, rfl, by omega⟩
          · exact ⟨5, rfl, by omega⟩
          · omega
        obtain ⟨v, ev, v1⟩ := es
        refine ⟨_, rfl, T, _, _, vi v, rfl, rfl, .inl (.inl upd_same), at_of rfl ev, _, _, rfl, ?_⟩
        by_cases c : ((v : Nat) : Int) < (n : Nat) - 1
        · rw [if_pos c]
          exact ⟨v, rfl, v1, by omega, same_upd nT⟩
        · rw [if_neg c]
          exact ⟨n - 1, congrArg V.int (by omega), by omega, Nat.le_refl _, same_upd nT⟩
      · rintro v H3 ⟨mm, rfl, m1, m2, s3⟩
        refine ⟨a, mm, rfl, hs.same s3, by omega, by omega, fun r H4 hr s4 hs4 => ⟨_, _, rfl, rfl, ?_⟩⟩
        have ed3 : H4 D = some (.lst (ks.map fun k => V.ref k.1)) := s4 _ _ Da (s3 _ _ ed)
        refine ⟨_, rfl, .inl ⟨rfl, _, .inl (.inl ed3)⟩, _, rfl, _, rfl, _, rfl, a, n, r + 2, ?_, hs4, hn, by omega, by omega, fun H5 p c s5 hs5 hp ac lc => ?_⟩
        · exact congrArg (fun z : Int => [V.ref a, vi n, V.int z]) (by omega)
        · have ed5 := s5 _ _ Da ed3
          refine ⟨D, _, _, rfl, rfl, ed5, small (by rw [List.length_map]; omega), ?_⟩
          have keep : SX a H2' (upd H5 D (.lst (ks.map (fun k => V.ref k.1) ++ [.ref p]))) → True := fun _ => trivial
          have tpk : ∀ t d, Tp H5 t d → Tp (upd H5 D (.lst (ks.map (fun k => V.ref k.1) ++ [.ref p]))) t d := fun t d h => by
            show upd _ _ _ _ = _
            rw [upd_ne (ne_of h ed5 (by intro z; cases z))]
            exact h
          have nta : ∀ t d, Tp H2' t d → t ≠ a := fun t d h => by
            obtain ⟨v0, v1, v2, v3, v4, e⟩ := hs
            exact ne_of h e (by intro z; cases z)
          refine ⟨_, _, ks ++ [(p, c)], rfl, fun b o nb e => ?_, ?_, ?_, ?_, ?_⟩
          · rw [upd_ne (ne_of_none e nD)]
            exact s5 _ _ nb (s4 _ _ nb (s3 _ _ (sx _ _ nb e)))
          · obtain ⟨v0, v1, v2, v3, v4, e⟩ := hs5
            refine ⟨v0, v1, v2, v3, v4, ?_⟩
            rw [upd_ne Da.symm]
            exact e
          · rw [upd_same, List.map_append]
            rfl
          · intro k hk2
            rcases List.mem_append.mp hk2 with z | z
            · obtain ⟨h1, h2, h3⟩ := hk k z
              have na := nta _ _ h1
              exact ⟨tpk _ _ (s5 _ _ na (s4 _ _ na (s3 _ _ h1))), h2, h3⟩
            · rw [List.mem_singleton.mp z]
              exact ⟨tpk _ _ hp, ac, lc⟩
          · simp [kl]
    · rintro σ H2 ⟨o5, o6, ks, rfl, sx, hs, ed, hk, kl⟩
      exact ⟨_, rfl, q _ D ks sx hs ed hk kl⟩
def spLeast : Sp := fun vs H Q _ => ∃ (p : Addr) (n : Nat) (ks : List (Addr × List Nat)), vs = [.ref p] ∧ H p = some (.lst (ks.map fun k : Addr × List Nat => V.ref k.1)) ∧ HS n H ks ∧ ks.length ≤ 60 ∧ n ≤ 1000 ∧ ∀ H' r ls, Same H H' → TT H' r ls → Lots n (ls.map (·.2)) → Q (.ref r) H'
theorem ok_least (F : Fun K "_law_least" "_law_least" s_l_least f fd) (B : Bt mg) (C_l_within : Cal P w K mg base "_law_within" 1 ["_law_part", "_law_whole"] (spAllIn K)) : FnOk P w K mg base CX0 2 f fd ["_law_heaps_here"] spLeast := by
  refine F.ok sc_l_least (fun vs H Q E h => ?_) (fun cdv A outer s H vs Q E hr h => ?_)
  · obtain ⟨p, n, ks, rfl, _⟩ := h
    rfl
  · obtain ⟨p, n, ks, rfl, hp, hk, lk, hn, q⟩ := h
    have hu64 := hu64_of hr
    refine ⟨_, (pss_cons (ps_set (i := 1) sc_l_least.nd rfl (by first | exact .inl rfl | exact .inr rfl) (pe_callB (k_sortS K P w rfl hu64) (by rfl) B.t_sorted b_sorted (pa_cons (pe_callTy (k_setOf K P w rfl hu64) (by rfl) B.t_set b_set (pa_cons (pv 0) pa_nil)) pa_nil)))
    (pss_cons (ps_set (i := 2) sc_l_least.nd rfl (by first | exact .inl rfl | exact .inr rfl) (pe_lst pa_nil))
    (pss_cons (ps_for PassesOwn.never rfl (k_list K (pv 1)) (pg_name (i := 3) sc_l_least.nd rfl (by first | exact .inl rfl | exact .inr rfl))
    (pss_one (ps_if (pt_not (pt_val (pe_callB (k_any K rfl) (by rfl) B.t_any b_any (pa_cons (pe_lc (own := [("_law_other", 4)]) (g := (gName 4)) (tt := tYes) rfl sc_l_least.nd (k_list K (pv 1)) (blkOk_by (own := [("_law_other", 4)]) (N := N_l_least) (sc := defScope s_l_least) (by decide +kernel)) (fun _ _ _ _ _ => (pg_name (i := 4) sc_l_least.nd rfl (by first | exact .inl rfl | exact .inr rfl))) (fun _ _ _ _ _ => pts_nil) (fun _ _ _ _ _ => (pe_and (pe_cmpR (k_neD K hu64) (pv 4) (pv 3) (nomark _)) (pe_one (pe_cal C_l_within hr (by decide) (by rfl) (pa_cons (pv 4) (pa_cons (pv 3) pa_nil))))))) pa_nil))))
    (pss_one (ps_expr (pe_bm PySem.F.plainAttrs_list PySem.F.slot_list_append PySem.F.type_list_append mt_append (pv 2) (pa_cons (pv 3) pa_nil))))
    pss_nil)))
    (pss_one (ps_ret (pe_callTy (k_tupOf K) (by rfl) B.t_tuple b_tuple (pa_cons (pv 2) pa_nil))))))), ?_⟩
    -- unlike
    refine ⟨_, rfl, p, ks.map (fun k => (k.1, zs k.2)), rfl, .inl (.inl ?_), ?_, ?_, fun a L na sub all => ?_⟩
    · rw [hp, List.map_map]
      rfl
    · intro k hk2
      obtain ⟨k2, m2, rfl⟩ := List.mem_map.mp hk2
      exact (hk k2 m2).1.ints
    · rw [List.length_map]
      omega
    have sa : Same H (upd H a (SetTO P w a L)) := same_upd na
    refine ⟨a, L, rfl, upd_same, ?_, ?_, fun ls p2 pm nd lt asc np2 => ?_⟩
    · intro k hkL
      obtain ⟨k2, m2, rfl⟩ := List.mem_map.mp (sub k hkL)
      exact Tp.ints (sa _ _ (hk k2 m2).1)
    · intro k hkL
      obtain ⟨k2, m2, rfl⟩ := List.mem_map.mp (sub k hkL)
      intro z
      have z2 := List.map_eq_nil_iff.mp z
      have := (hk k2 m2).2.2
      rw [z2] at this
      simp at this
    obtain ⟨ms, rfl, hms⟩ := back_map (ks := ks) (φ := fun k : Addr × List Nat => (k.1, zs k.2)) (ls := ls) fun k hkl => by
      obtain ⟨k2, m2, e⟩ := List.mem_map.mp (sub k (pm.mem_iff.mp hkl))
      exact ⟨k2, m2, e.symm⟩
    have nd2 : (ms.map (·.2)).Nodup := by
      have e : ((ms.map fun k : Addr × List Nat => (k.1, zs k.2)).map (·.2)) = (ms.map (·.2)).map zs := by
        rw [List.map_map, List.map_map]
        rfl
      rw [e] at nd
      exact (List.pairwise_map.mp nd).imp fun h e => h (congrArg zs e)
    have lm : ms.length ≤ 60 := by
      have := sub_len nd2 (m := ks.map (·.2)) fun x hx => by
        obtain ⟨k, hk2, rfl⟩ := List.mem_map.mp hx
        exact List.mem_map.mpr ⟨k, hms k hk2, rfl⟩
      rw [List.length_map, List.length_map] at this
      omega
    have s2 : Same H (upd (upd H a (SetTO P w a L)) p2 (.lst ((ms.map fun k : Addr × List Nat => (k.1, zs k.2)).map fun q => V.ref q.1))) := sNew sa np2
    have e2 : (upd (upd H a (SetTO P w a L)) p2 (.lst ((ms.map fun k : Addr × List Nat => (k.1, zs k.2)).map fun q => V.ref q.1))) p2 = some (.lst (ms.map fun k => V.ref k.1)) := by
      rw [upd_same, List.map_map]
      rfl
    generalize upd (upd H a (SetTO P w a L)) p2 (.lst ((ms.map fun k : Addr × List Nat => (k.1, zs k.2)).map fun q => V.ref q.1)) = H2 at s2 e2 ⊢
    have hk2 : HS n H2 ms := fun k hkm => by
      obtain ⟨h1, h2⟩ := hk k (hms k hkm)
      exact ⟨s2 _ _ h1, h2⟩
    -- found
    refine ⟨Nat.zero_le _, fun D nD => ?_⟩
    have s3 : Same H2 (upd H2 D (.lst [])) := same_upd nD
    refine ⟨_, rfl, p2, rfl, ⟨_, .inl (.inl (s3 _ _ e2))⟩, ?_⟩
    refine for_it (walk_list (xs := ms.map fun k => V.ref k.1)) (fun i σ H3 => ∃ (o3 o4 : Option V), σ = [some (.ref p), some (.ref p2), some (.ref D), o3, o4] ∧ Same H2 H3 ∧ H3 D = some (.lst (((ms.take i).filter fun k => !(ms.any fun o => !decide (o.2 = k.2) && within o.2 k.2)).map fun k => V.ref k.1)))
      ⟨none, none, rfl, s3, upd_same⟩ (fun i σ H3 _ ⟨_, _, _, q, _⟩ => .inl (.inl (q _ _ e2))) ?_ ?_
    · rintro i x σ H3 H3' hi ⟨o3, o4, rfl, sm, ed⟩ ⟨rfl, hx⟩
      have hi' : i < ms.length := by simpa using hi
      obtain ⟨k, hkm⟩ : ∃ k, ms[i]? = some k := ⟨_, List.getElem?_eq_getElem hi'⟩
      obtain rfl := yv hkm hx
      have mk := List.mem_of_getElem? hkm
      have lf : ((ms.take i).filter fun k => !(ms.any fun o => !decide (o.2 = k.2) && within o.2 k.2)).length ≤ 60 := Nat.le_trans (List.length_filter_le _ _) (by simp; omega)
      refine ⟨_, rfl, p2, rfl, ⟨_, .inl (.inl (sm _ _ e2))⟩, fun D2 nD2 => ?_⟩
      refine lcFn (l := ms) (walk_list (xs := ms.map fun k => V.ref k.1)) (by simp) (fun _ => true) (fun o => .bl (!decide (o.2 = k.2) && within o.2 k.2)) (by simp; omega) nD2 (fun H4 s4 => .inl (.inl (s4 _ _ (sm _ _ e2)))) ?_ ?_
      · rintro j o y H4 H5 kT kF ho s4 ⟨rfl, hy⟩ h1 _
        obtain rfl := yv ho hy
        have mo := List.mem_of_getElem? ho
        have to : Tp H5 o.1 o.2 := s4 _ _ (sm _ _ (hk2 o mo).1)
        have tk : Tp H5 k.1 k.2 := s4 _ _ (sm _ _ (hk2 k mk).1)
        refine ⟨rfl, _, rfl, _, rfl, encT (zs o.2), encT (zs k.2), dpV to, dpV tk, shapedT _, shapedT _, _, rfl, ?_⟩
        rw [eqvT]
        have h1' := h1 rfl
        by_cases e : o.2 = k.2
        · rw [e] at h1' ⊢
          rw [decide_eq_true rfl]
          refine iteF ?_
          have := h1' _ (Same.refl _)
          rw [decide_eq_true rfl] at this
          exact this
        · rw [decide_eq_false fun z => e (zs_inj z)]
          refine iteT ?_
          rw [decide_eq_false e] at h1'
          have lo := asc_length (hk2 o mo).2.1
          exact ⟨_, rfl, _, rfl, o.1, k.1, o.2, k.2, rfl, to.seq, .inr tk.seq, by omega, fun H6 s6 => h1' _ s6⟩
      · intro H4 s4 eD2
        rw [List.filter_eq_self.mpr fun _ _ => rfl] at eD2
        have ed4 := s4 _ _ ed
        refine ⟨D2, ms.map fun o => (!decide (o.2 = k.2) && within o.2 k.2), rfl, .inl (.inl ?_), _, rfl, ?_⟩
        · rw [eD2, List.map_map]
          rfl
        · have ea : (ms.map fun o => (!decide (o.2 = k.2) && within o.2 k.2)).any id = ms.any fun o => !decide (o.2 = k.2) && within o.2 k.2 := by
            rw [List.any_map]
            rfl
          rw [ea]
          cases eb : ms.any fun o => !decide (o.2 = k.2) && within o.2 k.2 with
          | true =>
            refine iteF ⟨_, _, rfl, sm.trans s4, ?_⟩
            rw [filter_take _ hkm, eb]
            simpa using ed4
          | false =>
            refine iteT ⟨_, rfl, .inl ⟨rfl, _, .inl (.inl ed4)⟩, _, rfl, D, _, _, rfl, rfl, ed4, small (by rw [List.length_map]; omega), ?_⟩
            refine ⟨_, _, rfl, sPut (sm.trans s4) nD, ?_⟩
            rw [upd_same, filter_take _ hkm, eb, List.map_append]
            rfl
    · rintro σ H3 ⟨o3, o4, rfl, sm, ed⟩
      have el : ms.take (ms.map fun k => V.ref k.1).length = ms := List.take_of_length_le (by simp)
      rw [el] at ed
      refine ⟨_, rfl, D, _, rfl, .inl ⟨.inl (.inl ed), fun r nr => ?_⟩⟩
      have mf : ∀ k ∈ ms.filter (fun k => !(ms.any fun o => !decide (o.2 = k.2) && within o.2 k.2)), k ∈ ms := fun k h => (List.mem_filter.mp h).1
      refine q _ r (ms.filter fun k => !(ms.any fun o => !decide (o.2 = k.2) && within o.2 k.2)) ((s2.trans sm).trans (same_upd nr)) ⟨upd_same, fun k h => same_upd nr _ _ (sm _ _ (hk2 k (mf k h)).1)⟩ ⟨?_, ?_, ?_, ?_, ?_⟩
      · intro l hl
        obtain ⟨k, hk3, rfl⟩ := List.mem_map.mp hl
        exact (hk2 k (mf k hk3)).2.1
      · intro l hl
        obtain ⟨k, hk3, rfl⟩ := List.mem_map.mp hl
        exact (hk2 k (mf k hk3)).2.2
      · have p1 : ms.Pairwise fun x y => PySem.W.dataLt (encT (zs y.2)) (encT (zs x.2)) = false := List.pairwise_map.mp asc
        have p2 : ms.Pairwise fun x y => x.2 ≠ y.2 := List.pairwise_map.mp nd2
        have p3 : ms.Pairwise fun x y => HT.lexLt (zs x.2) (zs y.2) = true := (p1.and p2).imp fun {x y} h => lexLt_enc h.1 fun z => h.2 (zs_inj z)
        exact List.pairwise_map.mpr (List.Pairwise.filter _ p3)
      · intro a1 h1 b1 h2 ne
        obtain ⟨k1, m1, rfl⟩ := List.mem_map.mp h1
        obtain ⟨k2, m2, rfl⟩ := List.mem_map.mp h2
        have nb := (List.mem_filter.mp m2).2
        cases ew : within k1.2 k2.2 with
        | false => rfl
        | true =>
          have : (ms.any fun o => !decide (o.2 = k2.2) && within o.2 k2.2) = true := List.any_eq_true.mpr ⟨k1, mf k1 m1, by rw [ew, decide_eq_false ne]; rfl⟩
          rw [this] at nb
          cases nb
      · rw [List.length_map]
        exact Nat.le_trans (List.length_filter_le _ _) lm
def spLots : Sp := fun vs H Q _ => ∃ (a : Addr) (n m : Nat), vs = [.ref a, vi n, vi m] ∧ Src H a ∧ 1 ≤ n ∧ n ≤ 12 ∧ m ≤ 40 ∧ ∀ H' r ls, SX a H H' → Src H' a → TT H' r ls → Lots n (ls.map (·.2)) → Q (.ref r) H'
theorem ok_lots (F : Fun K "_law_lots" "_law_lots" s_l_lots f fd) (B : Bt mg) (C_l_draw : Cal P w K mg base "_law_draw" 1 ["_law_source_here", "_law_many"] spDraw) (C_l_heaps : Cal P w K mg base "_law_heaps" 4 ["_law_source_here", "_law_people_here", "_law_many"] spHeaps)
    (C_l_least : Cal P w K mg base "_law_least" 2 ["_law_heaps_here"] spLeast) : FnOk P w K mg base CX0 5 f fd ["_law_source_here", "_law_people_here", "_law_most"] spLots := by
  refine F.ok sc_l_lots (fun vs H Q E h => ?_) (fun cdv A outer s H vs Q E hr h => ?_)
  · obtain ⟨a, n, m, rfl, _⟩ := h
    rfl
  · obtain ⟨a, n, m, rfl, ha, n1, hn, hm, q⟩ := h
    refine ⟨_, (pss_cons (ps_if (pt_cmpR op_lt (pv 1) pe_int (nomark _))
    (pss_one (ps_ret (pe_tup pa_nil)))
    pss_nil)
    (pss_cons (ps_set (i := 3) sc_l_lots.nd rfl (by first | exact .inl rfl | exact .inr rfl) (pe_cut (pe_ifExp (pt_cmpR op_gt (pe_cal C_l_draw hr (by decide) (by rfl) (pa_cons (pv 0) (pa_cons pe_int pa_nil))) pe_int (nomark _)) (pe_op op_sub (pv 2) (pe_cal C_l_draw hr (by decide) (by rfl) (pa_cons (pv 0) (pa_cons (pe_op op_add pe_int (pe_op op_fdiv (pv 2) pe_int)) pa_nil)))) (pe_cal C_l_draw hr (by decide) (by rfl) (pa_cons (pv 0) (pa_cons (pe_op op_add (pv 2) pe_int) pa_nil))))))
    (pss_one (ps_ret (pe_cal C_l_least hr (by decide) (by rfl) (pa_cons (pe_cal C_l_heaps hr (by decide) (by rfl) (pa_cons (pv 0) (pa_cons (pv 1) (pa_cons (pv 3) pa_nil)))) pa_nil)))))), ?_⟩
    refine ⟨_, rfl, _, _, rfl, rfl, _, rfl, ite2 (fun e => ?_) (fun e => ?_)⟩
    · refine ⟨Nat.zero_le _, fun r nr => ?_⟩
      exact q _ r [] (SX.of (same_upd nr)) (ha.same (same_upd nr)) ⟨upd_same, (fun k h => by cases h)⟩ ⟨(fun l h => by cases h), (fun l h => by cases h), .nil, (fun l h => by cases h), Nat.zero_le _⟩
    · have two : 2 ≤ n := by
        have : ¬ ((n : Nat) : Int) < 2 := fun z => e (decide_eq_true z)
        omega
      refine ⟨fun v H' => ∃ mm : Nat, v = vi mm ∧ mm ≤ m ∧ SX a H H' ∧ Src H' a, ?_, ?_⟩
      · refine ⟨_, rfl, a, 3, rfl, ha, by decide, by decide, fun r H1 hr s1 hs1 => ⟨_, _, rfl, rfl, _, rfl, ite2 (fun e => ?_) (fun e => ?_)⟩⟩
        · refine ⟨_, rfl, _, rfl, _, rfl, _, _, rfl, rfl, ⟨by decide, by decide⟩, _, _, rfl, rfl, a, 1 + m / 2, ?_, hs1, by omega, by omega, fun r2 H2 hr2 s2 hs2 => ⟨_, _, rfl, rfl, m - r2, ?_, by omega, s1.trans s2, hs2⟩⟩
          · exact congrArg (fun z : Int => [V.ref a, V.int z]) (by omega)
          · exact congrArg V.int (by omega)
        · refine ⟨_, rfl, _, rfl, _, _, rfl, rfl, a, m + 1, ?_, hs1, by omega, by omega, fun r2 H2 hr2 s2 hs2 => ⟨r2, rfl, by omega, s1.trans s2, hs2⟩⟩
          exact congrArg (fun z : Int => [V.ref a, V.int z]) (by omega)
      · rintro v H1 ⟨mm, rfl, hmm, s1, hs1⟩
        refine ⟨_, rfl, _, rfl, _, rfl, a, n, mm, rfl, hs1, two, hn, by omega, fun H2 p ks s2 hs2 hp hk kl => ?_⟩
        refine ⟨p, n, ks, rfl, hp, hk, by omega, by omega, fun H3 r ls s3 ht hl => ?_⟩
        exact q H3 r ls (fun b o nb e => s3 _ _ (s2 _ _ nb (s1 _ _ nb e))) (hs2.same s3) ht hl
end
end LL
set_option Elab.async false
set_option linter.all false
set_option maxRecDepth 100000
set_option maxHeartbeats 4000000
namespace LL
open PySem PySem.Spec PyProof.Rows L2
/-! ### sorted pairs of a length and a crowd -/
abbrev encC (c : List Nat) : PyData := .tuple [.int (c.length : Nat), encT (zs c)]
theorem alikeC (x y : List Nat) : PySem.W.alike (encC x) (encC y) = true := by
  simp only [encC, encT, PySem.W.alike, PySem.W.alikeAll, PySem.W.alike_ints, Bool.and_true]
theorem depthC (c : List Nat) : (encC c).depth ≤ 8 := by
  have : (encC c).depth ≤ 3 := by
    simp only [encC, encT, PyData.depth, PyData.depthAll]
    rw [PySem.W.depth_ints]
    omega
  omega
theorem viEq {a b : Nat} : decide (vi a = vi b) = decide (a = b) := by
  rw [vEq]
  exact decide_eq_decide.mpr ⟨fun h => by omega, fun h => by rw [h]⟩
/-- at the address that is told stands a crowd -/
abbrev CrR (c : List Nat) (y : V) (H : Hp) : Prop := ∃ t, y = .ref t ∧ Tp H t c
theorem CrR.mono {c : List Nat} {y : V} {H H' : Hp} (s : SameT H H') (h : CrR c y H) : CrR c y H' := by
  obtain ⟨t, e, h⟩ := h
  exact ⟨t, e, s _ _ h⟩
/-- a list of others -/
abbrev OR (c : List Nat) (y : V) (H : Hp) : Prop := ∃ t, y = .ref t ∧ c ≠ [] ∧ H t = some (.lst (c.map vi))
theorem OR.same {c : List Nat} {y : V} {H H' : Hp} (s : Same H H') (h : OR c y H) : OR c y H' := by
  obtain ⟨t, e, n, h⟩ := h
  exact ⟨t, e, n, s _ _ h⟩
theorem no_mix {H : Hp} {c : List Nat} (n : c ≠ []) : ∀ {l : List (List Nat)} {ys : List V}, Rel (fun x y => OR x y H) l ys → c.map vi ≠ ys
  | _, _, .nil => fun e => n (List.map_eq_nil_iff.mp e)
  | _, _, .cons h t => fun e => by
    obtain ⟨t0, rfl, _⟩ := h
    cases c with
    | nil => cases e
    | cons x r => cases (List.cons.inj e).1
theorem OR.upd {c : List Nat} {y : V} {H : Hp} {L : Addr} {l : List (List Nat)} {ys : List V} {o : HO} (eL : H L = some (.lst ys)) (rel : Rel (fun x y => OR x y H) l ys) (h : OR c y H) : OR c y (L2.upd H L o) := by
  obtain ⟨t, e, n, h⟩ := h
  refine ⟨t, e, n, ?_⟩
  rw [upd_ne (ne_of h eL fun z => no_mix n rel (by injection z))]
  exact h
/-- a dict of the others -/
def OthAt (H : Hp) (d : Addr) (O : List Nat) (ls : List (List Nat)) : Prop := ∃ kvs, H d = some (.dK kvs) ∧ ∀ p : Nat, (valV kvs (Sum.inl (p : Int) : Key) = none ∧ oth O ls p = []) ∨
  ∃ L ys, valV kvs (Sum.inl (p : Int) : Key) = some (.ref L) ∧ H L = some (.lst ys) ∧ Rel (fun x y => OR x y H) (oth O ls p) ys
theorem OthAt.same {H H' : Hp} {d : Addr} {O : List Nat} {ls : List (List Nat)} (h : OthAt H d O ls) (s : Same H H') : OthAt H' d O ls := by
  obtain ⟨kvs, e, h⟩ := h
  refine ⟨kvs, s _ _ e, fun p => (h p).imp id ?_⟩
  rintro ⟨L, ys, h1, h2, h3⟩
  exact ⟨L, ys, h1, s _ _ h2, h3.mono fun x y r => r.same s⟩
section
variable {P : Program} {w : World} {K : PySem.W.Frag} {mg : Str → Option Value} {base : Heap} {f : Addr} {fd : FuncData}
def spAllCrowds : Sp := fun vs H Q _ => ∃ n : Nat, vs = [vi n] ∧ n ≤ 10 ∧ ∀ (H' : Hp) (p : Addr) (ks : List (Addr × List Nat)), Same H H' → H' p = some (.lst (ks.map fun k : Addr × List Nat => V.ref k.1)) → (∀ k ∈ ks, Tp H' k.1 k.2) → (ks.map (·.2)).Perm (allC n) → Q (.ref p) H'
theorem allC_few {n i : Nat} (h : n ≤ 10) (hi : i ≤ n) : (allC i).length ≤ 1024 := by
  rw [allC_length]
  exact Nat.pow_le_pow_right (n := 2) (by decide) (Nat.le_trans hi h)
theorem ok_all_crowds (F : Fun K "_law_all_crowds" "_law_all_crowds" s_l_all_crowds f fd) (B : Bt mg) : FnOk P w K mg base CX0 1 f fd ["_law_people_here"] spAllCrowds := by
  refine F.ok sc_l_all_crowds (fun vs H Q E h => ?_) (fun cdv A outer s H vs Q E hr h => ?_)
  · obtain ⟨n, rfl, _⟩ := h
    rfl
  · obtain ⟨n, rfl, hn, q⟩ := h
    have hu64 := hu64_of hr
    refine ⟨_, (pss_cons (ps_set (i := 1) sc_l_all_crowds.nd rfl (by first | exact .inl rfl | exact .inr rfl) (pe_lst (pa_cons (pe_tup pa_nil) pa_nil)))
    (pss_cons (ps_for PassesOwn.never rfl (pi_range1 (by rfl) B.t_range (pa_cons (pv 0) pa_nil)) (pg_name (i := 2) sc_l_all_crowds.nd rfl (by first | exact .inl rfl | exact .inr rfl))
    (pss_one (ps_set (i := 1) sc_l_all_crowds.nd rfl (by first | exact .inl rfl | exact .inr rfl) (pe_op op_cat (pv 1) (pe_lc (own := [("_law_crowd_here", 3)]) (g := (gName 3)) (tt := tYes) rfl sc_l_all_crowds.nd (k_list K (pv 1)) (blkOk_by (own := [("_law_crowd_here", 3)]) (N := N_l_all_crowds) (sc := defScope s_l_all_crowds) (by decide +kernel)) (fun _ _ _ _ _ => (pg_name (i := 3) sc_l_all_crowds.nd rfl (by first | exact .inl rfl | exact .inr rfl))) (fun _ _ _ _ _ => pts_nil) (fun _ _ _ _ _ => (pe_cut (pe_op (k_catA K) (pv 3) (pe_tup (pa_cons (pv 2) pa_nil))))))))))
    (pss_one (ps_ret (pe_lc (own := [("_law_size", 4), ("_law_crowd_here", 3)]) (tt := tYes) rfl sc_l_all_crowds.nd (k_list K (pe_callB (k_sortG encC K hu64) (by rfl) B.t_sorted b_sorted (pa_cons (pe_lc (own := [("_law_crowd_here", 3)]) (g := (gName 3)) (tt := tYes) rfl sc_l_all_crowds.nd (k_list K (pv 1)) (blkOk_by (own := [("_law_crowd_here", 3)]) (N := N_l_all_crowds) (sc := defScope s_l_all_crowds) (by decide +kernel)) (fun _ _ _ _ _ => (pg_name (i := 3) sc_l_all_crowds.nd rfl (by first | exact .inl rfl | exact .inr rfl))) (fun _ _ _ _ _ => pts_nil) (fun _ _ _ _ _ => (pe_tup (pa_cons (pe_callB (k_len K) (by rfl) B.t_len b_len (pa_cons (pv 3) pa_nil)) (pa_cons (pv 3) pa_nil))))) pa_nil))) (blkOk_by (own := [("_law_size", 4), ("_law_crowd_here", 3)]) (N := N_l_all_crowds) (sc := defScope s_l_all_crowds) (by decide +kernel)) (fun _ _ _ _ _ => (k_tup K (n := 2) rfl (pgs_cons (pg_name (i := 4) sc_l_all_crowds.nd rfl (by first | exact .inl rfl | exact .inr rfl)) (pgs_cons (pg_name (i := 3) sc_l_all_crowds.nd rfl (by first | exact .inl rfl | exact .inr rfl)) pgs_nil)))) (fun _ _ _ _ _ => pts_nil) (fun _ _ _ _ _ => (pv 3))))))), ?_⟩
    refine ⟨Nat.zero_le _, fun a0 na0 => ⟨by show 1 ≤ sizeLine; decide, fun f0 nf0 => ?_⟩⟩
    have s0 : Same H (upd (upd H a0 (.tup [])) f0 (.lst [.ref a0])) := sNew (same_upd na0) nf0
    have r0 : CrR [] (.ref a0) (upd (upd H a0 (.tup [])) f0 (.lst [.ref a0])) := by
      have h2 : (upd H a0 (.tup [])) a0 = some (.tup []) := upd_same
      refine ⟨a0, rfl, ?_⟩
      show upd _ _ _ _ = _
      rw [upd_ne (ne_of_none h2 nf0)]
      exact h2
    have e0 : (upd (upd H a0 (.tup [])) f0 (.lst [.ref a0])) f0 = some (.lst [.ref a0]) := upd_same
    generalize upd (upd H a0 (.tup [])) f0 (.lst [.ref a0]) = H0 at s0 r0 e0 ⊢
    refine ⟨_, rfl, _, rfl, by omega, by omega, ?_⟩
    rw [show ((n : Nat) : Int).toNat = n from Int.toNat_natCast _]
    refine for_it walk_range (fun i σ H1 => ∃ fo ys o2 o3 o4, σ = [some (vi n), some (.ref fo), o2, o3, o4] ∧ Same H H1 ∧ H1 fo = some (.lst ys) ∧ Rel (fun c y => CrR c y H1) (allC i) ys)
      ⟨f0, [.ref a0], none, none, none, rfl, s0, e0, .cons r0 .nil⟩ (fun _ _ _ _ _ => trivial) ?_ ?_
    · rintro i x σ H1 H1' hi ⟨fo, ys, o2, o3, o4, rfl, sm, ef, rel⟩ ⟨rfl, ex⟩
      obtain rfl : x = vi i := ex.trans (congrArg V.int (by omega))
      have few := allC_few hn (Nat.le_of_lt hi)
      have lr := rel.length
      refine ⟨_, rfl, _, rfl, fo, rfl, ⟨ys, .inl (.inl ef)⟩, fun L nL => ?_⟩
      refine lcRel (l := allC i) (walk_list (xs := ys)) lr (fun _ => true) (fun c y H => CrR (c ++ [i]) y H) (fun c y H H' s r => r.mono s) (by omega) nL (fun H4 s4 => .inl (.inl (s4 _ _ ef))) ?_ ?_
      · rintro k c x H4 H4' kT kF hc sm4 ⟨rfl, hx⟩ h1 _
        obtain ⟨y, hy, a, rfl, ha⟩ := rel.get hc
        obtain rfl : x = .ref a := Option.some.inj (hx.symm.trans hy)
        have ha4 : Tp H4' a c := sm4 _ _ ha
        have hasc := allC_mem.mp (List.mem_of_getElem? hc)
        refine ⟨rfl, ?_⟩
        refine ⟨fun v H' => ∃ r, v = .ref r ∧ Same H4' H' ∧ Tp H' r (c ++ [i]), ?_, ?_⟩
        · refine ⟨_, rfl, _, rfl, by show 1 ≤ sizeLine; decide, fun p1 np1 => ?_⟩
          have s1 : Same H4' (upd H4' p1 (.tup [vi i])) := same_upd np1
          refine ⟨a, p1, _, _, rfl, rfl, Tp.seq (s1 _ _ ha4), .inl (.inl upd_same), ?_, fun e => ⟨p1, rfl, s1, ?_⟩, (fun _ e => by cases e), fun _ _ p2 np2 => ⟨p2, rfl, sNew s1 np2, ?_⟩⟩
          · have := asc_length hasc
            refine small' ?_
            rw [List.length_map]
            simp
            omega
          · have e2 : c = [] := List.map_eq_nil_iff.mp e
            show upd _ _ _ _ = _
            rw [upd_same, e2]
            all_goals rfl
          · show upd _ _ _ _ = _
            rw [upd_same, List.map_append]
            rfl
        · rintro v H5 ⟨r, rfl, s5, hr5⟩
          exact h1 rfl _ _ s5 ⟨r, rfl, hr5⟩
      · intro H4 ws sm4 eL relw
        rw [List.filter_eq_self.mpr fun _ _ => rfl] at relw
        have lw := relw.length
        have ef4 := sm4 _ _ ef
        refine ⟨fo, L, ys, ws, rfl, rfl, ef4, eL, small' (by omega), fun p np => ?_⟩
        have s5 : Same H4 (upd H4 p (.lst (ys ++ ws))) := same_upd np
        exact ⟨p, ys ++ ws, _, _, _, rfl, (sm.trans sm4).trans s5, upd_same, Rel.app (rel.mono fun b v r => (r.mono (SameT.of sm4)).mono (SameT.of s5)) (Rel.mapL (relw.mono fun b v r => r.mono (SameT.of s5)))⟩
    · rintro σ H1 ⟨fo, ys, o2, o3, o4, rfl, sm, ef, rel⟩
      have few := allC_few hn (Nat.le_refl n)
      have lr := rel.length
      refine ⟨_, rfl, fo, rfl, ⟨ys, .inl (.inl ef)⟩, fun D nD => ?_⟩
      refine lcRel (l := allC n) (walk_list (xs := ys)) lr (fun _ => true) (fun c y H => ∃ T, y = .ref T ∧ ∃ t, H T = some (.tup [vi c.length, .ref t]) ∧ Tp H t c) ?_ (by omega) nD (fun H4 s4 => .inl (.inl (s4 _ _ ef))) ?_ ?_
      · rintro c y H4 H5 s ⟨T, e, t, h1, h2⟩
        exact ⟨T, e, t, s _ _ h1, s _ _ h2⟩
      · rintro k c x H4 H4' kT kF hc sm4 ⟨rfl, hx⟩ h1 _
        obtain ⟨y, hy, a, rfl, ha⟩ := rel.get hc
        obtain rfl : x = .ref a := Option.some.inj (hx.symm.trans hy)
        have ha4 : Tp H4' a c := sm4 _ _ ha
        refine ⟨rfl, ?_⟩
        refine ⟨_, rfl, a, _, rfl, .inr ha4.seq, _, rfl, by show 2 ≤ sizeLine; decide, fun T nT => ?_⟩
        rw [List.length_map]
        exact h1 rfl _ _ (same_upd nT) ⟨T, rfl, a, upd_same, same_upd nT _ _ ha4⟩
      · intro H4 ws sm4 eD relw
        rw [List.filter_eq_self.mpr fun _ _ => rfl] at relw
        obtain ⟨ks, e1, rfl, e3⟩ := Rel.refs relw
        refine ⟨D, ks, rfl, .inl (.inl eD), ?_, PySem.W.AllAlike.of fun b b' => alikeC b.2 b'.2, .inl fun d hd => ?_, fun k _ => depthC k.2, fun ls p pm asc np => ?_⟩
        · intro k hk
          obtain ⟨t, h1, h2⟩ := e3 k hk
          exact .tup (.inl (.inl h1)) (.cons (.int _) (.cons (dpV h2) .nil))
        · obtain ⟨k, _, rfl⟩ := List.mem_map.mp hd
          exact ⟨_, _, rfl⟩
        · have s5 : Same H4 (upd H4 p (.lst (ls.map fun k => V.ref k.1))) := same_upd np
          have ep : (upd H4 p (.lst (ls.map fun k => V.ref k.1))) p = some (.lst (ls.map fun k => V.ref k.1)) := upd_same
          have ll : ls.length ≤ 1024 := by
            rw [pm.length_eq]
            have := congrArg List.length e1
            rw [List.length_map] at this
            omega
          refine ⟨p, rfl, ⟨_, .inl (.inl ep)⟩, fun D2 nD2 => ?_⟩
          refine lcRel (l := ls) (walk_list (xs := ls.map fun k => V.ref k.1)) (by simp) (fun _ => true) (fun k y H => CrR k.2 y H) (fun k y H H' s r => r.mono s) (by simp; omega) nD2 (fun H6 s6 => .inl (.inl (s6 _ _ ep))) ?_ ?_
          · rintro j k x H6 H7 kT kF hk sm6 ⟨rfl, hx⟩ h1 _
            obtain rfl := yv hk hx
            obtain ⟨t, h2, h3⟩ := e3 k (pm.mem_iff.mp (List.mem_of_getElem? hk))
            exact ⟨k.1, _, rfl, .inl (.inl (sm6 _ _ (s5 _ _ h2))), rfl, _, _, rfl, _, _, rfl, rfl, rfl, _, rfl, h1 rfl _ _ (Same.refl _) ⟨t, rfl, sm6 _ _ (s5 _ _ h3)⟩⟩
          · intro H6 vs6 sm6 eD2 rel6
            rw [List.filter_eq_self.mpr fun _ _ => rfl] at rel6
            have rel7 : Rel (fun c y => CrR c y H6) (ls.map (·.2)) vs6 := Rel.mapL rel6
            obtain ⟨ks2, g1, rfl, g3⟩ := Rel.refs rel7
            refine q H6 D2 ks2 (((sm.trans sm4).trans s5).trans sm6) eD2 g3 ?_
            rw [g1, ← e1]
            exact pm.map _
def spOthers : Sp := fun vs H Q _ => ∃ (t : Addr) (ks : List (Addr × List Nat)) (n : Nat) (o : Addr) (O : List Nat), vs = [.ref t, .ref o] ∧ TT H t ks ∧ Lots n (ks.map (·.2)) ∧ Tp H o O ∧ Ord n O ∧ n ≤ 12 ∧ ∀ H' d, Same H H' → OthAt H' d O (ks.map (·.2)) → Q (.ref d) H'
theorem ok_others (F : Fun K "_law_others" "_law_others" s_l_others f fd) (B : Bt mg) (C_l_last : Cal P w K mg base "_law_last" 1 ["_law_order", "_law_lot"] spLast) : FnOk P w K mg base CX0 2 f fd ["_law_lots_here", "_law_order"] spOthers := by
  refine F.ok sc_l_others (fun vs H Q E h => ?_) (fun cdv A outer s H vs Q E hr h => ?_)
  · obtain ⟨t, ks, n, o, O, rfl, _⟩ := h
    rfl
  · obtain ⟨t, ks, n, o, O, rfl, ht, hL, hO, ho, hn, q⟩ := h
    have lk : ks.length ≤ 60 := by simpa using hL.few
    have lO := ho.len
    refine ⟨_, (pss_cons (ps_set (i := 2) sc_l_others.nd rfl (by first | exact .inl rfl | exact .inr rfl) pe_dnewK)
    (pss_cons (ps_for PassesOwn.never rfl (k_tuple K (pv 0)) (pg_name (i := 3) sc_l_others.nd rfl (by first | exact .inl rfl | exact .inr rfl))
    (pss_cons (ps_set (i := 4) sc_l_others.nd rfl (by first | exact .inl rfl | exact .inr rfl) (pe_cal C_l_last hr (by decide) (by rfl) (pa_cons (pv 1) (pa_cons (pv 3) pa_nil))))
    (pss_one (ps_expr (pe_bm PySem.F.plainAttrs_list PySem.F.slot_list_append PySem.F.type_list_append mt_append (pe_cut (pe_dsetd (pv 2) (pv 4) (pe_lst pa_nil) ⟨rfl, rfl, rfl, rfl⟩)) (pa_cons (pe_lc (own := [("_law_person", 5)]) (g := (gName 5)) rfl sc_l_others.nd (k_tuple K (pv 3)) (blkOk_by (own := [("_law_person", 5)]) (N := N_l_others) (sc := defScope s_l_others) (by decide +kernel)) (fun _ _ _ _ _ => (pg_name (i := 5) sc_l_others.nd rfl (by first | exact .inl rfl | exact .inr rfl))) (fun _ _ _ _ _ => (pts_one (pt_cmpR op_ne (pv 5) (pv 4) (nomark _)))) (fun _ _ _ _ _ => (pv 5))) pa_nil))))))
    (pss_one (ps_ret (pv 2))))), ?_⟩
    intro D nD
    have sD : Same H (upd H D (.dK [])) := same_upd nD
    refine ⟨_, rfl, t, rfl, ⟨_, (ht.same sD).seq⟩, ?_⟩
    refine for_it (walk_tup (xs := ks.map fun p => V.ref p.1)) (fun i σ H1 => ∃ (o3 o4 o5 : Option V) (kvs : List (Key × V)), σ = [some (.ref t), some (.ref o), some (.ref D), o3, o4, o5] ∧ Same H H1 ∧ H1 D = some (.dK kvs) ∧ kvs.length ≤ i ∧
        (∀ p : Nat, (valV kvs (Sum.inl (p : Int) : Key) = none ∧ oth O ((ks.map (·.2)).take i) p = []) ∨ ∃ L ys, valV kvs (Sum.inl (p : Int) : Key) = some (.ref L) ∧ H L = none ∧ H1 L = some (.lst ys) ∧ Rel (fun x y => OR x y H1) (oth O ((ks.map (·.2)).take i) p) ys) ∧
        (∀ z L, valV kvs z = some (.ref L) → H1 L ≠ none) ∧ ∀ y z L, valV kvs y = some (.ref L) → valV kvs z = some (.ref L) → y = z)
      ⟨none, none, none, [], rfl, sD, upd_same, Nat.le_refl _, (fun p => .inl ⟨rfl, rfl⟩), (fun z L h => by cases h), (fun y z L h => by cases h)⟩ (fun i σ H1 _ ⟨_, _, _, _, _, q, _⟩ => (ht.same q).seq) ?_ ?_
    · rintro i x σ H1 H1' hi ⟨o3, o4, o5, kvs, rfl, sm, eD, el, ek, e0, inj⟩ ⟨rfl, hx⟩
      have hi' : i < ks.length := by simpa using hi
      obtain ⟨k, hk⟩ : ∃ k, ks[i]? = some k := ⟨_, List.getElem?_eq_getElem hi'⟩
      obtain rfl := yv hk hx
      have hk2 : (ks.map (·.2))[i]? = some k.2 := by
        rw [List.getElem?_map, hk]
        rfl
      have mk := List.mem_of_getElem? hk
      have mk2 : k.2 ∈ ks.map (·.2) := List.mem_of_getElem? hk2
      have hasc := hL.asc _ mk2
      have two := hL.two _ mk2
      have inter : ∃ x ∈ O, x ∈ k.2 := by
        obtain ⟨z, hz⟩ : ∃ z, z ∈ k.2 := by
          cases hc : k.2 with
          | nil =>
            rw [hc] at two
            simp at two
          | cons z r => exact ⟨z, List.mem_cons_self⟩
        exact ⟨z, (ho.mem z).mpr (hasc.2 z hz), hz⟩
      obtain ⟨lin, linO, _⟩ := lst_mem inter
      have ll := asc_length hasc
      refine ⟨_, rfl, _, rfl, o, k.1, O, k.2, rfl, sm _ _ hO, (ht.same sm).2 k mk, by omega, inter, fun H2 s2 => ?_⟩
      -- setdefault
      refine ⟨fun v H3 => ∃ L ys kvs', v = .ref L ∧ Same H H3 ∧ H3 D = some (.dK kvs') ∧ kvs'.length ≤ i + 1 ∧ valV kvs' (Sum.inl ((lst O k.2 : Nat) : Int) : Key) = some (.ref L) ∧ H L = none ∧ H3 L = some (.lst ys) ∧ Rel (fun x y => OR x y H3) (oth O ((ks.map (·.2)).take i) (lst O k.2)) ys ∧
        (∀ p : Nat, p ≠ lst O k.2 → (valV kvs' (Sum.inl (p : Int) : Key) = none ∧ oth O ((ks.map (·.2)).take i) p = []) ∨ ∃ L ys, valV kvs' (Sum.inl (p : Int) : Key) = some (.ref L) ∧ H L = none ∧ H3 L = some (.lst ys) ∧ Rel (fun x y => OR x y H3) (oth O ((ks.map (·.2)).take i) p) ys) ∧
        (∀ z L, valV kvs' z = some (.ref L) → H3 L ≠ none) ∧ ∀ y z L, valV kvs' y = some (.ref L) → valV kvs' z = some (.ref L) → y = z, ?_, ?_⟩
      · have sm2 := sm.trans s2
        have eD2 := s2 _ _ eD
        refine ⟨_, rfl, D, rfl, .inl ⟨kvs, .inl eD2⟩, _, rfl, Nat.zero_le _, fun Z nZ => ?_⟩
        have sZ : Same H2 (upd H2 Z (.lst [])) := same_upd nZ
        have keep : ∀ (H3 : Hp), Same H2 H3 → ∀ p : Nat, ((valV kvs (Sum.inl (p : Int) : Key) = none ∧ oth O ((ks.map (·.2)).take i) p = []) ∨ ∃ L ys, valV kvs (Sum.inl (p : Int) : Key) = some (.ref L) ∧ H L = none ∧ H3 L = some (.lst ys) ∧ Rel (fun x y => OR x y H3) (oth O ((ks.map (·.2)).take i) p) ys) := fun H3 s3 p => (ek p).imp id (by
          rintro ⟨L, ys, h1, h2, h3, h4⟩
          exact ⟨L, ys, h1, h2, s3 _ _ (s2 _ _ h3), h4.mono fun x y r => (r.same s2).same s3⟩)
        have e02 : ∀ z L, valV kvs z = some (.ref L) → ∃ o, H2 L = some o := fun z L h => by
          cases e : H1' L with
          | none => exact absurd e (e0 z L h)
          | some o => exact ⟨o, s2 _ _ e⟩
        refine ⟨kvs, Sum.inl _, sZ _ _ eD2, rfl, small (by omega), fun v hv => ?_, fun hv => ?_⟩
        · rcases keep _ sZ (lst O k.2) with ⟨h, _⟩ | ⟨L, ys, h1, h2, h3, h4⟩
          · rw [hv] at h
            cases h
          · rw [hv] at h1
            cases h1
            refine ⟨L, ys, kvs, rfl, sm2.trans sZ, sZ _ _ eD2, by omega, hv, h2, h3, h4, fun p _ => keep _ sZ p, fun z L h => ?_, inj⟩
            obtain ⟨o, ho⟩ := e02 z L h
            rw [sZ _ _ ho]
            exact fun z => nomatch z
        · have DZ : Z ≠ D := fun e => by
            rw [e, eD2] at nZ
            cases nZ
          have kp : ∀ c u, H2 c = some u → c ≠ D → (upd (upd H2 Z (.lst [])) D (.dK (putK kvs (Sum.inl ((lst O k.2 : Nat) : Int) : Key) (.ref Z)))) c = some u := fun c u e n => by
            rw [upd_ne n]
            exact sZ _ _ e
          have nl : ∀ z, valV kvs z ≠ some (.ref Z) := fun z e => by
            obtain ⟨o, ho⟩ := e02 z Z e
            rw [nZ] at ho
            cases ho
          have eZ : (upd (upd H2 Z (.lst [])) D (.dK (putK kvs (Sum.inl ((lst O k.2 : Nat) : Int) : Key) (.ref Z)))) Z = some (.lst []) := by
            rw [upd_ne DZ]
            exact upd_same
          have none0 : oth O ((ks.map (·.2)).take i) (lst O k.2) = [] := by
            rcases ek (lst O k.2) with ⟨_, h⟩ | ⟨L, ys, h1, _⟩
            · exact h
            · rw [hv] at h1
              cases h1
          refine ⟨Z, [], _, rfl, sPut (sm2.trans sZ) nD, upd_same, ?_, ?_, sm2.free nZ, eZ, ?_, fun p hp => ?_, fun z L h => ?_, fun y z L h1 h2 => ?_⟩
          · have := length_putK kvs (Sum.inl ((lst O k.2 : Nat) : Int) : Key) (.ref Z)
            omega
          · rw [valV_put, if_pos rfl]
          · rw [none0]
            exact .nil
          · rw [valV_put, if_neg fun z => ?_]
            · refine (ek p).imp id ?_
              rintro ⟨L, ys, h1, h2, h3, h4⟩
              refine ⟨L, ys, h1, h2, kp _ _ (s2 _ _ h3) (ne_of (s2 _ _ h3) eD2 (by intro z; cases z)), h4.mono ?_⟩
              rintro x y ⟨T, e, n, h⟩
              exact ⟨T, e, n, kp _ _ (s2 _ _ h) (ne_of (s2 _ _ h) eD2 (by intro z; cases z))⟩
            · have z2 : (p : Int) = (lst O k.2 : Nat) := Sum.inl.inj z
              exact hp (by omega)
          · rw [valV_put] at h
            by_cases e : z = (Sum.inl ((lst O k.2 : Nat) : Int) : Key)
            · rw [if_pos e] at h
              cases h
              rw [eZ]
              exact fun z => nomatch z
            · rw [if_neg e] at h
              obtain ⟨o, ho⟩ := e02 z L h
              by_cases eLD : L = D
              · rw [eLD, upd_same]
                exact fun z => nomatch z
              · rw [kp _ _ ho eLD]
                exact fun z => nomatch z
          · rw [valV_put] at h1 h2
            by_cases e1 : y = (Sum.inl ((lst O k.2 : Nat) : Int) : Key)
            · rw [if_pos e1] at h1
              cases h1
              by_cases e2 : z = (Sum.inl ((lst O k.2 : Nat) : Int) : Key)
              · rw [e1, e2]
              · rw [if_neg e2] at h2
                exact absurd h2 (nl z)
            · rw [if_neg e1] at h1
              by_cases e2 : z = (Sum.inl ((lst O k.2 : Nat) : Int) : Key)
              · rw [if_pos e2] at h2
                cases h2
                exact absurd h1 (nl y)
              · rw [if_neg e2] at h2
                exact inj y z L h1 h2
      · rintro v H3 ⟨L, ys, kvs', rfl, s3, eD3, el3, v1, v2, v3, v4, ek3, e03, inj3⟩
        have ht3 := (ht.same s3).2 k mk
        refine ⟨.inl ⟨rfl, _, .inl (.inl v3)⟩, ?_⟩
        refine ⟨_, rfl, k.1, rfl, ⟨_, ht3.seq⟩, fun T nT => ?_⟩
        refine lcFn (l := k.2) (walk_tup (xs := k.2.map vi)) (by simp) (fun x => !decide (x = lst O k.2)) vi (by simp; omega) nT (fun H4 s4 => Tp.seq (s4 _ _ ht3)) ?_ ?_
        · rintro j x y H4 H5 kT kF hx s4 ⟨rfl, hy⟩ h1 h2
          obtain rfl := yv hx hy
          refine ⟨rfl, _, rfl, _, rfl, rfl, _, rfl, ?_⟩
          rw [viEq]
          exact ite2 (fun e => ⟨_, rfl, h1 e _ (Same.refl _)⟩) (fun e => h2 (by simpa using e) _ (Same.refl _))
        · intro H4 s4 eT
          have v34 := s4 _ _ v3
          have rel4 := v4.mono fun x y r => r.same s4
          have nonil : (k.2.filter fun x => !decide (x = lst O k.2)) ≠ [] := fun z => by
            have all := List.filter_eq_nil_iff.mp z
            have nd := asc_nodup hasc
            have l1 : k.2.length ≤ [lst O k.2].length := sub_len nd fun x hx => by
              have := all x hx
              simpa using this
            simp at l1
            omega
          have ly : ys.length ≤ 60 := by
            rw [← v4.length]
            refine Nat.le_trans (oth_len _ _ _) ?_
            simp
            omega
          refine ⟨L, ys, _, rfl, rfl, v34, small (by omega), ?_⟩
          have kp : ∀ c u, H4 c = some u → u ≠ .lst ys → (upd H4 L (.lst (ys ++ [.ref T]))) c = some u := fun c u e n => by
            rw [upd_ne (ne_of e v34 n)]
            exact e
          have orT : OR (k.2.filter fun x => !decide (x = lst O k.2)) (.ref T) H4 := ⟨T, rfl, nonil, eT⟩
          refine ⟨_, _, _, kvs', rfl, fun c u e => ?_, kp _ _ (s4 _ _ eD3) (by intro z; cases z), el3, fun p => ?_, fun z L' h => ?_, inj3⟩
          · rw [upd_ne (ne_of_none e v2)]
            exact s4 _ _ (s3 _ _ e)
          · by_cases e : lst O k.2 = p
            · subst e
              refine .inr ⟨L, ys ++ [.ref T], v1, v2, upd_same, ?_⟩
              rw [oth_next hk2, if_pos rfl]
              exact Rel.app (rel4.mono fun x y r => OR.upd v34 rel4 r) (.cons (OR.upd v34 rel4 orT) .nil)
            · rw [oth_next hk2, if_neg e, List.append_nil]
              refine (ek3 p fun z => e z.symm).imp id ?_
              rintro ⟨L', ys', w1, w2, w3, w4⟩
              have LL' : L' ≠ L := fun z => by
                rw [z] at w1
                have z2 : ((lst O k.2 : Nat) : Int) = (p : Nat) := Sum.inl.inj (inj3 _ _ _ v1 w1)
                exact e (by omega)
              refine ⟨L', ys', w1, w2, ?_, ?_⟩
              · rw [upd_ne LL']
                exact s4 _ _ w3
              · exact w4.mono fun x y r => OR.upd v34 rel4 (r.same s4)
          · by_cases e : L' = L
            · rw [e, upd_same]
              exact fun z => nomatch z
            · rw [upd_ne e]
              cases e5 : H3 L' with
              | none => exact absurd e5 (e03 z L' h)
              | some o =>
                rw [s4 _ _ e5]
                exact fun z => nomatch z
    · rintro σ H1 ⟨o3, o4, o5, kvs, rfl, sm, eD, el, ek, e0, inj⟩
      have e2 : (ks.map (·.2)).take (ks.map fun p => V.ref p.1).length = ks.map (·.2) := List.take_of_length_le (by simp)
      rw [e2] at ek
      refine ⟨_, rfl, q H1 D sm ⟨kvs, eD, fun p => (ek p).imp id ?_⟩⟩
      rintro ⟨L, ys, h1, _, h3, h4⟩
      exact ⟨L, ys, h1, h3, h4⟩
def spLetL : Sp := fun vs H Q _ => ∃ (d o c : Addr) (n : Nat) (O : List Nat) (ls : List (List Nat)) (cr : List Nat), vs = [.ref d, .ref o, .ref c] ∧ OthAt H d O ls ∧ Tp H o O ∧ Tp H c cr ∧ Lots n ls ∧ Ord n O ∧ n ≤ 12 ∧ ∀ H' p, Same H H' → Tp H' p (LET n O (oth O ls) cr) → Q (.ref p) H'
theorem ok_let (F : Fun K "_law_let" "_law_let" s_l_let f fd) (B : Bt mg) (C_l_withinL : Cal P w K mg base "_law_within" 1 ["_law_part", "_law_whole"] (spAllInL K)) : FnOk P w K mg base CX0 2 f fd ["_law_others_here", "_law_order", "_law_crowd_here"] spLetL := by
  refine F.ok sc_l_let (fun vs H Q E h => ?_) (fun cdv A outer s H vs Q E hr h => ?_)
  · obtain ⟨d, o, c, n, O, ls, cr, rfl, _⟩ := h
    rfl
  · obtain ⟨d, o, c, n, O, ls, cr, rfl, hd, hO, hc, hL, ho, hn, q⟩ := h
    have hu := hu_of hr
    have lO := ho.len
    have few := hL.few
    refine ⟨_, (pss_cons (ps_set (i := 3) sc_l_let.nd rfl (by first | exact .inl rfl | exact .inr rfl) (pe_lst pa_nil))
    (pss_cons (ps_for PassesOwn.never rfl (k_tuple K (pv 1)) (pg_name (i := 4) sc_l_let.nd rfl (by first | exact .inl rfl | exact .inr rfl))
    (pss_one (ps_if (PW.pt (pw_and (pt_cmpR (k_in K) (pv 4) (pv 2) (by with_unfolding_all rfl)) (pw_and1 (pt_not (pt_val (pe_callB (k_any K rfl) (by rfl) B.t_any b_any (pa_cons (pe_lc (own := [("_law_lot", 5)]) (g := (gName 5)) (tt := tYes) rfl sc_l_let.nd (k_list K (pe_cut (pe_dget2 hu (pv 0) (pv 4) (pe_lst pa_nil) ⟨rfl, rfl, rfl, rfl⟩))) (blkOk_by (own := [("_law_lot", 5)]) (N := N_l_let) (sc := defScope s_l_let) (by decide +kernel)) (fun _ _ _ _ _ => (pg_name (i := 5) sc_l_let.nd rfl (by first | exact .inl rfl | exact .inr rfl))) (fun _ _ _ _ _ => pts_nil) (fun _ _ _ _ _ => (pe_cal C_l_withinL hr (by decide) (by rfl) (pa_cons (pv 5) (pa_cons (pv 3) pa_nil))))) pa_nil)))))))
    (pss_one (ps_expr (pe_bm PySem.F.plainAttrs_list PySem.F.slot_list_append PySem.F.type_list_append mt_append (pv 3) (pa_cons (pv 4) pa_nil))))
    pss_nil)))
    (pss_one (ps_ret (pe_callTy (k_tupOf K) (by rfl) B.t_tuple b_tuple (pa_cons (pe_callB (k_sortI K) (by rfl) B.t_sorted b_sorted (pa_cons (pv 3) pa_nil)) pa_nil)))))), ?_⟩
    refine ⟨Nat.zero_le _, fun D nD => ?_⟩
    have sD : Same H (upd H D (.lst [])) := same_upd nD
    refine ⟨_, rfl, o, rfl, ⟨_, Tp.seq (sD _ _ hO)⟩, ?_⟩
    refine for_it (walk_tup (xs := O.map vi)) (fun i σ H1 => ∃ o4 o5 : Option V, σ = [some (.ref d), some (.ref o), some (.ref c), some (.ref D), o4, o5] ∧ Same H H1 ∧ H1 D = some (.lst ((letL (oth O ls) (fun p => decide (p ∈ cr)) (O.take i) []).map vi)))
      ⟨none, none, rfl, sD, upd_same⟩ (fun i σ H1 _ ⟨_, _, _, q, _⟩ => Tp.seq (q _ _ hO)) ?_ ?_
    · rintro i x σ H1 H1' hi ⟨o4, o5, rfl, sm, ed⟩ ⟨rfl, hx⟩
      have hi' : i < O.length := by simpa using hi
      obtain ⟨p, hp⟩ : ∃ p, O[i]? = some p := ⟨_, List.getElem?_eq_getElem hi'⟩
      obtain rfl := yv hp hx
      have nxt := letL_snoc (oth O ls) (fun p => decide (p ∈ cr)) p (O.take i) []
      rw [← take_next hp] at nxt
      have lin : (letL (oth O ls) (fun p => decide (p ∈ cr)) (O.take i) []).length ≤ 1000 := by
        have nd := letL_nodup (oth O ls) (fun p => decide (p ∈ cr)) (O.take i) [] (by simpa using List.Nodup.sublist (List.take_sublist _ _) ho.nd)
        have := sub_len nd (m := O) fun x hx => by
          rcases letL_mem _ _ _ _ _ hx with z | z
          · cases z
          · exact List.mem_of_mem_take z.1
        omega
      refine ⟨_, rfl, _, rfl, c, cr.map vi, rfl, .inr (Tp.seq (sm _ _ hc)), rfl, flat_vi cr, _, rfl, ?_⟩
      rw [if_neg Bool.false_ne_true, inV_vi]
      refine ite2 (fun e => ?_) (fun e => iteF ⟨some (vi p), o5, ?_, sm, ?_⟩)
      · refine ⟨fun v H3 => ∃ L ys, v = .ref L ∧ Same H1' H3 ∧ H3 L = some (.lst ys) ∧ Rel (fun x y => OR x y H3) (oth O ls p) ys, ?_, ?_⟩
        · obtain ⟨kvs, ekd, ek⟩ := hd
          refine ⟨_, rfl, d, rfl, .inl ⟨kvs, .inl (sm _ _ ekd)⟩, _, rfl, Nat.zero_le _, fun Z nZ => ?_⟩
          have sZ : Same H1' (upd H1' Z (.lst [])) := same_upd nZ
          have g := DGet.k (k := (Sum.inl (p : Int) : Key)) (sZ _ _ (sm _ _ ekd))
          rcases ek p with ⟨h1, h2⟩ | ⟨L, ys, h1, h2, h3⟩
          · rw [h1] at g
            refine ⟨_, g, Z, [], rfl, sZ, upd_same, ?_⟩
            rw [h2]
            exact .nil
          · rw [h1] at g
            exact ⟨_, g, L, ys, rfl, sZ, sZ _ _ (sm _ _ h2), h3.mono fun x y r => (r.same sm).same sZ⟩
        · rintro v H3 ⟨L, ys, rfl, s3, eL, rel⟩
          refine ⟨L, rfl, ⟨_, .inl (.inl eL)⟩, fun D2 nD2 => ?_⟩
          have lo := oth_len O ls p
          have ed3 := s3 _ _ ed
          refine lcFn (l := oth O ls p) (walk_list (xs := ys)) rel.length (fun _ => true) (fun x => .bl (within x (letL (oth O ls) (fun p => decide (p ∈ cr)) (O.take i) []))) (by rw [← rel.length]; omega) nD2 (fun H4 s4 => .inl (.inl (s4 _ _ eL))) ?_ ?_
          · rintro j x y H4 H5 kT kF hx2 s4 ⟨rfl, hy⟩ h1 _
            obtain ⟨z, hz, T, rfl, _, hT⟩ := rel.get hx2
            obtain rfl : y = .ref T := Option.some.inj (hy.symm.trans hz)
            have lx := asc_length (oth_asc hL (List.mem_of_getElem? hx2))
            exact ⟨rfl, _, rfl, _, rfl, T, D, x, _, rfl, .inl (.inl (s4 _ _ hT)), .inl (.inl (.inl (s4 _ _ ed3))), by omega, fun H6 s6 => h1 rfl _ s6⟩
          · intro H4 s4 eD2
            rw [List.filter_eq_self.mpr fun _ _ => rfl] at eD2
            have ed4 := s4 _ _ ed3
            have sm4 := (sm.trans s3).trans s4
            refine ⟨D2, (oth O ls p).map fun x => within x (letL (oth O ls) (fun p => decide (p ∈ cr)) (O.take i) []), rfl, .inl (.inl ?_), _, rfl, ?_⟩
            · rw [eD2, List.map_map]
              rfl
            · have ea : ((oth O ls p).map fun x => within x (letL (oth O ls) (fun p => decide (p ∈ cr)) (O.take i) [])).any id = barred (oth O ls p) (letL (oth O ls) (fun p => decide (p ∈ cr)) (O.take i) []) := by
                rw [List.any_map]
                rfl
              rw [ea]
              cases eb : barred (oth O ls p) (letL (oth O ls) (fun p => decide (p ∈ cr)) (O.take i) []) with
              | true =>
                refine iteF ⟨some (vi p), o5, ?_, sm4, ?_⟩
                · rfl
                · rw [nxt, e, eb]
                  exact ed4
              | false =>
                refine iteT ⟨_, rfl, .inl ⟨rfl, _, .inl (.inl ed4)⟩, _, rfl, D, _, _, rfl, rfl, ed4, small (by rw [List.length_map]; omega), ?_⟩
                refine ⟨some (vi p), o5, rfl, sPut sm4 nD, ?_⟩
                rw [upd_same, nxt, e, eb, if_pos (by rfl), List.map_append]
                rfl
      · rfl
      · rw [nxt, if_neg (by simp [e])]
        exact ed
    · rintro σ H1 ⟨o4, o5, rfl, sm, ed⟩
      have e2 : O.take (O.map vi).length = O := List.take_of_length_le (by simp)
      rw [e2] at ed
      have nd := letL_nodup (oth O ls) (fun p => decide (p ∈ cr)) O [] (by simpa using ho.nd)
      refine ⟨_, rfl, D, zs (letL (oth O ls) (fun p => decide (p ∈ cr)) O []), rfl, .inl (.inl ?_), fun ms p2 pm asc np2 => ?_⟩
      · rw [ed, vi_ints]
      · have em := ints_sorted (n := n) pm asc nd fun x hx => by
          rcases letL_mem _ _ _ _ _ hx with z | z
          · cases z
          · exact (ho.mem x).mp z.1
        refine ⟨p2, _, rfl, .inl ⟨.inl (.inl upd_same), fun l nl => ?_⟩⟩
        refine q _ l (sNew (sNew sm np2) nl) ?_
        show upd _ _ _ _ = _
        rw [upd_same, em, vi_ints]
        rfl
end
end LL
set_option Elab.async false
set_option linter.all false
set_option maxRecDepth 100000
set_option maxHeartbeats 4000000
namespace LL
open PySem PySem.Spec PyProof.Rows L2
theorem cr_or {X : Cx} {f : Value} {r1 r2 : List V → Hp → VK → Prop} (h1 : CallR X f r1) (h2 : CallR X f r2) : CallR X f (fun xs H Q => r1 xs H Q ∨ r2 xs H Q) := fun pins s σ H xs us Q I r h =>
  h.elim (fun z => h1 pins s σ H xs us Q I r z) (fun z => h2 pins s σ H xs us Q I r z)
theorem k_len2 {X : Cx} (K : PySem.W.Frag) (h : X.K = K := by rfl) : CallR X (.builtin "len") (fun xs H Q => (∃ p ys, xs = [.ref p] ∧ (SqL K H p ys ∨ SqT K H p ys) ∧ Q (.int ys.length) H) ∨ rLenT xs H Q) := cr_or (k_len K h) call_len_dT
theorem two_any {K : PySem.W.Frag} : PySem.W.kitAny K (.type "tuple") [.type "list", .type "tuple"] = some true :=
  kitAny_cons (kit_ty (r := false) (by decide +kernel)) (fun _ => kitAny_cons (kit_ty (r := true) (by decide +kernel)) (fun h => by cases h) (fun _ => rfl)) (fun h => by cases h)
theorem two_no {K : PySem.W.Frag} : PySem.W.kitAny K (.type "int") [.type "list", .type "tuple"] = some false :=
  kitAny_cons (kit_ty (r := false) (by decide +kernel)) (fun _ => kitAny_cons (kit_ty (r := false) (by decide +kernel)) (fun _ => rfl) (fun h => by cases h)) (fun h => by cases h)
section
variable {P : Program} {w : World} {K : PySem.W.Frag} {mg : Str → Option Value} {base : Heap} {f : Addr} {fd : FuncData}
/-- never called -/
def spNo : Sp := fun _ _ _ _ => False
theorem ok_same0 (F : Fun K "_law_same" "_law_same" s_l_same f fd) : FnOk P w K mg base CX0 1 f fd ["_law_told", "_law_due"] spNo :=
  F.ok sc_l_same (fun vs H Q E h => False.elim h) (fun cdv A outer s H vs Q E hr h => False.elim h)
def spSameI : Sp := fun vs H Q _ => ∃ i : Int, vs = [.int i, .int i] ∧ ∀ H', Same H H' → Q (.bl true) H'
theorem ok_sameI (F : Fun K "_law_same" "_law_same" s_l_same f fd) (B : Bt mg) (C_l_same : Cal P w K mg base "_law_same" 1 ["_law_told", "_law_due"] spNo) (C_l_is_integer : Cal P w K mg base "_law_is_integer" 1 ["_law_thing"] spIsInt) : FnOk P w K mg base CX0 2 f fd ["_law_told", "_law_due"] spSameI := by
  refine F.ok sc_l_same (fun vs H Q E h => ?_) (fun cdv A outer s H vs Q E hr h => ?_)
  · obtain ⟨i, rfl, _⟩ := h
    rfl
  · obtain ⟨i, rfl, q⟩ := h
    have hu := hu_of hr
    refine ⟨_, (pss_cons (ps_if (pt_val (pe_callB (k_isi K) (by rfl) B.t_isinstance b_isinstance (pa_cons (pv 1) (pa_cons (pe_bltn (v := .ty "dict") (by rfl) B.t_dict b_dict rfl) pa_nil))))
    (pss_cons (ps_if (PW.pt (pw_or (pt_not (pt_val (pe_callB (k_isi K) (by rfl) B.t_isinstance b_isinstance (pa_cons (pv 0) (pa_cons (pe_bltn (v := .ty "dict") (by rfl) B.t_dict b_dict rfl) pa_nil))))) (pw_or1 (pt_cmpR op_ne (pe_callB (k_len2 K) (by rfl) B.t_len b_len (pa_cons (pv 0) pa_nil)) (pe_callB (k_len2 K) (by rfl) B.t_len b_len (pa_cons (pv 1) pa_nil)) (nomark _)))))
    (pss_one (ps_ret pe_bl))
    pss_nil)
    (pss_one (ps_ret (pe_callB (k_all K rfl) (by rfl) B.t_all b_all (pa_cons (pe_lock (pe_lc (own := [("_law_key", 2)]) (g := (gName 2)) (tt := tYes) rfl sc_l_same.nd (pi_keys (pv 1)) (blkOk_by (own := [("_law_key", 2)]) (N := N_l_same) (sc := defScope s_l_same) (by decide +kernel)) (fun _ _ _ _ _ => (pg_name (i := 2) sc_l_same.nd rfl (by first | exact .inl rfl | exact .inr rfl))) (fun _ _ _ _ _ => pts_nil) (fun _ _ _ _ _ => (pe_and (pe_cmp (pc_din hu (pv 2) (pv 0)) rfl) (pe_one (pe_cal C_l_same hr (by decide) (by rfl) (pa_cons (pe_dget hu (pv 0) (pv 2) (fun _ _ => rfl)) (pa_cons (pe_dget hu (pv 1) (pv 2) (fun _ _ => rfl)) pa_nil)))))))) pa_nil)))))
    pss_nil)
    (pss_cons (ps_if (pt_val (pe_callB (k_isiT K) (by rfl) B.t_isinstance b_isinstance (pa_cons (pv 1) (pa_cons (pe_tup (pa_cons (pe_bltn (v := .ty "list") (by rfl) B.t_list b_list rfl) (pa_cons (pe_bltn (v := .ty "tuple") (by rfl) B.t_tuple b_tuple rfl) pa_nil))) pa_nil))))
    (pss_cons (ps_if (PW.pt (pw_or (pt_cmpR op_ne (pe_callB (k_isi K) (by rfl) B.t_isinstance b_isinstance (pa_cons (pv 0) (pa_cons (pe_bltn (v := .ty "list") (by rfl) B.t_list b_list rfl) pa_nil))) (pe_callB (k_isi K) (by rfl) B.t_isinstance b_isinstance (pa_cons (pv 1) (pa_cons (pe_bltn (v := .ty "list") (by rfl) B.t_list b_list rfl) pa_nil))) (nomark _)) (pw_or (pt_not (pt_val (pe_callB (k_isiT K) (by rfl) B.t_isinstance b_isinstance (pa_cons (pv 0) (pa_cons (pe_tup (pa_cons (pe_bltn (v := .ty "list") (by rfl) B.t_list b_list rfl) (pa_cons (pe_bltn (v := .ty "tuple") (by rfl) B.t_tuple b_tuple rfl) pa_nil))) pa_nil))))) (pw_or1 (pt_cmpR op_ne (pe_callB (k_len2 K) (by rfl) B.t_len b_len (pa_cons (pv 0) pa_nil)) (pe_callB (k_len2 K) (by rfl) B.t_len b_len (pa_cons (pv 1) pa_nil)) (nomark _))))))
    (pss_one (ps_ret pe_bl))
    pss_nil)
    (pss_one (ps_ret (pe_callB (k_all K rfl) (by rfl) B.t_all b_all (pa_cons (pe_lc (own := [("_law_one", 3), ("_law_other", 4)]) (tt := tYes) rfl sc_l_same.nd (RZ.pi_zipA (by rfl) B.t_zip (pa_cons (pv 0) (pa_cons (pv 1) pa_nil))) (blkOk_by (own := [("_law_one", 3), ("_law_other", 4)]) (N := N_l_same) (sc := defScope s_l_same) (by decide +kernel)) (fun _ _ _ _ _ => (k_tup K (n := 2) rfl (pgs_cons (pg_name (i := 3) sc_l_same.nd rfl (by first | exact .inl rfl | exact .inr rfl)) (pgs_cons (pg_name (i := 4) sc_l_same.nd rfl (by first | exact .inl rfl | exact .inr rfl)) pgs_nil)))) (fun _ _ _ _ _ => pts_nil) (fun _ _ _ _ _ => (pe_cal C_l_same hr (by decide) (by rfl) (pa_cons (pv 3) (pa_cons (pv 4) pa_nil))))) pa_nil)))))
    pss_nil)
    (pss_cons (ps_if (pt_cmp (pc_isN (pv 1)))
    (pss_one (ps_ret (pe_cmp (pc_isN (pv 0)) rfl)))
    pss_nil)
    (pss_cons (ps_if (pt_val (pe_callB (k_isi K) (by rfl) B.t_isinstance b_isinstance (pa_cons (pv 1) (pa_cons (pe_bltn (v := .ty "bool") (by rfl) B.t_bool b_bool rfl) pa_nil))))
    (pss_one (ps_ret (pe_and (pe_callB (k_isi K) (by rfl) B.t_isinstance b_isinstance (pa_cons (pv 0) (pa_cons (pe_bltn (v := .ty "bool") (by rfl) B.t_bool b_bool rfl) pa_nil))) (pe_one (pe_cmpR op_eq (pv 0) (pv 1) (nomark _))))))
    pss_nil)
    (pss_cons (ps_if (pt_val (pe_callB (k_isi K) (by rfl) B.t_isinstance b_isinstance (pa_cons (pv 1) (pa_cons (pe_bltn (v := .ty "str") (by rfl) B.t_str b_str rfl) pa_nil))))
    (pss_one (ps_ret (pe_and (pe_callB (k_isi K) (by rfl) B.t_isinstance b_isinstance (pa_cons (pv 0) (pa_cons (pe_bltn (v := .ty "str") (by rfl) B.t_str b_str rfl) pa_nil))) (pe_one (pe_cmpR op_eq (pv 0) (pv 1) (nomark _))))))
    pss_nil)
    (pss_one (ps_ret (pe_and (pe_cal C_l_is_integer hr (by decide) (by rfl) (pa_cons (pv 0) pa_nil)) (pe_one (pe_cmpR op_eq (pv 0) (pv 1) (nomark _))))))))))), ?_⟩
    refine ⟨_, rfl, _, _, _, _, false, rfl, .ty _, .base (.int i), kit_ty (by decide +kernel), false, rfl, iteF ?_⟩
    refine ⟨_, rfl, by show 2 ≤ sizeLine; decide, fun T nT => ⟨_, _, _, _, _, false, rfl, upd_same, .cons (.ty _) (.cons (.ty _) .nil), .base (.int i), two_no, false, rfl, iteF ?_⟩⟩
    refine ⟨_, rfl, false, by simp, iteF ?_⟩
    refine ⟨_, rfl, _, _, _, _, false, rfl, .ty _, .base (.int i), kit_ty (by decide +kernel), false, rfl, iteF ?_⟩
    refine ⟨_, rfl, _, _, _, _, false, rfl, .ty _, .base (.int i), kit_ty (by decide +kernel), false, rfl, iteF ?_⟩
    refine ⟨_, rfl, i, rfl, true, rfl, iteT ⟨_, rfl, _, rfl, rfl, ?_⟩⟩
    exact qT (Q := Q) (decide_eq_true rfl) (q _ (same_upd nT))
def spSameT : Sp := fun vs H Q _ => ∃ (a b : Addr) (c : List Nat), vs = [.ref a, .ref b] ∧ Tp H a c ∧ Tp H b c ∧ c.length ≤ 1000 ∧ ∀ H', Same H H' → Q (.bl true) H'
theorem ok_sameT (F : Fun K "_law_same" "_law_same" s_l_same f fd) (B : Bt mg) (C_l_same : Cal P w K mg base "_law_same" 2 ["_law_told", "_law_due"] spSameI) (C_l_is_integer : Cal P w K mg base "_law_is_integer" 1 ["_law_thing"] spIsInt) : FnOk P w K mg base CX0 3 f fd ["_law_told", "_law_due"] spSameT := by
  refine F.ok sc_l_same (fun vs H Q E h => ?_) (fun cdv A outer s H vs Q E hr h => ?_)
  · obtain ⟨a, b, c, rfl, _⟩ := h
    rfl
  · obtain ⟨a, b, c, rfl, ha, hb, few, q⟩ := h
    have hu := hu_of hr
    refine ⟨_, (pss_cons (ps_if (pt_val (pe_callB (k_isi K) (by rfl) B.t_isinstance b_isinstance (pa_cons (pv 1) (pa_cons (pe_bltn (v := .ty "dict") (by rfl) B.t_dict b_dict rfl) pa_nil))))
    (pss_cons (ps_if (PW.pt (pw_or (pt_not (pt_val (pe_callB (k_isi K) (by rfl) B.t_isinstance b_isinstance (pa_cons (pv 0) (pa_cons (pe_bltn (v := .ty "dict") (by rfl) B.t_dict b_dict rfl) pa_nil))))) (pw_or1 (pt_cmpR op_ne (pe_callB (k_len2 K) (by rfl) B.t_len b_len (pa_cons (pv 0) pa_nil)) (pe_callB (k_len2 K) (by rfl) B.t_len b_len (pa_cons (pv 1) pa_nil)) (nomark _)))))
    (pss_one (ps_ret pe_bl))
    pss_nil)
    (pss_one (ps_ret (pe_callB (k_all K rfl) (by rfl) B.t_all b_all (pa_cons (pe_lock (pe_lc (own := [("_law_key", 2)]) (g := (gName 2)) (tt := tYes) rfl sc_l_same.nd (pi_keys (pv 1)) (blkOk_by (own := [("_law_key", 2)]) (N := N_l_same) (sc := defScope s_l_same) (by decide +kernel)) (fun _ _ _ _ _ => (pg_name (i := 2) sc_l_same.nd rfl (by first | exact .inl rfl | exact .inr rfl))) (fun _ _ _ _ _ => pts_nil) (fun _ _ _ _ _ => (pe_and (pe_cmp (pc_din hu (pv 2) (pv 0)) rfl) (pe_one (pe_cal C_l_same hr (by decide) (by rfl) (pa_cons (pe_dget hu (pv 0) (pv 2) (fun _ _ => rfl)) (pa_cons (pe_dget hu (pv 1) (pv 2) (fun _ _ => rfl)) pa_nil)))))))) pa_nil)))))
    pss_nil)
    (pss_cons (ps_if (pt_val (pe_callB (k_isiT K) (by rfl) B.t_isinstance b_isinstance (pa_cons (pv 1) (pa_cons (pe_tup (pa_cons (pe_bltn (v := .ty "list") (by rfl) B.t_list b_list rfl) (pa_cons (pe_bltn (v := .ty "tuple") (by rfl) B.t_tuple b_tuple rfl) pa_nil))) pa_nil))))
    (pss_cons (ps_if (PW.pt (pw_or (pt_cmpR op_ne (pe_callB (k_isi K) (by rfl) B.t_isinstance b_isinstance (pa_cons (pv 0) (pa_cons (pe_bltn (v := .ty "list") (by rfl) B.t_list b_list rfl) pa_nil))) (pe_callB (k_isi K) (by rfl) B.t_isinstance b_isinstance (pa_cons (pv 1) (pa_cons (pe_bltn (v := .ty "list") (by rfl) B.t_list b_list rfl) pa_nil))) (nomark _)) (pw_or (pt_not (pt_val (pe_callB (k_isiT K) (by rfl) B.t_isinstance b_isinstance (pa_cons (pv 0) (pa_cons (pe_tup (pa_cons (pe_bltn (v := .ty "list") (by rfl) B.t_list b_list rfl) (pa_cons (pe_bltn (v := .ty "tuple") (by rfl) B.t_tuple b_tuple rfl) pa_nil))) pa_nil))))) (pw_or1 (pt_cmpR op_ne (pe_callB (k_len2 K) (by rfl) B.t_len b_len (pa_cons (pv 0) pa_nil)) (pe_callB (k_len2 K) (by rfl) B.t_len b_len (pa_cons (pv 1) pa_nil)) (nomark _))))))
    (pss_one (ps_ret pe_bl))
    pss_nil)
    (pss_one (ps_ret (pe_callB (k_all K rfl) (by rfl) B.t_all b_all (pa_cons (pe_lc (own := [("_law_one", 3), ("_law_other", 4)]) (tt := tYes) rfl sc_l_same.nd (RZ.pi_zipA (by rfl) B.t_zip (pa_cons (pv 0) (pa_cons (pv 1) pa_nil))) (blkOk_by (own := [("_law_one", 3), ("_law_other", 4)]) (N := N_l_same) (sc := defScope s_l_same) (by decide +kernel)) (fun _ _ _ _ _ => (k_tup K (n := 2) rfl (pgs_cons (pg_name (i := 3) sc_l_same.nd rfl (by first | exact .inl rfl | exact .inr rfl)) (pgs_cons (pg_name (i := 4) sc_l_same.nd rfl (by first | exact .inl rfl | exact .inr rfl)) pgs_nil)))) (fun _ _ _ _ _ => pts_nil) (fun _ _ _ _ _ => (pe_cal C_l_same hr (by decide) (by rfl) (pa_cons (pv 3) (pa_cons (pv 4) pa_nil))))) pa_nil)))))
    pss_nil)
    (pss_cons (ps_if (pt_cmp (pc_isN (pv 1)))
    (pss_one (ps_ret (pe_cmp (pc_isN (pv 0)) rfl)))
    pss_nil)
    (pss_cons (ps_if (pt_val (pe_callB (k_isi K) (by rfl) B.t_isinstance b_isinstance (pa_cons (pv 1) (pa_cons (pe_bltn (v := .ty "bool") (by rfl) B.t_bool b_bool rfl) pa_nil))))
    (pss_one (ps_ret (pe_and (pe_callB (k_isi K) (by rfl) B.t_isinstance b_isinstance (pa_cons (pv 0) (pa_cons (pe_bltn (v := .ty "bool") (by rfl) B.t_bool b_bool rfl) pa_nil))) (pe_one (pe_cmpR op_eq (pv 0) (pv 1) (nomark _))))))
    pss_nil)
    (pss_cons (ps_if (pt_val (pe_callB (k_isi K) (by rfl) B.t_isinstance b_isinstance (pa_cons (pv 1) (pa_cons (pe_bltn (v := .ty "str") (by rfl) B.t_str b_str rfl) pa_nil))))
    (pss_one (ps_ret (pe_and (pe_callB (k_isi K) (by rfl) B.t_isinstance b_isinstance (pa_cons (pv 0) (pa_cons (pe_bltn (v := .ty "str") (by rfl) B.t_str b_str rfl) pa_nil))) (pe_one (pe_cmpR op_eq (pv 0) (pv 1) (nomark _))))))
    pss_nil)
    (pss_one (ps_ret (pe_and (pe_cal C_l_is_integer hr (by decide) (by rfl) (pa_cons (pv 0) pa_nil)) (pe_one (pe_cmpR op_eq (pv 0) (pv 1) (nomark _))))))))))), ?_⟩
    refine ⟨_, rfl, _, _, _, _, false, rfl, .ty _, .base (.tup hb), kit_ty (by decide +kernel), false, rfl, iteF ?_⟩
    refine ⟨_, rfl, by show 2 ≤ sizeLine; decide, fun T nT => ?_⟩
    have s1 : Same H (upd H T (.tup [.ty "list", .ty "tuple"])) := same_upd nT
    refine ⟨_, _, _, _, _, true, rfl, upd_same, .cons (.ty _) (.cons (.ty _) .nil), .base (.tup (s1 _ _ hb)), two_any, true, rfl, iteT ?_⟩
    have ha1 : Tp (upd H T (.tup [.ty "list", .ty "tuple"])) a c := s1 _ _ ha
    have hb1 : Tp (upd H T (.tup [.ty "list", .ty "tuple"])) b c := s1 _ _ hb
    refine ⟨_, rfl, _, _, _, _, false, rfl, .ty _, .base (.tup ha1), kit_ty (by decide +kernel), _, rfl, _, _, _, _, false, rfl, .ty _, .base (.tup hb1), kit_ty (by decide +kernel), rfl, false, by simp, iteF ?_⟩
    refine ⟨_, rfl, by show 2 ≤ sizeLine; decide, fun T2 nT2 => ?_⟩
    have s2 := sNew s1 nT2 (o := .tup [.ty "list", .ty "tuple"])
    refine ⟨_, _, _, _, _, true, rfl, upd_same, .cons (.ty _) (.cons (.ty _) .nil), .base (.tup (s2 _ _ ha)), two_any, true, rfl, iteF ?_⟩
    have ha2 := s2 _ _ ha
    have hb2 := s2 _ _ hb
    generalize upd (upd H T (.tup [.ty "list", .ty "tuple"])) T2 (.tup [.ty "list", .ty "tuple"]) = H2 at s2 ha2 hb2 ⊢
    refine ⟨_, rfl, .inl ⟨a, _, rfl, .inr (Tp.seq ha2), _, rfl, .inl ⟨b, _, rfl, .inr (Tp.seq hb2), rfl, false, by simp, iteF ?_⟩⟩⟩
    refine ⟨_, rfl, _, rfl, a, b, _, _, rfl, .inr ⟨Tp.seq ha2, Tp.seq hb2, fun D nD => ?_⟩⟩
    refine lcFn (l := c) (walkZipT (xs := c.map vi) (ys := c.map vi) rfl) (by simp) (fun _ => true) (fun _ => .bl true) (by simp; omega) nD (fun H3 s3 => ⟨Tp.seq (s3 _ _ ha2), Tp.seq (s3 _ _ hb2)⟩) ?_ ?_
    · rintro i x y H3 H4 kT kF hx s3 ⟨T0, x1, x2, rfl, nT0, rfl, e1, e2⟩ h1 _
      obtain rfl := yv hx e1
      obtain rfl := yv hx e2
      refine ⟨T0, _, rfl, .inl (.inl upd_same), rfl, _, _, rfl, _, _, rfl, rfl, rfl, ?_⟩
      exact ⟨_, rfl, _, rfl, (x : Int), rfl, fun H5 s5 => h1 rfl _ ((same_upd nT0).trans s5)⟩
    · intro H3 s3 eD
      rw [List.filter_eq_self.mpr fun _ _ => rfl] at eD
      refine ⟨D, List.replicate c.length true, rfl, .inl (.inl ?_), ?_⟩
      · rw [eD]
        simp [List.map_const']
      · refine qT (Q := Q) ?_ (q _ (s2.trans s3))
        simp
theorem dict_len {H H' : Hp} {a b : Addr} {n : Nat} {g g' : List Nat → List Nat} {kvs kvs' : List (List Key × V)} (h1 : DictOk H a n g kvs) (h2 : DictOk H' b n g' kvs') : kvs.length = kvs'.length := by
  have mem : ∀ {H : Hp} {a : Addr} {g : List Nat → List Nat} {kvs : List (List Key × V)}, DictOk H a n g kvs → ∀ x, x ∈ kvs.map (·.1) ↔ ∃ c, Asc n c ∧ x = kc c := fun h x => ⟨h.keys x, by
    rintro ⟨c, ac, rfl⟩
    obtain ⟨r, hr, _⟩ := h.val c ac
    exact valV_in hr⟩
  have := len_same h1.nd h2.nd fun x => (mem h1 x).trans (mem h2 x).symm
  simpa using this
def spSameD : Sp := fun vs H Q _ => ∃ (a b : Addr) (n : Nat) (g : List Nat → List Nat) (kvs kvs' : List (List Key × V)), vs = [.ref a, .ref b] ∧ a ≠ b ∧ DictOk H a n g kvs ∧ DictOk H b n g kvs' ∧ (∀ c, Asc n c → (g c).length ≤ 1000) ∧ kvs'.length ≤ 20000 ∧ ∀ H', Same H H' → Q (.bl true) H'
theorem ok_sameD (F : Fun K "_law_same" "_law_same" s_l_same f fd) (B : Bt mg) (C_l_same : Cal P w K mg base "_law_same" 3 ["_law_told", "_law_due"] spSameT) (C_l_is_integer : Cal P w K mg base "_law_is_integer" 1 ["_law_thing"] spIsInt) : FnOk P w K mg base CX0 4 f fd ["_law_told", "_law_due"] spSameD := by
  refine F.ok sc_l_same (fun vs H Q E h => ?_) (fun cdv A outer s H vs Q E hr h => ?_)
  · obtain ⟨a, b, n, g, kvs, kvs', rfl, _⟩ := h
    rfl
  · obtain ⟨a, b, n, g, kvs, kvs', rfl, nab, ha, hb, hg, few, q⟩ := h
    have hu := hu_of hr
    have el := dict_len ha hb
    refine ⟨_, (pss_cons (ps_if (pt_val (pe_callB (k_isi K) (by rfl) B.t_isinstance b_isinstance (pa_cons (pv 1) (pa_cons (pe_bltn (v := .ty "dict") (by rfl) B.t_dict b_dict rfl) pa_nil))))
    (pss_cons (ps_if (PW.pt (pw_or (pt_not (pt_val (pe_callB (k_isi K) (by rfl) B.t_isinstance b_isinstance (pa_cons (pv 0) (pa_cons (pe_bltn (v := .ty "dict") (by rfl) B.t_dict b_dict rfl) pa_nil))))) (pw_or1 (pt_cmpR op_ne (pe_callB (k_len2 K) (by rfl) B.t_len b_len (pa_cons (pv 0) pa_nil)) (pe_callB (k_len2 K) (by rfl) B.t_len b_len (pa_cons (pv 1) pa_nil)) (nomark _)))))
    (pss_one (ps_ret pe_bl))
    pss_nil)
    (pss_one (ps_ret (pe_callB (k_all K rfl) (by rfl) B.t_all b_all (pa_cons (pe_lock (pe_lc (own := [("_law_key", 2)]) (g := (gName 2)) (tt := tYes) rfl sc_l_same.nd (pi_keys (pv 1)) (blkOk_by (own := [("_law_key", 2)]) (N := N_l_same) (sc := defScope s_l_same) (by decide +kernel)) (fun _ _ _ _ _ => (pg_name (i := 2) sc_l_same.nd rfl (by first | exact .inl rfl | exact .inr rfl))) (fun _ _ _ _ _ => pts_nil) (fun _ _ _ _ _ => (pe_and (pe_cmp (pc_din hu (pv 2) (pv 0)) rfl) (pe_one (pe_cal C_l_same hr (by decide) (by rfl) (pa_cons (pe_dget hu (pv 0) (pv 2) (fun _ _ => rfl)) (pa_cons (pe_dget hu (pv 1) (pv 2) (fun _ _ => rfl)) pa_nil)))))))) pa_nil)))))
    pss_nil)
    (pss_cons (ps_if (pt_val (pe_callB (k_isiT K) (by rfl) B.t_isinstance b_isinstance (pa_cons (pv 1) (pa_cons (pe_tup (pa_cons (pe_bltn (v := .ty "list") (by rfl) B.t_list b_list rfl) (pa_cons (pe_bltn (v := .ty "tuple") (by rfl) B.t_tuple b_tuple rfl) pa_nil))) pa_nil))))
    (pss_cons (ps_if (PW.pt (pw_or (pt_cmpR op_ne (pe_callB (k_isi K) (by rfl) B.t_isinstance b_isinstance (pa_cons (pv 0) (pa_cons (pe_bltn (v := .ty "list") (by rfl) B.t_list b_list rfl) pa_nil))) (pe_callB (k_isi K) (by rfl) B.t_isinstance b_isinstance (pa_cons (pv 1) (pa_cons (pe_bltn (v := .ty "list") (by rfl) B.t_list b_list rfl) pa_nil))) (nomark _)) (pw_or (pt_not (pt_val (pe_callB (k_isiT K) (by rfl) B.t_isinstance b_isinstance (pa_cons (pv 0) (pa_cons (pe_tup (pa_cons (pe_bltn (v := .ty "list") (by rfl) B.t_list b_list rfl) (pa_cons (pe_bltn (v := .ty "tuple") (by rfl) B.t_tuple b_tuple rfl) pa_nil))) pa_nil))))) (pw_or1 (pt_cmpR op_ne (pe_callB (k_len2 K) (by rfl) B.t_len b_len (pa_cons (pv 0) pa_nil)) (pe_callB (k_len2 K) (by rfl) B.t_len b_len (pa_cons (pv 1) pa_nil)) (nomark _))))))
    (pss_one (ps_ret pe_bl))
    pss_nil)
    (pss_one (ps_ret (pe_callB (k_all K rfl) (by rfl) B.t_all b_all (pa_cons (pe_lc (own := [("_law_one", 3), ("_law_other", 4)]) (tt := tYes) rfl sc_l_same.nd (RZ.pi_zipA (by rfl) B.t_zip (pa_cons (pv 0) (pa_cons (pv 1) pa_nil))) (blkOk_by (own := [("_law_one", 3), ("_law_other", 4)]) (N := N_l_same) (sc := defScope s_l_same) (by decide +kernel)) (fun _ _ _ _ _ => (k_tup K (n := 2) rfl (pgs_cons (pg_name (i := 3) sc_l_same.nd rfl (by first | exact .inl rfl | exact .inr rfl)) (pgs_cons (pg_name (i := 4) sc_l_same.nd rfl (by first | exact .inl rfl | exact .inr rfl)) pgs_nil)))) (fun _ _ _ _ _ => pts_nil) (fun _ _ _ _ _ => (pe_cal C_l_same hr (by decide) (by rfl) (pa_cons (pv 3) (pa_cons (pv 4) pa_nil))))) pa_nil)))))
    pss_nil)
    (pss_cons (ps_if (pt_cmp (pc_isN (pv 1)))
    (pss_one (ps_ret (pe_cmp (pc_isN (pv 0)) rfl)))
    pss_nil)
    (pss_cons (ps_if (pt_val (pe_callB (k_isi K) (by rfl) B.t_isinstance b_isinstance (pa_cons (pv 1) (pa_cons (pe_bltn (v := .ty "bool") (by rfl) B.t_bool b_bool rfl) pa_nil))))
    (pss_one (ps_ret (pe_and (pe_callB (k_isi K) (by rfl) B.t_isinstance b_isinstance (pa_cons (pv 0) (pa_cons (pe_bltn (v := .ty "bool") (by rfl) B.t_bool b_bool rfl) pa_nil))) (pe_one (pe_cmpR op_eq (pv 0) (pv 1) (nomark _))))))
    pss_nil)
    (pss_cons (ps_if (pt_val (pe_callB (k_isi K) (by rfl) B.t_isinstance b_isinstance (pa_cons (pv 1) (pa_cons (pe_bltn (v := .ty "str") (by rfl) B.t_str b_str rfl) pa_nil))))
    (pss_one (ps_ret (pe_and (pe_callB (k_isi K) (by rfl) B.t_isinstance b_isinstance (pa_cons (pv 0) (pa_cons (pe_bltn (v := .ty "str") (by rfl) B.t_str b_str rfl) pa_nil))) (pe_one (pe_cmpR op_eq (pv 0) (pv 1) (nomark _))))))
    pss_nil)
    (pss_one (ps_ret (pe_and (pe_cal C_l_is_integer hr (by decide) (by rfl) (pa_cons (pv 0) pa_nil)) (pe_one (pe_cmpR op_eq (pv 0) (pv 1) (nomark _))))))))))), ?_⟩
    refine ⟨_, rfl, _, _, _, _, true, rfl, .ty _, .base (.dT hb.at_), kit_ty (by decide +kernel), true, rfl, iteT ?_⟩
    refine ⟨_, rfl, _, _, _, _, true, rfl, .ty _, .base (.dT ha.at_), kit_ty (by decide +kernel), true, rfl, iteF ?_⟩
    refine ⟨_, rfl, .inr ⟨a, kvs, rfl, ha.at_, _, rfl, .inr ⟨b, kvs', rfl, hb.at_, rfl, false, by simp [el], iteF ?_⟩⟩⟩
    refine ⟨b, _, hb.at_, trivial, fun od => ?_⟩
    have kp : ∀ c u, c ≠ b → H c = some u → (upd H b (.frz od (.dT kvs'))) c = some u := fun c u n e => by
      rw [upd_ne n]
      exact e
    have eb : (upd H b (.frz od (.dT kvs'))) b = some (.frz od (.dT kvs')) := upd_same
    have ea : (upd H b (.frz od (.dT kvs'))) a = some (.dT kvs) := kp _ _ nab ha.at_
    have tp : ∀ r c, Tp H r c → Tp (upd H b (.frz od (.dT kvs'))) r c := fun r c h => kp _ _ (ne_of h hb.at_ (by intro z; cases z)) h
    have back : ∀ H', Same (upd H b (.frz od (.dT kvs'))) H' → Same H (upd H' b (.dT kvs')) := fun H' s c u e => by
      by_cases n : c = b
      · rw [n, upd_same, ← hb.at_, ← n, e]
      · rw [upd_ne n]
        exact s _ _ (kp _ _ n e)
    generalize upd H b (.frz od (.dT kvs')) = H1 at kp eb ea tp back ⊢
    refine ⟨_, rfl, b, od, rfl, .inr ⟨kvs', eb, fun D nD => ?_⟩⟩
    have Db : D ≠ b := (ne_of_none eb nD).symm
    refine lcFn (l := kvs') walk_keysT rfl (fun _ => true) (fun _ => .bl true) (by omega) nD (fun H3 s3 => s3 _ _ eb) ?_ ?_
    · rintro i kv y H3 H4 kT kF hkv s3 ⟨rfl, k, v, r, hk, rfl, hr⟩ h1 _
      rw [hkv] at hk
      obtain rfl := Option.some.inj hk
      obtain ⟨c, ac, rfl⟩ := hb.keys k (List.mem_map.mpr ⟨(k, v), List.mem_of_getElem? hkv, rfl⟩)
      obtain ⟨r1, v1, t1⟩ := ha.val c ac
      obtain ⟨r2, v2, t2⟩ := hb.val c ac
      have g1 : DGet H4 a (.ref r) (some (.ref r1)) := by
        rw [← v1]
        exact DGet.t (s3 _ _ ea) hr
      have g2 : DGet H4 b (.ref r) (some (.ref r2)) := by
        rw [← v2]
        exact .inr ⟨kvs', _, r, .inr ⟨od, s3 _ _ eb⟩, rfl, hr, rfl⟩
      refine ⟨rfl, _, rfl, _, rfl, a, _, rfl, g1, true, rfl, iteT ?_⟩
      refine ⟨_, rfl, _, rfl, a, _, rfl, g1, _, rfl, _, rfl, b, _, rfl, g2, r1, r2, g c, rfl, s3 _ _ (tp _ _ t1), s3 _ _ (tp _ _ t2), hg c ac, fun H5 s5 => h1 rfl _ s5⟩
    · intro H3 s3 eD
      rw [List.filter_eq_self.mpr fun _ _ => rfl] at eD
      refine ⟨s3 _ _ eb, D, List.replicate kvs'.length true, rfl, .inl (.inl ?_), ?_⟩
      · rw [upd_ne Db, eD]
        simp [List.map_const']
      · refine qT (Q := Q) ?_ (q _ (back _ s3))
        simp
end
end LL
set_option Elab.async false
set_option linter.all false
set_option maxRecDepth 100000
set_option maxHeartbeats 8000000
namespace LL
open PySem PySem.Spec PyProof.Rows L2
theorem OffFr.src {Hz : Hp} {CB CO : Addr} {H H' : Hp} {a off : Addr} {n : Nat} {ks : List (Addr × List Nat)} {O : List Nat} (h : OffFr Hz CB CO H off n ks O) (hs : Src H a) (hz : Hz a ≠ none) (s : SX a H H') : OffFr Hz CB CO H' off n ks O := h.keep fun b u e c => by
  obtain ⟨v0, v1, v2, v3, v4, ea⟩ := hs
  refine s _ _ (fun z => ?_) e
  subst z
  rw [ea] at e
  cases e
  rcases c with ⟨_, c⟩ | ⟨_, _, _, c⟩ | ⟨_, c⟩ | ⟨_, _, c⟩
  · cases c
  · cases c
  · cases c
  · exact hz c
theorem OffFr.dT {Hz : Hp} {CB CO : Addr} {H H' : Hp} {x off : Addr} {kvs : List (List Key × V)} {n : Nat} {ks : List (Addr × List Nat)} {O : List Nat} (h : OffFr Hz CB CO H off n ks O) (hx : H x = some (.dT kvs)) (s : SX x H H') : OffFr Hz CB CO H' off n ks O := h.keep fun b u e c => by
  refine s _ _ (fun z => ?_) e
  subst z
  rw [hx] at e
  cases e
  rcases c with ⟨_, c⟩ | ⟨_, _, _, c⟩ | ⟨_, c⟩ | ⟨_, c, _⟩ <;> cases c
theorem DictOk.keep {H H' : Hp} {d : Addr} {n : Nat} {g : List Nat → List Nat} {kvs : List (List Key × V)} (h : DictOk H d n g kvs) (k : H d = some (.dT kvs) → H' d = some (.dT kvs)) (t : SameT H H') : DictOk H' d n g kvs :=
  ⟨k h.at_, h.keys, h.nd, fun c ac => by
    obtain ⟨r, h1, h2⟩ := h.val c ac
    exact ⟨r, h1, t _ _ h2⟩⟩
theorem DictOk.same {H H' : Hp} {d : Addr} {n : Nat} {g : List Nat → List Nat} {kvs : List (List Key × V)} (h : DictOk H d n g kvs) (s : Same H H') : DictOk H' d n g kvs := h.keep (s _ _) (SameT.of s)
theorem Src.sameT {H H' : Hp} {a : Addr} (h : Src H a) (s : SX a H H') : SameT H H' := fun b xs e => by
  obtain ⟨v0, v1, v2, v3, v4, ea⟩ := h
  exact s _ _ (ne_of e ea (by intro z; cases z)) e
theorem DictOk.src {H H' : Hp} {a d : Addr} {n : Nat} {g : List Nat → List Nat} {kvs : List (List Key × V)} (h : DictOk H d n g kvs) (hs : Src H a) (s : SX a H H') : DictOk H' d n g kvs := h.keep (fun e => by
  obtain ⟨v0, v1, v2, v3, v4, ea⟩ := hs
  exact s _ _ (ne_of e ea (by intro z; cases z)) e) (hs.sameT s)
theorem DictOk.other {H H' : Hp} {x d : Addr} {n : Nat} {g : List Nat → List Nat} {kvs kvx : List (List Key × V)} (h : DictOk H d n g kvs) (hx : H x = some (.dT kvx)) (ne : d ≠ x) (s : SX x H H') : DictOk H' d n g kvs := h.keep (fun e => s _ _ ne e) (fun b xs e => s _ _ (ne_of e hx (by intro z; cases z)) e)
theorem LET_sub {n : Nat} {O : List Nat} {oth : Nat → List (List Nat)} {c : List Nat} {x : Nat} (h : x ∈ LET n O oth c) : x ∈ c := by
  unfold LET at h
  rcases letL_mem _ _ _ _ _ (of_decide_eq_true (crd_mem.mp h).2) with z | z
  · cases z
  · exact of_decide_eq_true z.2
theorem asc_sub {n : Nat} {c d : List Nat} (h : Asc n c) (s : d.Sublist c) : Asc n d := ⟨List.Pairwise.sublist s h.1, fun x hx => h.2 x (s.subset hx)⟩
theorem dict_few {H : Hp} {d : Addr} {n : Nat} {g : List Nat → List Nat} {kvs : List (List Key × V)} (h : DictOk H d n g kvs) (hn : n ≤ 10) : kvs.length ≤ 1024 := by
  have h1 : (kvs.map (·.1)).length ≤ ((allC n).map kc).length := sub_len h.nd fun x hx => by
    obtain ⟨c, ac, rfl⟩ := h.keys x hx
    exact List.mem_map.mpr ⟨c, allC_mem.mpr ac, rfl⟩
  rw [List.length_map, List.length_map] at h1
  exact Nat.le_trans h1 (allC_few hn (Nat.le_refl n))
theorem rgV_vi (n : Nat) : rgV 0 (n : Int) = (List.range n).map vi := by
  unfold rgV
  rw [show ((n : Int) - 0).toNat = n by omega]
  refine List.map_congr_left fun i _ => ?_
  rw [Int.zero_add]
section
variable {P : Program} {w : World} {K : PySem.W.Frag} {mg : Str → Option Value} {base : Heap} {f : Addr} {fd : FuncData}
def spLaw (K : PySem.W.Frag) : Sp := fun vs H Q _ => ∃ (a : Addr) (ns : List Int), vs = [.ref a] ∧ SqL K H a (ns.map V.int) ∧ ns.length ≤ 63 ∧ ∀ H', Q (.bl true) H'
theorem ok_law {cB cO : Addr} (F : Fun K "law" "law" s_law f fd) (B : Bt mg) (MBook : CalC P w K mg base "Book" cB 7 ["self", "people", "lots"] (spBook cB)) (MOffice : CalC P w K mg base "Office" cO 6 ["self", "book", "order"] (spOffice cB cO))
    (C_l_source : Cal P w K mg base "_law_source" 1 ["_law_script", "_law_k"] (spSource K)) (C_l_people : Cal P w K mg base "_law_people" 2 ["_law_source_here", "_law_most"] spPeople) (C_l_draw : Cal P w K mg base "_law_draw" 1 ["_law_source_here", "_law_many"] spDraw)
    (C_l_lots : Cal P w K mg base "_law_lots" 5 ["_law_source_here", "_law_people_here", "_law_most"] spLots) (C_l_perm : Cal P w K mg base "_law_perm" 2 ["_law_source_here", "_law_many"] spPerm) (C_l_others : Cal P w K mg base "_law_others" 2 ["_law_lots_here", "_law_order"] spOthers)
    (C_l_all_crowds : Cal P w K mg base "_law_all_crowds" 1 ["_law_people_here"] spAllCrowds) (C_l_let : Cal P w K mg base "_law_let" 2 ["_law_others_here", "_law_order", "_law_crowd_here"] spLetL) (C_outcomes : Cal P w K mg base "outcomes" 4 ["office"] (spOutcomes cB cO))
    (C_l_same : Cal P w K mg base "_law_same" 4 ["_law_told", "_law_due"] spSameD) (C_l_crowd : Cal P w K mg base "_law_crowd" 2 ["_law_source_here", "_law_people_here"] spCrowdR) (C_let_in : Cal P w K mg base "let_in" 6 ["office", "crowd"] (spLetIn cB cO)) :
    FnOk P w K mg base CX0 20 f fd ["_law_script"] (spLaw K) := by
  refine F.ok sc_law (fun vs H Q E h => ?_) (fun cdv A outer s H0 vs Q E hr h => ?_)
  · obtain ⟨a, ns, rfl, _⟩ := h
    rfl
  · obtain ⟨sa, ns, rfl, hsa, few, q⟩ := h
    have hu := hu_of hr
    have hu64 := hu64_of hr
    refine ⟨_, (pss_cons (ps_for PassesOwn.never rfl (pi_range1 (by rfl) B.t_range (pa_cons pe_int pa_nil)) (pg_name (i := 1) sc_law.nd rfl (by first | exact .inl rfl | exact .inr rfl))
    (pss_cons (ps_set (i := 2) sc_law.nd rfl (by first | exact .inl rfl | exact .inr rfl) (pe_cal C_l_source hr (by decide) (by rfl) (pa_cons (pv 0) (pa_cons (pv 1) pa_nil))))
    (pss_cons (ps_set (i := 3) sc_law.nd rfl (by first | exact .inl rfl | exact .inr rfl) (pe_cal C_l_people hr (by decide) (by rfl) (pa_cons (pv 2) (pa_cons pe_int pa_nil))))
    (pss_mid (ps_if (PW.pt (pw_and (pt_cmpR op_eq (pv 1) pe_int (nomark _)) (pw_and1 (pt_cmpR op_eq (pe_cal C_l_draw hr (by decide) (by rfl) (pa_cons (pv 2) (pa_cons pe_int pa_nil))) pe_int (nomark _)))))
    (pss_one (ps_set (i := 3) sc_law.nd rfl (by first | exact .inl rfl | exact .inr rfl) (pe_ifExp (pt_cmpR op_gt (pe_cal C_l_draw hr (by decide) (by rfl) (pa_cons (pv 2) (pa_cons pe_int pa_nil))) pe_int (nomark _)) pe_int (pe_op op_add pe_int (pe_cal C_l_draw hr (by decide) (by rfl) (pa_cons (pv 2) (pa_cons pe_int pa_nil)))))))
    pss_nil)
    (pss_cons (ps_set (i := 4) sc_law.nd rfl (by first | exact .inl rfl | exact .inr rfl) (pe_cal C_l_lots hr (by decide) (by rfl) (pa_cons (pv 2) (pa_cons (pv 3) (pa_cons pe_int pa_nil)))))
    (pss_cons (ps_set (i := 5) sc_law.nd rfl (by first | exact .inl rfl | exact .inr rfl) (pe_cal C_l_perm hr (by decide) (by rfl) (pa_cons (pv 2) (pa_cons (pv 3) pa_nil))))
    (pss_cons (ps_set (i := 6) sc_law.nd rfl (by first | exact .inl rfl | exact .inr rfl) (pe_mk MOffice hr (by decide) (by rfl) (pa_cons (pe_mk MBook hr (by decide) (by rfl) (pa_cons (pv 3) (pa_cons (pv 4) pa_nil))) (pa_cons (pv 5) pa_nil))))
    (pss_cons (ps_set (i := 7) sc_law.nd rfl (by first | exact .inl rfl | exact .inr rfl) (pe_cal C_l_others hr (by decide) (by rfl) (pa_cons (pv 4) (pa_cons (pv 5) pa_nil))))
    (pss_cons (ps_set (i := 8) sc_law.nd rfl (by first | exact .inl rfl | exact .inr rfl) pe_dnewT)
    (pss_cons (ps_for PassesOwn.never rfl (k_list K (pe_cal C_l_all_crowds hr (by decide) (by rfl) (pa_cons (pv 3) pa_nil))) (pg_name (i := 9) sc_law.nd rfl (by first | exact .inl rfl | exact .inr rfl))
    (pss_one (ps_dput hu (pv 8) (pv 9) (pe_cal C_l_let hr (by decide) (by rfl) (pa_cons (pv 7) (pa_cons (pv 5) (pa_cons (pv 9) pa_nil)))) rfl)))
    (pss_cons (ps_set (i := 10) sc_law.nd rfl (by first | exact .inl rfl | exact .inr rfl) (pe_cal C_outcomes hr (by decide) (by rfl) (pa_cons (pv 6) pa_nil)))
    (pss_cons (ps_if (pt_not (pt_val (pe_cal C_l_same hr (by decide) (by rfl) (pa_cons (pv 10) (pa_cons (pv 8) pa_nil)))))
    (pss_one (ps_ret pe_bl))
    pss_nil)
    (pss_cons (ps_for PassesOwn.never rfl (pi_range1 (by rfl) B.t_range (pa_cons pe_int pa_nil)) (pg_name (i := 11) sc_law.nd rfl (by first | exact .inl rfl | exact .inr rfl))
    (pss_cons (ps_set (i := 9) sc_law.nd rfl (by first | exact .inl rfl | exact .inr rfl) (pe_cal C_l_crowd hr (by decide) (by rfl) (pa_cons (pv 2) (pa_cons (pv 3) pa_nil))))
    (pss_cons (ps_set (i := 12) sc_law.nd rfl (by first | exact .inl rfl | exact .inr rfl) (pe_dget hu (pv 8) (pv 9) (fun _ _ => rfl)))
    (pss_cons (ps_set (i := 13) sc_law.nd rfl (by first | exact .inl rfl | exact .inr rfl) (pe_callTy (k_tupOf K) (by rfl) B.t_tuple b_tuple (pa_cons (pe_lc (own := [("_law_person", 14)]) (g := (gName 14)) rfl sc_law.nd (k_tuple K (pv 9)) (blkOk_by (own := [("_law_person", 14)]) (N := N_law) (sc := defScope s_law) (by decide +kernel)) (fun _ _ _ _ _ => (pg_name (i := 14) sc_law.nd rfl (by first | exact .inl rfl | exact .inr rfl))) (fun _ _ _ _ _ => (pts_one (PW.pt (pw_or (pt_cmpR (k_in K) (pv 14) (pv 12) (by with_unfolding_all rfl)) (pw_or1 (pt_cmpR op_eq (pe_cal C_l_draw hr (by decide) (by rfl) (pa_cons (pv 2) (pa_cons pe_int pa_nil))) pe_int (nomark _))))))) (fun _ _ _ _ _ => (pv 14))) pa_nil)))
    (pss_one (ps_if (PW.pt (pw_or (pt_cmpR (k_neD K hu64) (pe_cal C_let_in hr (by decide) (by rfl) (pa_cons (pv 6) (pa_cons (pv 9) pa_nil))) (pv 12) (nomark _)) (pw_or1 (pt_cmpR (k_neD K hu64) (pe_dget hu (pv 10) (pv 13) (fun _ _ => rfl)) (pv 12) (nomark _)))))
    (pss_one (ps_ret pe_bl))
    pss_nil))))))
    (pss_cons (ps_dput hu (pv 10) (pe_tup pa_nil) pe_non rfl)
    (pss_mid (ps_expr (pe_bm PySem.F.plainAttrs_dict PySem.F.slot_dict_pop PySem.F.type_dict_pop (DX.mt_popT hu) (pv 10) (pa_cons (pe_callTy (k_tupOf K) (by rfl) B.t_tuple b_tuple (pa_cons (pe_listRg rfl (by rfl) B.t_list (prg_1 (by rfl) B.t_range (pv 3))) pa_nil)) (pa_cons pe_non pa_nil))))
    (pss_one (ps_if (pt_not (pt_val (pe_cal C_l_same hr (by decide) (by rfl) (pa_cons (pe_cal C_outcomes hr (by decide) (by rfl) (pa_cons (pv 6) pa_nil)) (pa_cons (pv 8) pa_nil)))))
    (pss_one (ps_ret pe_bl))
    pss_nil)))))))))))))))))
    (pss_one (ps_ret pe_bl))), ?_⟩
    refine ⟨3, rfl, by decide, by decide, ?_⟩
    refine for_it (n := 3) walk_range (fun i σ H => ∃ o1 o2 o3 o4 o5 o6 o7 o8 o9 o10 o11 o12 o13 o14 : Option V, σ = [some (.ref sa), o1, o2, o3, o4, o5, o6, o7, o8, o9, o10, o11, o12, o13, o14] ∧ Same H0 H)
      ⟨none, none, none, none, none, none, none, none, none, none, none, none, none, none, rfl, Same.refl _⟩ (fun _ _ _ _ _ => trivial) ?_ ?_
    · rintro i x σ H1 H1' hi ⟨o1, o2, o3, o4, o5, o6, o7, o8, o9, o10, o11, o12, o13, o14, rfl, sm1⟩ ⟨rfl, ex⟩
      obtain rfl : x = vi i := ex.trans (congrArg V.int (by omega))
      -- the source, the people
      refine ⟨_, rfl, _, rfl, sa, ns, i, rfl, lsame hsa sm1, few, fun H2 a s2 na hs2 => ?_⟩
      have na0 : H0 a = none := sm1.free na
      have sm2 := sm1.trans s2
      refine ⟨_, rfl, a, 5, rfl, hs2, by decide, by decide, fun n0 H3 n01 n05 s3 hs3 => ?_⟩
      have sm3 : Same H0 H3 := SX.fresh sm2 na0 s3
      refine ⟨fun σ' H' => ∃ n : Nat, 1 ≤ n ∧ n ≤ 10 ∧ σ' = [some (.ref sa), some (vi i), some (.ref a), some (vi n), o4, o5, o6, o7, o8, o9, o10, o11, o12, o13, o14] ∧ Same H0 H' ∧ Src H' a, ?_, ?_⟩
      · refine ⟨_, rfl, rfl, _, rfl, ite2 (fun e => ⟨_, rfl, a, 8, rfl, hs3, by decide, by decide, fun d H4 hd s4 hs4 => ⟨rfl, _, rfl, ite2 (fun e2 => ?_) (fun e2 => ?_)⟩⟩) (fun e => iteF ?_)⟩
        · have sm4 := SX.fresh sm3 na0 s4
          refine ⟨_, rfl, a, 4, rfl, hs4, by decide, by decide, fun d2 H5 hd2 s5 hs5 => ⟨_, _, rfl, rfl, _, rfl, ite2 (fun e3 => ?_) (fun e3 => ?_)⟩⟩
          · exact ⟨7, by decide, by decide, rfl, SX.fresh sm4 na0 s5, hs5⟩
          · refine ⟨_, rfl, a, 3, rfl, hs5, by decide, by decide, fun d3 H6 hd3 s6 hs6 => ⟨_, _, rfl, rfl, d3 + 8, by omega, by omega, ?_, SX.fresh (SX.fresh sm4 na0 s5) na0 s6, hs6⟩⟩
            have e4 : V.int (8 + (d3 : Nat)) = vi (d3 + 8) := congrArg V.int (by omega)
            rw [← e4]
            rfl
        · exact ⟨n0, n01, by omega, rfl, SX.fresh sm3 na0 s4, hs4⟩
        · exact ⟨n0, n01, by omega, rfl, sm3, hs3⟩
      rintro σ' H4 ⟨n, n1, n10, rfl, sm4, hs4⟩
      -- the lots, the order
      refine ⟨_, rfl, _, rfl, a, n, 10, rfl, hs4, n1, by omega, by decide, fun H5 r ls s5 hs5 ht hL => ?_⟩
      have sm5 := SX.fresh sm4 na0 s5
      refine ⟨_, rfl, _, rfl, a, n, rfl, hs5, by omega, fun H6 o O s6 hs6 no hO ho => ?_⟩
      have sm6 := SX.fresh sm5 na0 s6
      have kt6 := hs5.sameT s6
      have ht6 : TT H6 r ls := ⟨kt6 _ _ ht.1, fun p hp => kt6 _ _ (ht.2 p hp)⟩
      have hz := hs6.no
      -- the book, the office
      refine ⟨_, rfl, _, rfl, fun xb dxb nxb ndb neb => ?_⟩
      have sB : Same H6 (upd (upd H6 dxb (.own xb)) xb (.ins cB dxb [])) := fun b u e => by
        rw [upd_ne (ne_of_none e nxb), upd_ne (ne_of_none e ndb)]
        exact e
      refine ⟨xb, dxb, n, r, ls, rfl, upd_same, ht6.same sB, n1, by omega, hL, fun H7 m sxb nm exb em => ⟨rfl, ?_⟩⟩
      have s7 : Same H6 H7 := SX.made sxb nxb ndb
      have hB7 : BookAt cB H7 xb n r m ls := ⟨⟨dxb, exb⟩, ht6.same s7, em⟩
      have nm6 := sB.free nm
      refine ⟨_, rfl, fun xo dxo nxo ndo neo => ?_⟩
      have sO : Same H7 (upd (upd H7 dxo (.own xo)) xo (.ins cO dxo [])) := fun b u e => by
        rw [upd_ne (ne_of_none e nxo), upd_ne (ne_of_none e ndo)]
        exact e
      refine ⟨H6, xo, dxo, xb, n, r, m, ls, o, O, rfl, upd_same, hB7.same sO, n1, by omega, hL, sO _ _ (s7 _ _ hO), ho, s7.trans sO, nm6, fun H8 sxo hF8 => ⟨rfl, ?_⟩⟩
      have s8 : Same H7 H8 := SX.made sxo nxo ndo
      have s68 := s7.trans s8
      -- the others
      refine ⟨_, rfl, _, rfl, r, ls, n, o, O, rfl, ht6.same s68, hL, s68 _ _ hO, ho, by omega, fun H9 d s9 hd => ?_⟩
      have s69 := s68.trans s9
      -- what is due
      intro due nd
      have sd : Same H9 (upd H9 due (.dT [])) := same_upd nd
      refine ⟨_, rfl, n, rfl, n10, fun H11 p ks s11 hp htk pm => ⟨p, rfl, ⟨_, .inl (.inl hp)⟩, ?_⟩⟩
      have ed11 : H11 due = some (.dT []) := s11 _ _ upd_same
      have s911 : Same H9 H11 := sd.trans s11
      have npd : p ≠ due := ne_of hp ed11 (by intro z; cases z)
      have kl : ks.length ≤ 1024 := by
        have h1 := pm.length_eq
        rw [List.length_map] at h1
        rw [h1]
        exact allC_few n10 (Nat.le_refl n)
      have asck : ∀ k ∈ ks, Asc n k.2 := fun k hk => allC_mem.mp (pm.mem_iff.mp (List.mem_map.mpr ⟨k, hk, rfl⟩))
      refine for_it (walk_list (xs := ks.map fun k => V.ref k.1)) (fun j σ H => ∃ o9 : Option V, σ = [some (.ref sa), some (vi i), some (.ref a), some (vi n), some (.ref r), some (.ref o), some (.ref xo), some (.ref d), some (.ref due), o9, o10, o11, o12, o13, o14] ∧ SX due H11 H ∧
          ∃ kvs : List (List Key × V), H due = some (.dT kvs) ∧ kvs.length ≤ j ∧ (∀ k ∈ kvs.map (·.1), ∃ c, Asc n c ∧ k = kc c) ∧ (kvs.map (·.1)).Nodup ∧
          ∀ j' k, j' < j → ks[j']? = some k → ∃ rr, valV kvs (kc k.2) = some (.ref rr) ∧ Tp H rr (LET n O (oth O (ls.map (·.2))) k.2))
        ⟨_, rfl, fun b u _ e => e, [], ed11, Nat.le_refl _, (fun k h => by cases h), List.nodup_nil, fun j' k h => by omega⟩ (fun j σ H _ ⟨_, _, q, _⟩ => .inl (.inl (q _ _ npd hp))) ?_ ?_
      · rintro j y σ H H' hj ⟨o9, rfl, sx, kvs, ed, el, ek, ndk, ev⟩ ⟨rfl, hy⟩
        have hj' : j < ks.length := by simpa using hj
        obtain ⟨k, hk⟩ : ∃ k, ks[j]? = some k := ⟨_, List.getElem?_eq_getElem hj'⟩
        obtain rfl := yv hk hy
        have mk := List.mem_of_getElem? hk
        have s9H : Same H9 H' := fun b u e => sx b u (ne_of_none e nd) (s911 b u e)
        have tk : Tp H' k.1 k.2 := sx _ _ (ne_of (htk k mk) ed11 (by intro z; cases z)) (htk k mk)
        refine ⟨_, rfl, _, rfl, _, rfl, d, o, k.1, n, O, ls.map (·.2), k.2, rfl, hd.same s9H, s9H _ _ (s69 _ _ hO), tk, hL, ho, by omega, fun H'' rr s hrr => ?_⟩
        have ed2 := s _ _ ed
        have sT : SameT H'' (upd H'' due (.dT (putK kvs (kc k.2) (.ref rr)))) := SameT.upd ed2 fun _ q => nomatch q
        refine ⟨_, rfl, _, rfl, due, _, rfl, .inr ⟨kvs, kc k.2, k.1, ed2, rfl, ?_, small (by omega), rfl⟩, some (.ref k.1), rfl, fun b u nb e => ?_, _, upd_same, ?_, fun x hx => ?_, putK_nodup _ _ ndk, fun j' k' hj2 hk' => ?_⟩
        · rw [kc_vals]
          exact s _ _ tk
        · rw [upd_ne nb]
          exact s _ _ (sx _ _ nb e)
        · have := length_putK kvs (kc k.2) (.ref rr)
          omega
        · rcases putK_mem hx with e | e
          · exact ⟨k.2, asck k mk, e⟩
          · exact ek x e
        · rw [valV_put]
          by_cases e : kc k'.2 = kc k.2
          · rw [if_pos e, kc_inj e]
            exact ⟨rr, rfl, sT _ _ hrr⟩
          · rw [if_neg e]
            have ji : j' ≠ j := fun z => by
              subst z
              rw [hk] at hk'
              exact e (by rw [Option.some.inj hk'])
            obtain ⟨r', h1, h2⟩ := ev j' k' (by omega) hk'
            exact ⟨r', h1, sT _ _ (s _ _ h2)⟩
      rintro σ H12 ⟨o9, rfl, sx12, kvd, ed12, el12, ek12, nd12, ev12⟩
      have s912 : Same H9 H12 := fun b u e => sx12 b u (ne_of_none e nd) (s911 b u e)
      have hdd12 : DictOk H12 due n (LET n O (oth O (ls.map (·.2)))) kvd := ⟨ed12, ek12, nd12, fun c ac => by
        obtain ⟨k, hk, rfl⟩ := List.mem_map.mp (pm.mem_iff.mpr (allC_mem.mpr ac))
        obtain ⟨j, hj⟩ := List.mem_iff_getElem?.mp hk
        exact ev12 j k (by simpa using (List.getElem?_eq_some_iff.mp hj).1) hj⟩
      have fewd := dict_few hdd12 n10
      have s612 := s69.trans s912
      have sm12 := sm6.trans s612
      have hF12 := (hF8.same s9).same s912
      -- what is told
      refine ⟨_, rfl, xo, n, ls, O, rfl, hF12.at_, hL, ho, n10, fun H13 told kvt s13 nt hdt13 => ?_⟩
      have ned : due ≠ told := fun e => by
        rw [← e, ed12] at nt
        cases nt
      have gl : ∀ c, Asc n c → (LET n O (oth O (ls.map (·.2))) c).length ≤ 1000 := fun c _ => by
        have := asc_length (LET_asc (n := n) (O := O) (oth := oth O (ls.map (·.2))) (c := c))
        omega
      refine ⟨_, rfl, _, rfl, told, due, n, LET n O (oth O (ls.map (·.2))), kvt, kvd, rfl, fun e => ned e.symm, hdt13, hdd12.same s13, gl, by omega, fun H14 s14 => ⟨true, rfl, iteF ?_⟩⟩
      have s614 := (s612.trans s13).trans s14
      have sm14 := sm6.trans s614
      have hs14 : Src H14 a := hs6.same s614
      have hF14 := (hF12.same s13).same s14
      have hdd14 := (hdd12.same s13).same s14
      have hdt14 := hdt13.same s14
      -- ten crowds
      refine ⟨10, rfl, by decide, by decide, ?_⟩
      refine for_it (n := 10) walk_range (fun j σ H => ∃ o9 o11 o12 o13 o14 : Option V, σ = [some (.ref sa), some (vi i), some (.ref a), some (vi n), some (.ref r), some (.ref o), some (.ref xo), some (.ref d), some (.ref due), o9, some (.ref told), o11, o12, o13, o14] ∧ SX a H14 H ∧ Src H a)
        ⟨_, _, _, _, _, rfl, fun b u _ e => e, hs14⟩ (fun _ _ _ _ _ => trivial) ?_ ?_
      · rintro j y σ H H' hj ⟨o9, o11, o12, o13, o14, rfl, sx, hs⟩ ⟨rfl, rfl⟩
        have hFj := hF14.src hs14 hz sx
        have hddj := hdd14.src hs14 sx
        have hdtj := hdt14.src hs14 sx
        refine ⟨_, rfl, _, rfl, a, n, rfl, hs, by omega, fun Ha c cr sa1 hsa1 nc hc ac => ?_⟩
        have hFa := hFj.src hs hz sa1
        have hdda := hddj.src hs sa1
        have hdta := hdtj.src hs sa1
        obtain ⟨ri, v1, ti⟩ := hdda.val cr ac
        have g1 : DGet Ha due (.ref c) (some (.ref ri)) := by
          rw [← v1]
          exact DGet.t hdda.at_ (by rw [kc_vals]; exact hc)
        refine ⟨_, rfl, _, rfl, due, _, rfl, g1, ?_⟩
        -- the middle
        refine ⟨_, rfl, c, rfl, ⟨_, hc.seq⟩, fun D nD => ?_⟩
        have Da : D ≠ a := hsa1.ne nD
        refine lc_it (walk_tup (xs := cr.map vi)) (fun j H => SX a Ha H ∧ Src H a ∧ ∃ md : List Nat, H D = some (.lst (md.map vi)) ∧ md.Sublist (cr.take j) ∧ ∀ x ∈ cr.take j, x ∈ LET n O (oth O (ls.map (·.2))) cr → x ∈ md)
          ⟨SX.of (same_upd nD), hsa1.same (same_upd nD), [], upd_same, List.nil_sublist _, fun x h => by simp at h⟩ (fun j H _ q => Tp.seq (hsa1.sameT q.1 _ _ hc)) ?_ ?_
        · rintro j' y' Hx Hx' hj' ⟨sxx, hsx, md, edx, sub, cov⟩ ⟨rfl, hy'⟩
          have hj2 : j' < cr.length := by simpa using hj'
          obtain ⟨x, hx⟩ : ∃ x, cr[j']? = some x := ⟨_, List.getElem?_eq_getElem hj2⟩
          obtain rfl := yv hx hy'
          have lmd : md.length ≤ 1000 := by
            have h1 := sub.length_le
            have h2 := asc_length ac
            rw [List.length_take] at h1
            omega
          have tix : Tp Hx' ri (LET n O (oth O (ls.map (·.2))) cr) := hsa1.sameT sxx _ _ ti
          have keep : ∀ Hk, SX a Ha Hk → Src Hk a → Hk D = some (.lst (md.map vi)) → ∃ acc, Hk D = some (.lst acc) ∧ acc.length < sizeLine ∧ (SX a Ha (upd Hk D (.lst (acc ++ [vi x]))) ∧ Src (upd Hk D (.lst (acc ++ [vi x]))) a ∧ ∃ md : List Nat, (upd Hk D (.lst (acc ++ [vi x]))) D = some (.lst (md.map vi)) ∧ md.Sublist (cr.take (j' + 1)) ∧ ∀ x ∈ cr.take (j' + 1), x ∈ LET n O (oth O (ls.map (·.2))) cr → x ∈ md) := fun Hk k1 k2 k3 => by
            refine ⟨_, k3, small (by rw [List.length_map]; omega), fun b u nb e => ?_, ?_, md ++ [x], ?_, ?_, fun z hz1 hz2 => ?_⟩
            · rw [upd_ne (ne_of_none e nD)]
              exact k1 _ _ nb e
            · obtain ⟨v0, v1, v2, v3, v4, e⟩ := k2
              refine ⟨v0, v1, v2, v3, v4, ?_⟩
              rw [upd_ne Da.symm]
              exact e
            · rw [upd_same, List.map_append]
              rfl
            · rw [take_next hx]
              exact List.Sublist.append sub (List.Sublist.refl _)
            · rw [take_next hx] at hz1
              rcases List.mem_append.mp hz1 with e | e
              · exact List.mem_append_left _ (cov z e hz2)
              · exact List.mem_append_right _ e
          refine ⟨rfl, _, rfl, _, rfl, ri, _, rfl, .inr (Tp.seq tix), rfl, flat_vi _, _, rfl, ?_⟩
          rw [if_neg Bool.false_ne_true, inV_vi]
          refine ite2 (fun e => iteT ⟨_, rfl, keep _ sxx hsx edx⟩) (fun e => ⟨_, rfl, a, 2, rfl, hsx, by decide, by decide, fun dd Hb hdd sb hsb => ⟨rfl, _, rfl, ite2 (fun e2 => ⟨_, rfl, keep _ (sxx.trans sb) hsb (sb _ _ Da edx)⟩) (fun e2 => ⟨sxx.trans sb, hsb, md, sb _ _ Da edx, ?_, fun z hz1 hz2 => ?_⟩)⟩⟩)
          · rw [take_next hx]
            exact sub.trans (List.sublist_append_left _ _)
          · rw [take_next hx] at hz1
            rcases List.mem_append.mp hz1 with e3 | e3
            · exact cov z e3 hz2
            · rw [List.mem_singleton.mp e3] at hz2
              exact absurd (decide_eq_true hz2) e
        · rintro Hm ⟨sxm, hsm, md, edm, sub, cov⟩
          have et : cr.take (cr.map vi).length = cr := List.take_of_length_le (by simp)
          rw [et] at sub cov
          have amd := asc_sub ac sub
          refine ⟨D, _, rfl, .inl ⟨.inl (.inl edm), fun l nl => ?_⟩⟩
          have sl : Same Hm (upd Hm l (.tup (md.map vi))) := same_upd nl
          have tl : Tp (upd Hm l (.tup (md.map vi))) l md := upd_same
          generalize upd Hm l (.tup (md.map vi)) = He at sl tl ⊢
          have sxe : SX a Ha He := fun b u nb e => sl _ _ (sxm _ _ nb e)
          have hse := hsm.same sl
          have hFe := hFa.src hsa1 hz sxe
          have hdte := hdta.src hsa1 sxe
          have tce : Tp He c cr := hsa1.sameT sxe _ _ hc
          have tie : Tp He ri (LET n O (oth O (ls.map (·.2))) cr) := hsa1.sameT sxe _ _ ti
          have emid : LET n O (oth O (ls.map (·.2))) md = LET n O (oth O (ls.map (·.2))) cr := LET_mid ho.nd (fun x hx => (ho.mem x).mp hx) (fun x hx => sub.subset hx) fun x hx => cov x (LET_sub hx) hx
          refine ⟨_, rfl, _, rfl, xo, n, ls, O, c, cr, rfl, hFe.at_, hL, ho, by omega, tce, ac, fun Hf qq sf nq hq => ?_⟩
          refine ⟨_, rfl, _, _, dpV hq, dpV (sf _ _ tie), shapedT _, shapedT _, _, rfl, ?_⟩
          rw [eqvT, decide_eq_true rfl]
          refine iteF ?_
          obtain ⟨rm, vm, tm⟩ := hdte.val md amd
          rw [emid] at tm
          have g2 : DGet Hf told (.ref l) (some (.ref rm)) := by
            rw [← vm]
            exact DGet.t (sf _ _ hdte.at_) (by rw [kc_vals]; exact sf _ _ tl)
          refine ⟨_, rfl, _, rfl, told, _, rfl, g2, _, rfl, _, _, dpV (sf _ _ tm), dpV (sf _ _ tie), shapedT _, shapedT _, _, rfl, ?_⟩
          rw [eqvT, decide_eq_true rfl]
          refine iteF ⟨_, _, _, _, _, rfl, fun b u nb e => sf _ _ (sxe _ _ nb (sa1 _ _ nb (sx _ _ nb e))), hse.same sf⟩
      rintro σ H15 ⟨o9', o11', o12', o13', o14', rfl, sx15, hs15⟩
      have sm15 := SX.fresh sm14 na0 sx15
      have hF15 := hF14.src hs14 hz sx15
      have hdd15 := hdd14.src hs14 sx15
      have hdt15 := hdt14.src hs14 sx15
      have fewt := dict_few hdt15 n10
      -- the first dict is spoilt
      refine ⟨_, rfl, Nat.zero_le _, fun e0 ne0 => ⟨told, _, rfl, .inr ⟨kvt, [], e0, same_upd ne0 _ _ hdt15.at_, rfl, upd_same, small (by omega), rfl⟩, ?_⟩⟩
      have sx16 : SX told H15 (upd (upd H15 e0 (.tup [])) told (.dT (putK kvt [] .non))) := fun b u nb e => by
        rw [upd_ne nb]
        exact same_upd ne0 _ _ e
      have et16 : (upd (upd H15 e0 (.tup [])) told (.dT (putK kvt [] .non))) told = some (.dT (putK kvt [] .non)) := upd_same
      generalize upd (upd H15 e0 (.tup [])) told (.dT (putK kvt [] .non)) = H16 at sx16 et16 ⊢
      refine ⟨fun σ' H' => σ' = [some (.ref sa), some (vi i), some (.ref a), some (vi n), some (.ref r), some (.ref o), some (.ref xo), some (.ref d), some (.ref due), o9', some (.ref told), o11', o12', o13', o14'] ∧ SX told H15 H', ?_, ?_⟩
      · refine ⟨_, rfl, .inr (.inr (.inl ⟨rfl, .inr ⟨_, et16⟩⟩)), _, rfl, n, rfl, RgOk.of_le (by omega) (by omega) (by omega) (by omega), fun L nL => ⟨L, _, rfl, .inl ⟨.inl (.inl upd_same), fun l nl => ?_⟩⟩⟩
        have s17 : Same H16 (upd (upd H16 L (.lst (rgV 0 (n : Int)))) l (.tup (rgV 0 (n : Int)))) := sNew (same_upd nL) nl
        have el17 : (upd (upd H16 L (.lst (rgV 0 (n : Int)))) l (.tup (rgV 0 (n : Int)))) l = some (.tup ((kc (List.range n)).map kV)) := by
          rw [upd_same, kc_vals, rgV_vi]
        refine ⟨told, _, kc (List.range n), l, .non, rfl, rfl, s17 _ _ et16, el17, fun v hv => ⟨rfl, fun b u nb e => ?_⟩, fun hn => ⟨rfl, fun b u nb e => s17 _ _ (sx16 _ _ nb e)⟩⟩
        rw [upd_ne nb]
        exact s17 _ _ (sx16 _ _ nb e)
      · rintro σ' H18 ⟨rfl, sx18⟩
        have hF18 := hF15.dT hdt15.at_ sx18
        have hdd18 := hdd15.other hdt15.at_ ned sx18
        refine ⟨_, rfl, xo, n, ls, O, rfl, hF18.at_, hL, ho, n10, fun H19 told2 kvt2 s19 nt2 hdt19 => ?_⟩
        have ne2 : told2 ≠ due := fun e => by
          rw [e, hdd18.at_] at nt2
          cases nt2
        refine ⟨_, rfl, told2, due, n, LET n O (oth O (ls.map (·.2))), kvt2, kvd, rfl, ne2, hdt19, hdd18.same s19, gl, by omega, fun H20 s20 => ⟨true, rfl, iteF ?_⟩⟩
        have nt0 : H0 told = none := sm12.free nt
        exact ⟨_, _, _, _, _, _, _, _, _, _, _, _, _, _, rfl, ((SX.fresh sm15 nt0 sx18).trans s19).trans s20⟩
    · rintro σ H1 ⟨o1, o2, o3, o4, o5, o6, o7, o8, o9, o10, o11, o12, o13, o14, rfl, sm1⟩
      exact q H1
end
end LL
set_option Elab.async false
set_option linter.all false
set_option maxRecDepth 100000
set_option maxHeartbeats 8000000
namespace LL
open PySem PySem.Spec PyProof.Rows L2
theorem all_mk {P : Program} {w : World} {K : PySem.W.Frag} {h : Heap} {mg : Str → Option Value} {fa cB cO : Addr} {tm1 tm2 tm3 : Tok} (X : K.In h) (G : h.Ns mainGlobals mg) (hfa : mg "law" = some (.ref fa))
    {f1 : Addr} {od1 an1 : Option Addr} {sl1 : Array (Option Value)} {oc1 kV1 dc1 pm1 cd1 ct1 : Value}
    {f2 : Addr} {od2 an2 : Option Addr} {sl2 : Array (Option Value)} {oc2 kV2 dc2 pm2 cd2 ct2 : Value}
    {f3 : Addr} {od3 an3 : Option Addr} {sl3 : Array (Option Value)} {oc3 kV3 dc3 pm3 cd3 ct3 : Value}
    {f4 : Addr} {od4 an4 : Option Addr} {sl4 : Array (Option Value)} {oc4 kV4 dc4 pm4 cd4 ct4 : Value}
    {f5 : Addr} {od5 an5 : Option Addr} {sl5 : Array (Option Value)} {oc5 kV5 dc5 pm5 cd5 ct5 : Value}
    {f6 : Addr} {od6 an6 : Option Addr} {sl6 : Array (Option Value)} {oc6 kV6 dc6 pm6 cd6 ct6 : Value}
    {f7 : Addr} {od7 an7 : Option Addr} {sl7 : Array (Option Value)} {oc7 kV7 dc7 pm7 cd7 ct7 : Value}
    {f8 : Addr} {od8 an8 : Option Addr} {sl8 : Array (Option Value)} {oc8 kV8 dc8 pm8 cd8 ct8 : Value}
    {f9 : Addr} {od9 an9 : Option Addr} {sl9 : Array (Option Value)} {oc9 kV9 dc9 pm9 cd9 ct9 : Value}
    {f10 : Addr} {od10 an10 : Option Addr} {sl10 : Array (Option Value)} {oc10 kV10 dc10 pm10 cd10 ct10 : Value}
    {f11 : Addr} {od11 an11 : Option Addr} {sl11 : Array (Option Value)} {oc11 kV11 dc11 pm11 cd11 ct11 : Value}
    {f12 : Addr} {od12 an12 : Option Addr} {sl12 : Array (Option Value)} {oc12 kV12 dc12 pm12 cd12 ct12 : Value}
    {f13 : Addr} {od13 an13 : Option Addr} {sl13 : Array (Option Value)} {oc13 kV13 dc13 pm13 cd13 ct13 : Value}
    {f14 : Addr} {od14 an14 : Option Addr} {sl14 : Array (Option Value)} {oc14 kV14 dc14 pm14 cd14 ct14 : Value}
    {f15 : Addr} {od15 an15 : Option Addr} {sl15 : Array (Option Value)} {oc15 kV15 dc15 pm15 cd15 ct15 : Value}
    {f16 : Addr} {od16 an16 : Option Addr} {sl16 : Array (Option Value)} {oc16 kV16 dc16 pm16 cd16 ct16 : Value}
    {f17 : Addr} {od17 an17 : Option Addr} {sl17 : Array (Option Value)} {oc17 kV17 dc17 pm17 cd17 ct17 : Value}
    {f18 : Addr} {od18 an18 : Option Addr} {sl18 : Array (Option Value)} {oc18 kV18 dc18 pm18 cd18 ct18 : Value}
    {f19 : Addr} {od19 an19 : Option Addr} {sl19 : Array (Option Value)} {oc19 kV19 dc19 pm19 cd19 ct19 : Value}
    {f20 : Addr} {od20 an20 : Option Addr} {sl20 : Array (Option Value)} {oc20 kV20 dc20 pm20 cd20 ct20 : Value}
    {f21 : Addr} {od21 an21 : Option Addr} {sl21 : Array (Option Value)} {oc21 kV21 dc21 pm21 cd21 ct21 : Value}
    {f22 : Addr} {od22 an22 : Option Addr} {sl22 : Array (Option Value)} {oc22 kV22 dc22 pm22 cd22 ct22 : Value}
    {f23 : Addr} {od23 an23 : Option Addr} {sl23 : Array (Option Value)} {oc23 kV23 dc23 pm23 cd23 ct23 : Value}
    {f24 : Addr} {od24 an24 : Option Addr} {sl24 : Array (Option Value)} {oc24 kV24 dc24 pm24 cd24 ct24 : Value}
    {f25 : Addr} {od25 an25 : Option Addr} {sl25 : Array (Option Value)} {oc25 kV25 dc25 pm25 cd25 ct25 : Value}
    {f26 : Addr} {od26 an26 : Option Addr} {sl26 : Array (Option Value)} {oc26 kV26 dc26 pm26 cd26 ct26 : Value}
    {f27 : Addr} {od27 an27 : Option Addr} {sl27 : Array (Option Value)} {oc27 kV27 dc27 pm27 cd27 ct27 : Value}
    {f28 : Addr} {od28 an28 : Option Addr} {sl28 : Array (Option Value)} {oc28 kV28 dc28 pm28 cd28 ct28 : Value}
    {f29 : Addr} {od29 an29 : Option Addr} {sl29 : Array (Option Value)} {oc29 kV29 dc29 pm29 cd29 ct29 : Value}
    {f30 : Addr} {od30 an30 : Option Addr} {sl30 : Array (Option Value)} {oc30 kV30 dc30 pm30 cd30 ct30 : Value}
    {f31 : Addr} {od31 an31 : Option Addr} {sl31 : Array (Option Value)} {oc31 kV31 dc31 pm31 cd31 ct31 : Value}
    {f32 : Addr} {od32 an32 : Option Addr} {sl32 : Array (Option Value)} {oc32 kV32 dc32 pm32 cd32 ct32 : Value}
    {f33 : Addr} {od33 an33 : Option Addr} {sl33 : Array (Option Value)} {oc33 kV33 dc33 pm33 cd33 ct33 : Value}
    {f34 : Addr} {od34 an34 : Option Addr} {sl34 : Array (Option Value)} {oc34 kV34 dc34 pm34 cd34 ct34 : Value}
    {f35 : Addr} {od35 an35 : Option Addr} {sl35 : Array (Option Value)} {oc35 kV35 dc35 pm35 cd35 ct35 : Value}
    {f36 : Addr} {od36 an36 : Option Addr} {sl36 : Array (Option Value)} {oc36 kV36 dc36 pm36 cd36 ct36 : Value}
    {f37 : Addr} {od37 an37 : Option Addr} {sl37 : Array (Option Value)} {oc37 kV37 dc37 pm37 cd37 ct37 : Value}
    {f38 : Addr} {od38 an38 : Option Addr} {sl38 : Array (Option Value)} {oc38 kV38 dc38 pm38 cd38 ct38 : Value}
    {f39 : Addr} {od39 an39 : Option Addr} {sl39 : Array (Option Value)} {oc39 kV39 dc39 pm39 cd39 ct39 : Value}
    {f40 : Addr} {od40 an40 : Option Addr} {sl40 : Array (Option Value)} {oc40 kV40 dc40 pm40 cd40 ct40 : Value}
    {f41 : Addr} {od41 an41 : Option Addr} {sl41 : Array (Option Value)} {oc41 kV41 dc41 pm41 cd41 ct41 : Value}
    (aB : PySem.W.nsIn K mainGlobals "Book" = some (some (.ref cB)))
    (aO : PySem.W.nsIn K mainGlobals "Office" = some (some (.ref cO)))
    (a1 : PySem.W.nsIn K mainGlobals "is_integer" = some (some (.ref f1)))
    (l1 : K.lookup f1 = some ⟨oc1, od1, .func (PySem.W.fnOf "is_integer" "is_integer" (defArgs s_is_integer) (defBody s_is_integer) (defScope s_is_integer) .none kV1 dc1 pm1 an1 cd1 ct1), sl1⟩)
    (c1 : PySem.W.codeIn K cd1 "is_integer" = true)
    (k1 : PySem.W.keepIn K (.ref f1) = true)
    (a2 : PySem.W.nsIn K mainGlobals "_law_is_integer" = some (some (.ref f2)))
    (l2 : K.lookup f2 = some ⟨oc2, od2, .func (PySem.W.fnOf "_law_is_integer" "_law_is_integer" (defArgs s_l_is_integer) (defBody s_l_is_integer) (defScope s_l_is_integer) .none kV2 dc2 pm2 an2 cd2 ct2), sl2⟩)
    (c2 : PySem.W.codeIn K cd2 "_law_is_integer" = true)
    (k2 : PySem.W.keepIn K (.ref f2) = true)
    (a3 : PySem.W.nsIn K mainGlobals "is_within" = some (some (.ref f3)))
    (l3 : K.lookup f3 = some ⟨oc3, od3, .func (PySem.W.fnOf "is_within" "is_within" (defArgs s_is_within) (defBody s_is_within) (defScope s_is_within) .none kV3 dc3 pm3 an3 cd3 ct3), sl3⟩)
    (c3 : PySem.W.codeIn K cd3 "is_within" = true)
    (k3 : PySem.W.keepIn K (.ref f3) = true)
    (a4 : PySem.W.nsIn K mainGlobals "are_ascending" = some (some (.ref f4)))
    (l4 : K.lookup f4 = some ⟨oc4, od4, .func (PySem.W.fnOf "are_ascending" "are_ascending" (defArgs s_are_ascending) (defBody s_are_ascending) (defScope s_are_ascending) .none kV4 dc4 pm4 an4 cd4 ct4), sl4⟩)
    (c4 : PySem.W.codeIn K cd4 "are_ascending" = true)
    (k4 : PySem.W.keepIn K (.ref f4) = true)
    (a5 : PySem.W.nsIn K mainGlobals "are_persons" = some (some (.ref f5)))
    (l5 : K.lookup f5 = some ⟨oc5, od5, .func (PySem.W.fnOf "are_persons" "are_persons" (defArgs s_are_persons) (defBody s_are_persons) (defScope s_are_persons) .none kV5 dc5 pm5 an5 cd5 ct5), sl5⟩)
    (c5 : PySem.W.codeIn K cd5 "are_persons" = true)
    (k5 : PySem.W.keepIn K (.ref f5) = true)
    (a6 : PySem.W.nsIn K mainGlobals "is_crowd" = some (some (.ref f6)))
    (l6 : K.lookup f6 = some ⟨oc6, od6, .func (PySem.W.fnOf "is_crowd" "is_crowd" (defArgs s_is_crowd) (defBody s_is_crowd) (defScope s_is_crowd) .none kV6 dc6 pm6 an6 cd6 ct6), sl6⟩)
    (c6 : PySem.W.codeIn K cd6 "is_crowd" = true)
    (k6 : PySem.W.keepIn K (.ref f6) = true)
    (a7 : PySem.W.nsIn K mainGlobals "is_lot" = some (some (.ref f7)))
    (l7 : K.lookup f7 = some ⟨oc7, od7, .func (PySem.W.fnOf "is_lot" "is_lot" (defArgs s_is_lot) (defBody s_is_lot) (defScope s_is_lot) .none kV7 dc7 pm7 an7 cd7 ct7), sl7⟩)
    (c7 : PySem.W.codeIn K cd7 "is_lot" = true)
    (k7 : PySem.W.keepIn K (.ref f7) = true)
    (a8 : PySem.W.nsIn K mainGlobals "is_row" = some (some (.ref f8)))
    (l8 : K.lookup f8 = some ⟨oc8, od8, .func (PySem.W.fnOf "is_row" "is_row" (defArgs s_is_row) (defBody s_is_row) (defScope s_is_row) .none kV8 dc8 pm8 an8 cd8 ct8), sl8⟩)
    (c8 : PySem.W.codeIn K cd8 "is_row" = true)
    (k8 : PySem.W.keepIn K (.ref f8) = true)
    (a9 : PySem.W.nsIn K mainGlobals "is_order" = some (some (.ref f9)))
    (l9 : K.lookup f9 = some ⟨oc9, od9, .func (PySem.W.fnOf "is_order" "is_order" (defArgs s_is_order) (defBody s_is_order) (defScope s_is_order) .none kV9 dc9 pm9 an9 cd9 ct9), sl9⟩)
    (c9 : PySem.W.codeIn K cd9 "is_order" = true)
    (k9 : PySem.W.keepIn K (.ref f9) = true)
    (a10 : PySem.W.nsIn K mainGlobals "check_crowd" = some (some (.ref f10)))
    (l10 : K.lookup f10 = some ⟨oc10, od10, .func (PySem.W.fnOf "check_crowd" "check_crowd" (defArgs s_check_crowd) (defBody s_check_crowd) (defScope s_check_crowd) .none kV10 dc10 pm10 an10 cd10 ct10), sl10⟩)
    (c10 : PySem.W.codeIn K cd10 "check_crowd" = true)
    (k10 : PySem.W.keepIn K (.ref f10) = true)
    (a11 : PySem.W.nsIn K mainGlobals "check_many" = some (some (.ref f11)))
    (l11 : K.lookup f11 = some ⟨oc11, od11, .func (PySem.W.fnOf "check_many" "check_many" (defArgs s_check_many) (defBody s_check_many) (defScope s_check_many) .none kV11 dc11 pm11 an11 cd11 ct11), sl11⟩)
    (c11 : PySem.W.codeIn K cd11 "check_many" = true)
    (k11 : PySem.W.keepIn K (.ref f11) = true)
    (a12 : PySem.W.nsIn K mainGlobals "bits_of" = some (some (.ref f12)))
    (l12 : K.lookup f12 = some ⟨oc12, od12, .func (PySem.W.fnOf "bits_of" "bits_of" (defArgs s_bits_of) (defBody s_bits_of) (defScope s_bits_of) .none kV12 dc12 pm12 an12 cd12 ct12), sl12⟩)
    (c12 : PySem.W.codeIn K cd12 "bits_of" = true)
    (k12 : PySem.W.keepIn K (.ref f12) = true)
    (a13 : PySem.W.nsIn K mainGlobals "crowd_of" = some (some (.ref f13)))
    (l13 : K.lookup f13 = some ⟨oc13, od13, .func (PySem.W.fnOf "crowd_of" "crowd_of" (defArgs s_crowd_of) (defBody s_crowd_of) (defScope s_crowd_of) .none kV13 dc13 pm13 an13 cd13 ct13), sl13⟩)
    (c13 : PySem.W.codeIn K cd13 "crowd_of" = true)
    (k13 : PySem.W.keepIn K (.ref f13) = true)
    (a14 : PySem.W.nsIn K mainGlobals "holds" = some (some (.ref f14)))
    (l14 : K.lookup f14 = some ⟨oc14, od14, .func (PySem.W.fnOf "holds" "holds" (defArgs s_holds) (defBody s_holds) (defScope s_holds) .none kV14 dc14 pm14 an14 cd14 ct14), sl14⟩)
    (c14 : PySem.W.codeIn K cd14 "holds" = true)
    (k14 : PySem.W.keepIn K (.ref f14) = true)
    (a15 : PySem.W.nsIn K mainGlobals "crowds_of_size" = some (some (.ref f15)))
    (l15 : K.lookup f15 = some ⟨oc15, od15, .func (PySem.W.fnOf "crowds_of_size" "crowds_of_size" (defArgs s_crowds_of_size) (defBody s_crowds_of_size) (defScope s_crowds_of_size) .none kV15 dc15 pm15 an15 cd15 ct15), sl15⟩)
    (c15 : PySem.W.codeIn K cd15 "crowds_of_size" = true)
    (k15 : PySem.W.keepIn K (.ref f15) = true)
    (a16 : PySem.W.nsIn K mainGlobals "crowds_by_size" = some (some (.ref f16)))
    (l16 : K.lookup f16 = some ⟨oc16, od16, .func (PySem.W.fnOf "crowds_by_size" "crowds_by_size" (defArgs s_crowds_by_size) (defBody s_crowds_by_size) (defScope s_crowds_by_size) .none kV16 dc16 pm16 an16 cd16 ct16), sl16⟩)
    (c16 : PySem.W.codeIn K cd16 "crowds_by_size" = true)
    (k16 : PySem.W.keepIn K (.ref f16) = true)
    (a17 : PySem.W.nsIn K mainGlobals "first_wrong_lot" = some (some (.ref f17)))
    (l17 : K.lookup f17 = some ⟨oc17, od17, .func (PySem.W.fnOf "first_wrong_lot" "first_wrong_lot" (defArgs s_first_wrong_lot) (defBody s_first_wrong_lot) (defScope s_first_wrong_lot) .none kV17 dc17 pm17 an17 cd17 ct17), sl17⟩)
    (c17 : PySem.W.codeIn K cd17 "first_wrong_lot" = true)
    (k17 : PySem.W.keepIn K (.ref f17) = true)
    (a18 : PySem.W.findIn K (.ref cB) "keep" = some (some (.ref f18)))
    (i18 : PySem.W.isFn K (.ref f18) = true)
    (l18 : K.lookup f18 = some ⟨oc18, od18, .func (PySem.W.fnOf "keep" "Book.keep" (defArgs s_Book_keep) (defBody s_Book_keep) (defScope s_Book_keep) .none kV18 dc18 pm18 an18 cd18 ct18), sl18⟩)
    (c18 : PySem.W.codeIn K cd18 "Book.keep" = true)
    (k18 : PySem.W.keepIn K (.ref f18) = true)
    (a19 : PySem.W.findIn K (.ref cB) "__init__" = some (some (.ref f19)))
    (i19 : PySem.W.isFn K (.ref f19) = true)
    (l19 : K.lookup f19 = some ⟨oc19, od19, .func (PySem.W.fnOf "__init__" "Book.__init__" (defArgs s_Book_init) (defBody s_Book_init) (defScope s_Book_init) .none kV19 dc19 pm19 an19 cd19 ct19), sl19⟩)
    (c19 : PySem.W.codeIn K cd19 "Book.__init__" = true)
    (k19 : PySem.W.keepIn K (.ref f19) = true)
    (a20 : PySem.W.nsIn K mainGlobals "lasts_in" = some (some (.ref f20)))
    (l20 : K.lookup f20 = some ⟨oc20, od20, .func (PySem.W.fnOf "lasts_in" "lasts_in" (defArgs s_lasts_in) (defBody s_lasts_in) (defScope s_lasts_in) .none kV20 dc20 pm20 an20 cd20 ct20), sl20⟩)
    (c20 : PySem.W.codeIn K cd20 "lasts_in" = true)
    (k20 : PySem.W.keepIn K (.ref f20) = true)
    (a21 : PySem.W.findIn K (.ref cO) "__init__" = some (some (.ref f21)))
    (i21 : PySem.W.isFn K (.ref f21) = true)
    (l21 : K.lookup f21 = some ⟨oc21, od21, .func (PySem.W.fnOf "__init__" "Office.__init__" (defArgs s_Office_init) (defBody s_Office_init) (defScope s_Office_init) .none kV21 dc21 pm21 an21 cd21 ct21), sl21⟩)
    (c21 : PySem.W.codeIn K cd21 "Office.__init__" = true)
    (k21 : PySem.W.keepIn K (.ref f21) = true)
    (a22 : PySem.W.nsIn K mainGlobals "is_barred" = some (some (.ref f22)))
    (l22 : K.lookup f22 = some ⟨oc22, od22, .func (PySem.W.fnOf "is_barred" "is_barred" (defArgs s_is_barred) (defBody s_is_barred) (defScope s_is_barred) .none kV22 dc22 pm22 an22 cd22 ct22), sl22⟩)
    (c22 : PySem.W.codeIn K cd22 "is_barred" = true)
    (k22 : PySem.W.keepIn K (.ref f22) = true)
    (a23 : PySem.W.nsIn K mainGlobals "in_bits" = some (some (.ref f23)))
    (l23 : K.lookup f23 = some ⟨oc23, od23, .func (PySem.W.fnOf "in_bits" "in_bits" (defArgs s_in_bits) (defBody s_in_bits) (defScope s_in_bits) .none kV23 dc23 pm23 an23 cd23 ct23), sl23⟩)
    (c23 : PySem.W.codeIn K cd23 "in_bits" = true)
    (k23 : PySem.W.keepIn K (.ref f23) = true)
    (a24 : PySem.W.nsIn K mainGlobals "let_in" = some (some (.ref f24)))
    (l24 : K.lookup f24 = some ⟨oc24, od24, .func (PySem.W.fnOf "let_in" "let_in" (defArgs s_let_in) (defBody s_let_in) (defScope s_let_in) .none kV24 dc24 pm24 an24 cd24 ct24), sl24⟩)
    (c24 : PySem.W.codeIn K cd24 "let_in" = true)
    (k24 : PySem.W.keepIn K (.ref f24) = true)
    (a25 : PySem.W.nsIn K mainGlobals "outcomes" = some (some (.ref f25)))
    (l25 : K.lookup f25 = some ⟨oc25, od25, .func (PySem.W.fnOf "outcomes" "outcomes" (defArgs s_outcomes) (defBody s_outcomes) (defScope s_outcomes) .none kV25 dc25 pm25 an25 cd25 ct25), sl25⟩)
    (c25 : PySem.W.codeIn K cd25 "outcomes" = true)
    (k25 : PySem.W.keepIn K (.ref f25) = true)
    (a26 : PySem.W.nsIn K mainGlobals "_law_source" = some (some (.ref f26)))
    (l26 : K.lookup f26 = some ⟨oc26, od26, .func (PySem.W.fnOf "_law_source" "_law_source" (defArgs s_l_source) (defBody s_l_source) (defScope s_l_source) .none kV26 dc26 pm26 an26 cd26 ct26), sl26⟩)
    (c26 : PySem.W.codeIn K cd26 "_law_source" = true)
    (k26 : PySem.W.keepIn K (.ref f26) = true)
    (a27 : PySem.W.nsIn K mainGlobals "_law_draw" = some (some (.ref f27)))
    (l27 : K.lookup f27 = some ⟨oc27, od27, .func (PySem.W.fnOf "_law_draw" "_law_draw" (defArgs s_l_draw) (defBody s_l_draw) (defScope s_l_draw) .none kV27 dc27 pm27 an27 cd27 ct27), sl27⟩)
    (c27 : PySem.W.codeIn K cd27 "_law_draw" = true)
    (k27 : PySem.W.keepIn K (.ref f27) = true)
    (a28 : PySem.W.nsIn K mainGlobals "_law_perm" = some (some (.ref f28)))
    (l28 : K.lookup f28 = some ⟨oc28, od28, .func (PySem.W.fnOf "_law_perm" "_law_perm" (defArgs s_l_perm) (defBody s_l_perm) (defScope s_l_perm) .none kV28 dc28 pm28 an28 cd28 ct28), sl28⟩)
    (c28 : PySem.W.codeIn K cd28 "_law_perm" = true)
    (k28 : PySem.W.keepIn K (.ref f28) = true)
    (a29 : PySem.W.nsIn K mainGlobals "_law_within" = some (some (.ref f29)))
    (l29 : K.lookup f29 = some ⟨oc29, od29, .func (PySem.W.fnOf "_law_within" "_law_within" (defArgs s_l_within) (defBody s_l_within) (defScope s_l_within) .none kV29 dc29 pm29 an29 cd29 ct29), sl29⟩)
    (c29 : PySem.W.codeIn K cd29 "_law_within" = true)
    (k29 : PySem.W.keepIn K (.ref f29) = true)
    (a30 : PySem.W.nsIn K mainGlobals "_law_last" = some (some (.ref f30)))
    (l30 : K.lookup f30 = some ⟨oc30, od30, .func (PySem.W.fnOf "_law_last" "_law_last" (defArgs s_l_last) (defBody s_l_last) (defScope s_l_last) .none kV30 dc30 pm30 an30 cd30 ct30), sl30⟩)
    (c30 : PySem.W.codeIn K cd30 "_law_last" = true)
    (k30 : PySem.W.keepIn K (.ref f30) = true)
    (a31 : PySem.W.nsIn K mainGlobals "_law_crowd" = some (some (.ref f31)))
    (l31 : K.lookup f31 = some ⟨oc31, od31, .func (PySem.W.fnOf "_law_crowd" "_law_crowd" (defArgs s_l_crowd) (defBody s_l_crowd) (defScope s_l_crowd) .none kV31 dc31 pm31 an31 cd31 ct31), sl31⟩)
    (c31 : PySem.W.codeIn K cd31 "_law_crowd" = true)
    (k31 : PySem.W.keepIn K (.ref f31) = true)
    (a32 : PySem.W.nsIn K mainGlobals "_law_people" = some (some (.ref f32)))
    (l32 : K.lookup f32 = some ⟨oc32, od32, .func (PySem.W.fnOf "_law_people" "_law_people" (defArgs s_l_people) (defBody s_l_people) (defScope s_l_people) .none kV32 dc32 pm32 an32 cd32 ct32), sl32⟩)
    (c32 : PySem.W.codeIn K cd32 "_law_people" = true)
    (k32 : PySem.W.keepIn K (.ref f32) = true)
    (a33 : PySem.W.nsIn K mainGlobals "_law_heap" = some (some (.ref f33)))
    (l33 : K.lookup f33 = some ⟨oc33, od33, .func (PySem.W.fnOf "_law_heap" "_law_heap" (defArgs s_l_heap) (defBody s_l_heap) (defScope s_l_heap) .none kV33 dc33 pm33 an33 cd33 ct33), sl33⟩)
    (c33 : PySem.W.codeIn K cd33 "_law_heap" = true)
    (k33 : PySem.W.keepIn K (.ref f33) = true)
    (a34 : PySem.W.nsIn K mainGlobals "_law_heaps" = some (some (.ref f34)))
    (l34 : K.lookup f34 = some ⟨oc34, od34, .func (PySem.W.fnOf "_law_heaps" "_law_heaps" (defArgs s_l_heaps) (defBody s_l_heaps) (defScope s_l_heaps) .none kV34 dc34 pm34 an34 cd34 ct34), sl34⟩)
    (c34 : PySem.W.codeIn K cd34 "_law_heaps" = true)
    (k34 : PySem.W.keepIn K (.ref f34) = true)
    (a35 : PySem.W.nsIn K mainGlobals "_law_least" = some (some (.ref f35)))
    (l35 : K.lookup f35 = some ⟨oc35, od35, .func (PySem.W.fnOf "_law_least" "_law_least" (defArgs s_l_least) (defBody s_l_least) (defScope s_l_least) .none kV35 dc35 pm35 an35 cd35 ct35), sl35⟩)
    (c35 : PySem.W.codeIn K cd35 "_law_least" = true)
    (k35 : PySem.W.keepIn K (.ref f35) = true)
    (a36 : PySem.W.nsIn K mainGlobals "_law_lots" = some (some (.ref f36)))
    (l36 : K.lookup f36 = some ⟨oc36, od36, .func (PySem.W.fnOf "_law_lots" "_law_lots" (defArgs s_l_lots) (defBody s_l_lots) (defScope s_l_lots) .none kV36 dc36 pm36 an36 cd36 ct36), sl36⟩)
    (c36 : PySem.W.codeIn K cd36 "_law_lots" = true)
    (k36 : PySem.W.keepIn K (.ref f36) = true)
    (a37 : PySem.W.nsIn K mainGlobals "_law_all_crowds" = some (some (.ref f37)))
    (l37 : K.lookup f37 = some ⟨oc37, od37, .func (PySem.W.fnOf "_law_all_crowds" "_law_all_crowds" (defArgs s_l_all_crowds) (defBody s_l_all_crowds) (defScope s_l_all_crowds) .none kV37 dc37 pm37 an37 cd37 ct37), sl37⟩)
    (c37 : PySem.W.codeIn K cd37 "_law_all_crowds" = true)
    (k37 : PySem.W.keepIn K (.ref f37) = true)
    (a38 : PySem.W.nsIn K mainGlobals "_law_others" = some (some (.ref f38)))
    (l38 : K.lookup f38 = some ⟨oc38, od38, .func (PySem.W.fnOf "_law_others" "_law_others" (defArgs s_l_others) (defBody s_l_others) (defScope s_l_others) .none kV38 dc38 pm38 an38 cd38 ct38), sl38⟩)
    (c38 : PySem.W.codeIn K cd38 "_law_others" = true)
    (k38 : PySem.W.keepIn K (.ref f38) = true)
    (a39 : PySem.W.nsIn K mainGlobals "_law_let" = some (some (.ref f39)))
    (l39 : K.lookup f39 = some ⟨oc39, od39, .func (PySem.W.fnOf "_law_let" "_law_let" (defArgs s_l_let) (defBody s_l_let) (defScope s_l_let) .none kV39 dc39 pm39 an39 cd39 ct39), sl39⟩)
    (c39 : PySem.W.codeIn K cd39 "_law_let" = true)
    (k39 : PySem.W.keepIn K (.ref f39) = true)
    (a40 : PySem.W.nsIn K mainGlobals "_law_same" = some (some (.ref f40)))
    (l40 : K.lookup f40 = some ⟨oc40, od40, .func (PySem.W.fnOf "_law_same" "_law_same" (defArgs s_l_same) (defBody s_l_same) (defScope s_l_same) .none kV40 dc40 pm40 an40 cd40 ct40), sl40⟩)
    (c40 : PySem.W.codeIn K cd40 "_law_same" = true)
    (k40 : PySem.W.keepIn K (.ref f40) = true)
    (a41 : PySem.W.nsIn K mainGlobals "law" = some (some (.ref f41)))
    (l41 : K.lookup f41 = some ⟨oc41, od41, .func (PySem.W.fnOf "law" "law" (defArgs s_law) (defBody s_law) (defScope s_law) .none kV41 dc41 pm41 an41 cd41 ct41), sl41⟩)
    (c41 : PySem.W.codeIn K cd41 "law" = true)
    (k41 : PySem.W.keepIn K (.ref f41) = true)
    (pgB : PySem.W.plainGet K cB Str.empty = true)
    (hdB : PySem.W.hasDictIn K cB = true)
    (poB : PySem.W.plainOver K cB = true)
    (saB : PySem.W.findIn K (.ref cB) "__setattr__" = some (some (.builtin "object.__setattr__")))
    (mkB : PySem.W.makesIn K cB = true)
    (kcB : PySem.W.keepIn K (.ref cB) = true)
    (pgO : PySem.W.plainGet K cO Str.empty = true)
    (hdO : PySem.W.hasDictIn K cO = true)
    (poO : PySem.W.plainOver K cO = true)
    (saO : PySem.W.findIn K (.ref cO) "__setattr__" = some (some (.builtin "object.__setattr__")))
    (mkO : PySem.W.makesIn K cO = true)
    (kcO : PySem.W.keepIn K (.ref cO) = true)
    (nB0 : PySem.W.findIn K (.ref cB) "people" = some none)
    (nB1 : PySem.W.findIn K (.ref cB) "lots" = some none)
    (nB2 : PySem.W.findIn K (.ref cB) "masks" = some none)
    (nO0 : PySem.W.findIn K (.ref cO) "book" = some none)
    (nO1 : PySem.W.findIn K (.ref cO) "order" = some none)
    (nO2 : PySem.W.findIn K (.ref cO) "kept_lasts" = some none)
    (nO3 : PySem.W.findIn K (.ref cO) "bars" = some none)
    (ha : PySem.W.findIn K (.ref cB) "__class__" = some (some (.builtin "object.__class__")))
    (hn : PySem.W.specialIn K (.builtin "object.__class__") "__get__" = some (some (.builtin "getset_descriptor.__get__")))
    (htk : PySem.W.takesIn K (.builtin "object.__class__") = some true)
    (hm : PySem.W.mroIn K cB (.type "object") = some true)
    (m1 : PySem.W.nsIn K mainGlobals "MOST_PEOPLE" = some (some (.int 12 tm1)))
    (m2 : PySem.W.nsIn K mainGlobals "MOST_LOTS" = some (some (.int 60 tm2)))
    (m3 : PySem.W.nsIn K mainGlobals "MOST_LISTED" = some (some (.int 10 tm3)))
    (z_len : PySem.W.nsIn K mainGlobals "len" = some none)
    (z_range : PySem.W.nsIn K mainGlobals "range" = some none)
    (z_isinstance : PySem.W.nsIn K mainGlobals "isinstance" = some none)
    (z_all : PySem.W.nsIn K mainGlobals "all" = some none)
    (z_any : PySem.W.nsIn K mainGlobals "any" = some none)
    (z_sum : PySem.W.nsIn K mainGlobals "sum" = some none)
    (z_max : PySem.W.nsIn K mainGlobals "max" = some none)
    (z_min : PySem.W.nsIn K mainGlobals "min" = some none)
    (z_sorted : PySem.W.nsIn K mainGlobals "sorted" = some none)
    (z_int : PySem.W.nsIn K mainGlobals "int" = some none)
    (z_bool : PySem.W.nsIn K mainGlobals "bool" = some none)
    (z_tuple : PySem.W.nsIn K mainGlobals "tuple" = some none)
    (z_list : PySem.W.nsIn K mainGlobals "list" = some none)
    (z_dict : PySem.W.nsIn K mainGlobals "dict" = some none)
    (z_str : PySem.W.nsIn K mainGlobals "str" = some none)
    (z_set : PySem.W.nsIn K mainGlobals "set" = some none)
    (z_enumerate : PySem.W.nsIn K mainGlobals "enumerate" = some none)
    (z_zip : PySem.W.nsIn K mainGlobals "zip" = some none)
    : ∃ fd : FuncData, (∀ (s : Shared) (v : Value), BindsTo s fd ⟨[v], []⟩ [("_law_script", v)]) ∧ ∀ base : Heap, K.In base → base.Ns mainGlobals mg → FnOk P w K mg base CX0 20 fa fd ["_law_script"] (spLaw K) := by
  have e := hfa.symm.trans (PySem.W.mg_of X G a41)
  cases e
  have B : Bt mg := ⟨PySem.W.mg_none_of X G z_len, PySem.W.mg_none_of X G z_range, PySem.W.mg_none_of X G z_isinstance, PySem.W.mg_none_of X G z_all, PySem.W.mg_none_of X G z_any, PySem.W.mg_none_of X G z_sum, PySem.W.mg_none_of X G z_max, PySem.W.mg_none_of X G z_min, PySem.W.mg_none_of X G z_sorted, PySem.W.mg_none_of X G z_int, PySem.W.mg_none_of X G z_bool, PySem.W.mg_none_of X G z_tuple, PySem.W.mg_none_of X G z_list, PySem.W.mg_none_of X G z_dict, PySem.W.mg_none_of X G z_str, PySem.W.mg_none_of X G z_set, PySem.W.mg_none_of X G z_enumerate, PySem.W.mg_none_of X G z_zip⟩
  have T : ClB K cB := ⟨⟨pgB, hdB, poB, saB⟩, nB0, nB1, nB2⟩
  have TO : ClO K cO := ⟨⟨pgO, hdO, poO, saO⟩, nO0, nO1, nO2, nO3⟩
  have TI : InsB K cB := ⟨ha, hn, htk, hm⟩
  have hBook := PySem.W.mg_of X G aB
  have hMP := PySem.W.mg_of X G m1
  have hML := PySem.W.mg_of X G m2
  have hMD := PySem.W.mg_of X G m3
  have F1 := fun_mk (st := s_is_integer) l1 c1 k1
  have b1 := F1.binds (ps := ["thing"]) fun _ _ _ _ _ _ us hl => match us, hl with | [_], _ => rfl
  have F2 := fun_mk (st := s_l_is_integer) l2 c2 k2
  have b2 := F2.binds (ps := ["_law_thing"]) fun _ _ _ _ _ _ us hl => match us, hl with | [_], _ => rfl
  have F3 := fun_mk (st := s_is_within) l3 c3 k3
  have b3 := F3.binds (ps := ["thing", "least", "most"]) fun _ _ _ _ _ _ us hl => match us, hl with | [_, _, _], _ => rfl
  have F4 := fun_mk (st := s_are_ascending) l4 c4 k4
  have b4 := F4.binds (ps := ["things"]) fun _ _ _ _ _ _ us hl => match us, hl with | [_], _ => rfl
  have F5 := fun_mk (st := s_are_persons) l5 c5 k5
  have b5 := F5.binds (ps := ["people", "thing"]) fun _ _ _ _ _ _ us hl => match us, hl with | [_, _], _ => rfl
  have F6 := fun_mk (st := s_is_crowd) l6 c6 k6
  have b6 := F6.binds (ps := ["people", "thing"]) fun _ _ _ _ _ _ us hl => match us, hl with | [_, _], _ => rfl
  have F7 := fun_mk (st := s_is_lot) l7 c7 k7
  have b7 := F7.binds (ps := ["people", "thing"]) fun _ _ _ _ _ _ us hl => match us, hl with | [_, _], _ => rfl
  have F8 := fun_mk (st := s_is_row) l8 c8 k8
  have b8 := F8.binds (ps := ["people", "thing"]) fun _ _ _ _ _ _ us hl => match us, hl with | [_, _], _ => rfl
  have F9 := fun_mk (st := s_is_order) l9 c9 k9
  have b9 := F9.binds (ps := ["people", "thing"]) fun _ _ _ _ _ _ us hl => match us, hl with | [_, _], _ => rfl
  have F10 := fun_mk (st := s_check_crowd) l10 c10 k10
  have b10 := F10.binds (ps := ["people", "thing"]) fun _ _ _ _ _ _ us hl => match us, hl with | [_, _], _ => rfl
  have F11 := fun_mk (st := s_check_many) l11 c11 k11
  have b11 := F11.binds (ps := ["number", "most"]) fun _ _ _ _ _ _ us hl => match us, hl with | [_, _], _ => rfl
  have F12 := fun_mk (st := s_bits_of) l12 c12 k12
  have b12 := F12.binds (ps := ["crowd"]) fun _ _ _ _ _ _ us hl => match us, hl with | [_], _ => rfl
  have F13 := fun_mk (st := s_crowd_of) l13 c13 k13
  have b13 := F13.binds (ps := ["bits"]) fun _ _ _ _ _ _ us hl => match us, hl with | [_], _ => rfl
  have F14 := fun_mk (st := s_holds) l14 c14 k14
  have b14 := F14.binds (ps := ["bits", "some"]) fun _ _ _ _ _ _ us hl => match us, hl with | [_, _], _ => rfl
  have F15 := fun_mk (st := s_crowds_of_size) l15 c15 k15
  have b15 := F15.binds (ps := ["people", "size"]) fun _ _ _ _ _ _ us hl => match us, hl with | [_, _], _ => rfl
  have F16 := fun_mk (st := s_crowds_by_size) l16 c16 k16
  have b16 := F16.binds (ps := ["people"]) fun _ _ _ _ _ _ us hl => match us, hl with | [_], _ => rfl
  have F17 := fun_mk (st := s_first_wrong_lot) l17 c17 k17
  have b17 := F17.binds (ps := ["people", "lots"]) fun _ _ _ _ _ _ us hl => match us, hl with | [_, _], _ => rfl
  have F18 := fun_mk (st := s_Book_keep) l18 c18 k18
  have b18 := F18.binds (ps := ["self", "people", "lots"]) fun _ _ _ _ _ _ us hl => match us, hl with | [_, _, _], _ => rfl
  have F19 := fun_mk (st := s_Book_init) l19 c19 k19
  have b19 := F19.binds (ps := ["self", "people", "lots"]) fun _ _ _ _ _ _ us hl => match us, hl with | [_, _, _], _ => rfl
  have F20 := fun_mk (st := s_lasts_in) l20 c20 k20
  have b20 := F20.binds (ps := ["book", "order"]) fun _ _ _ _ _ _ us hl => match us, hl with | [_, _], _ => rfl
  have F21 := fun_mk (st := s_Office_init) l21 c21 k21
  have b21 := F21.binds (ps := ["self", "book", "order"]) fun _ _ _ _ _ _ us hl => match us, hl with | [_, _, _], _ => rfl
  have F22 := fun_mk (st := s_is_barred) l22 c22 k22
  have b22 := F22.binds (ps := ["office", "inside", "person"]) fun _ _ _ _ _ _ us hl => match us, hl with | [_, _, _], _ => rfl
  have F23 := fun_mk (st := s_in_bits) l23 c23 k23
  have b23 := F23.binds (ps := ["office", "bits"]) fun _ _ _ _ _ _ us hl => match us, hl with | [_, _], _ => rfl
  have F24 := fun_mk (st := s_let_in) l24 c24 k24
  have b24 := F24.binds (ps := ["office", "crowd"]) fun _ _ _ _ _ _ us hl => match us, hl with | [_, _], _ => rfl
  have F25 := fun_mk (st := s_outcomes) l25 c25 k25
  have b25 := F25.binds (ps := ["office"]) fun _ _ _ _ _ _ us hl => match us, hl with | [_], _ => rfl
  have F26 := fun_mk (st := s_l_source) l26 c26 k26
  have b26 := F26.binds (ps := ["_law_script", "_law_k"]) fun _ _ _ _ _ _ us hl => match us, hl with | [_, _], _ => rfl
  have F27 := fun_mk (st := s_l_draw) l27 c27 k27
  have b27 := F27.binds (ps := ["_law_source_here", "_law_many"]) fun _ _ _ _ _ _ us hl => match us, hl with | [_, _], _ => rfl
  have F28 := fun_mk (st := s_l_perm) l28 c28 k28
  have b28 := F28.binds (ps := ["_law_source_here", "_law_many"]) fun _ _ _ _ _ _ us hl => match us, hl with | [_, _], _ => rfl
  have F29 := fun_mk (st := s_l_within) l29 c29 k29
  have b29 := F29.binds (ps := ["_law_part", "_law_whole"]) fun _ _ _ _ _ _ us hl => match us, hl with | [_, _], _ => rfl
  have F30 := fun_mk (st := s_l_last) l30 c30 k30
  have b30 := F30.binds (ps := ["_law_order", "_law_lot"]) fun _ _ _ _ _ _ us hl => match us, hl with | [_, _], _ => rfl
  have F31 := fun_mk (st := s_l_crowd) l31 c31 k31
  have b31 := F31.binds (ps := ["_law_source_here", "_law_people_here"]) fun _ _ _ _ _ _ us hl => match us, hl with | [_, _], _ => rfl
  have F32 := fun_mk (st := s_l_people) l32 c32 k32
  have b32 := F32.binds (ps := ["_law_source_here", "_law_most"]) fun _ _ _ _ _ _ us hl => match us, hl with | [_, _], _ => rfl
  have F33 := fun_mk (st := s_l_heap) l33 c33 k33
  have b33 := F33.binds (ps := ["_law_source_here", "_law_people_here", "_law_size"]) fun _ _ _ _ _ _ us hl => match us, hl with | [_, _, _], _ => rfl
  have F34 := fun_mk (st := s_l_heaps) l34 c34 k34
  have b34 := F34.binds (ps := ["_law_source_here", "_law_people_here", "_law_many"]) fun _ _ _ _ _ _ us hl => match us, hl with | [_, _, _], _ => rfl
  have F35 := fun_mk (st := s_l_least) l35 c35 k35
  have b35 := F35.binds (ps := ["_law_heaps_here"]) fun _ _ _ _ _ _ us hl => match us, hl with | [_], _ => rfl
  have F36 := fun_mk (st := s_l_lots) l36 c36 k36
  have b36 := F36.binds (ps := ["_law_source_here", "_law_people_here", "_law_most"]) fun _ _ _ _ _ _ us hl => match us, hl with | [_, _, _], _ => rfl
  have F37 := fun_mk (st := s_l_all_crowds) l37 c37 k37
  have b37 := F37.binds (ps := ["_law_people_here"]) fun _ _ _ _ _ _ us hl => match us, hl with | [_], _ => rfl
  have F38 := fun_mk (st := s_l_others) l38 c38 k38
  have b38 := F38.binds (ps := ["_law_lots_here", "_law_order"]) fun _ _ _ _ _ _ us hl => match us, hl with | [_, _], _ => rfl
  have F39 := fun_mk (st := s_l_let) l39 c39 k39
  have b39 := F39.binds (ps := ["_law_others_here", "_law_order", "_law_crowd_here"]) fun _ _ _ _ _ _ us hl => match us, hl with | [_, _, _], _ => rfl
  have F40 := fun_mk (st := s_l_same) l40 c40 k40
  have b40 := F40.binds (ps := ["_law_told", "_law_due"]) fun _ _ _ _ _ _ us hl => match us, hl with | [_, _], _ => rfl
  have F41 := fun_mk (st := s_law) l41 c41 k41
  have b41 := F41.binds (ps := ["_law_script"]) fun _ _ _ _ _ _ us hl => match us, hl with | [_], _ => rfl
  have mK : Meth K cB "keep" f18 := ⟨a18, i18, k18⟩
  have bK := b18
  refine ⟨PySem.W.fnOf "law" "law" (defArgs s_law) (defBody s_law) (defScope s_law) .none kV41 dc41 pm41 an41 cd41 ct41, ?_, fun base _ _ => ?_⟩
  · exact fun s v => .of_eq rfl
  have C_is_integer := calOf (ok_is_integer (P := P) (w := w) (base := base) F1 (B := B)) (PySem.W.mg_of X G a1) k1 b1
  have C_l_is_integer := calOf (ok_l_is_integer (P := P) (w := w) (base := base) F2 (B := B)) (PySem.W.mg_of X G a2) k2 b2
  have C_is_within := calOf (ok_is_within (P := P) (w := w) (base := base) F3 (C_is_integer := C_is_integer)) (PySem.W.mg_of X G a3) k3 b3
  have C_are_ascending := calOf (ok_are_ascending (P := P) (w := w) (base := base) F4 (B := B)) (PySem.W.mg_of X G a4) k4 b4
  have C_are_persons := calOf (ok_are_persons (P := P) (w := w) (base := base) F5 (B := B) (C_is_within := C_is_within)) (PySem.W.mg_of X G a5) k5 b5
  have C_is_crowd := calOf (ok_is_crowd (P := P) (w := w) (base := base) F6 (C_are_persons := C_are_persons) (C_are_ascending := C_are_ascending)) (PySem.W.mg_of X G a6) k6 b6
  have C_is_lot := calOf (ok_is_lot (P := P) (w := w) (base := base) F7 (B := B) (C_is_crowd := C_is_crowd)) (PySem.W.mg_of X G a7) k7 b7
  have C_is_row := calOf (ok_is_row (P := P) (w := w) (base := base) F8 (B := B) (C_are_persons := C_are_persons)) (PySem.W.mg_of X G a8) k8 b8
  have C_is_order := calOf (ok_is_order (P := P) (w := w) (base := base) F9 (B := B) (C_is_row := C_is_row)) (PySem.W.mg_of X G a9) k9 b9
  have C_check_crowd := calOf (ok_check_crowd (P := P) (w := w) (base := base) F10 (C_is_crowd := C_is_crowd)) (PySem.W.mg_of X G a10) k10 b10
  have C_check_many := calOf (ok_check_many (P := P) (w := w) (base := base) F11 ) (PySem.W.mg_of X G a11) k11 b11
  have C_bits_of := calOf (ok_bits_of (P := P) (w := w) (base := base) F12 (B := B)) (PySem.W.mg_of X G a12) k12 b12
  have C_crowd_of := calOf (ok_crowd_of (P := P) (w := w) (base := base) F13 (B := B)) (PySem.W.mg_of X G a13) k13 b13
  have C_holds := calOf (ok_holds (P := P) (w := w) (base := base) F14 ) (PySem.W.mg_of X G a14) k14 b14
  have C_crowds_of_size := calOf (ok_crowds_of_size (P := P) (w := w) (base := base) F15 (B := B)) (PySem.W.mg_of X G a15) k15 b15
  have C_crowds_by_size := calOf (ok_crowds_by_size (P := P) (w := w) (base := base) F16 (B := B) (C_crowds_of_size := C_crowds_of_size)) (PySem.W.mg_of X G a16) k16 b16
  have C_first_wrong_lot := calOf (ok_first_wrong_lot (P := P) (w := w) (base := base) F17 (B := B) (C_is_lot := C_is_lot) (C_bits_of := C_bits_of) (C_holds := C_holds)) (PySem.W.mg_of X G a17) k17 b17
  have K_keep := ok_keep (P := P) (w := w) (base := base) F18 (T := T) (C_bits_of := C_bits_of)
  have MBook : CalC P w K mg base "Book" cB 7 ["self", "people", "lots"] (spBook cB) := ⟨f19, _, ⟨mkB, a19, i19, kcB⟩, ok_Book (P := P) (w := w) (base := base) F19 (B := B) (T := T) (mK := mK) (K_keep := K_keep) (bK := bK) (hMP := hMP) (hML := hML) (C_is_within := C_is_within) (C_first_wrong_lot := C_first_wrong_lot), hBook, b19⟩
  have C_lasts_in := calOf (ok_lasts_in (P := P) (w := w) (base := base) F20 (B := B) (T := T)) (PySem.W.mg_of X G a20) k20 b20
  have MOffice : CalC P w K mg base "Office" cO 6 ["self", "book", "order"] (spOffice cB cO) := ⟨f21, _, ⟨mkO, a21, i21, kcO⟩, ok_Office (P := P) (w := w) (base := base) F21 (B := B) (T := T) (TO := TO) (TI := TI) (hBook := hBook) (C_is_order := C_is_order) (C_lasts_in := C_lasts_in) (cB := cB), PySem.W.mg_of X G aO, b21⟩
  have C_is_barred := calOf (ok_is_barred (P := P) (w := w) (base := base) F22 (B := B) (TO := TO) (C_holds := C_holds) (cB := cB)) (PySem.W.mg_of X G a22) k22 b22
  have C_in_bits := calOf (ok_in_bits (P := P) (w := w) (base := base) F23 (TO := TO) (C_is_barred := C_is_barred) (cB := cB)) (PySem.W.mg_of X G a23) k23 b23
  have C_let_in := calOf (ok_let_in (P := P) (w := w) (base := base) F24 (T := T) (TO := TO) (C_check_crowd := C_check_crowd) (C_crowd_of := C_crowd_of) (C_in_bits := C_in_bits) (C_bits_of := C_bits_of) (cB := cB)) (PySem.W.mg_of X G a24) k24 b24
  have C_outcomes := calOf (ok_outcomes (P := P) (w := w) (base := base) F25 (T := T) (TO := TO) (hMD := hMD) (C_check_many := C_check_many) (C_crowd_of := C_crowd_of) (C_in_bits := C_in_bits) (C_crowds_by_size := C_crowds_by_size) (cB := cB)) (PySem.W.mg_of X G a25) k25 b25
  have C_l_source := calOf (ok_source (P := P) (w := w) (base := base) F26 (B := B)) (PySem.W.mg_of X G a26) k26 b26
  have C_l_draw := calOf (ok_draw (P := P) (w := w) (base := base) F27 (B := B)) (PySem.W.mg_of X G a27) k27 b27
  have C_l_perm := calOf (ok_perm (P := P) (w := w) (base := base) F28 (B := B) (C_l_draw := C_l_draw)) (PySem.W.mg_of X G a28) k28 b28
  have C_l_within := calOf (ok_within (P := P) (w := w) (base := base) F29 (B := B)) (PySem.W.mg_of X G a29) k29 b29
  have C_l_withinL := calOf (ok_withinL (P := P) (w := w) (base := base) F29 (B := B)) (PySem.W.mg_of X G a29) k29 b29
  have C_l_last := calOf (ok_last (P := P) (w := w) (base := base) F30 (B := B)) (PySem.W.mg_of X G a30) k30 b30
  have C_l_crowd := calOf (ok_crowd (P := P) (w := w) (base := base) F31 (B := B) (C_l_draw := C_l_draw)) (PySem.W.mg_of X G a31) k31 b31
  have C_l_people := calOf (ok_people (P := P) (w := w) (base := base) F32 (B := B) (C_l_draw := C_l_draw)) (PySem.W.mg_of X G a32) k32 b32
  have C_l_heap := calOf (ok_heap (P := P) (w := w) (base := base) F33 (B := B) (C_l_perm := C_l_perm)) (PySem.W.mg_of X G a33) k33 b33
  have C_l_heaps := calOf (ok_heaps (P := P) (w := w) (base := base) F34 (B := B) (C_l_draw := C_l_draw) (C_l_heap := C_l_heap)) (PySem.W.mg_of X G a34) k34 b34
  have C_l_least := calOf (ok_least (P := P) (w := w) (base := base) F35 (B := B) (C_l_within := C_l_within)) (PySem.W.mg_of X G a35) k35 b35
  have C_l_lots := calOf (ok_lots (P := P) (w := w) (base := base) F36 (B := B) (C_l_draw := C_l_draw) (C_l_heaps := C_l_heaps) (C_l_least := C_l_least)) (PySem.W.mg_of X G a36) k36 b36
  have C_l_all_crowds := calOf (ok_all_crowds (P := P) (w := w) (base := base) F37 (B := B)) (PySem.W.mg_of X G a37) k37 b37
  have C_l_others := calOf (ok_others (P := P) (w := w) (base := base) F38 (B := B) (C_l_last := C_l_last)) (PySem.W.mg_of X G a38) k38 b38
  have C_l_let := calOf (ok_let (P := P) (w := w) (base := base) F39 (B := B) (C_l_withinL := C_l_withinL)) (PySem.W.mg_of X G a39) k39 b39
  have C_same0 := calOf (ok_same0 (P := P) (w := w) (base := base) F40 ) (PySem.W.mg_of X G a40) k40 b40
  have C_sameI := calOf (ok_sameI (P := P) (w := w) (base := base) F40 (B := B) (C_l_same := C_same0) (C_l_is_integer := C_l_is_integer)) (PySem.W.mg_of X G a40) k40 b40
  have C_sameT := calOf (ok_sameT (P := P) (w := w) (base := base) F40 (B := B) (C_l_same := C_sameI) (C_l_is_integer := C_l_is_integer)) (PySem.W.mg_of X G a40) k40 b40
  have C_sameD := calOf (ok_sameD (P := P) (w := w) (base := base) F40 (B := B) (C_l_same := C_sameT) (C_l_is_integer := C_l_is_integer)) (PySem.W.mg_of X G a40) k40 b40
  exact ok_law (P := P) (w := w) (base := base) F41 (B := B) (MBook := MBook) (MOffice := MOffice) (C_l_source := C_l_source) (C_l_people := C_l_people) (C_l_draw := C_l_draw) (C_l_lots := C_l_lots) (C_l_perm := C_l_perm) (C_l_others := C_l_others) (C_l_all_crowds := C_l_all_crowds) (C_l_let := C_l_let) (C_outcomes := C_outcomes) (C_l_same := C_sameD) (C_l_crowd := C_l_crowd) (C_let_in := C_let_in) (cB := cB)
end LL
set_option Elab.async false
set_option maxRecDepth 100000
open PySem PySem.W PyProof.Rows
set_option maxRecDepth 100000 in
set_option maxHeartbeats 0 in
theorem PySem.Challenge.cw_lastoflot_k12_whole_outcomes_of_all_crow_holds : PySem.Challenge.rw_lastoflot_k12_whole_outcomes_of_all_crow.Holds := by
  w_on; o_law; k_head; (case hw => w_witness2)
  k_fill
  refine L2.walk_of (l := PySem.Challenge.rw_lastoflot_k12_whole_outcomes_of_all_crow) (n := 63) (k := 20) (x := "_law_script") (CX := fun _ => L2.CX0) (sp := fun w => LL.spLaw _) rfl (by decide) rfl ⟨rfl, by decide, by decide⟩ (fun w h Y => PySem.W.kIn_of Y) ?F (fun _ _ a ns hl _ hS => ⟨a, ns, rfl, hS, hl, fun _ => rfl⟩) (fun _ _ _ _ _ h => h)
  case F =>
    intro w mg fa h KX G hmg
    refine' LL.all_mk KX G hmg ?aB ?aO ?a1 ?l1 ?c1 ?k1 ?a2 ?l2 ?c2 ?k2 ?a3 ?l3 ?c3 ?k3 ?a4 ?l4 ?c4 ?k4 ?a5 ?l5 ?c5 ?k5 ?a6 ?l6 ?c6 ?k6 ?a7 ?l7 ?c7 ?k7 ?a8 ?l8 ?c8 ?k8 ?a9 ?l9 ?c9 ?k9 ?a10 ?l10 ?c10 ?k10 ?a11 ?l11 ?c11 ?k11 ?a12 ?l12 ?c12 ?k12 ?a13 ?l13 ?c13 ?k13 ?a14 ?l14 ?c14 ?k14 ?a15 ?l15 ?c15 ?k15 ?a16 ?l16 ?c16 ?k16 ?a17 ?l17 ?c17 ?k17 ?a18 ?i18 ?l18 ?c18 ?k18 ?a19 ?i19 ?l19 ?c19 ?k19 ?a20 ?l20 ?c20 ?k20 ?a21 ?i21 ?l21 ?c21 ?k21 ?a22 ?l22 ?c22 ?k22 ?a23 ?l23 ?c23 ?k23 ?a24 ?l24 ?c24 ?k24 ?a25 ?l25 ?c25 ?k25 ?a26 ?l26 ?c26 ?k26 ?a27 ?l27 ?c27 ?k27 ?a28 ?l28 ?c28 ?k28 ?a29 ?l29 ?c29 ?k29 ?a30 ?l30 ?c30 ?k30 ?a31 ?l31 ?c31 ?k31 ?a32 ?l32 ?c32 ?k32 ?a33 ?l33 ?c33 ?k33 ?a34 ?l34 ?c34 ?k34 ?a35 ?l35 ?c35 ?k35 ?a36 ?l36 ?c36 ?k36 ?a37 ?l37 ?c37 ?k37 ?a38 ?l38 ?c38 ?k38 ?a39 ?l39 ?c39 ?k39 ?a40 ?l40 ?c40 ?k40 ?a41 ?l41 ?c41 ?k41 ?pgB ?hdB ?poB ?saB ?mkB ?kcB ?pgO ?hdO ?poO ?saO ?mkO ?kcO ?nB0 ?nB1 ?nB2 ?nO0 ?nO1 ?nO2 ?nO3 ?ha ?hn ?htk ?hm ?m1 ?m2 ?m3 ?z_len ?z_range ?z_isinstance ?z_all ?z_any ?z_sum ?z_max ?z_min ?z_sorted ?z_int ?z_bool ?z_tuple ?z_list ?z_dict ?z_str ?z_set ?z_enumerate ?z_zip
    (case aB => k_is)
    (case aO => k_is)
    (case a1 => k_is)
    (case l1 => k_is)
    (case c1 => k_is)
    (case k1 => k_is)
    (case a2 => k_is)
    (case l2 => k_is)
    (case c2 => k_is)
    (case k2 => k_is)
    (case a3 => k_is)
    (case l3 => k_is)
    (case c3 => k_is)
    (case k3 => k_is)
    (case a4 => k_is)
    (case l4 => k_is)
    (case c4 => k_is)
    (case k4 => k_is)
    (case a5 => k_is)
    (case l5 => k_is)
    (case c5 => k_is)
    (case k5 => k_is)
    (case a6 => k_is)
    (case l6 => k_is)
    (case c6 => k_is)
    (case k6 => k_is)
    (case a7 => k_is)
    (case l7 => k_is)
    (case c7 => k_is)
    (case k7 => k_is)
    (case a8 => k_is)
    (case l8 => k_is)
    (case c8 => k_is)
    (case k8 => k_is)
    (case a9 => k_is)
    (case l9 => k_is)
    (case c9 => k_is)
    (case k9 => k_is)
    (case a10 => k_is)
    (case l10 => k_is)
    (case c10 => k_is)
    (case k10 => k_is)
    (case a11 => k_is)
    (case l11 => k_is)
    (case c11 => k_is)
    (case k11 => k_is)
    (case a12 => k_is)
    (case l12 => k_is)
    (case c12 => k_is)
    (case k12 => k_is)
    (case a13 => k_is)
    (case l13 => k_is)
    (case c13 => k_is)
    (case k13 => k_is)
    (case a14 => k_is)
    (case l14 => k_is)
    (case c14 => k_is)
    (case k14 => k_is)
    (case a15 => k_is)
    (case l15 => k_is)
    (case c15 => k_is)
    (case k15 => k_is)
    (case a16 => k_is)
    (case l16 => k_is)
    (case c16 => k_is)
    (case k16 => k_is)
    (case a17 => k_is)
    (case l17 => k_is)
    (case c17 => k_is)
    (case k17 => k_is)
    (case a18 => k_is)
    (case i18 => k_is)
    (case l18 => k_is)
    (case c18 => k_is)
    (case k18 => k_is)
    (case a19 => k_is)
    (case i19 => k_is)
    (case l19 => k_is)
    (case c19 => k_is)
    (case k19 => k_is)
    (case a20 => k_is)
    (case l20 => k_is)
    (case c20 => k_is)
    (case k20 => k_is)
    (case a21 => k_is)
    (case i21 => k_is)
    (case l21 => k_is)
    (case c21 => k_is)
    (case k21 => k_is)
    (case a22 => k_is)
    (case l22 => k_is)
    (case c22 => k_is)
    (case k22 => k_is)
    (case a23 => k_is)
    (case l23 => k_is)
    (case c23 => k_is)
    (case k23 => k_is)
    (case a24 => k_is)
    (case l24 => k_is)
    (case c24 => k_is)
    (case k24 => k_is)
    (case a25 => k_is)
    (case l25 => k_is)
    (case c25 => k_is)
    (case k25 => k_is)
    (case a26 => k_is)
    (case l26 => k_is)
    (case c26 => k_is)
    (case k26 => k_is)
    (case a27 => k_is)
    (case l27 => k_is)
    (case c27 => k_is)
    (case k27 => k_is)
    (case a28 => k_is)
    (case l28 => k_is)
    (case c28 => k_is)
    (case k28 => k_is)
    (case a29 => k_is)
    (case l29 => k_is)
    (case c29 => k_is)
    (case k29 => k_is)
    (case a30 => k_is)
    (case l30 => k_is)
    (case c30 => k_is)
    (case k30 => k_is)
    (case a31 => k_is)
    (case l31 => k_is)
    (case c31 => k_is)
    (case k31 => k_is)
    (case a32 => k_is)
    (case l32 => k_is)
    (case c32 => k_is)
    (case k32 => k_is)
    (case a33 => k_is)
    (case l33 => k_is)
    (case c33 => k_is)
    (case k33 => k_is)
    (case a34 => k_is)
    (case l34 => k_is)
    (case c34 => k_is)
    (case k34 => k_is)
    (case a35 => k_is)
    (case l35 => k_is)
    (case c35 => k_is)
    (case k35 => k_is)
    (case a36 => k_is)
    (case l36 => k_is)
    (case c36 => k_is)
    (case k36 => k_is)
    (case a37 => k_is)
    (case l37 => k_is)
    (case c37 => k_is)
    (case k37 => k_is)
    (case a38 => k_is)
    (case l38 => k_is)
    (case c38 => k_is)
    (case k38 => k_is)
    (case a39 => k_is)
    (case l39 => k_is)
    (case c39 => k_is)
    (case k39 => k_is)
    (case a40 => k_is)
    (case l40 => k_is)
    (case c40 => k_is)
    (case k40 => k_is)
    (case a41 => k_is)
    (case l41 => k_is)
    (case c41 => k_is)
    (case k41 => k_is)
    (case pgB => k_is)
    (case hdB => k_is)
    (case poB => k_is)
    (case saB => k_is)
    (case mkB => k_is)
    (case kcB => k_is)
    (case pgO => k_is)
    (case hdO => k_is)
    (case poO => k_is)
    (case saO => k_is)
    (case mkO => k_is)
    (case kcO => k_is)
    (case nB0 => k_is)
    (case nB1 => k_is)
    (case nB2 => k_is)
    (case nO0 => k_is)
    (case nO1 => k_is)
    (case nO2 => k_is)
    (case nO3 => k_is)
    (case ha => k_is)
    (case hn => k_is)
    (case htk => k_is)
    (case hm => k_is)
    (case m1 => k_is)
    (case m2 => k_is)
    (case m3 => k_is)
    (case z_len => k_is)
    (case z_range => k_is)
    (case z_isinstance => k_is)
    (case z_all => k_is)
    (case z_any => k_is)
    (case z_sum => k_is)
    (case z_max => k_is)
    (case z_min => k_is)
    (case z_sorted => k_is)
    (case z_int => k_is)
    (case z_bool => k_is)
    (case z_tuple => k_is)
    (case z_list => k_is)
    (case z_dict => k_is)
    (case z_str => k_is)
    (case z_set => k_is)
    (case z_enumerate => k_is)
    (case z_zip => k_is)
