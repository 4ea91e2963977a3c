import PyProof.Rows.All
import Wide.All
import OpenK.AllK
import Wide.FinOn
import KE.SortKeyHeap
import KE.KDictSum
import HandS.ForMost
import HandS.Conv
import HandS.SortKw
import PyProof.SumAny
import PyProof.DictMoreH
import KE.KDictDisplayH
import KE.KEqDict
import HandS.SetKeys
import HandS.Set
import HandS.SetFor
import HandS.Walk
import HandS.FStr
import HandS.Text
import HandS.Replace
import HandS.Deep
import HandS.TupAny
import HandS.TupLen
import HandS.DictComp
import HandS.More
import PyProof.LongRange
import PySem.Challenge.RW_pageback_k26_whole_lines_read_back
set_option Elab.async false
set_option linter.all false
set_option maxRecDepth 100000
set_option maxHeartbeats 4000000
/-! PbSort: sorted(x, key=f), f a def of the program whose answers hold lists that it makes -/
namespace PB
open PySem PySem.Spec PyProof.Rows L2

theorem sameT {K : PySem.W.Frag} {H H' : Hp} {a : Addr} {xs : List V} (e : Same H H') (h : SqT K H a xs) : SqT K H' a xs := by
  rcases h with (h | ⟨o, h⟩) | h
  · exact .inl (.inl (e _ _ h))
  · exact .inl (.inr ⟨o, e _ _ h⟩)
  · exact .inr h

mutual
theorem dpSame {K : PySem.W.Frag} {H H' : Hp} (e : Same H H') : ∀ (d : PyData) (v : V), Dp K H v d → Dp K H' v d
  | .none, _, h => by cases h; exact .non
  | .bool b, _, h => by cases h; exact .bl b
  | .int i, _, h => by cases h; exact .int i
  | .str x, _, h => by cases h; exact .str x
  | .list ds, _, h => by
    cases h with
    | lst hs ha => exact .lst (e.seq hs) (dpSameAll e ds _ ha)
  | .tuple ds, _, h => by
    cases h with
    | tup hs ha => exact .tup (sameT e hs) (dpSameAll e ds _ ha)
  | .dict _, _, h => by cases h
theorem dpSameAll {K : PySem.W.Frag} {H H' : Hp} (e : Same H H') : ∀ (ds : List PyData) (vs : List V), DpAll K H vs ds → DpAll K H' vs ds
  | [], _, h => by cases h; exact .nil
  | d :: ds, _, h => by
    cases h with
    | cons h1 h2 => exact .cons (dpSame e d _ h1) (dpSameAll e ds _ h2)
end
theorem dpAll_snoc {K : PySem.W.Frag} {H : Hp} {v : V} {d : PyData} (hd : Dp K H v d) : ∀ {vs : List V} {ds : List PyData}, DpAll K H vs ds → DpAll K H (vs ++ [v]) (ds ++ [d])
  | _, _, .nil => .cons hd .nil
  | _, _, .cons h t => .cons h (dpAll_snoc hd t)
theorem each_reads {X : Cx} {pins : List (Addr × Obj)} {σ : L2.St} {H : Hp} {s : Shared} (I : Inv X pins σ H s) : ∀ {vs : List V} {us : List Value} {ds : List PyData}, Vals vs us → DpAll X.K H vs ds →
    PySem.W.EachIs (fun u d => ∃ as, Reads s.heap u d as) us ds
  | _, _, _, .nil, h => by cases h; exact .nil
  | _, _, _, .cons r t, h => by
    cases h with
    | cons h1 h2 => exact .cons (Dp.reads I _ _ _ h1 r) (each_reads I t h2)

/-- what is fixed of an address that a built-in works at: nobody else's -/
structure Mine (X : Cx) (pins : List (Addr × Obj)) (b : Addr) : Prop where
  nl : b ≠ X.env.locals
  nf : b ∉ X.fs
  yo : b ∈ X.ex ∨ X.s_0.heap.objs.size ≤ b
  nc : ∀ x c, X.env.cells.lookup x = some c → c ≠ b
  np : ∀ p ∈ X.pn ++ pins, p.1 ≠ b
theorem mine_of {X : Cx} {pins : List (Addr × Obj)} {σ : L2.St} {H : Hp} {s : Shared} {b : Addr} (I : Inv X pins σ H s) (hb : s.heap.objs.size ≤ b) : Mine X pins b := by
  obtain ⟨_, f1, f2, f3, f4, f5⟩ := I.fpOk (H' := fun _ => none) hb rfl
  exact ⟨f1, f2, f3, f4, f5⟩

section
variable {X : Cx} {pins : List (Addr × Obj)} {σ : L2.St} {H : Hp} {s : Shared}
/-- two records of the sort are pinned -/
theorem pin2 {k a : Addr} {ok oa : Obj} (I : Inv X pins σ H s) (mk : Mine X pins k) (ma : Mine X pins a) (hk : s.heap.get? k = some ok) (ha : s.heap.get? a = some oa) (nk : H k = none) (na : H a = none)
    (dk : ∀ v, ok.data ≠ .cell v) (da : ∀ v, oa.data ≠ .cell v) : Inv X (pins ++ [(k, ok), (a, oa)]) σ H s :=
  I.pins_of fun p hp => by
    rcases List.mem_append.mp hp with hp | hp
    · exact I.pin p (List.mem_append_right _ hp)
    · rcases List.mem_cons.mp hp with rfl | hp
      · exact ⟨hk, nk, mk.nl, mk.nf, dk⟩
      · rw [List.mem_singleton.mp hp]
        exact ⟨ha, na, ma.nl, ma.nf, da⟩
theorem unpin {pl : List (Addr × Obj)} (I : Inv X (pins ++ pl) σ H s) : Inv X pins σ H s := I.unpinned

/-- a call of the key's def on one item, wherever what was tracked at H still stands -/
def KeyTurn (X : Cx) (B : Around) (σ : L2.St) (H : Hp) (f : Value) (xs : List V) (ds : List PyData) : Prop :=
  ∀ (i : Nat) (x : V) (d : PyData) (u : Value) (pn : List (Addr × Obj)) (s' : Shared) (H' : Hp), xs[i]? = some x → ds[i]? = some d → RelV x u → Inv X pn σ H' s' → Same H H' →
    wpAny (model X.prog X.w) B (call f [u]) (EP X pn σ fun v H'' => Same H' H'' ∧ Dp X.K H'' v d) (fun _ _ => False) s'

/-- xs in the order of their keys ds -/
def InOrder (xs : List V) (ds : List PyData) (zs : List (V × PyData)) : Prop := zs.Perm (xs.zip ds) ∧ zs.Pairwise fun p q => PySem.W.dataLt q.2 p.2 = false

theorem each_fst : ∀ {us : List Value} {zs : List (V × PyData)}, PySem.W.EachIs (fun u z => RelV z.1 u) us zs → Vals (zs.map (·.1)) us
  | _, _, .nil => .nil
  | _, _, .cons h t => .cons h (each_fst t)
theorem each_zip : ∀ {xs : List V} {us : List Value} {ds : List PyData}, Vals xs us → xs.length = ds.length → PySem.W.EachIs (fun u (z : V × PyData) => RelV z.1 u) us (xs.zip ds)
  | _, _, [], .nil, _ => .nil
  | _, _, _ :: _, .nil, h => by simp at h
  | _, _, [], .cons _ _, h => by simp at h
  | _, _, _ :: _, .cons r t, h => .cons r (each_zip t (by simpa using h))
theorem zip_snd : ∀ {xs : List V} {ds : List PyData}, xs.length = ds.length → (xs.zip ds).map (·.2) = ds
  | [], [], _ => rfl
  | [], _ :: _, h => by simp at h
  | _ :: _, [], h => by simp at h
  | x :: xs, d :: ds, h => by
    rw [List.zip_cons_cons, List.map_cons, zip_snd (by simpa using h)]

theorem sort_end {f : Value} {B : Around} {vs : List Value} {xs : List V} {ds : List PyData} {kS a : Addr} {kA : Array Value} {kv : List V} {e e1 : Nat} {P : PySem.Fin → Shared → Prop} {E : Value → Shared → Prop} {H' : Hp}
    (I : Inv X (pins ++ [(kS, seqObj "list" kA e), (a, seqObj "list" #[] e1)]) σ H' s) (mk : Mine X pins kS) (ma : Mine X pins a) (hka : kS ≠ a) (rv : Vals xs vs) (rk : Vals kv kA.toList) (hd : DpAll X.K H' kv ds)
    (hl : xs.length = ds.length) (hZ : xs.length ≤ sizeLine) (hal : PySem.W.AllAlike ds) (hsk : PySem.W.Sortable ds) (hu : ∀ d, d ∈ ds → B.units + d.depth < cLine)
    (h : ∀ zs s', InOrder xs ds zs → H' a = none → Inv X pins σ (upd H' a (.lst (zs.map (·.1)))) s' → P (.done (.ret .none)) s') :
    wpAny (model X.prog X.w) B (PyProof.Rows.ksk_end a false vs.toArray e1 (.ref kS) kA) P E s := by
  obtain ⟨nk, nkH, _⟩ := I.pin (kS, seqObj "list" kA e) (by simp)
  obtain ⟨na, naH, _⟩ := I.pin (a, seqObj "list" #[] e1) (by simp)
  have er := each_reads I rk hd
  have hlen : kA.toList.length = ds.length := er.length
  have hvl : vs.length = xs.length := rv.length.symm
  have I0 : Inv X pins σ H' s := unpin I
  refine PySem.W.keyH_end (κ := PySem.W.dataKind s.heap ds) (h₁ := PySem.W.hideAll s.heap [kS]) (fun b o _ q => PySem.W.of_hideAll [kS] q) (PySem.W.hideAll_none [kS] (List.mem_singleton.mpr rfl)) nk na hka
    (PySem.W.SortsAt.data er hal hsk hu) (by rw [← Array.length_toList, hlen, hvl, hl]) (by rw [hvl]; exact hZ) fun h3 tk c k3 n3 => ?_
  have kept : ∀ b o, b ≠ a → b ≠ kS → s.heap.get? b = some o → h3.get? b = some o := fun b o h1 h2 q => k3 b o h1 (PySem.W.hideAll_get [kS] q fun z => h2 (List.mem_singleton.mp z))
  have ko : PySem.W.KeyedOut false ((xs.zip ds).map (·.2)) vs (PySem.W.sortVals (PySem.W.dataKind s.heap ds) false kA.toList vs) := by
    rw [zip_snd hl]
    exact ⟨s.heap, kA.toList, hal, rfl, er⟩
  have eo := PySem.W.keyedOut_each (R := fun u (z : V × PyData) => RelV z.1 u) (bs := xs.zip ds) (fun z => z.2) ko (each_zip rv hl)
  have rv' := each_fst eo
  have ord : InOrder xs ds ((xs.zip ds).mergeSort (PySem.W.dataLe false fun z => z.2)) := by
    refine ⟨List.mergeSort_perm _ _, (PySem.W.sort_pairwise (PySem.W.sortLe_total _ _ _) (xs.zip ds)).imp fun {p q} w => ?_⟩
    have w' : (!PySem.W.dataLt q.2 p.2) = true := w
    simpa using w'
  have hz : (((xs.zip ds).mergeSort (PySem.W.dataLe false fun z => z.2)).map (·.1)).length ≤ sizeLine := by
    rw [List.length_map, List.length_mergeSort, List.length_zip, ← hl, Nat.min_self]
    exact hZ
  have noA : ∀ b u, H' b = some u → b ≠ a := fun b u q z => by rw [z, naH] at q; cases q
  have noK : ∀ b u, H' b = some u → b ≠ kS := fun b u q z => by rw [z, nkH] at q; cases q
  refine h _ _ ord naH ?_
  refine I0.step (g' := s.gens) (d' := s.drawn) (t' := tk) (ch := [kS, a]) (fun b hb => ?_) (fun b o _ _ hc q _ => ?_) (fun b o _ _ hc q _ => ⟨o.slots, ?_⟩) (fun b o hc _ n => ?_) (fun b o hc q => ⟨o, ?_⟩)
    (fun b ys q => ?_) (fun b o ys q => ?_) (fun b ps q => ⟨#[], ?_⟩) (fun m hm => ?_) (fun b u q => ?_) I0.bare
  · rcases List.mem_cons.mp hb with rfl | hb
    · exact ⟨mk.yo, mk.nl, mk.nc, mk.np⟩
    · rw [List.mem_singleton.mp hb]
      exact ⟨ma.yo, ma.nl, ma.nc, ma.np⟩
  · exact kept b o (fun z => hc (by simp [z])) (fun z => hc (by simp [z])) q
  · exact kept b o (fun z => hc (by simp [z])) (fun z => hc (by simp [z])) q
  · rw [upd_ne (fun z => hc (by simp [z]))]; exact n
  · exact kept b o (fun z => hc (by simp [z])) (fun z => hc (by simp [z])) q
  · rw [upd_ne (noA b _ q)]; exact q
  · rw [upd_ne (noA b _ q)]; exact q
  · rw [upd_ne (noA b _ q), q]; simp
  · obtain ⟨o, es, ep, ho, r⟩ := hm
    exact ⟨o, es, ep, kept _ o ma.nl.symm mk.nl.symm ho, r⟩
  · by_cases hb : b = a
    · subst hb
      rw [upd_same] at q
      cases q
      exact ⟨hz, _, c, rv', n3⟩
    · rw [upd_ne hb] at q
      refine (I0.hok b u q).stay (fun c' v hc q' => ?_) (fun c' q' => by rw [upd_ne (noA c' _ q')]; exact q') fun c' ys q' => by rw [upd_ne (noA c' _ q')]; exact q'
      rcases hc with z | z
      · rw [z] at q' ⊢; exact kept _ v hb (noK b u q) q'
      · exact kept c' v (noA c' _ z) (noK c' _ z) q'

theorem sort_tree {f : Value} {B : Around} {vs : List Value} {xs : List V} {ds : List PyData} {a : Addr} {n : Nat} {P : PySem.Fin → Shared → Prop} {E : Value → Shared → Prop}
    (I : Inv X pins σ H s) (ma : Mine X pins a) (na : H a = none) (ho : s.heap.get? a = some (seqObj "list" vs.toArray n)) (rv : Vals xs vs)
    (hl : xs.length = ds.length) (hZ : xs.length ≤ sizeLine) (hal : PySem.W.AllAlike ds) (hsk : PySem.W.Sortable ds) (hu : ∀ d, d ∈ ds → B.units + d.depth < cLine) (turn : KeyTurn X B σ H f xs ds)
    (h : ∀ zs H' s', InOrder xs ds zs → Same H H' → H' a = none → Inv X pins σ (upd H' a (.lst (zs.map (·.1)))) s' → P (.done (.ret .none)) s') :
    wpAny (model X.prog X.w) B (PyProof.Rows.ksk_tree a f false) P E s := by
  have hvl : vs.length = xs.length := rv.length.symm
  have hZv : vs.length ≤ sizeLine := by rw [hvl]; exact hZ
  have ha : a < s.heap.objs.size := Heap.lt_size ho
  obtain ⟨e1, ho1⟩ : ∃ e1, (s.heap.update a (Obj.mapSeq fun _ => (#[] : Array Value))).get? a = some (seqObj "list" #[] e1) := ⟨_, get?_update_seq ho fun _ => #[]⟩
  have s1 := Heap.SameBut.update s.heap a (Obj.mapSeq fun _ => (#[] : Array Value))
  unfold PyProof.Rows.ksk_tree
  refine wpAny_bind (listItems_at ho rfl ?_)
  refine wpAny_bind (listUpdate_at ho rfl ?_ (by rw [List.size_toArray]; exact hZv) (Nat.zero_le _))
  refine wpAny_bind (seqEpoch_at ho1 rfl ?_)
  refine wpAny_bind (wpAny_newTuple ?_ (by show vs.length ≤ _; exact hZv))
  refine wpAny_bind (wpAny_newList ?_ (Nat.zero_le _))
  refine wpAny_holding ?_
  generalize hg : ((s.heap.update a (Obj.mapSeq fun _ => (#[] : Array Value))).push (seqObj "tuple" vs.toArray 0)) = g
  have ga : g.get? a = some (seqObj "list" #[] e1) := by rw [← hg]; exact Heap.get?_push_of_some _ ho1
  have gs : g.objs.size = s.heap.objs.size + 1 := by rw [← hg, size_push', Heap.size_update]
  have gk : ∀ b o, b ≠ a → s.heap.get? b = some o → g.get? b = some o := fun b o hb q => by rw [← hg]; exact Heap.get?_push_of_some _ ((s1.2 b hb).trans q)
  have I1 : Inv X pins σ H { s with heap := g } := I.turned (t' := s.toks) gk na ma.nl ma.yo ma.nc ma.np
  have mk : Mine X pins g.objs.size := mine_of I1 (Nat.le_refl _)
  have nk : H g.objs.size = none := I1.hok.fresh (Nat.le_refl _)
  have I2 : Inv X pins σ H { s with heap := g.push (seqObj "list" #[] 0) } := I1.kept (t' := s.toks) fun b o q => Heap.get?_push_of_some _ q
  have hka : g.objs.size ≠ a := by rw [gs]; exact Nat.ne_of_gt (Nat.lt_succ_of_lt ha)
  have hkS : (g.push (seqObj "list" #[] 0)).get? g.objs.size = some (seqObj "list" #[] 0) := Heap.get?_push_size _ rfl
  generalize g.objs.size = kS at mk nk hka hkS
  have I3 := pin2 I2 mk ma hkS (Heap.get?_push_of_some _ ga) nk na (fun _ z => nomatch z) (fun _ z => nomatch z)
  show wpAny (model X.prog X.w) B (PyProof.Rows.ksk_rest a f false vs.toArray e1 (.ref kS)) P E { s with heap := g.push (seqObj "list" #[] 0) }
  unfold PyProof.Rows.ksk_rest
  refine wpAny_bind (wpAny_rule ?_)
  first
    | rw [List.forIn_toArray]
    | (rw [← Array.forIn_toList]; simp only [List.toList_toArray])
    | rw [← Array.forIn_toList]
  refine wpAny_bind (PyProof.Rows.ksk_fold (fun i s' => ∃ H' kA e kv, Inv X (pins ++ [(kS, seqObj "list" kA e), (a, seqObj "list" #[] e1)]) σ H' s' ∧ Same H H' ∧ Vals kv kA.toList ∧ DpAll X.K H' kv (ds.take i)) vs 0 _
    ⟨H, #[], 0, [], I3, Same.refl H, .nil, by rw [List.take_zero]; exact .nil⟩ ?step ?done)
  case step =>
    rintro j u s' hx ⟨H', kA, e, kv, J, sm, rk, hd⟩
    rw [Nat.zero_add] at hd ⊢
    have hj : j < vs.length := (List.getElem?_eq_some_iff.mp hx).1
    obtain ⟨x, hxj⟩ : ∃ x, xs[j]? = some x := ⟨_, List.getElem?_eq_getElem (by omega)⟩
    obtain ⟨d, hdj⟩ : ∃ d, ds[j]? = some d := ⟨_, List.getElem?_eq_getElem (by omega)⟩
    obtain ⟨u', hu', ru⟩ := rv.get hxj
    rw [hx] at hu'
    cases hu'
    have hz : kA.size ≤ vs.length := by
      have h1 := (each_reads J rk hd).length
      rw [Array.length_toList, List.length_take] at h1
      omega
    refine wpAny_bind (wpAny_attempt (wpAny_mono (turn j x d u _ s' H' hxj hdj ru J sm) (fun v s'' he => ?_) fun _ _ hF => hF.elim))
    obtain ⟨y, H'', J2, ry, sm2, hdy⟩ := he
    obtain ⟨nk2, nkH, _⟩ := J2.pin (kS, seqObj "list" kA e) (by simp)
    obtain ⟨na2, naH, _⟩ := J2.pin (a, seqObj "list" #[] e1) (by simp)
    have t1 := Heap.SameBut.update s''.heap kS (Obj.mapSeq (·.push v))
    obtain ⟨c2, hc2⟩ : ∃ c2, (s''.heap.update kS (Obj.mapSeq (·.push v))).get? kS = some (seqObj "list" (kA.push v) c2) := ⟨_, get?_update_seq nk2 (·.push v)⟩
    refine wpAny_bind (listUpdate_at nk2 rfl ?_ (Nat.le_trans hz hZv) (Nat.le_trans (Nat.le_of_eq (Array.size_push ..)) (Nat.succ_le_succ (Nat.le_trans hz hZv))))
    have J3 : Inv X pins σ H'' { s'' with heap := s''.heap.update kS (Obj.mapSeq (·.push v)) } := (unpin J2).turned (t' := s''.toks) (fun b o hb q => (t1.2 b hb).trans q) nkH mk.nl mk.yo mk.nc mk.np
    refine wpAny_pure ⟨rfl, H'', kA.push v, c2, kv ++ [y], pin2 J3 mk ma hc2 ((t1.2 a hka.symm).trans na2) nkH naH (fun _ z => nomatch z) (fun _ z => nomatch z), sm.trans sm2, ?_, ?_⟩
    · rw [Array.toList_push]
      exact rk.append (.cons ry .nil)
    · have et : ds.take (j + 1) = ds.take j ++ [d] := by rw [List.take_add_one, hdj]; rfl
      rw [et]
      exact dpAll_snoc hdy (dpSameAll sm2 _ _ hd)
  case done =>
    rintro s' ⟨H', kA, e, kv, J, sm, rk, hd⟩
    have et : ds.take (0 + vs.length) = ds := List.take_of_length_le (by omega)
    rw [et] at hd
    obtain ⟨nk2, _, _⟩ := J.pin (kS, seqObj "list" kA e) (by simp)
    refine wpAny_bind (listItems_at nk2 rfl ?_)
    exact sort_end (f := f) J mk ma hka rv rk hd hl hZ hal hsk hu fun zs s'' o n I' => h zs H' s'' o sm n I'

/-- sorted(xs, key=f), from the list's copy on -/
theorem sorted_run2 {a f : Addr} {vs : List Value} {xs : List V} {ds : List PyData} {Q : VK} {E : Value → Shared → Prop}
    (I : Inv X pins σ H s) (hv : s.heap.IsList a vs.toArray) (rv : Vals xs vs)
    (hl : xs.length = ds.length) (hZ : xs.length ≤ sizeLine) (hal : PySem.W.AllAlike ds) (hsk : PySem.W.Sortable ds) (hu : ∀ d, d ∈ ds → X.A.in1.in1.units + d.depth < cLine) (turn : KeyTurn X X.A.in1.in1 σ H (.ref f) xs ds)
    (h : ∀ zs H' p, InOrder xs ds zs → Same H H' → H' p = none → Q (.ref p) (upd H' p (.lst (zs.map (·.1))))) :
    wpAny (model X.prog X.w) X.A (call (.builtin "sorted") [.ref a] [(Str.ofString "key", .ref f)]) (EP X pins σ Q) E s := by
  have hvl : vs.length = xs.length := rv.length.symm
  refine PySem.W.sorted_of_sort hv (by rw [hvl]; exact hZ) (PyProof.Rows.ksk_s1 _ _) (fun _ => PyProof.Rows.ksk_l1 _ _) fun E' => ?_
  rw [PyProof.Rows.ksk_t1]
  have I1 : Inv X pins σ H { s with heap := PySem.W.copyHeap s.heap vs } := I.kept (t' := s.toks) fun b o q => PySem.W.copyHeap_old q
  refine sort_tree I1 (mine_of I (Nat.le_succ _)) (I.hok.fresh (Nat.le_succ _)) (PySem.W.copyHeap_at s.heap vs) rv hl hZ hal hsk hu turn fun zs H' s' o sm n I' => ⟨rfl, ?_⟩
  exact ⟨.ref _, _, I', rfl, h zs H' _ o sm n⟩
end
end PB
/-! PbSum: sum([xs], start=[]) of a list that holds one list -/
namespace PB
open PySem PySem.Spec PyProof.Rows L2

theorem sum_args (a v : Value) : argsOk "sum" ⟨[a], [(Str.ofString "start", v)]⟩ := by unfold argsOk; kernel_rfl
theorem call_tree_kw {prog : Program} {w : World} {A : Around} {E : Value → Shared → Prop} {s : Shared} {id : String} {b : Builtin} {args : List Value} {kw : List (Str × Value)} {Q : Value → Shared → Prop} (hk : builtinKind id = none) (hp : plainId id = true)
    (hb : entryFor table id = some b) (ha : argsOk id ⟨args, kw⟩)
    (hc : wpAny (model prog w) A.in1 (b ⟨args, kw⟩) (fun fin s' => match fin with
      | .done f => (match (Except.ok f : Result) with | .ok (.ret v) => Q v s' | .ok _ => False | .error e => E e s')
      | .again c' => c'.quiet = true ∧ codeAny (model prog w) A c' (fun r s' => match r with | .ok (.ret v) => Q v s' | .ok _ => False | .error e => E e s') s') E s) :
    wpAny (model prog w) A (call (.builtin id) args kw) Q E s := by
  refine wpAny_call (codeAny_call_builtin hp hb ?_)
  simp only [checkBuiltinCall, hk]
  cases hsig : Manifest.signature? id with
  | none => exact wpAny_pure hc
  | some sig =>
    have ha' : Bind.checkArgs id sig ⟨args, kw⟩ = pure () := by simpa only [argsOk, hsig] using ha
    simp only [ha']
    exact wpAny_pure hc

section
variable {X : Cx} {pins : List (Addr × Obj)} {σ : L2.St} {H : Hp} {s : Shared}
theorem sum_one {E : Value → Shared → Prop} {h m l : Addr} {xs : List V} {Q : VK} (hc : X.calm = true) (I : Inv X pins σ H s) (hh : H h = some (.lst [.ref m])) (hm : H m = some (.lst xs)) (hl : H l = some (.lst [])) (hz : xs.length ≤ sizeLine)
    (q : ∀ p, H p = none → Q (.ref p) (upd H p (.lst xs))) : wpAny (model X.prog X.w) X.A (call (.builtin "sum") [.ref h] [(Str.ofString "start", .ref l)]) (EP X pins σ Q) E s := by
  have hdn := I.ok.hd hc
  obtain ⟨_, hi, hn, hr, _, hget⟩ := I.lstM hh
  obtain ⟨_, mi, mn, mr, ml, mget⟩ := I.lstM hm
  obtain ⟨_, li, ln, lr, _, lget⟩ := I.lstM hl
  cases lr
  obtain ⟨u, rfl, ru⟩ := hr.one
  cases ru
  have hL : s.heap.IsList h #[Value.ref m] := ⟨_, hget, rfl, _, rfl⟩
  refine call_tree_kw F.kind_sum F.plain_sum F.entry_sum (sum_args _ _) ?_
  unfold Builtin.«sum»
  simp only [List.length_cons, List.length_nil]
  rw [if_neg (by decide)]
  refine wpAny_bind (wpAny_of_eq (show Builtin.Builtins.bindParams "sum" ["start"] 0 ⟨[], [(Str.ofString "start", Value.ref l)]⟩ = pure [some (Value.ref l)] from rfl) ?_)
  refine wpAny_bind (wpAny_pyIter_list hL ?_)
  refine wpAny_bind (wpAny_pure ?_)
  have tl : ∀ g : Heap, (∀ b o, s.heap.get? b = some o → g.get? b = some o) → ({ s with heap := g } : Shared).TypeIs (.ref l) "list" := fun g k => ⟨_, k _ _ lget, rfl⟩
  have k1 : ∀ b o, s.heap.get? b = some o → (s.heap.push { cls := .type "list_iterator", data := .fields #[.ref h, .int 0 0] }).get? b = some o := fun b o e => Heap.get?_push_of_some _ e
  simp only [List.forIn_cons, List.forIn_nil]
  refine wpAny_bind (wpAny_bind (wpAny_bind (wpAny_isInstance (T := "list") (b := false) (tl _ k1) F.sub_list_str ?_)))
  simp only [Bool.false_eq_true, if_false]
  refine wpAny_pure (wpAny_bind (wpAny_bind (wpAny_isInstance (T := "list") (b := false) (tl _ k1) F.sub_list_bytes ?_)))
  simp only [Bool.false_eq_true, if_false]
  refine wpAny_pure (wpAny_bind (wpAny_bind (wpAny_isInstance (T := "list") (b := false) (tl _ k1) F.sub_list_bytearray ?_)))
  simp only [Bool.false_eq_true, if_false]
  refine wpAny_pure (wpAny_pure ?_)
  refine wpAny_bind (wpAny_newObj_type ?_)
  -- the two records: the iterator at i, the state at t
  generalize hg1 : s.heap.push { cls := .type "list_iterator", data := .fields #[.ref h, .int 0 0] } = g1 at k1
  have i1 : g1.IsListIter s.heap.objs.size h 0 := by rw [← hg1]; exact ⟨_, Heap.get?_push_size _ rfl, rfl, rfl⟩
  have sz1 : g1.objs.size = s.heap.objs.size + 1 := by rw [← hg1, size_push']
  generalize hg2 : g1.push { cls := .type "list", data := .seq [Value.ref l].toArray } = g2
  have k2 : ∀ b o, g1.get? b = some o → g2.get? b = some o := fun b o e => by rw [← hg2]; exact Heap.get?_push_of_some _ e
  have t2 : g2.get? g1.objs.size = some { cls := .type "list", dict := none, data := .seq #[Value.ref l] 0, slots := #[] } := by rw [← hg2]; exact Heap.get?_push_size _ rfl
  have i2 : g2.IsListIter s.heap.objs.size h 0 := i1.at fun o e => k2 _ o e
  have hti : s.heap.objs.size ≠ g1.objs.size := by rw [sz1]; exact Nat.ne_of_lt (Nat.lt_succ_self _)
  have I1 : Inv X pins σ H { s with heap := g1 } := I.kept (t' := s.toks) k1
  have I2 : Inv X pins σ H { s with heap := g2 } := I1.kept (t' := s.toks) k2
  have mi' : Mine X pins s.heap.objs.size := mine_of I (Nat.le_refl _)
  have mt : Mine X pins g1.objs.size := mine_of I1 (Nat.le_refl _)
  have ni : H s.heap.objs.size = none := I.hok.fresh (Nat.le_refl _)
  have nt : H g1.objs.size = none := I1.hok.fresh (Nat.le_refl _)
  generalize g1.objs.size = t at t2 hti mt nt
  generalize s.heap.objs.size = i at i2 hti mi' ni
  refine wpAny_pure ⟨plainId_quiet F.plain_sum_loop _, ?_⟩
  refine codeAny_builtin F.entry_sum_loop ?_
  rw [Around.under_plainId F.plain_sum_loop _]
  show wpAny _ X.A.in1 (seqItems? (.ref t) >>= _) _ _ { s with heap := g2 }
  refine wpAny_bind (wpAny_seqItems t2 rfl ?_)
  show wpAny _ X.A.in1 (tryCatch (pyNext (.ref i)) _ >>= _) _ _ _
  have hL2 : g2.IsList h #[Value.ref m] := ⟨_, k2 _ _ (k1 _ _ hget), rfl, _, rfl⟩
  refine wpAny_bind (wpAny_tryCatch (wpAny_pyNext_list_item i2 hL2 (x := Value.ref m) rfl fun g3 i3 sb3 => ?_))
  have I3 : Inv X pins σ H { s with heap := g3 } := I2.turned (t' := s.toks) (fun b o hb e => (sb3.2 b hb).trans e) ni mi'.nl mi'.yo mi'.nc mi'.np
  have t3 : g3.get? t = _ := (sb3.2 t hti.symm).trans t2
  show wpAny _ X.A.in1 ((holding [Value.ref m] (binaryOp .Add (.ref l) (.ref m))).attempt >>= _) _ _ _
  obtain ⟨_, mi3, mn3, mr3, ml3, mget3⟩ := I3.lstM hm
  obtain ⟨_, li3, ln3, lr3, _, lget3⟩ := I3.lstM hl
  cases lr3
  refine wpAny_bind (wpAny_attempt (wpAny_holding (PySem.P.add_list lget3 mget3 ?_ (by rw [List.size_toArray, List.size_toArray]; simp; omega))))
  have ea : ([] : List Value).toArray ++ mi3.toArray = mi3.toArray := by simp
  rw [ea]
  generalize hg4 : g3.push { cls := .type "list", data := .seq mi3.toArray } = g4
  have k4 : ∀ b o, g3.get? b = some o → g4.get? b = some o := fun b o e => by rw [← hg4]; exact Heap.get?_push_of_some _ e
  have np : H g3.objs.size = none := I3.hok.fresh (Nat.le_refl _)
  have p4 : g4.get? g3.objs.size = some { cls := .type "list", data := .seq mi3.toArray } := by rw [← hg4]; exact Heap.get?_push_size _ rfl
  have I4 : Inv X pins σ (upd H g3.objs.size (.lst xs)) { s with heap := g4 } := I3.laid (t' := s.toks) k4 (Nat.le_refl _) ⟨hz, mi3, 0, mr3, p4⟩
  have htp : t ≠ g3.objs.size := Nat.ne_of_lt (Heap.lt_size t3)
  have hip : i ≠ g3.objs.size := by obtain ⟨o, e, _⟩ := id i3; exact Nat.ne_of_lt (Heap.lt_size e)
  generalize g3.objs.size = p at np p4 I4 htp hip
  have t4 : g4.get? t = _ := k4 _ _ t3
  have ni4 : upd H p (.lst xs) i = none := by rw [upd_ne hip]; exact ni
  have nt4 : upd H p (.lst xs) t = none := by rw [upd_ne htp]; exact nt
  show wpAny _ X.A.in1 (updateSeq t (fun _ => #[Value.ref p]) >>= _) _ _ { s with heap := g4 }
  refine wpAny_bind (wpAny_updateSeq t4 rfl ?_)
  have t5 := Heap.get?_update_self (Obj.mapSeq fun _ => #[Value.ref p]) t4 rfl
  have s5 := Heap.SameBut.update g4 t (Obj.mapSeq fun _ => #[Value.ref p])
  refine wpAny_bind (wpAny_letGo ?_)
  refine wpAny_bind (wpAny_updateSeq t5 rfl (wpAny_pure ⟨plainId_quiet F.plain_sum_loop _, ?_⟩))
  have t6 := Heap.get?_update_self (Obj.mapSeq fun _ => #[Value.ref p]) t5 rfl
  have s6 := Heap.SameBut.update (g4.update t (Obj.mapSeq fun _ => #[Value.ref p])) t (Obj.mapSeq fun _ => #[Value.ref p])
  have k6 : ∀ b o, b ≠ t → g4.get? b = some o → ((g4.update t (Obj.mapSeq fun _ => #[Value.ref p])).update t (Obj.mapSeq fun _ => #[Value.ref p])).get? b = some o := fun b o hb e => (s6.2 b hb).trans ((s5.2 b hb).trans e)
  generalize ((g4.update t (Obj.mapSeq fun _ => #[Value.ref p])).update t (Obj.mapSeq fun _ => #[Value.ref p])) = g6 at t6 k6
  have I6 : Inv X pins σ (upd H p (.lst xs)) { s with heap := g6 } := I4.turned (t' := s.toks) k6 nt4 mt.nl mt.yo mt.nc mt.np
  have i6 : g6.IsListIter i h 1 := (i3.at fun o e => k6 i o hti (k4 _ o e))
  have hL6 : g6.IsList h #[Value.ref m] := by
    have eh : upd H p (.lst xs) h = some (.lst [.ref m]) := by rw [upd_ne (ne_of_none hh np)]; exact hh
    obtain ⟨_, hi6, hn6, hr6, _, hget6⟩ := I6.lstM eh
    obtain ⟨u6, rfl, ru6⟩ := hr6.one
    cases ru6
    exact ⟨_, hget6, rfl, _, rfl⟩
  refine codeAny_builtin F.entry_sum_loop ?_
  rw [Around.under_plainId F.plain_sum_loop _]
  show wpAny _ X.A.in1 (seqItems? (.ref t) >>= _) _ _ { s with heap := g6 }
  refine wpAny_bind (wpAny_seqItems t6 rfl ?_)
  show wpAny _ X.A.in1 (tryCatch (pyNext (.ref i)) _ >>= _) _ _ _
  refine wpAny_bind (wpAny_tryCatch ?_)
  have hd6 : X.A.in1.handled = none := hdn
  refine wpAny_pyNext_list_end hd6 i6 hL6 rfl fun g7 e7 => ?_
  have I7 : Inv X pins σ (upd H p (.lst xs)) { s with heap := g7 } := I6.turned (t' := s.toks) (fun b o hb e => e7 b o hb e) ni4 mi'.nl mi'.yo mi'.nc mi'.np
  exact wpAny_pure ⟨.ref p, _, I7, rfl, q p np⟩
/-- sum([xs], start=[]): a new list of xs's items -/
def rSumOne : List V → List V → Hp → VK → Prop := fun vs zs H Q => ∃ (h m l : Addr) (xs : List V), vs = [.ref h] ∧ zs = [.ref l] ∧ H h = some (.lst [.ref m]) ∧ H m = some (.lst xs) ∧ H l = some (.lst []) ∧ xs.length ≤ sizeLine ∧
  ∀ p, H p = none → Q (.ref p) (upd H p (.lst xs))
theorem cr_sumOne (hc : X.calm = true) : CallRK X (.builtin "sum") [Str.ofString "start"] rSumOne := by
  intro pins s σ H vs zs us ws Q I r rz h
  obtain ⟨h, m, l, xs, rfl, rfl, hh, hm, hl, hz, q⟩ := h
  obtain rfl := Vals.ref1 r
  obtain rfl := Vals.ref1 rz
  exact sum_one hc I hh hm hl hz q
end
end PB
/-! PbRules: rules that the layer lacks: sorted by a def's key; setdefault, a one-pair display, == {} of dicts with tuple keys; a chain of three; a text times an int -/
namespace PB
open PySem PySem.Spec PyProof.Rows L2

section
variable {X : Cx} {pins : List (Addr × Obj)} {σ : L2.St} {H : Hp} {s : Shared}
/-! PbRules: ### sorted(x, key=f) -/
theorem keyTurn_of {k : Nat} {f : Addr} {fd : FuncData} {p : Str} {sp : Sp} {xs : List V} {ds : List PyData} (F : FnOk X.prog X.w X.K X.mg X.base CX0 k f fd [p] sp) (hr : Room k X.A.in1.in1) (hb : Binds X.K fd [p] [])
    (q : ∀ (i : Nat) (x : V) (d : PyData) (H1 : Hp), xs[i]? = some x → ds[i]? = some d → Same H H1 → sp [x] H1 (fun v H2 => Same H1 H2 ∧ Dp X.K H2 v d) E0) : KeyTurn X X.A.in1.in1 σ H (.ref f) xs ds := by
  intro i x d u pn s' H' hx hd ru I sm
  refine wpAny_call (codeAny_mono (F.run X.A.in1.in1 X.stack s' H' ⟨[u], []⟩ [u] [x] _ E0 hr I.env0.in1.in1 (hb s' [u] I.kIn rfl) (.cons ru .nil) (q i x d H' hx hd sm)) fun r s'' hq => ?_)
  cases r with
  | error e => exact hq
  | ok fl =>
    cases fl with
    | ret v => exact I.after hq
    | next => exact False.elim hq
    | brk => exact False.elim hq
    | cont => exact False.elim hq

/-- the keys that f's promise gives -/
def KeysBy (K : PySem.W.Frag) (sp : Sp) (H : Hp) (xs : List V) (ds : List PyData) : Prop :=
  xs.length = ds.length ∧ xs.length ≤ 1000 ∧ PySem.W.AllAlike ds ∧ PySem.W.Sortable ds ∧ (∀ d, d ∈ ds → d.depth ≤ 60) ∧
    ∀ (i : Nat) (x : V) (d : PyData) (H1 : Hp), xs[i]? = some x → ds[i]? = some d → Same H H1 → sp [x] H1 (fun v H2 => Same H1 H2 ∧ Dp K H2 v d) E0
/-- sorted(xs, key=f), xs a list -/
def rSortK (K : PySem.W.Frag) (sp : Sp) (fv : Addr) : List V → List V → Hp → VK → Prop := fun vs zs H Q => ∃ (a : Addr) (xs : List V) (ds : List PyData), vs = [.ref a] ∧ zs = [.ref fv] ∧ SqL K H a xs ∧ KeysBy K sp H xs ds ∧
  ∀ os H' p, InOrder xs ds os → Same H H' → H' p = none → Q (.ref p) (upd H' p (.lst (os.map (·.1))))
theorem cr_sortK {k : Nat} {f : Addr} {fd : FuncData} {p : Str} {sp : Sp} (F : FnOk X.prog X.w X.K X.mg X.base CX0 k f fd [p] sp) (hr : Room (k + 2) X.A) (hb : Binds X.K fd [p] []) :
    CallRK X (.builtin "sorted") [Str.ofString "key"] (rSortK X.K sp f) := by
  intro pins s σ H vs zs us ws Q I r rz h
  obtain ⟨a, xs, ds, rfl, rfl, hS, ⟨hl, hz, hal, hsk, hdp, turn⟩, q⟩ := h
  obtain rfl := Vals.ref1 r
  obtain rfl := Vals.ref1 rz
  obtain ⟨its, rv, hlst, hz'⟩ := I.list hS
  have hr1 : Room k X.A.in1.in1 := hr.in1.in1
  exact sorted_run2 I hlst.isList rv hl hz' hal hsk (fun d hd => by have h1 := hr1.units; have h2 := hdp d hd; omega) (keyTurn_of F hr1 hb turn) fun os H' p o sm n => q os H' p o sm n
/-- sorted(d, key=f), d a dict with tuple keys: its keys -/
def rSortKD (K : PySem.W.Frag) (sp : Sp) (fv : Addr) : List V → List V → Hp → VK → Prop := fun vs zs H Q => ∃ (a : Addr) (kvs : List (List Key × V)) (ds : List PyData), vs = [.ref a] ∧ zs = [.ref fv] ∧ H a = some (.dT kvs) ∧
  ∀ bs, IsKeys H kvs bs → KeysBy K sp H (bs.map V.ref) ds ∧ ∀ os H' p, InOrder (bs.map V.ref) ds os → Same H H' → H' p = none → Q (.ref p) (upd H' p (.lst (os.map (·.1))))
theorem cr_sortKD {k : Nat} {f : Addr} {fd : FuncData} {p : Str} {sp : Sp} (hc : X.calm = true) (F : FnOk X.prog X.w X.K X.mg X.base CX0 k f fd [p] sp) (hr : Room (k + 2) X.A) (hb : Binds X.K fd [p] []) :
    CallRK X (.builtin "sorted") [Str.ofString "key"] (rSortKD X.K sp f) := by
  intro pins s σ H vs zs us ws Q I r rz h
  obtain ⟨d, kvs, ds, rfl, rfl, hd, q⟩ := h
  obtain rfl := Vals.ref1 r
  obtain rfl := Vals.ref1 rz
  have hr1 : Room k X.A.in1.in1 := hr.in1.in1
  obtain ⟨z, hs, ks, pr, o, es, ep, ho, hx, hdt, he, hn⟩ := (show ObjOk X.prog X.w H s.heap d (.dT kvs) from I.hok d _ hd)
  have l1 : es.size = ks.length := size_of_entries he
  have l2 : kvs.length = ks.length := Paired.length pr
  obtain ⟨⟨hl, hz, hal, hsk, hdp, turn⟩, q⟩ := q _ (isKeys_of pr)
  refine call_function_entry_kw kind_sorted plain_sorted entry_sorted (PyProof.Rows.ksk_s1 _ _) ?_
  unfold Builtin.«sorted»
  refine wpAny_bind (m := checkCount "sorted" 1 1 _) (wpAny_pure ?_)
  refine wpAny_bind (PySem.W.kdu_collect (A := X.A.in1) (kdl_raw hs hx hdt) (I.ok.hd hc) ho (by omega) fun h' tk acc kp it => ?_)
  have ea : acc.toList = ks.map fun x => Value.ref x.2.1 := by
    have hlen : acc.toList.length = ks.length := by rw [Array.length_toList, it.1]; exact l1
    apply List.ext_getElem?
    intro j
    rw [List.getElem?_map]
    cases hj : acc.toList[j]? with
    | none =>
      have h1 := List.getElem?_eq_none_iff.mp hj
      rw [List.getElem?_eq_none (by omega)] <;> rfl
    | some v =>
      obtain ⟨en, hen, hv⟩ := it.2 j v (by rw [← Array.getElem?_toList]; exact hj)
      have qe := entry_at he j
      rw [hen] at qe
      cases hb' : ks[j]? with
      | none =>
        rw [hb'] at qe
        exact nomatch (show some en = none from qe)
      | some b =>
        rw [hb'] at qe
        have e2 : en = entryOfKey (tupleKind (mixKind X.prog X.w)) b := Option.some.inj qe
        rw [hv, e2] <;> rfl
  rw [ea]
  have I1 : Inv X pins σ H { s with heap := h', toks := tk } := I.kept kp
  have rv : Vals ((ks.map fun x => x.2.1).map V.ref) (ks.map fun x => Value.ref x.2.1) := by
    have w := vals_refs (ks.map fun x => x.2.1)
    rw [List.map_map, List.map_map] at w
    rw [List.map_map]
    exact w
  have hzl : (ks.map fun x => Value.ref x.2.1).length ≤ sizeLine := by rw [List.length_map]; omega
  refine wpAny_bind (wpAny_newList ?_ hzl)
  have hoL : (h'.push (seqObj "list" (ks.map fun x => Value.ref x.2.1).toArray 0)).get? h'.objs.size = some (seqObj "list" (ks.map fun x => Value.ref x.2.1).toArray 0) := Heap.get?_push_size _ rfl
  have I2 : Inv X pins σ H { s with heap := h'.push (seqObj "list" (ks.map fun x => Value.ref x.2.1).toArray 0), toks := tk } := I1.kept fun b o q => Heap.get?_push_of_some _ q
  show wpAny _ _ _ _ _ { s with heap := h'.push (seqObj "list" (ks.map fun x => Value.ref x.2.1).toArray 0), toks := tk }
  have hzz : ((ks.map fun x => x.2.1).map V.ref).length ≤ sizeLine := by rw [List.length_map, List.length_map]; omega
  refine wpAny_bind (wpAny_holding (wpAny_call_entry_kw PyProof.Rows.slot_list_sort ⟨_, hoL, rfl⟩ PyProof.Rows.entry_list_sort ?_ (PyProof.Rows.ksk_l1 _ _)))
  show wpAny _ _ (Builtin.«list.sort» ⟨[.ref h'.objs.size], [(Str.ofString "key", .ref f)]⟩) _ _ _
  rw [PyProof.Rows.ksk_t1]
  refine sort_tree I2 (mine_of I1 (Nat.le_refl _)) (I1.hok.fresh (Nat.le_refl _)) hoL rv hl hzz hal hsk (fun d hd => by have h1 := hr1.units; have h2 := hdp d hd; omega) (keyTurn_of F hr1 hb turn) fun os H' s' o sm n I' => ⟨_, rfl, ?_⟩
  exact wpAny_pure ⟨_, rfl, .ref _, _, I', rfl, q os H' _ o sm n⟩

/-! PbRules: ### d.setdefault(y, z), d with tuple keys -/
theorem d_setdT {a b : Addr} {kvs : List (List Key × V)} {k : List Key} {d : V} {r : Value} {A : Around} {E : Value → Shared → Prop} {Q : Value → Shared → Prop} (hu : A.units + 1 < cLine) (I : Inv X pins σ H s) (e : H a = some (.dT kvs)) (eb : H b = some (.tup (k.map kV))) (rd : RelV d r) (hl : kvs.length < sizeLine)
    (h1 : ∀ v, valV kvs k = some v → ∀ (w' : Value) (s' : Shared), Inv X pins σ H s' → RelV v w' → Q w' s') (h2 : valV kvs k = none → ∀ (w' : Value) (s' : Shared), Inv X pins σ (upd H a (.dT (putK kvs k d))) s' → RelV d w' → Q w' s') :
    wpAny (model X.prog X.w) A (call (.builtin "dict.setdefault") [.ref a, .ref b, r]) Q E s := by
  obtain ⟨z, hd, xs, rel, dd⟩ := dt_of I.hok e
  have hz : xs.length ≤ sizeLine := by rw [← Paired.length rel]; exact z
  have hl2 : (putK kvs k d).length ≤ sizeLine := by have := length_putK kvs k d; omega
  refine call_setdefault_heap (hsz := hz) (tupleKind_room_in1 hu) (key_of I.hok eb) hd dd (fun p hp => ?_) fun hn h' dd' hs => ?_
  · have q := rel.val k
    rw [hp] at q
    cases q0 : valV kvs k with
    | none => rw [q0] at q; exact (show False from q).elim
    | some v0 => rw [q0] at q; exact h1 v0 q0 _ _ (I.tok _) q
  · have q := rel.val k
    rw [hn] at q
    cases q0 : valV kvs k with
    | some v0 => rw [q0] at q; exact (show False from q).elim
    | none =>
      obtain ⟨o, es, ep, hq, g2, g3, g4, _, g5⟩ := dd'
      refine h2 q0 _ _ (d_write I (by rw [e]; exact True.intro) hs ⟨o, hq⟩ ⟨hl2, hd, _, (rel.put k eb rd).keeps fun c ys ec => ?_, o, es, ep, hq, g2, g3, g4, g5⟩) rd
      rw [upd_ne (ne_of ec e (fun z => nomatch z))]
      exact ec
/-- d.setdefault(y, z) -/
def tDSetdT (td ty tx : TE) : TE := fun σ H Q => td σ H fun x H1 => ∃ a, x = .ref a ∧ IsD H1 a ∧ ty σ H1 fun y H2 => tx σ H2 fun z H3 => ∃ (kvs : List (List Key × V)) (k : List Key) (b : Addr), H3 a = some (.dT kvs) ∧ y = .ref b ∧ H3 b = some (.tup (k.map kV)) ∧ kvs.length < sizeLine ∧
  (∀ v, valV kvs k = some v → Q v H3) ∧ (valV kvs k = none → Q z (upd H3 a (.dT (putK kvs k z))))
theorem pe_dsetdT {o e f : Expr} {td ty tx : TE} {apos cpos : Pos} (hu : X.A.units + 1 < cLine) (ho : PE X o td) (he : PE X e ty) (hf : PE X f tx) (m : M2 X o "setdefault" apos e f cpos) :
    PE X (.Call (.Attribute o "setdefault" apos) [e, f] [] cpos) (tDSetdT td ty tx) := by
  refine ⟨fun pins s σ H Q I h => ?_⟩
  refine wpAny_Call_method m.base m.few m.line PySem.F.plainAttrs_dict PySem.F.slot_dict_setdefault PySem.F.type_dict_setdefault (thn (ho.run pins s σ H _ I h) fun u s1 ⟨x, H1, I1, rx, a, ex, d, q1⟩ => ?_)
  subst ex
  obtain rfl : u = Value.ref a := rx
  obtain ⟨t1, t2, _⟩ := isD_at I1 d
  refine ⟨t1, t2, ?_⟩
  rw [m.trees]
  refine Calls.callWith_builtin rfl (Calls.evalArgs_plain (Calls.spliced_cons (thn (he.run pins s1 σ H1 _ I1 q1) fun iv s2 ⟨y, H2, I2, ry, q2⟩ =>
    Calls.spliced_cons (thn (hf.run pins s2 σ H2 _ I2 q2) fun fv s3 ⟨z, H3, I3, rz, kvs, k, b, ea, ey, eb, hl, q3, q4⟩ => Calls.spliced_nil ?_))))
  subst ey
  obtain rfl : iv = Value.ref b := ry
  exact d_setdT hu I3 ea eb rz hl (fun v hv w' s4 I4 rw' => ⟨v, _, I4, rw', q3 v hv⟩) fun hn w' s4 I4 rw' => ⟨z, _, I4, rw', q4 hn⟩

/-! PbRules: ### {k: v}, k a tuple -/
def tDisp1 (tk tv : TE) : TE := fun σ H Q => ∀ p, H p = none → tk σ (upd H p (.dT [])) fun x H1 => tv σ H1 fun y H2 => H2 p = some (.dT []) ∧ ∃ (b : Addr) (k : List Key), x = .ref b ∧ H2 b = some (.tup (k.map kV)) ∧ Q (.ref p) (upd H2 p (.dT [(k, y)]))
theorem pe_disp1 {ke ve : Expr} {tk tv : TE} {pos : Pos} (hu : X.A.units < cLine) (hk : PE X ke tk) (hv : PE X ve tv) : PE X (.Dict [some ke] [ve] pos) (tDisp1 tk tv) := by
  refine ⟨fun pins s σ H Q I q => ?_⟩
  have hn := I.hok.fresh (Nat.le_refl s.heap.objs.size)
  have I1 := I.laid (a := s.heap.objs.size) (o := .dT []) (h' := s.heap.push { cls := .type "dict", data := .dict #[] }) (t' := s.toks) (fun _ _ q => Heap.get?_push_of_some _ q) (Nat.le_refl _) (dt_empty s.heap I.big)
  rw [arm_eval_Dict, zip_pairTrees [some ke] [ve] X.env pos rfl rfl, dictDisplay_pairs (pairTrees [some ke] [ve] X.env pos) (fun z => nomatch z) (show 1 < 17 by decide)]
  refine wpAny_bind (wpAny_standAt (wpAny_bind (wpAny_subDictH (knd := tupleKind (mixKind X.prog X.w)) hu (show 1 ≤ 15 by decide)
    (pairTrees_cons_walk (thn (hk.run pins _ σ _ _ I1 (q _ hn)) fun u s1 ⟨x, H1, J1, rx, q1⟩ => thn (hv.run pins s1 σ H1 _ J1 q1) fun w s2 ⟨y, H2, J2, ry, e2, b, k, ex, eb, q2⟩ => pairTrees_nil_walk ?_)))))
  subst ex
  obtain rfl : u = Value.ref b := rx
  obtain ⟨z, hd, xs, rel, dd⟩ := dt_of J2.hok e2
  cases rel
  refine ⟨[(k, b, w)], ⟨rfl, rfl, key_of J2.hok eb, trivial⟩, dd, fun h' tk' dd' hs => wpAny_pure ⟨.ref s.heap.objs.size, _, ?_, rfl, q2⟩⟩
  obtain ⟨o, es, ep, hq, g2, g3, g4, _, g5⟩ := dd'
  refine d_write J2 (by rw [e2]; exact True.intro) hs ⟨o, hq⟩ ⟨(by show 1 ≤ sizeLine; rw [sizeLine_eq]; omega), hd, [(k, b, w)], .cons ⟨rfl, ?_, ry⟩ .nil, o, es, ep, hq, g2, g3, g4, g5⟩
  rw [upd_ne (ne_of eb e2 (fun z => nomatch z))]
  exact eb

/-! PbRules: ### d == {}, d with tuple keys -/
theorem same_empty {nm : String} {A : Around} {E : Value → Shared → Prop} {a b : Addr} {oa ob : Obj} {es : Array DictEntry} {ep ep' : Nat} {Q : Bool → Shared → Prop} (ha : (a == sysModules) = false) (hb : (b == sysModules) = false)
    (ga : s.heap.get? a = some oa) (gb : s.heap.get? b = some ob) (da : oa.data = .dict es ep) (db : ob.data = .dict #[] ep') (h : Q (es.size == 0) s) :
    wpAny (model X.prog X.w) A (Builtin.Dict.samePairs nm a b) Q E s := by
  unfold Builtin.Dict.samePairs Builtin.Dict.showsAll
  rw [if_neg (show ¬ (a == sysModules) = true by rw [ha]; exact Bool.false_ne_true), if_neg (show ¬ (b == sysModules) = true by rw [hb]; exact Bool.false_ne_true)]
  refine wpAny_bind (wpAny_pure (wpAny_bind (wpAny_pure ?_)))
  refine wpAny_bind (wpAny_dictEntries ga da ?_)
  dsimp only
  refine wpAny_bind (wpAny_dictEntries gb db ?_)
  by_cases hz : es.size = 0
  · have e : es = #[] := Array.eq_empty_of_size_eq_zero hz
    subst e
    rw [if_neg (by simp)]
    refine wpAny_bind (wpAny_dictEpoch ga da ?_)
    refine wpAny_bind ?_
    rw [Std.Legacy.Range.forIn_eq_forIn_range']
    simp only [Std.Legacy.Range.size, Nat.sub_zero, Nat.add_sub_cancel, Nat.div_one]
    show wpAny _ _ (forIn (List.range' 0 0 1) _ _) _ _ _
    rw [List.range'_zero, List.forIn_nil]
    refine wpAny_pure ?_
    exact wpAny_pure h
  · have hbf : (es.size == 0) = false := by simpa using hz
    rw [if_pos (by simpa using hz)]
    rw [hbf] at h
    exact wpAny_bind (wpAny_rule (wpAny_pure h))
theorem dt_raw {a : Addr} {kvs : List (List Key × V)} (I : Inv X pins σ H s) (e : H a = some (.dT kvs)) : ∃ o es ep, (a == sysModules) = false ∧ s.heap.get? a = some o ∧ o.data = .dict es ep ∧ es.size = kvs.length ∧ s.TypeIs (.ref a) "dict" := by
  obtain ⟨z, hs, ks, pr, o, es, ep, ho, hx, hdt, he, hn⟩ := (show ObjOk X.prog X.w H s.heap a (.dT kvs) from I.hok a _ e)
  exact ⟨o, es, ep, hs, ho, hdt, (size_of_entries he).trans (Paired.length pr).symm, ⟨o, ho, hx.1⟩⟩
/-- a == {}: whether a is empty -/
def rEqE (neg : Bool) : R2 := fun x y H Q => ∃ (a b : Addr) (kvs : List (List Key × V)), x = .ref a ∧ y = .ref b ∧ H a = some (.dT kvs) ∧ H b = some (.dT []) ∧ Q (.bl (if neg then !kvs.isEmpty else kvs.isEmpty)) H
theorem op_eq_e (hu : X.A.units < cLine) : OpR X (compareOp .Eq) (rEqE false) := by
  intro pins s σ H x y v u Q I rx ry h
  obtain ⟨a, b, kvs, rfl, rfl, ea, eb, q⟩ := h
  obtain rfl : v = Value.ref a := rx
  obtain rfl : u = Value.ref b := ry
  obtain ⟨oa, es, ep, ha, ga, da, hsz, ta⟩ := dt_raw I ea
  obtain ⟨ob, es', ep', hb, gb, db, hsz', tb⟩ := dt_raw I eb
  have e' : es' = #[] := Array.eq_empty_of_size_eq_zero hsz'
  subst e'
  refine wpAny_richCompare_same_room (op := .Eq) ta tb PySem.F.slot_dict_eq (wpAny_call_entry PySem.F.slot_dict_eq ta PySem.F.entry_dict_eq ?_ (PySem.F.args_dict_eq_2 _ _)) hu
  show wpAny _ _ (Builtin.Dict.dictSlotArgs "__eq__" ⟨[.ref a, .ref b], []⟩ >>= _) _ _ s
  refine wpAny_bind ?_
  unfold Builtin.Dict.dictSlotArgs
  refine wpAny_bind (wpAny_notOrdered_dict ta ?_)
  show wpAny _ _ (pure (Value.ref a, Value.ref b)) _ _ s
  refine wpAny_pure ?_
  refine wpAny_bind (wpAny_isInstance (T := "dict") tb PySem.F.sub_dict_dict ?_)
  simp only [Bool.not_true, Bool.false_eq_true, if_false]
  refine wpAny_bind (wpAny_pure (wpAny_bind (wpAny_pure ?_)))
  refine wpAny_bind (same_empty ha hb ga gb da db ?_)
  refine wpAny_pure ⟨_, rfl, ?_, ?_⟩
  · exact fun z => nomatch z
  refine fin_bl I q ?_
  rw [hsz]
  cases kvs <;> rfl
theorem op_ne_e (hu : X.A.units < cLine) : OpR X (compareOp .NotEq) (rEqE true) := by
  intro pins s σ H x y v u Q I rx ry h
  obtain ⟨a, b, kvs, rfl, rfl, ea, eb, q⟩ := h
  obtain rfl : v = Value.ref a := rx
  obtain rfl : u = Value.ref b := ry
  obtain ⟨oa, es, ep, ha, ga, da, hsz, ta⟩ := dt_raw I ea
  obtain ⟨ob, es', ep', hb, gb, db, hsz', tb⟩ := dt_raw I eb
  have e' : es' = #[] := Array.eq_empty_of_size_eq_zero hsz'
  subst e'
  refine wpAny_richCompare_same_room (op := .NotEq) ta tb PySem.F.slot_dict_ne (wpAny_call_entry PySem.F.slot_dict_ne ta PySem.F.entry_dict_ne ?_ (PySem.F.args_dict_ne_2 _ _)) hu
  show wpAny _ _ (Builtin.Dict.dictSlotArgs "__ne__" ⟨[.ref a, .ref b], []⟩ >>= _) _ _ s
  refine wpAny_bind ?_
  unfold Builtin.Dict.dictSlotArgs
  refine wpAny_bind (wpAny_notOrdered_dict ta ?_)
  show wpAny _ _ (pure (Value.ref a, Value.ref b)) _ _ s
  refine wpAny_pure ?_
  refine wpAny_bind (wpAny_isInstance (T := "dict") tb PySem.F.sub_dict_dict ?_)
  simp only [Bool.not_true, Bool.false_eq_true, if_false]
  refine wpAny_bind (wpAny_pure (wpAny_bind (wpAny_pure ?_)))
  refine wpAny_bind (same_empty ha hb ga gb da db ?_)
  refine wpAny_pure ⟨_, rfl, ?_, ?_⟩
  · exact fun z => nomatch z
  refine fin_bl I q ?_
  rw [hsz]
  cases kvs <;> rfl

/-! PbRules: ### a op1 b op2 c op3 d -/
def tChain3 (r1 r2 r3 : R2) (ta tb tc td : TE) : TE := fun σ H Q => ta σ H fun x H1 => tb σ H1 fun y H2 => r1 x y H2 fun z H3 => ∃ k, z = .bl k ∧
  (if k = true then tc σ H3 fun w H4 => r2 y w H4 fun z' H5 => ∃ k', z' = .bl k' ∧ (if k' = true then td σ H5 fun w' H6 => r3 w w' H6 Q else Q (.bl false) H5) else Q (.bl false) H3)
theorem pe_chain3 {a b c d : Expr} {ta tb tc td : TE} {o1 o2 o3 : CmpOp} {r1 r2 r3 : R2} {pos : Pos} (h1 : OpR X (compareOp o1) r1) (h2 : OpR X (compareOp o2) r2) (h3 : OpR X (compareOp o3) r3) (ha : PE X a ta) (hb : PE X b tb) (hc : PE X c tc) (hd : PE X d td)
    (hm : lastMarks [o1, o2, o3] [b, c, d] = false := by with_unfolding_all rfl) : PE X (.Compare a [o1, o2, o3] [b, c, d] pos) (tChain3 r1 r2 r3 ta tb tc td) := by
  refine ⟨fun pins s σ H Q I h => ?_⟩
  refine Compare_chain (thn (ha.run pins s σ H _ I h) fun v s1 ⟨x, H1, I1, rx, q1⟩ => chain_link (thn (hb.run pins s1 σ H1 _ I1 q1) fun u s2 ⟨y, H2, I2, ry, q2⟩ =>
    thn (h1 pins s2 σ H2 x y v u _ I2 rx ry q2) fun d s3 ⟨z, H3, I3, rz, k, e, q3⟩ => ?_)) hm
  subst e
  cases rz
  refine wpAny_truthy_bool ?_
  cases k with
  | false => exact ite_ff ⟨.bl false, H3, I3, rfl, q3⟩
  | true =>
    refine ite_tt (chain_link (thn (hc.run pins s3 σ H3 _ I3 q3) fun w' s4 ⟨w, H4, I4, rw', q4⟩ => thn (h2 pins s4 σ H4 y w u w' _ I4 ry rw' q4) fun d' s5 ⟨z', H5, I5, rz', k', e', q5⟩ => ?_))
    subst e'
    cases rz'
    refine wpAny_truthy_bool ?_
    cases k' with
    | false => exact ite_ff ⟨.bl false, H5, I5, rfl, q5⟩
    | true => exact ite_tt (chain_last (thn (hd.run pins s5 σ H5 _ I5 q5) fun w2 s6 ⟨z2, H6, I6, r6, q6⟩ => h3 pins s6 σ H6 w z2 w' w2 Q I6 rw' r6 q6))

/-! PbRules: ### a text times a small number -/
theorem op_mul_str : OpR X (binaryOp .Mult) (fun x y H Q => ∃ (z : Str) (n : Nat), x = .str z ∧ y = .int (n : Int) ∧ n ≤ 1000 ∧ z.length ≤ 1000 ∧ Q (.str (Txt.mul z (n : Int))) H) := by
  intro pins s σ H x y v u Q I rx ry h
  obtain ⟨z, n, rfl, rfl, hn, hz, q⟩ := h
  obtain ⟨t, rfl⟩ := rx
  obtain ⟨t', rfl⟩ := ry
  have hp : z.length * n ≤ 1000 * 1000 := Nat.mul_le_mul hz hn
  refine SB.mul ⟨?_, fun _ _ => ?_, fun _ _ => ?_⟩ fun t'' k => ⟨.str _, H, I.tok k, ⟨_, rfl⟩, q⟩
  · rw [Bool.or_eq_false_iff]
    exact ⟨decide_eq_false (by omega), decide_eq_false (by omega)⟩
  · intro hgt
    have h1 : (n : Int) ≤ 1000 := by omega
    have h0 : (0 : Int) < (n : Int) := by omega
    have h2 : (z.length : Int) * (n : Int) ≤ 2 ^ 63 - 1 := by
      have : ((z.length * n : Nat) : Int) ≤ 1000 * 1000 := by exact_mod_cast hp
      rw [Int.natCast_mul] at this
      omega
    have h3 : (z.length : Int) ≤ (2 ^ 63 - 1) / (n : Int) := (Int.le_ediv_iff_mul_le h0).mpr h2
    omega
  · unfold Builtin.Str.tooLong
    simp only [Int.toNat_natCast]
    exact decide_eq_false (by rw [sizeLine_eq] at *; omega)
end
end PB
/-! PbSets: sorted(set(xs)), xs a list of texts -/
namespace PB
open PySem PySem.Spec PyProof.Rows L2

theorem paired_perm {α β : Type} {R : α → β → Prop} {l l' : List α} (p : l'.Perm l) : ∀ {ks : List β}, Paired R l ks → ∃ ks', ks'.Perm ks ∧ Paired R l' ks' := by
  induction p with
  | nil => intro ks h; exact ⟨ks, .refl _, h⟩
  | cons x p ih =>
    intro ks h
    cases h with
    | cons r t =>
      obtain ⟨k1, p1, r1⟩ := ih t
      exact ⟨_, .cons _ p1, .cons r r1⟩
  | swap x y l =>
    intro ks h
    cases h with
    | cons r t =>
      cases t with
      | cons r2 t2 => exact ⟨_, List.Perm.swap .., .cons r2 (.cons r t2)⟩
  | trans p q ih1 ih2 =>
    intro ks h
    obtain ⟨k1, p1, r1⟩ := ih2 h
    obtain ⟨k2, p2, r2⟩ := ih1 r1
    exact ⟨k2, p2.trans p1, r2⟩
theorem paired_mem {α β : Type} {R : α → β → Prop} : ∀ {l : List α} {ks : List β}, Paired R l ks → ∀ e ∈ l, ∃ k ∈ ks, R e k
  | _, _, .nil, _, h => nomatch h
  | _, _, .cons r t, e, h => by
    rcases List.mem_cons.mp h with rfl | h
    · exact ⟨_, List.mem_cons_self, r⟩
    · obtain ⟨k, hk, q⟩ := paired_mem t e h
      exact ⟨k, List.mem_cons_of_mem _ hk, q⟩
theorem paired_memR {α β : Type} {R : α → β → Prop} : ∀ {l : List α} {ks : List β}, Paired R l ks → ∀ k ∈ ks, ∃ e ∈ l, R e k
  | _, _, .nil, _, h => nomatch h
  | _, _, .cons r t, e, h => by
    rcases List.mem_cons.mp h with rfl | h
    · exact ⟨_, List.mem_cons_self, r⟩
    · obtain ⟨k, hk, q⟩ := paired_memR t e h
      exact ⟨k, List.mem_cons_of_mem _ hk, q⟩

section
variable {P : Program} {w : World}
/-- an entry of a set of texts -/
def TxtE (P : Program) (w : World) (e : Int × Value) (k : Str) : Prop := (∃ t, e.2 = .str k t) ∧ e.1 = (strKind P w).hash k
theorem TxtE.is_iff {e : Int × Value} {k j : Str} (h : TxtE P w e k) : (strKind P w).is j e.2 = true ↔ j = k := by
  obtain ⟨⟨t, he⟩, _⟩ := h
  rw [he]
  constructor
  · intro q
    exact (strKind P w).inj _ _ _ q (strKind_is P w k t)
  · rintro rfl
    exact strKind_is P w _ t
theorem txt_elems {l : List (Int × Value)} {ks : List Str} (h : Paired (TxtE P w) l ks) : ElemsOf (strKind P w) l := fun e he => by
  obtain ⟨k, _, ⟨t, h1⟩, h2⟩ := paired_mem h e he
  exact ⟨⟨k, by rw [h1]; exact strKind_is P w k t, h2⟩, by rw [h1] <;> rfl⟩
/-- the set of the texts ks at a, ks in the order of its entries; its table can be walked -/
def SetTx (P : Program) (w : World) (h : Heap) (a : Addr) (ks : List Str) : Prop :=
  ∃ o es ep t, h.get? a = some o ∧ o.ExactSet ∧ o.data = .set es ep t ∧ Paired (TxtE P w) es.toList ks ∧ ks.Nodup ∧ es.size < scanBound ∧ t.fits es.size = true ∧ Ris t.place.toList ∧ (w.params.followText "set-order" = true ∨ t.led = true)
theorem SetTx.at {h h' : Heap} {a : Addr} {ks : List Str} (R : SetTx P w h a ks) (k : ∀ o, h.get? a = some o → h'.get? a = some o) : SetTx P w h' a ks := by
  obtain ⟨o, es, ep, t, ho, r⟩ := R
  exact ⟨o, es, ep, t, k o ho, r⟩

variable {A : Around} {E : Value → Shared → Prop} {s : Shared} {a : Addr} {ks : List Str}
theorem tx_tail {g : Bool → Sem Unit} (hg : ∀ (b : Bool) (s₁ : Shared) (Q' : Unit → Shared → Prop), Q' () s₁ → wpAny (model P w) A (g b) Q' E s₁)
    {o : Obj} {es : Array (Int × Value)} {ep : Nat} {t : SetTable} (ho : s.heap.get? a = some o) (hex : o.ExactSet) (hd : o.data = .set es ep t)
    {es1 : Array (Int × Value)} {t2 : SetTable} {k1 : List Str} (g1 : Paired (TxtE P w) es1.toList k1) (nd1 : k1.Nodup) (hb1 : es1.size < scanBound) (hf2 : t2.fits es1.size = true) (hr : Ris t2.place.toList)
    (hl : w.params.followText "set-order" = true ∨ t2.led = true) {wasDummy : Bool} {R : Option Bool → Shared → Prop}
    (hR : ∀ h' k2, Heap.SameBut a s.heap h' → k2.Perm k1 → SetTx P w h' a k2 → R (some true) { s with heap := h' }) :
    wpAny (model P w) A (do
        storeSet a es1 t2
        if (!wasDummy && t2.tooFull) = true then do
            g (relayAll t2 es1 (SetTable.grown es1.size)).2.2
            storeSet a (relayAll t2 es1 (SetTable.grown es1.size)).1 (relayAll t2 es1 (SetTable.grown es1.size)).2.1
            pure (some true)
          else pure (some true)) R E s := by
  refine wpAny_bind (wpAny_storeSet_of ho hd ?_ (fits_of_scanBound hb1))
  have ho1 := store_at (es' := es1) (t' := t2) ho hd
  have sb1 := Heap.SameBut.update s.heap a (Obj.putSet es1 t2)
  split
  · have pm := relayAll_perm t2 es1 (SetTable.grown es1.size)
    have hf3 := relayAll_fits t2 es1 (SetTable.grown es1.size)
    have hr3 := relayAll_ris t2 es1 (SetTable.grown es1.size)
    have hl3 := relayAll_led t2 es1 (SetTable.grown es1.size)
    generalize relayAll t2 es1 (SetTable.grown es1.size) = Z at pm hf3 hr3 hl3 ⊢
    obtain ⟨es2, t3, gave⟩ := Z
    dsimp only at pm hf3 hr3 hl3 ⊢
    have hb2 : es2.size < scanBound := by rw [← Array.length_toList, pm.length_eq, Array.length_toList]; exact hb1
    obtain ⟨k2, p2, g2⟩ := paired_perm pm g1
    refine wpAny_bind (hg _ _ _ ?_)
    refine wpAny_bind (wpAny_storeSet_of ho1 rfl ?_ (fits_of_scanBound hb2))
    have ho2 := store_at (es' := es2) (t' := t3) ho1 rfl
    exact wpAny_pure (hR _ k2 (sb1.trans (Heap.SameBut.update _ a _)) p2 ⟨_, es2, _, t3, ho2, hex, rfl, g2, p2.nodup_iff.mpr nd1, hb2, hf3, hr3, hl.imp id fun z => by rw [hl3]; exact z⟩)
  · exact wpAny_pure (hR _ k1 sb1 (.refl _) ⟨_, es1, _, t2, ho1, hex, rfl, g1, nd1, hb1, hf2, hr, hl⟩)

/-- one text put in -/
theorem tx_add {k : Str} {tk : Tok} {Q : Bool → Shared → Prop} (R : SetTx P w s.heap a ks) (room : ks.length + 1 < scanBound)
    (hQ : ∀ b h' k2, Heap.SameBut a s.heap h' → SetTx P w h' a k2 → (∀ j, j ∈ k2 ↔ j ∈ ks ∨ j = k) → k2.length ≤ ks.length + 1 → Q b { s with heap := h' }) :
    wpAny (model P w) A (setAddHashed a (.str k tk) ((strKind P w).hash k)) Q E s := by
  obtain ⟨o, es, ep, t, ho, hex, hd, g, nd, hb, hf, hr, hl⟩ := R
  have hkey : (strKind P w).is k (.str k tk) = true := strKind_is P w k tk
  have hsc : (Value.str k tk).scannable = true := rfl
  have hel := txt_elems g
  have hlen : es.size = ks.length := by rw [← Array.length_toList]; exact g.length
  unfold setAddHashed setAddHashedIn
  refine wpAny_holding (wpAny_bind (wpAny_setState_of ho hd hf ?_))
  dsimp only
  rw [byScan_of hsc hb hel]
  simp only [↓reduceIte]
  unfold setAddByScan
  refine wpAny_bind ?_
  refine wpAny_bind (wpAny_rule ?_)
  refine wpAny_bind (wpAny_setScan_of hkey ho hd hf hel ?_)
  cases hfi : List.findIdx? (fun e => (strKind P w).is k e.2) es.toList with
  | some j =>
    dsimp only
    obtain ⟨hj, pj, _⟩ := List.findIdx?_eq_some_iff_getElem.mp hfi
    obtain ⟨k', hk', te⟩ := paired_mem g es.toList[j] (List.getElem_mem hj)
    have ek : k = k' := te.is_iff.mp pj
    subst ek
    refine wpAny_pure (wpAny_pure (hQ _ s.heap ks (Heap.SameBut.refl a s.heap) ⟨o, es, ep, t, ho, hex, hd, g, nd, hb, hf, hr, hl⟩ (fun i => ⟨.inl, fun z => z.elim id fun z => by rw [z]; exact hk'⟩) (Nat.le_succ _)))
  | none =>
    dsimp only
    have hnk : k ∉ ks := fun z => by
      obtain ⟨e, he, te⟩ := paired_memR g k z
      have c := List.findIdx?_eq_none_iff.mp hfi e he
      rw [te.is_iff.mpr rfl] at c
      cases c
    have hgw : ∀ (b : Bool) {s₁ : Shared} {Q' : Unit → Shared → Prop}, Q' () s₁ → wpAny (model P w) A (match b with | true => rule "set.scan.the-table-gave-way" | false => pure ()) Q' E s₁ :=
      fun b s₁ Q' q => by cases b <;> first | exact wpAny_pure q | exact wpAny_rule q
    have pm := layNew_perm t es ((strKind P w).hash k) (.str k tk)
    have hf1 := layNew_fits t es ((strKind P w).hash k) (.str k tk)
    have hr1 := layNew_ris t es ((strKind P w).hash k) (.str k tk) hr
    have hl1 := layNew_led t es ((strKind P w).hash k) (.str k tk)
    generalize layNew t es ((strKind P w).hash k) (.str k tk) = Z at pm hf1 hr1 hl1 ⊢
    obtain ⟨es1, t1, wasDummy, gave⟩ := Z
    dsimp only at pm hf1 hr1 hl1 ⊢
    rw [Array.toList_push] at pm
    obtain ⟨k1, p1, g1⟩ := paired_perm pm (Paired.snoc g (⟨⟨tk, rfl⟩, rfl⟩ : TxtE P w ((strKind P w).hash k, Value.str k tk) k))
    have nd1 : k1.Nodup := p1.nodup_iff.mpr (nd_snoc nd hnk)
    have l1 : k1.length = ks.length + 1 := by rw [p1.length_eq, List.length_append, List.length_singleton]
    have hsz : es1.size = ks.length + 1 := by rw [← Array.length_toList, ← l1]; exact g1.length
    have hb1 : es1.size < scanBound := by rw [hsz]; exact room
    have hled : w.params.followText "set-order" = true ∨ t1.led = true := hl.imp id fun z => by rw [hl1]; exact z
    have fin : ∀ h' k2, Heap.SameBut a s.heap h' → k2.Perm k1 → SetTx P w h' a k2 → Q true { s with heap := h' } := fun h' k2 sb p2 r => by
      refine hQ true h' k2 sb r (fun j => ?_) (by rw [p2.length_eq, l1]; exact Nat.le_refl _)
      rw [(p2.trans p1).mem_iff, List.mem_append, List.mem_singleton]
    refine wpAny_bind (hgw _ ?_)
    split
    · refine wpAny_bind ?_
      rw [hashByValue_scannable 8 hsc]
      refine wpAny_pure ?_
      refine tx_tail ?_ ho hex hd g1 nd1 hb1 ?_ ?_ ?_ ?_
      · intro b s₁ Q' q; cases b <;> first | exact wpAny_pure q | exact wpAny_rule q
      · first | (split <;> first | exact hf1 | exact SetTable.fits_plain_off hf1) | exact hf1
      · first | (split <;> exact hr1) | exact hr1
      · first | (split <;> exact hled) | exact hled
      · intro h' k2 sb p2 r; dsimp only; exact wpAny_pure (fin h' k2 sb p2 r)
    · refine wpAny_bind (wpAny_pure ?_)
      simp only [↓reduceIte]
      refine tx_tail ?_ ho hex hd g1 nd1 hb1 hf1 hr1 hled ?_
      · intro b s₁ Q' q; cases b <;> first | exact wpAny_pure q | exact wpAny_rule q
      · intro h' k2 sb p2 r; dsimp only; exact wpAny_pure (fin h' k2 sb p2 r)

theorem tx_fresh {h : Heap} (ho : h.get? a = some { cls := .type "set", dict := none, data := .set #[] 0 (.fresh 0 0 (!w.params.followText "set-order")) }) : SetTx P w h a [] :=
  ⟨_, #[], 0, _, ho, ⟨rfl, rfl, rfl⟩, rfl, .nil, List.nodup_nil, (by decide), (by rfl), List.Pairwise.nil, by
    show _ ∨ (!w.params.followText "set-order") = true
    cases w.params.followText "set-order"
    · exact .inr rfl
    · exact .inl rfl⟩

/-- all texts of a walk put in -/
theorem tx_update {I : Addr} {fp wr : List Addr} {G : Array GenState → Array GenState → Prop} {n : Nat} {Pv : Nat → Value → Prop} {St : Nat → Shared → Prop} {R : Result → Shared → Prop}
    (W : WalksS P w A.in1 I fp wr G n Pv St) (S : Addr) (hSf : S ∉ fp) (xs : List Str) (hn : n = xs.length) (hb : xs.length + 1 < scanBound) (hval : ∀ i v, Pv i v → ∃ k t, xs[i]? = some k ∧ v = .str k t) :
    ∀ (k i : Nat) (s : Shared), n - i = k → i ≤ n → St i s → (∃ ks, SetTx P w s.heap S ks ∧ (∀ j, j ∈ ks ↔ j ∈ xs.take i) ∧ ks.length ≤ i) →
      (∀ s' ks, Moved (S :: wr) G s s' → SetTx P w s'.heap S ks → (∀ j, j ∈ ks ↔ j ∈ xs) → ks.length ≤ n → R (.ok (.ret .none)) s') →
      codeAny (model P w) A (.builtin "set.update.loop" ⟨[.ref S, .ref I], []⟩) R s := by
  have hSw : S ∉ wr := fun h => hSf (W.sub _ h)
  have hsub : ∀ b ∈ wr, b ∈ S :: wr := fun b hb => List.mem_cons_of_mem _ hb
  intro k
  induction k with
  | zero =>
    rintro i s hk' hi hst ⟨ks, hS, hm0, hl0⟩ hR
    have hin : i = n := by omega
    subst hin
    refine codeAny_builtin F.entry_set_update_loop ?_
    rw [Around.under_plainId F.plain_set_update_loop _]
    show wpAny _ A.in1 (pyNext (.ref I) >>= _) _ _ s
    refine wpAny_bind (W.done s _ _ hst fun s' hm => ?_)
    show wpAny _ A.in1 (ret Value.none) _ _ s'
    have e : xs.take i = xs := List.take_of_length_le (by omega)
    rw [e] at hm0
    exact wpAny_pure (hR s' ks (hm.mono hsub) (hS.at fun o e => hm.heap S o hSw e) hm0 hl0)
  | succ k ih =>
    rintro i s hk' hi hst ⟨ks, hS, hm0, hl0⟩ hR
    have hlt : i < n := by omega
    refine codeAny_builtin F.entry_set_update_loop ?_
    rw [Around.under_plainId F.plain_set_update_loop _]
    show wpAny _ A.in1 (pyNext (.ref I) >>= _) _ _ s
    refine wpAny_bind (W.item i s _ _ hlt hst fun v s' hP hst' hm => ?_)
    obtain ⟨z, t, hz, rfl⟩ := hval i v hP
    have hS' : SetTx P w s'.heap S ks := hS.at fun o e => hm.heap S o hSw e
    show wpAny _ A.in1 (holding [Value.str z t] (setAdd S (.str z t)) >>= _) _ _ s'
    refine wpAny_bind (wpAny_holding ?_)
    unfold setAdd
    refine wpAny_holding ?_
    refine wpAny_bind ((strKind P w).pyHash (k := z) (strKind_is _ _ _ _) ?_)
    refine tx_add (s := { s' with toks := s'.toks + 1 }) hS' (by omega) fun bb h' k2 hsb hS2 hm2 hl2 => ?_
    refine wpAny_pure ⟨plainId_quiet F.plain_set_update_loop _, ih (i + 1) _ (by omega) hlt (W.frame _ s' _ _ hst' (Nat.le_succ _) fun b hb o e => ?_) ⟨k2, hS2, fun j => ?_, by omega⟩ fun s'' k3 hm'' hS'' hmem hlen => ?_⟩
    · rw [hsb.2 b (fun h : b = S => hSf (by rw [← h]; exact hb))]; exact e
    · rw [hm2 j, hm0 j, List.take_add_one, hz, List.mem_append]
      simp
    · refine hR s'' k3 (Moved.trans W.gtrans ((hm.mono hsub).then_heap (Nat.le_succ _) fun b o hb e => ?_) hm'') hS'' hmem hlen
      rw [hsb.2 b (fun h : b = S => hb (by rw [h]; exact List.mem_cons_self))]; exact e

set_option maxRecDepth 100000 in
set_option maxHeartbeats 3200000 in
/-- set(xs) -/
theorem tx_set {l : Addr} {items : Array Value} (xs : List Str) {Q : Value → Shared → Prop} (hh : A.handled = none) (hl : s.heap.IsList l items) (hit : StrsAre items.toList xs) (hb : xs.length + 1 < scanBound)
    (h : ∀ (h' : Heap) (tk : Nat) (ks : List Str), SetTx P w h' s.heap.objs.size ks → (∀ j, j ∈ ks ↔ j ∈ xs) → ks.length ≤ xs.length → (∀ b o, s.heap.get? b = some o → h'.get? b = some o) → Q (.ref s.heap.objs.size) { s with heap := h', toks := tk }) :
    wpAny (model P w) A (call (.type "set") [.ref l]) Q E s := by
  have hisz : items.size = xs.length := by
    have q := hit.length
    rw [Array.length_toList] at q
    exact q
  obtain ⟨c, tl, hmro⟩ := F.called_set.mro
  have hmade := F.called_set.made
  have hsub := F.called_set.sub
  refine wpAny_call (codeAny_of_tree ?_)
  show wpAny _ _ (callAny (.type "set") _) _ _ _
  refine wpAny_pure ⟨Code.quiet_builtin _ (by decide +kernel), codeAny_builtin F.entry_type_call ?_⟩
  rw [Around.under_plain (weight_type_call_type "set" [.ref l] []) rfl]
  have h1 := F.called_set.notType
  have h2 := F.called_set.canCreate
  have hct := F.typeCall_set_1 (.ref l)
  repeat (any_goals (first | assumption | wp_step))
  refine codeAny_mono (L2.code_set_led1 (.ref l) (E := E) (Q₁ := fun obj s₁ => obj = .ref s.heap.objs.size ∧ s₁ = { s with heap := s.heap.push { cls := .type "set", dict := none, data := .set #[] 0 (.fresh 0 0 (!w.params.followText "set-order")) } }) ⟨rfl, rfl⟩) fun r s₁ hr => ?_
  cases r with
  | error e => exact hr
  | ok fl =>
    cases fl with
    | ret obj =>
      obtain ⟨rfl, rfl⟩ := hr
      have hS : (s.heap.push { cls := .type "set", dict := none, data := .set #[] 0 (.fresh 0 0 (!w.params.followText "set-order")) }).get? s.heap.objs.size = some { cls := .type "set", dict := none, data := .set #[] 0 (.fresh 0 0 (!w.params.followText "set-order")) } := Heap.get?_push_size _ rfl
      have hT : Shared.TypeIs { s with heap := s.heap.push { cls := .type "set", dict := none, data := .set #[] 0 (.fresh 0 0 (!w.params.followText "set-order")) } } (.ref s.heap.objs.size) "set" := ⟨_, hS, rfl⟩
      have hli := F.called_set.init.lookup
      have hbi := F.called_set.init.bind (.ref s.heap.objs.size)
      repeat (any_goals (first | assumption | wp_step))
      refine codeAny_mono (codeAny_call_builtin (R := wants (fun r s₂ => r = .none ∧ ∃ h' tk ks, s₂ = { s with heap := h', toks := tk } ∧ SetTx P w h' s.heap.objs.size ks ∧ (∀ j, j ∈ ks ↔ j ∈ xs) ∧ ks.length ≤ xs.length ∧
          (∀ b o, s.heap.get? b = some o → h'.get? b = some o)) E) F.called_set.init.plain F.entry_set_init (check_set_init_1 hT ?_)) fun r₂ s₂ hr₂ => ?_
      · obtain ⟨ol, hol, hcl, nl, hdl⟩ := hl
        obtain ⟨ocls, odict, odata, oslots⟩ := ol
        simp only at hcl hdl
        subst hcl; subst hdl
        have hol' : (s.heap.push { cls := .type "set", dict := none, data := .set #[] 0 (.fresh 0 0 (!w.params.followText "set-order")) }).get? l = some { cls := .type "list", dict := odict, data := .seq items nl, slots := oslots } := Heap.get?_push_of_some _ hol
        have hsls := F.sub_list_set
        have hslf := F.sub_list_frozenset
        have hne : (Value.type "list" == Value.type "dict") = false := by decide
        have hl1 : (s.heap.push { cls := .type "set", dict := none, data := .set #[] 0 (.fresh 0 0 (!w.params.followText "set-order")) }).IsList l items := ⟨_, hol', rfl, nl, rfl⟩
        unfold Builtin.«set.__init__» noKeywords Builtin.Frozenset.updateFrom
        generalize hPI : pyIter = PI
        wp_walk
        subst hPI
        refine wpAny_pyIter_list hl1 ?_
        refine wpAny_bind (wpAny_runValue ?_)
        have hlS : l < s.heap.objs.size := Heap.lt_size hol
        have hh3 : A.in1.in1.in1.handled = none := by simp [hh]
        have hneI : l ≠ (s.heap.push { cls := .type "set", dict := none, data := .set #[] 0 (.fresh 0 0 (!w.params.followText "set-order")) }).objs.size := by
          rw [Heap.size_push]; exact Nat.ne_of_lt (Nat.lt_succ_of_lt hlS)
        have hSf : s.heap.objs.size ∉ [(s.heap.push { cls := .type "set", dict := none, data := .set #[] 0 (.fresh 0 0 (!w.params.followText "set-order")) }).objs.size, l] := by
          rw [Heap.size_push]; simp only [List.mem_cons, List.mem_singleton, List.not_mem_nil, or_false, not_or]
          exact ⟨Nat.ne_of_lt (Nat.lt_succ_self _), Nat.ne_of_gt hlS⟩
        have hval : ∀ (i : Nat) (v : Value), items[i]? = some v → ∃ k t, xs[i]? = some k ∧ v = .str k t := fun i v hv => by
          have hi : i < xs.length := by rw [← hisz]; exact (Array.getElem?_eq_some_iff.mp hv).1
          obtain ⟨t, e⟩ := hit.get i _ (List.getElem?_eq_getElem hi)
          rw [Array.getElem?_toList, hv] at e
          exact ⟨_, t, List.getElem?_eq_getElem hi, Option.some.inj e⟩
        refine tx_update ((Walks.list hh3 _ l hneI items).toS) s.heap.objs.size
          hSf xs hisz hb hval (items.size - 0) 0 _ (by omega) (Nat.zero_le _)
          ⟨⟨_, Heap.get?_push_size _ rfl, rfl, rfl⟩, (hl1.push _)⟩ ?hS0 ?hR
        case hS0 =>
          exact ⟨[], tx_fresh (Heap.get?_push_of_some _ hS), fun j => by simp, Nat.le_refl 0⟩
        case hR =>
          intro s' ks hm hS' hmem hlen
          obtain ⟨h', g2, d', tk', os'⟩ := s'
          have eg : g2 = s.gens := hm.gens
          have ed : d' = s.drawn := hm.drawn
          have eo : os' = s.os := hm.os
          subst eg; subst ed; subst eo
          show wpAny _ _ _ _ _ _
          refine wpAny_pure ?_
          show wpAny _ _ (ret Value.none) _ _ _
          rw [hisz] at hlen
          refine wpAny_pure ⟨rfl, h', tk', ks, rfl, hS', hmem, hlen, fun b o e => ?_⟩
          have hb0 : b < s.heap.objs.size := Heap.lt_size e
          have hb2 : b ≠ (s.heap.push { cls := .type "set", dict := none, data := .set #[] 0 (.fresh 0 0 (!w.params.followText "set-order")) }).objs.size := by
            rw [Heap.size_push]; exact Nat.ne_of_lt (Nat.lt_succ_of_lt hb0)
          exact hm.heap b o (by simp only [List.mem_cons, List.mem_singleton, List.not_mem_nil, or_false, not_or]; exact ⟨Nat.ne_of_lt hb0, hb2⟩) (Heap.get?_push_of_some _ (Heap.get?_push_of_some _ e))
      · cases r₂ with
        | error e => exact hr₂
        | ok fl₂ =>
          cases fl₂ with
          | ret r =>
            obtain ⟨rfl, h', tk, ks, rfl, hS', hmem, hlen, hk'⟩ := hr₂
            repeat (any_goals (first | assumption | wp_step))
            exact h _ _ _ hS' hmem hlen hk'
          | _ => exact hr₂.elim
    | _ => exact hr.elim

theorem strs_of_paired {l : List (Int × Value)} {ks : List Str} (h : Paired (TxtE P w) l ks) : StrsAre (l.map (·.2)) ks := by
  induction h with
  | nil => exact .nil
  | @cons e k l ks r t ih =>
    obtain ⟨⟨t, he⟩, _⟩ := r
    rw [List.map_cons, he]
    exact .cons k t ih
theorem strs_perm {l l' : List Value} (p : l'.Perm l) : ∀ {ks : List Str}, StrsAre l ks → ∃ ks', ks'.Perm ks ∧ StrsAre l' ks' := by
  induction p with
  | nil => intro ks h; exact ⟨ks, .refl _, h⟩
  | cons x p ih =>
    intro ks h
    cases h with
    | cons k t r =>
      obtain ⟨k1, p1, r1⟩ := ih r
      exact ⟨_, .cons _ p1, .cons k t r1⟩
  | swap x y l =>
    intro ks h
    cases h with
    | cons k t r =>
      cases r with
      | cons k2 t2 r2 => exact ⟨_, List.Perm.swap .., .cons k2 t2 (.cons k t r2)⟩
  | trans p q ih1 ih2 =>
    intro ks h
    obtain ⟨k1, p1, r1⟩ := ih2 h
    obtain ⟨k2, p2, r2⟩ := ih1 r1
    exact ⟨k2, p2.trans p1, r2⟩

/-- sorted(a set of texts) -/
theorem tx_sorted {Q : Value → Shared → Prop} (R : SetTx P w s.heap a ks) (hh : A.handled = none) (h64 : ks.length < 64)
    (hQ : ∀ s' p (out : Array Value) (c : Nat) (ys : List Str), (∀ b o, s.heap.get? b = some o → s'.heap.get? b = some o) → s'.gens = s.gens → s'.os = s.os → s.heap.objs.size ≤ p →
      s'.heap.get? p = some (seqObj "list" out c) → StrsAre out.toList ys → ys.Perm ks → sortedS ys = true → Q (.ref p) s') :
    wpAny (model P w) A (call (.builtin "sorted") [.ref a]) Q E s := by
  obtain ⟨o, es, ep, t, ho, hex, hd, g, nd, hb, hf, hr, hl⟩ := R
  refine Calls.call_function_entry kind_sorted plain_sorted entry_sorted (args_sorted1 _) ?_
  unfold Builtin.«sorted»
  refine wpAny_bind (m := checkCount "sorted" 1 1 _) (wpAny_pure ?_)
  refine wpAny_bind (collect_set (A := A.in1) hh ⟨o, ho, hex.1, hd⟩ hf hb hr hl fun s1 vs k1 hz g1 o1 pm => ?_)
  obtain ⟨ks1, p1, hS⟩ := strs_perm pm (strs_of_paired g)
  have hvl : vs.length = ks.length := by rw [hS.length, p1.length_eq]
  refine wpAny_bind (wpAny_newList ?_ (by rw [hvl, sizeLine_eq]; omega))
  have hoL : (s1.heap.push (seqObj "list" vs.toArray 0)).get? s1.heap.objs.size = some (seqObj "list" vs.toArray 0) := Heap.get?_push_size _ rfl
  refine wpAny_bind (wpAny_holding (wpAny_call_entry slot_list_sort ⟨_, hoL, rfl⟩ entry_list_sort
    (list_sort_treeK strKind_oneLt hoL hS.keysOf (fun v₁ v₂ rest e => keyKind_strs (by rw [← e]; exact hS)) (by rw [hvl]; exact h64) fun st' hp hs => ⟨_, rfl, ?_⟩) (args_list_sort _)))
  obtain ⟨ys, a1, a2, a3⟩ := sorted_out_str hS hp hs
  obtain ⟨c, hc⟩ := sortedHeap_at (vs := vs) (out := (arrOf st').map (·.2)) hoL
  refine wpAny_pure ⟨_, rfl, hQ _ s1.heap.objs.size _ c ys (fun b u e => ?_) g1 o1 hz hc a1 (a2.trans p1) a3⟩
  have q := k1 b u e
  have hlt := Heap.lt_size q
  show (sortedHeap (s1.heap.push (seqObj "list" vs.toArray 0)) s1.heap.objs.size vs _).get? b = some u
  rw [sortedHeap_old (Nat.ne_of_lt hlt) (by rw [size_push']; exact Nat.lt_succ_of_lt hlt)]
  exact Heap.get?_push_of_some _ q
end

section
variable {X : Cx}
/-- the tracked set of the texts ks -/
def SetTxO (P : Program) (w : World) (a : Addr) (ks : List Str) : HO := .ext fun h => SetTx P w h a ks
theorem setTx_new {P : Program} {w : World} {H : Hp} {h : Heap} {a : Addr} {ks : List Str} (R : SetTx P w h a ks) : ObjOk P w H h a (SetTxO P w a ks) := by
  have ⟨o, _, _, _, ho, _⟩ := R
  exact ⟨R, ⟨o, ho⟩, fun h1 h2 p k => SetTx.at p k⟩
/-- set(xs), a list of texts -/
def rSetTx (K : PySem.W.Frag) (P : Program) (w : World) : List V → Hp → VK → Prop := fun vs H Q => ∃ (l : Addr) (xs : List Str), vs = [.ref l] ∧ SqL K H l (xs.map V.str) ∧ xs.length ≤ 1000 ∧
  ∀ p ks, H p = none → ks.Nodup → (∀ j, j ∈ ks ↔ j ∈ xs) → ks.length ≤ xs.length → Q (.ref p) (upd H p (SetTxO P w p ks))
theorem cr_setTx (hc : X.calm = true) : CallR X (.type "set") (rSetTx X.K X.prog X.w) := by
  intro pins s σ H vs us Q I r h
  obtain ⟨l, xs, rfl, hs, hz, q⟩ := h
  obtain ⟨its, rv, hl, _⟩ := I.list hs
  rw [Vals.ref1 r]
  refine tx_set xs (I.ok.hd hc) hl.isList rv.strs (Nat.lt_of_le_of_lt (Nat.succ_le_succ hz) (by decide)) fun h' tk ks R hm hlen k => ?_
  have nd : ks.Nodup := by obtain ⟨_, _, _, _, _, _, _, _, nd, _⟩ := R; exact nd
  exact ⟨.ref _, _, I.laid (t' := tk) k (Nat.le_refl _) (setTx_new R), rfl, q _ ks (I.hok.fresh (Nat.le_refl _)) nd hm hlen⟩
/-- sorted of it -/
def rSortTx (P : Program) (w : World) : List V → Hp → VK → Prop := fun vs H Q => ∃ (a : Addr) (ks : List Str), vs = [.ref a] ∧ H a = some (SetTxO P w a ks) ∧ ks.length < 64 ∧
  ∀ (ys : List Str) (p : Addr), ys.Perm ks → sortedS ys = true → H p = none → Q (.ref p) (upd H p (.lst (ys.map V.str)))
theorem cr_sortTx (hc : X.calm = true) : CallR X (.builtin "sorted") (rSortTx X.prog X.w) := by
  intro pins s σ H vs us Q I r h
  obtain ⟨a, ks, rfl, ha, h64, q⟩ := h
  have R : SetTx X.prog X.w s.heap a ks := (I.hok a _ ha).1
  rw [Vals.ref1 r]
  refine tx_sorted R (I.ok.hd hc) h64 fun s' p out c ys k g o hp hg hi hm hs => ?_
  have hlen : (ys.map V.str).length ≤ sizeLine := by rw [List.length_map, hm.length_eq, sizeLine_eq]; omega
  have hn : H p = none := I.hok.fresh hp
  have J : Inv X pins σ (upd H p (.lst (ys.map V.str))) { s with heap := s'.heap, gens := s'.gens, drawn := s'.drawn, toks := s'.toks } :=
    I.call (ch := []) (Un.laid k hp hn) (I.hok.laid k hp ⟨hlen, out.toList, c, vals_of_strs hi, hg⟩) (by rw [g]; exact I.bare) (fun _ z => nomatch z)
  have e : s' = { s with heap := s'.heap, gens := s'.gens, drawn := s'.drawn, toks := s'.toks } := by
    cases s'
    cases s
    cases o
    rfl
  rw [e]
  exact ⟨.ref p, _, J, rfl, q ys p hm hs hn⟩
end
end PB
/-! PbTop: the program's text by places; what the top leaves -/
namespace PB
open PySem PySem.Spec PyProof.Rows L2

def topS (i : Nat) : Stmt := PySem.Challenge.pw_pageback_k26_whole_lines_read_back.main.body.getD i (.Pass ⟨0, 0, 0, 0⟩)
/-- a def of the top, where it stands -/
structure Here (K : PySem.W.Frag) (mg : Str → Option Value) (x : Str) (st : Stmt) : Prop where
  ex : ∃ (f : Addr) (fd : FuncData), Fun K x x st f fd ∧ mg x = some (.ref f)
/-- a def that keeps its promise and is called by its name -/
structure Def1 (P : Program) (w : World) (K : PySem.W.Frag) (mg : Str → Option Value) (base : Heap) (k : Nat) (x : Str) (sp : Sp) : Prop where
  ex : ∃ (f : Addr) (fd : FuncData) (ps : List Str), FnOk P w K mg base CX0 k f fd ps sp ∧ mg x = some (.ref f) ∧ PySem.W.keepIn K (.ref f) = true ∧ Binds K fd ps []
section
variable {X : Cx} {k j : Nat} {x : Str} {sp : Sp} {p pos : Pos} {e : Expr} {es : List Expr} {t : TA}
theorem pe_f (c : Def1 X.prog X.w X.K X.mg X.base k x sp) (hr : Room j X.A) (hk : k ≤ j) (hg : Gl X x) (ha : PA X (e :: es) t)
    (hdb : (x == ("__debug__" : Str)) = false := by decide) (he : starEach (e :: es) X.env = (false, eval e X.env) :: starEach es X.env := by rfl) (hpl : (backTo pos (starEach es X.env)).any (·.1) = false := by rfl) :
    PE X (.Call (.Name x p) (e :: es) [] pos) (tCall sp [] E0 t) := by
  obtain ⟨f, fd, ps, F, hm, kp, b⟩ := c.ex
  exact pe_call F (hr.mono hk) hg hm kp b .nil pass0 ha hdb he hpl
end
theorem def1 {P : Program} {w : World} {K : PySem.W.Frag} {mg : Str → Option Value} {base : Heap} {x : Str} {st : Stmt} {N ps : List Str} {k : Nat} {sp : Sp} (h : Here K mg x st) (S : FnScope N ps (defScope st)) (len : ∀ vs H Q E, sp vs H Q E → vs.length = ps.length)
    (hb : ∀ (kV doc pm : Value) (an : Option Addr) (cdv ct : Value) (us : List Value), us.length = ps.length → bindArgs (PySem.W.fnOf x x (defArgs st) (defBody st) (defScope st) .none kV doc pm an cdv ct) ⟨us, []⟩ = pure (ps.zip us))
    (hbody : ∀ (f : Addr) (cdv : Value) (A : Around) (outer : List Env) (s : Shared) (H : Hp) (vs : List V) (Q : VK) (E : XK), Room k (A.deeper (envOfC x (defScope st) s.heap.objs.size f cdv)) → sp vs H Q E →
      ∃ t, PSs (cxOf CX0 P w K mg base N x (defScope st) f cdv A outer s H E).nox (defBody st) t ∧ t { nx := fun _ H' => Q .non H', rt := Q } (start N vs) H) : Def1 P w K mg base (k + 1) x sp := by
  obtain ⟨f, fd, F, hm⟩ := h.ex
  exact ⟨f, fd, ps, F.ok S len fun cdv A outer s H vs Q E hr h => hbody f cdv A outer s H vs Q E hr h, hm, F.kp, F.binds hb⟩

/-- the same of a def with one parameter p -/
structure Def2 (P : Program) (w : World) (K : PySem.W.Frag) (mg : Str → Option Value) (base : Heap) (k : Nat) (x p : Str) (sp : Sp) : Prop where
  ex : ∃ (f : Addr) (fd : FuncData), FnOk P w K mg base CX0 k f fd [p] sp ∧ mg x = some (.ref f) ∧ PySem.W.keepIn K (.ref f) = true ∧ Binds K fd [p] []
theorem Def2.to1 {P : Program} {w : World} {K : PySem.W.Frag} {mg : Str → Option Value} {base : Heap} {k : Nat} {x p : Str} {sp : Sp} (h : Def2 P w K mg base k x p sp) : Def1 P w K mg base k x sp := by
  obtain ⟨f, fd, F, hm, kp, b⟩ := h.ex
  exact ⟨f, fd, [p], F, hm, kp, b⟩
theorem def2 {P : Program} {w : World} {K : PySem.W.Frag} {mg : Str → Option Value} {base : Heap} {x : Str} {st : Stmt} {N : List Str} {p : Str} {k : Nat} {sp : Sp} (h : Here K mg x st) (S : FnScope N [p] (defScope st)) (len : ∀ vs H Q E, sp vs H Q E → vs.length = [p].length)
    (hb : ∀ (kV doc pm : Value) (an : Option Addr) (cdv ct : Value) (us : List Value), us.length = [p].length → bindArgs (PySem.W.fnOf x x (defArgs st) (defBody st) (defScope st) .none kV doc pm an cdv ct) ⟨us, []⟩ = pure ([p].zip us))
    (hbody : ∀ (f : Addr) (cdv : Value) (A : Around) (outer : List Env) (s : Shared) (H : Hp) (vs : List V) (Q : VK) (E : XK), Room k (A.deeper (envOfC x (defScope st) s.heap.objs.size f cdv)) → sp vs H Q E →
      ∃ t, PSs (cxOf CX0 P w K mg base N x (defScope st) f cdv A outer s H E).nox (defBody st) t ∧ t { nx := fun _ H' => Q .non H', rt := Q } (start N vs) H) : Def2 P w K mg base (k + 1) x p sp := by
  obtain ⟨f, fd, F, hm⟩ := h.ex
  exact ⟨f, fd, F.ok S len fun cdv A outer s H vs Q E hr h => hbody f cdv A outer s H vs Q E hr h, hm, F.kp, F.binds hb⟩

abbrev sShown : Stmt := topS 4
abbrev sKeyOf : Stmt := topS 5
abbrev sRank : Stmt := topS 6
abbrev sPathShown : Stmt := topS 7
abbrev sStretchShown : Stmt := topS 9
abbrev sTextOf : Stmt := topS 10
abbrev sLines : Stmt := topS 11
abbrev sWritten : Stmt := topS 12
abbrev sPages : Stmt := topS 14
abbrev sFits : Stmt := topS 24
abbrev sMarkRank : Stmt := topS 25
abbrev sSeeRank : Stmt := topS 26
abbrev sEachOnce : Stmt := topS 27
abbrev sPoured : Stmt := topS 28
abbrev sPouredSees : Stmt := topS 29
abbrev sCovered : Stmt := topS 31
abbrev sStretches : Stmt := topS 32
abbrev sEntries : Stmt := topS 34
abbrev sSenders : Stmt := topS 36
abbrev sOtherwise : Stmt := topS 37
abbrev sWayOf : Stmt := topS 38
abbrev sRingOf : Stmt := topS 39
abbrev sLookedAt : Stmt := topS 40
abbrev sWays : Stmt := topS 41
abbrev sCellAt : Stmt := topS 43
abbrev sHeadBy : Stmt := topS 44
abbrev sPathBy : Stmt := topS 45
abbrev sFresh : Stmt := topS 46
abbrev sSees : Stmt := topS 47
abbrev sBook : Stmt := topS 48
abbrev sSettings : Stmt := topS 49
abbrev sMarks : Stmt := topS 50
abbrev sDeep : Stmt := topS 51
abbrev sRead : Stmt := topS 52
abbrev sPage : Stmt := topS 53
abbrev sPagesSo : Stmt := topS 54
abbrev sSeesSo : Stmt := topS 55
abbrev sPathSo : Stmt := topS 56
abbrev sPaths : Stmt := topS 57
abbrev sLaw : Stmt := topS 58

def LARGE : Str := "ABCDEFGHIJKLMNOPQRSTUVWXYZ"
def SMALL : Str := "abcdefghijklmnopqrstuvwxyz"
def FIGURES : Str := "0123456789"
/-- what the top leaves -/
structure Top (K : PySem.W.Frag) (mg : Str → Option Value) : Prop where
  len : mg "len" = none
  str : mg "str" = none
  sorted : mg "sorted" = none
  range : mg "range" = none
  sum : mg "sum" = none
  min : mg "min" = none
  tuple : mg "tuple" = none
  list : mg "list" = none
  int : mg "int" = none
  set : mg "set" = none
  cLarge : ∃ t, mg "LARGE" = some (.str LARGE t)
  cSmall : ∃ t, mg "SMALL" = some (.str SMALL t)
  cFigures : ∃ t, mg "FIGURES" = some (.str FIGURES t)
  fShown : Here K mg "shown" sShown
  fKeyOf : Here K mg "key_of" sKeyOf
  fRank : Here K mg "rank" sRank
  fPathShown : Here K mg "path_shown" sPathShown
  fStretchShown : Here K mg "stretch_shown" sStretchShown
  fTextOf : Here K mg "text_of" sTextOf
  fLines : Here K mg "lines" sLines
  fWritten : Here K mg "written" sWritten
  fPages : Here K mg "pages" sPages
  fFits : Here K mg "fits" sFits
  fMarkRank : Here K mg "mark_rank" sMarkRank
  fSeeRank : Here K mg "see_rank" sSeeRank
  fEachOnce : Here K mg "each_once" sEachOnce
  fPoured : Here K mg "poured" sPoured
  fPouredSees : Here K mg "poured_sees" sPouredSees
  fCovered : Here K mg "covered" sCovered
  fStretches : Here K mg "stretches" sStretches
  fEntries : Here K mg "entries" sEntries
  fSenders : Here K mg "senders" sSenders
  fOtherwise : Here K mg "is_sent_otherwise" sOtherwise
  fWayOf : Here K mg "way_of" sWayOf
  fRingOf : Here K mg "ring_of" sRingOf
  fLookedAt : Here K mg "looked_at" sLookedAt
  fWays : Here K mg "ways" sWays
  fCellAt : Here K mg "_law_cell_at" sCellAt
  fHeadBy : Here K mg "_law_head_by" sHeadBy
  fPathBy : Here K mg "_law_path_by" sPathBy
  fFresh : Here K mg "_law_fresh" sFresh
  fSees : Here K mg "_law_sees" sSees
  fBook : Here K mg "_law_book" sBook
  fSettings : Here K mg "_law_settings" sSettings
  fMarks : Here K mg "_law_marks" sMarks
  fDeep : Here K mg "_law_deep" sDeep
  fRead : Here K mg "_law_read" sRead
  fPage : Here K mg "_law_page" sPage
  fPagesSo : Here K mg "_law_pages_so" sPagesSo
  fSeesSo : Here K mg "_law_sees_so" sSeesSo
  fPathSo : Here K mg "_law_path_so" sPathSo
  fPaths : Here K mg "_law_paths" sPaths
  fLaw : Here K mg "law" sLaw
end PB
/-! PbBase: readings of data in the heap; comprehensions that map and sift -/
namespace PB
open PySem PySem.Spec PyProof.Rows L2

theorem sz {n : Nat} (h : n ≤ 100000) : n ≤ sizeLine := by rw [sizeLine_eq]; omega
theorem szlt {n : Nat} (h : n ≤ 100000) : n < sizeLine := by rw [sizeLine_eq]; omega
theorem same_upd {H : Hp} {p : Addr} {o : HO} (h : H p = none) : Same H (upd H p o) := fun b x e => by
  rw [upd_ne (ne_of_none e h)]
  exact e
/-- what stood before D was made, D changed -/
theorem same_upd2 {H H' : Hp} {D : Addr} {o : HO} (hD : H D = none) (h : Same H H') : Same H (upd H' D o) := fun b x e => by
  rw [upd_ne (ne_of_none e hD)]
  exact h b x e
/-- the heap without D -/
def erase (H : Hp) (D : Addr) : Hp := fun b => if b = D then none else H b
theorem erase_same (H : Hp) (D : Addr) : Same (erase H D) H := fun b x e => by
  unfold erase at e
  split at e
  · cases e
  · exact e
theorem same_erase {H H' : Hp} {D : Addr} (h : Same H H') : Same (erase H D) (erase H' D) := fun b x e => by
  unfold erase at e ⊢
  split at e
  · cases e
  · rename_i hb
    rw [if_neg hb]
    exact h b x e
theorem erase_upd (H : Hp) (D : Addr) (o : HO) : erase (upd H D o) D = erase H D := funext fun b => by
  unfold erase
  by_cases hb : b = D
  · rw [if_pos hb, if_pos hb]
  · rw [if_neg hb, if_neg hb, upd_ne hb]
theorem erase_at {H : Hp} {D b : Addr} {o : HO} (h : H b = some o) (hb : b ≠ D) : erase H D b = some o := by
  unfold erase
  rw [if_neg hb]
  exact h
theorem same_erase_of {H H' : Hp} {D : Addr} (hD : H D = none) (h : Same H H') : Same H (erase H' D) := fun b x e => erase_at (h b x e) (ne_of_none e hD)

theorem sqL {K : PySem.W.Frag} {H : Hp} {a : Addr} {xs : List V} (h : H a = some (.lst xs)) : SqL K H a xs := .inl (.inl h)
theorem sqT {K : PySem.W.Frag} {H : Hp} {a : Addr} {xs : List V} (h : H a = some (.tup xs)) : SqT K H a xs := .inl (.inl h)
theorem snoc_cases {α : Type} (l : List α) : l = [] ∨ ∃ i x, l = i ++ [x] := by
  cases l with
  | nil => exact .inl rfl
  | cons a t => exact .inr ⟨_, _, (List.dropLast_concat_getLast (List.cons_ne_nil a t)).symm⟩
abbrev Rl (β : Type) := β → V → Hp → Prop
def Mono {β : Type} (R : Rl β) : Prop := ∀ b y H H', Same H H' → R b y H → R b y H'
theorem Paired.monoR {β : Type} {R : Rl β} (m : Mono R) {H H' : Hp} (e : Same H H') {xs : List β} {ys : List V} (h : Paired (fun b y => R b y H) xs ys) : Paired (fun b y => R b y H') xs ys := L2.Paired.mapP h fun _ _ r => m _ _ _ _ e r
theorem pr_get {α β : Type} {F : α → β → Prop} : ∀ {l₁ : List α} {l₂ : List β} {i : Nat} {a : α}, Paired F l₁ l₂ → l₁[i]? = some a → ∃ b, l₂[i]? = some b ∧ F a b
  | _, _, 0, _, .cons h _, e => by cases e; exact ⟨_, rfl, h⟩
  | _, _, i + 1, _, .cons _ t, e => pr_get (i := i) t e
  | _, _, _, _, .nil, e => by simp at e
theorem pr_get2 {α β : Type} {F : α → β → Prop} : ∀ {l₁ : List α} {l₂ : List β} {i : Nat} {b : β}, Paired F l₁ l₂ → l₂[i]? = some b → ∃ a, l₁[i]? = some a ∧ F a b
  | _, _, 0, _, .cons h _, e => by cases e; exact ⟨_, rfl, h⟩
  | _, _, i + 1, _, .cons _ t, e => pr_get2 (i := i) t e
  | _, _, _, _, .nil, e => by simp at e
theorem pr_mem {α β : Type} {F : α → β → Prop} {l₁ : List α} {l₂ : List β} {a : α} (h : Paired F l₁ l₂) (ha : a ∈ l₁) : ∃ b, b ∈ l₂ ∧ F a b := by
  obtain ⟨i, hi⟩ := List.getElem?_of_mem ha
  obtain ⟨b, hb, r⟩ := pr_get h hi
  exact ⟨b, List.mem_of_getElem? hb, r⟩
theorem pr_mem2 {α β : Type} {F : α → β → Prop} {l₁ : List α} {l₂ : List β} {b : β} (h : Paired F l₁ l₂) (hb : b ∈ l₂) : ∃ a, a ∈ l₁ ∧ F a b := by
  obtain ⟨i, hi⟩ := List.getElem?_of_mem hb
  obtain ⟨a, ha, r⟩ := pr_get2 h hi
  exact ⟨a, List.mem_of_getElem? ha, r⟩
theorem pr_map {α β γ : Type} {F : γ → β → Prop} {f : α → γ} : ∀ {l₁ : List α} {l₂ : List β}, Paired (fun a b => F (f a) b) l₁ l₂ → Paired F (l₁.map f) l₂
  | _, _, .nil => .nil
  | _, _, .cons h t => .cons h (pr_map t)
theorem pr_unmap {α β γ : Type} {F : γ → β → Prop} {f : α → γ} : ∀ {l₁ : List α} {l₂ : List β}, Paired F (l₁.map f) l₂ → Paired (fun a b => F (f a) b) l₁ l₂
  | [], _, h => by cases h; exact .nil
  | _ :: _, _, h => by cases h with | cons a b => exact .cons a (pr_unmap b)
theorem pr_app {α β : Type} {F : α → β → Prop} : ∀ {l₁ : List α} {l₂ : List β} {m₁ : List α} {m₂ : List β}, Paired F l₁ l₂ → Paired F m₁ m₂ → Paired F (l₁ ++ m₁) (l₂ ++ m₂)
  | _, _, _, _, .nil, h => h
  | _, _, _, _, .cons h t, h2 => .cons h (pr_app t h2)
theorem pr_drop {α β : Type} {F : α → β → Prop} : ∀ {l₁ : List α} {l₂ : List β} (i : Nat), Paired F l₁ l₂ → Paired F (l₁.drop i) (l₂.drop i)
  | _, _, 0, h => h
  | _, _, _ + 1, .nil => .nil
  | _, _, i + 1, .cons _ t => pr_drop i t
theorem pr_take {α β : Type} {F : α → β → Prop} : ∀ {l₁ : List α} {l₂ : List β} (i : Nat), Paired F l₁ l₂ → Paired F (l₁.take i) (l₂.take i)
  | _, _, 0, _ => .nil
  | _, _, _ + 1, .nil => .nil
  | _, _, i + 1, .cons h t => .cons h (pr_take i t)

/-- flat values -/
def RStr : Rl Str := fun z v _ => v = .str z
def RInt : Rl Int := fun z v _ => v = .int z
def RBl : Rl Bool := fun z v _ => v = .bl z
theorem mono_str : Mono RStr := fun _ _ _ _ _ h => h
theorem mono_int : Mono RInt := fun _ _ _ _ _ h => h
theorem mono_bl : Mono RBl := fun _ _ _ _ _ h => h
theorem pr_str : ∀ {zs : List Str} {vs : List V} {H : Hp}, Paired (fun z v => RStr z v H) zs vs → vs = zs.map V.str
  | _, _, _, .nil => rfl
  | _, _, _, .cons h t => by rw [pr_str t, show _ = V.str _ from h]; rfl
theorem pr_int : ∀ {zs : List Int} {vs : List V} {H : Hp}, Paired (fun z v => RInt z v H) zs vs → vs = zs.map V.int
  | _, _, _, .nil => rfl
  | _, _, _, .cons h t => by rw [pr_int t, show _ = V.int _ from h]; rfl
theorem pr_bl : ∀ {zs : List Bool} {vs : List V} {H : Hp}, Paired (fun z v => RBl z v H) zs vs → vs = zs.map V.bl
  | _, _, _, .nil => rfl
  | _, _, _, .cons h t => by rw [pr_bl t, show _ = V.bl _ from h]; rfl
theorem pr_strs (zs : List Str) (H : Hp) : Paired (fun z v => RStr z v H) zs (zs.map V.str) := by
  induction zs with
  | nil => exact .nil
  | cons z zs ih => exact .cons rfl ih
/-- a list of such -/
def RList {β : Type} (R : Rl β) : Rl (List β) := fun xs v H => ∃ a vs, v = .ref a ∧ H a = some (.lst vs) ∧ Paired (fun b y => R b y H) xs vs
theorem mono_list {β : Type} {R : Rl β} (m : Mono R) : Mono (RList R) := fun _ _ _ _ e h => by
  obtain ⟨a, vs, rfl, ha, p⟩ := h
  exact ⟨a, vs, rfl, e _ _ ha, Paired.monoR m e p⟩

/-- [e for x in .. if ..]: each turn gives f's data, or is passed -/
theorem lc_f {δ β : Type} {J : It} {n : Nat} {G : Hp → Prop} {Y : Nat → Hp → V → Hp → Prop} (w : Walk J n G Y) {g : TG} {tt : TT} {te : TE} {vs : List Nat} {σ : L2.St} {H1 : Hp} {D : Addr} {Qd : Hp → Prop}
    (ds : List δ) (f : δ → Option β) (R : Rl β) (mono : Mono R) (hn : ds.length = n) (hz : n ≤ 100000) (hD : H1 D = none) (hG : ∀ H, Same H1 H → G H)
    (hs : ∀ i d x H H' (Kn : VK) (Ks : Hp → Prop), ds[i]? = some d → Same H1 H → (∃ acc, H D = some (.lst acc)) → Y i H x H' → (∀ y H4 e, Same H H4 → f d = some e → R e y (erase H4 D) → Kn y H4) → (∀ H3, Same H H3 → f d = none → Ks H3) →
      g x (wipe σ vs) H' fun σ2 H2 => wipe σ2 vs = wipe σ vs ∧ tt σ2 H2 fun b H3 => if b = true then te σ2 H3 Kn else Ks H3)
    (hd : ∀ H ys, Same H1 H → H D = some (.lst ys) → Paired (fun e y => R e y (erase H D)) (ds.filterMap f) ys → Qd H) :
    ∃ W : Nat → Nat → Hp → Prop, (∃ m, W 0 m (upd H1 D (.lst []))) ∧ ∀ i m H, W i m H →
      (J.stop i H ∧ Qd H) ∨ (J.go i H ∧ ∃ Nx : Hp → Prop, (∀ H', Nx H' → ∃ m', m' < m ∧ W (i + 1) m' H') ∧ ∀ x H', J.yld i H x H' → g x (wipe σ vs) H' fun σ2 H2 => wipe σ2 vs = wipe σ vs ∧ tt σ2 H2 fun b H3 =>
        if b = true then te σ2 H3 fun y H4 => ∃ acc, H4 D = some (.lst acc) ∧ acc.length < sizeLine ∧ Nx (upd H4 D (.lst (acc ++ [y]))) else Nx H3) := by
  refine lc_it w (fun i H => Same H1 H ∧ ∃ ys, H D = some (.lst ys) ∧ Paired (fun e y => R e y (erase H D)) ((ds.take i).filterMap f) ys)
    ⟨same_upd2 hD (Same.refl _), [], upd_same, .nil⟩ (fun i H hi p => hG H p.1) (fun i x H H' hi p y => ?_) (fun H p => ?_)
  · obtain ⟨sm, ys, hy, pr⟩ := p
    obtain ⟨d, hdi⟩ : ∃ d, ds[i]? = some d := ⟨_, List.getElem?_eq_getElem (by omega)⟩
    have et : ds.take (i + 1) = ds.take i ++ [d] := by rw [List.take_add_one, hdi]; rfl
    refine hs i d x H H' _ _ hdi sm ⟨ys, hy⟩ y ?_ ?_
    · intro y H4 e s4 fe r
      have h4 := s4 _ _ hy
      refine ⟨ys, h4, ?_, same_upd2 hD (sm.trans s4), ys ++ [y], upd_same, ?_⟩
      · have hl := Paired.length pr
        have h2 := List.length_filterMap_le f (ds.take i)
        rw [List.length_take] at h2
        exact szlt (by omega)
      · rw [et, List.filterMap_append, erase_upd]
        have e1 : [d].filterMap f = [e] := by simp [fe]
        rw [e1]
        exact Paired.snoc (L2.Paired.mapP pr fun _ _ r => mono _ _ _ _ (same_erase s4) r) r
    · intro H3 s3 fe
      refine ⟨sm.trans s3, ys, s3 _ _ hy, ?_⟩
      rw [et, List.filterMap_append]
      have e1 : [d].filterMap f = [] := by simp [fe]
      rw [e1, List.append_nil]
      exact L2.Paired.mapP pr fun _ _ r => mono _ _ _ _ (same_erase s3) r
  · obtain ⟨sm, ys, hy, pr⟩ := p
    rw [List.take_of_length_le (by omega)] at pr
    exact hd H ys sm hy pr
/-- [e for x in ..]: no test -/
theorem lc_m {δ β : Type} {J : It} {n : Nat} {G : Hp → Prop} {Y : Nat → Hp → V → Hp → Prop} (w : Walk J n G Y) {g : TG} {te : TE} {vs : List Nat} {σ : L2.St} {H1 : Hp} {D : Addr} {Qd : Hp → Prop}
    (ds : List δ) (f : δ → β) (R : Rl β) (mono : Mono R) (hn : ds.length = n) (hz : n ≤ 100000) (hD : H1 D = none) (hG : ∀ H, Same H1 H → G H)
    (hs : ∀ i d x H H' (Kn : VK), ds[i]? = some d → Same H1 H → (∃ acc, H D = some (.lst acc)) → Y i H x H' → (∀ y H4, Same H H4 → R (f d) y (erase H4 D) → Kn y H4) →
      g x (wipe σ vs) H' fun σ2 H2 => wipe σ2 vs = wipe σ vs ∧ te σ2 H2 Kn)
    (tg : ∀ x σ' H (P Q : L2.St → Hp → Prop), (∀ a b, P a b → Q a b) → g x σ' H P → g x σ' H Q)
    (hd : ∀ H ys, Same H1 H → H D = some (.lst ys) → Paired (fun e y => R e y (erase H D)) (ds.map f) ys → Qd H) :
    ∃ W : Nat → Nat → Hp → Prop, (∃ m, W 0 m (upd H1 D (.lst []))) ∧ ∀ i m H, W i m H →
      (J.stop i H ∧ Qd H) ∨ (J.go i H ∧ ∃ Nx : Hp → Prop, (∀ H', Nx H' → ∃ m', m' < m ∧ W (i + 1) m' H') ∧ ∀ x H', J.yld i H x H' → g x (wipe σ vs) H' fun σ2 H2 => wipe σ2 vs = wipe σ vs ∧ tYes σ2 H2 fun b H3 =>
        if b = true then te σ2 H3 fun y H4 => ∃ acc, H4 D = some (.lst acc) ∧ acc.length < sizeLine ∧ Nx (upd H4 D (.lst (acc ++ [y]))) else Nx H3) := by
  refine lc_f w (tt := tYes) ds (fun d => some (f d)) R mono hn hz hD hG (fun i d x H H' Kn Ks hdi sm hacc y kn _ => ?_) (fun H ys sm hD1 pr => ?_)
  · refine tg _ _ _ _ _ ?_ (hs i d x H H' Kn hdi sm hacc y fun y H4 s4 r => kn y H4 _ s4 rfl r)
    intro σ2 H2 ⟨h1, h2⟩
    exact ⟨h1, h2⟩
  · rw [List.filterMap_eq_map'] at pr
    exact hd H ys sm hD1 pr
theorem gName_mono {i : Nat} : ∀ x σ' H (P Q : L2.St → Hp → Prop), (∀ a b, P a b → Q a b) → gName i x σ' H P → gName i x σ' H Q := fun _ _ _ _ _ h p => h _ _ p
end PB
/-! PbHeads: heads.py: shown, key_of, rank, path_shown -/
namespace PB
open PySem PySem.Spec PyProof.Rows L2 TL

/-! PbHeads: ### what they compute -/
def shownS (z : Str) : Str := if (Txt.partition z (Str.ofString "|")).2.1 = Str.ofString "" then z else (Txt.partition z (Str.ofString "|")).2.2 ++ Str.ofString ", " ++ (Txt.partition z (Str.ofString "|")).1
def keyC (c : Nat) : List Nat := if 65 ≤ c ∧ c ≤ 90 then [c + 32] else if (97 ≤ c ∧ c ≤ 122) ∨ (48 ≤ c ∧ c ≤ 57) then [c] else []
def keyL (l : List Nat) : List Nat := l.flatMap keyC
def keyS (z : Str) : Str := ⟨(keyL (tl (shownS z))).toArray⟩
def rankD (p : List Str) : PyData := .list (p.map fun h => .tuple [.str (keyS h), .str (shownS h)])
def pathShownS (p : List Str) : Str := Txt.join (Str.ofString ": ") (p.map shownS)
structure PathOk (p : List Str) : Prop where
  few : p.length ≤ 20
  short : ∀ h ∈ p, h.length ≤ 400
def RPath : Rl (List Str) := fun p v H => ∃ a, v = .ref a ∧ H a = some (.tup (p.map V.str))
theorem mono_path : Mono RPath := fun _ _ _ _ e h => by
  obtain ⟨a, rfl, ha⟩ := h
  exact ⟨a, rfl, e _ _ ha⟩

theorem partition_len (z y : Str) : (Txt.partition z y).1.length ≤ z.length ∧ (Txt.partition z y).2.2.length ≤ z.length := by
  unfold Txt.partition
  cases Builtin.Str.occurrences z y 0 z.length 1 with
  | nil => exact ⟨Nat.le_refl _, Nat.zero_le _⟩
  | cons i r =>
    constructor
    · show (PySem.Builtin.Str.strSub z 0 i).length ≤ _
      rw [len_tl, len_tl, tl_strSub, List.length_take, List.length_drop]
      omega
    · show (PySem.Builtin.Str.strSub z (i + y.length) z.length).length ≤ _
      rw [len_tl, len_tl, tl_strSub, List.length_take, List.length_drop]
      omega
theorem app_len (x y : Str) : (x ++ y).length = x.length + y.length := by
  rw [len_tl, tl_append, List.length_append, ← len_tl, ← len_tl]
theorem shown_len {z : Str} {n : Nat} (h : z.length ≤ n) : (shownS z).length ≤ 2 * n + 2 := by
  unfold shownS
  have h2 := partition_len z (Str.ofString "|")
  split
  · omega
  · rw [app_len, app_len]
    have : (Str.ofString ", ").length = 2 := by decide
    omega
theorem keyL_len (l : List Nat) : (keyL l).length ≤ l.length := by
  induction l with
  | nil => exact Nat.le_refl _
  | cons c l ih =>
    unfold keyL at ih ⊢
    rw [List.flatMap_cons, List.length_append]
    have : (keyC c).length ≤ 1 := by
      unfold keyC
      split
      · exact Nat.le_refl _
      · split
        · exact Nat.le_refl _
        · exact Nat.zero_le _
    rw [List.length_cons]
    omega

section
variable {P : Program} {w : World} {K : PySem.W.Frag} {mg : Str → Option Value} {base : Heap}
/-! PbHeads: ### shown -/
theorem scShown : FnScope ["head", "ahead", "turn", "behind"] ["head"] (defScope sShown) := ⟨rfl, rfl, rfl, by decide +kernel, rfl, by decide +kernel, by decide +kernel⟩
def spShown : Sp := fun vs H Q _ => ∃ z : Str, vs = [.str z] ∧ z.length ≤ 1000 ∧ ∀ H', Same H H' → Q (.str (shownS z)) H'
theorem okShown (T : Top K mg) : Def1 P w K mg base 1 "shown" spShown := by
  refine def1 T.fShown scShown (fun vs H Q E h => ?_) (fun _ _ _ _ _ _ us hl => match us, hl with | [_], _ => rfl) (fun f cdv A outer s H vs Q E hr h => ?_)
  · obtain ⟨z, rfl, _⟩ := h
    rfl
  · obtain ⟨z, rfl, hz, q⟩ := h
    refine ⟨_, pss_cons (ps_asg (pe_partition (pv 0) pe_str) (pg_tup rfl (pgs_cons (pg_name (i := 1) scShown.nd rfl (.inl rfl)) (pgs_cons (pg_name (i := 2) scShown.nd rfl (.inl rfl)) (pgs_cons (pg_name (i := 3) scShown.nd rfl (.inl rfl)) pgs_nil)))))
      (pss_cons (ps_if (pt_cmpR op_eq (pv 2) pe_str (nomark _)) (pss_one (ps_ret (pv 0))) pss_nil)
      (pss_one (ps_ret (pe_op op_add_str (pe_op op_add_str (pv 3) pe_str) (pv 1))))), ?_⟩
    refine ⟨_, rfl, ⟨_, rfl⟩, z, _, rfl, rfl, by decide, sz (by omega), fun p np => ?_⟩
    refine ⟨p, _, rfl, .inl (.inl upd_same), rfl, _, _, rfl, _, _, rfl, _, _, rfl, rfl, ?_⟩
    refine ⟨_, rfl, rfl, _, rfl, ite2 (fun e => ?_) (fun e => ?_)⟩
    · have e := V.str.inj (of_decide_eq_true e)
      refine ⟨_, rfl, ?_⟩
      have q := q _ (same_upd np (o := .tup [.str (Txt.partition z (Str.ofString "|")).1, .str (Txt.partition z (Str.ofString "|")).2.1, .str (Txt.partition z (Str.ofString "|")).2.2]))
      unfold shownS at q
      rw [if_pos e] at q
      exact q
    · have h2 := partition_len z (Str.ofString "|")
      have hc : (Str.ofString ", ").length = 2 := by decide
      have q := q _ (same_upd np (o := .tup [.str (Txt.partition z (Str.ofString "|")).1, .str (Txt.partition z (Str.ofString "|")).2.1, .str (Txt.partition z (Str.ofString "|")).2.2]))
      unfold shownS at q
      rw [if_neg (fun z => e (decide_eq_true (congrArg V.str z)))] at q
      exact ⟨_, rfl, _, _, rfl, rfl, sz (by omega), _, rfl, _, _, rfl, rfl, sz (by rw [app_len]; omega), q⟩
/-! PbHeads: ### key_of -/
theorem scKeyOf : FnScope ["head", "found", "sign"] ["head"] (defScope sKeyOf) := ⟨rfl, rfl, rfl, by decide +kernel, rfl, by decide +kernel, by decide +kernel⟩
def spKeyOf : Sp := fun vs H Q _ => ∃ z : Str, vs = [.str z] ∧ z.length ≤ 1000 ∧ ∀ H', Same H H' → Q (.str (keyS z)) H'
theorem large_at : ∀ j, j < 26 → Builtin.Str.occurrences LARGE ⟨#[65 + j]⟩ 0 LARGE.length 1 = [j] := by decide +kernel
theorem small_at : ∀ j, j < 26 → SMALL.cps[j]? = some (97 + j) := by decide +kernel
theorem large_mem (c : Nat) : c ∈ LARGE.cps.toList ↔ 65 ≤ c ∧ c ≤ 90 := by
  have e : LARGE.cps.toList = List.range' 65 26 := by decide +kernel
  rw [e, List.mem_range'_1]
  omega
theorem small_mem (c : Nat) : c ∈ SMALL.cps.toList ↔ 97 ≤ c ∧ c ≤ 122 := by
  have e : SMALL.cps.toList = List.range' 97 26 := by decide +kernel
  rw [e, List.mem_range'_1]
  omega
theorem figures_mem (c : Nat) : c ∈ FIGURES.cps.toList ↔ 48 ≤ c ∧ c ≤ 57 := by
  have e : FIGURES.cps.toList = List.range' 48 10 := by decide +kernel
  rw [e, List.mem_range'_1]
  omega
theorem okKeyOf (T : Top K mg) : Def1 P w K mg base 2 "key_of" spKeyOf := by
  obtain ⟨tL, mL⟩ := T.cLarge
  obtain ⟨tS, mS⟩ := T.cSmall
  obtain ⟨tF, mF⟩ := T.cFigures
  refine def1 T.fKeyOf scKeyOf (fun vs H Q E h => ?_) (fun _ _ _ _ _ _ us hl => match us, hl with | [_], _ => rfl) (fun f cdv A outer s H vs Q E hr h => ?_)
  · obtain ⟨z, rfl, _⟩ := h
    rfl
  · obtain ⟨z, rfl, hz, q⟩ := h
    refine ⟨_, pss_cons (ps_set (i := 1) scKeyOf.nd rfl (.inl rfl) pe_str)
      (pss_cons (ps_for PassesOwn.never rfl (pi_str (pe_f (okShown T) hr (Nat.le_refl _) rfl (pa_cons (pv 0) pa_nil))) (pg_name (i := 2) scKeyOf.nd rfl (.inl rfl))
        (pss_one (ps_if (pt_cmpR op_in_sign (pv 2) (pe_glob (v := .str LARGE) rfl mL ⟨_, rfl⟩) rfl)
          (pss_one (ps_set (i := 1) scKeyOf.nd rfl (.inl rfl) (pe_op op_add_str (pv 1) (pe_item_str (pe_glob (v := .str SMALL) rfl mS ⟨_, rfl⟩) (pe_m1 F.slot_str_index F.type_str_index mt_sindex (pe_glob (v := .str LARGE) rfl mL ⟨_, rfl⟩) (pv 2)) (fun _ _ => rfl)))))
          (pss_one (ps_if (PW.pt (pw_or (pt_cmpR op_in_sign (pv 2) (pe_glob (v := .str SMALL) rfl mS ⟨_, rfl⟩) rfl) (pw_or1 (pt_cmpR op_in_sign (pv 2) (pe_glob (v := .str FIGURES) rfl mF ⟨_, rfl⟩) rfl))))
            (pss_one (ps_set (i := 1) scKeyOf.nd rfl (.inl rfl) (pe_op op_add_str (pv 1) (pv 2)))) pss_nil)))))
      (pss_one (ps_ret (pv 1)))), ?_⟩
    refine ⟨_, rfl, z, rfl, hz, fun H1 s1 => ?_⟩
    have hsl : (shownS z).length ≤ 2002 := shown_len hz
    have hsz : (shownS z).cps.size = (tl (shownS z)).length := (Array.length_toList ..).symm
    refine ⟨_, rfl, for_it walk_str (fun i σ H' => H' = H1 ∧ ∃ y, σ = [some (.str z), some (.str ⟨(keyL ((tl (shownS z)).take i)).toArray⟩), y]) ⟨rfl, _, rfl⟩ (fun _ _ _ _ _ => trivial) (fun i x σ H2 H3 hi hp hy => ?_) (fun σ H2 hp => ?_)⟩
    · obtain ⟨rfl, y, rfl⟩ := hp
      obtain ⟨rfl, c, hc, rfl⟩ := hy
      have hci : (tl (shownS z))[i]? = some c := by
        show (shownS z).cps.toList[i]? = _
        rw [Array.getElem?_toList]
        exact hc
      have et : (tl (shownS z)).take (i + 1) = (tl (shownS z)).take i ++ [c] := by rw [List.take_add_one, hci]; rfl
      have hlen : (keyL ((tl (shownS z)).take i)).length ≤ 2002 := by
        have h1 := keyL_len ((tl (shownS z)).take i)
        rw [List.length_take] at h1
        have h2 := len_tl (shownS z)
        omega
      have add : ∀ d : Nat, keyC c = [d] → (⟨(keyL ((tl (shownS z)).take i)).toArray⟩ : Str) ++ ⟨#[d]⟩ = ⟨(keyL ((tl (shownS z)).take (i + 1))).toArray⟩ := fun d hd => by
        refine ext_tl ?_
        rw [tl_append, tl_mk, tl_mk, et]
        unfold keyL
        rw [List.flatMap_append, List.flatMap_cons, List.flatMap_nil, List.append_nil, hd]
      refine ⟨_, rfl, c, _, rfl, rfl, _, rfl, ite2 (fun e => ?_) (fun e => ?_)⟩
      · have e := (large_mem c).mp (of_decide_eq_true e)
        obtain ⟨j, rfl⟩ : ∃ j, c = 65 + j := ⟨c - 65, by omega⟩
        refine ⟨_, rfl, ⟨_, rfl⟩, _, rfl, _, _, j, [], rfl, rfl, large_at j (by omega), SMALL, (j : Int), 97 + j, rfl, rfl, by omega, by omega, ?_, ?_, ?_⟩
        · rw [show SMALL.length = 26 by decide]; omega
        · rw [Int.toNat_natCast]; exact small_at j (by omega)
        · refine ⟨_, _, rfl, rfl, ?_, ?_⟩
          · refine sz ?_
            show Array.size _ + 1 ≤ _
            rw [List.size_toArray]
            omega
          · refine ⟨rfl, some (.str ⟨#[65 + j]⟩), ?_⟩
            rw [add (97 + j) (by unfold keyC; rw [if_pos e, show 65 + j + 32 = 97 + j by omega])]
            rfl
      · have e : ¬ (65 ≤ c ∧ c ≤ 90) := fun z => e (decide_eq_true ((large_mem c).mpr z))
        have fin : ∀ (h : (97 ≤ c ∧ c ≤ 122) ∨ (48 ≤ c ∧ c ≤ 57)), keyC c = [c] := fun h => by unfold keyC; rw [if_neg e, if_pos h]
        have put : ((97 ≤ c ∧ c ≤ 122) ∨ (48 ≤ c ∧ c ≤ 57)) → ∀ (t : TS), t = tAsg (tOp (fun x y H Q => ∃ i j, x = .str i ∧ y = .str j ∧ i.length + j.length ≤ sizeLine ∧ Q (.str (i ++ j)) H) (tVar 1) (tVar 2)) (gName 1) → True := fun _ _ _ => trivial
        refine ⟨_, rfl, c, _, rfl, rfl, _, rfl, ite2 (fun e2 => ?_) (fun e2 => ?_)⟩
        · have e2 := (small_mem c).mp (of_decide_eq_true e2)
          refine iteT ?_
          refine ⟨_, rfl, _, rfl, _, _, rfl, rfl, ?_, ?_⟩
          · refine sz ?_
            show Array.size _ + 1 ≤ _
            rw [List.size_toArray]
            omega
          · refine ⟨rfl, some (.str ⟨#[c]⟩), ?_⟩
            rw [add c (fin (.inl e2))]
            rfl
        · have e2 : ¬ (97 ≤ c ∧ c ≤ 122) := fun z => e2 (decide_eq_true ((small_mem c).mpr z))
          refine ⟨_, rfl, c, _, rfl, rfl, _, rfl, ite2 (fun e3 => ?_) (fun e3 => ?_)⟩
          · have e3 := (figures_mem c).mp (of_decide_eq_true e3)
            refine ⟨_, rfl, _, rfl, _, _, rfl, rfl, ?_, ?_⟩
            · refine sz ?_
              show Array.size _ + 1 ≤ _
              rw [List.size_toArray]
              omega
            · refine ⟨rfl, some (.str ⟨#[c]⟩), ?_⟩
              rw [add c (fin (.inr e3))]
              rfl
          · have e3 : ¬ (48 ≤ c ∧ c ≤ 57) := fun z => e3 (decide_eq_true ((figures_mem c).mpr z))
            refine ⟨rfl, some (.str ⟨#[c]⟩), ?_⟩
            have ek : keyC c = [] := by
              unfold keyC
              rw [if_neg e, if_neg (fun z => z.elim e2 e3)]
            have : keyL ((tl (shownS z)).take (i + 1)) = keyL ((tl (shownS z)).take i) := by
              rw [et]
              unfold keyL
              rw [List.flatMap_append, List.flatMap_cons, List.flatMap_nil, List.append_nil, ek, List.append_nil]
            rw [this]
            rfl
    · obtain ⟨rfl, y, rfl⟩ := hp
      refine ⟨_, rfl, ?_⟩
      rw [hsz, List.take_length]
      exact q H2 s1
/-! PbHeads: ### rank -/
theorem scRank : FnScope ["path", "head"] ["path"] (defScope sRank) := ⟨rfl, rfl, rfl, by decide +kernel, rfl, by decide +kernel, by decide +kernel⟩
def spRank (K : PySem.W.Frag) : Sp := fun vs H Q _ => ∃ (v : V) (p : List Str), vs = [v] ∧ RPath p v H ∧ PathOk p ∧ ∀ H' v, Same H H' → Dp K H' v (rankD p) → Q v H'
theorem dp_list {β : Type} {f : β → PyData} {H : Hp} : ∀ {xs : List β} {ys : List V}, Paired (fun b y => Dp K H y (f b)) xs ys → DpAll K H ys (xs.map f)
  | _, _, .nil => .nil
  | _, _, .cons h t => .cons h (dp_list t)
theorem okRank2 (T : Top K mg) : Def2 P w K mg base 3 "rank" "path" (spRank K) := by
  refine def2 T.fRank scRank (fun vs H Q E h => ?_) (fun _ _ _ _ _ _ us hl => match us, hl with | [_], _ => rfl) (fun f cdv A outer s H vs Q E hr h => ?_)
  · obtain ⟨v, p, rfl, _⟩ := h
    rfl
  · obtain ⟨v, p, rfl, ⟨a, rfl, ha⟩, hp, q⟩ := h
    refine ⟨_, pss_one (ps_ret (pe_lc (own := [("head", 1)]) (g := gName 1) (tt := tYes) rfl scRank.nd (pi_tup (pv 0)) (blkOk_by (own := [("head", 1)]) (N := ["path", "head"]) (sc := defScope sRank) (by decide +kernel))
      (fun _ _ _ _ _ => pg_name (i := 1) scRank.nd rfl (Or.inl rfl)) (fun _ _ _ _ _ => pts_nil)
      (fun _ _ _ _ _ => pe_tup (pa_cons (pe_f (okKeyOf T) hr (Nat.le_refl _) rfl (pa_cons (pv 1) pa_nil)) (pa_cons (pe_f (okShown T) hr (by decide) rfl (pa_cons (pv 1) pa_nil)) pa_nil))))), ?_⟩
    refine ⟨_, rfl, a, rfl, ⟨_, .inl (.inl ha)⟩, fun D hD => ?_⟩
    refine lc_m (walk_tup (xs := p.map V.str)) p (fun h => h) (fun h y H => Dp K H y (.tuple [.str (keyS h), .str (shownS h)])) (fun _ _ _ _ e h => dpSame e _ _ h) (by rw [List.length_map]) ?_ hD (fun H1 s1 => .inl (.inl (s1 _ _ ha))) (fun i d x H1 H2 Kn hd sm hacc hy kn => ?_) gName_mono (fun H1 ys sm hD1 pr => ?_)
    · rw [List.length_map]
      have := hp.few
      omega
    · obtain ⟨rfl, hx⟩ := hy
      rw [List.getElem?_map, hd] at hx
      cases hx
      have hl : d.length ≤ 1000 := Nat.le_trans (hp.short d (List.mem_of_getElem? hd)) (by decide)
      refine ⟨rfl, ?_⟩
      refine ⟨_, rfl, d, rfl, hl, fun H3 s3 => ⟨_, rfl, d, rfl, hl, fun H4 s4 => ⟨sz (by show 2 ≤ 100000; decide), fun t nt => ?_⟩⟩⟩
      obtain ⟨acc, hacc⟩ := hacc
      have hDt : t ≠ D := fun e => by
        have := s4 _ _ (s3 _ _ hacc)
        rw [← e, nt] at this
        cases this
      refine kn _ _ ((s3.trans s4).trans (same_upd nt)) ?_
      refine .tup (.inl (.inl (erase_at upd_same hDt))) (.cons (.str _) (.cons (.str _) .nil))
    · rw [List.map_id'] at pr
      refine q _ _ sm ?_
      exact .lst (.inl (.inl hD1)) (dp_list (L2.Paired.mapP pr fun _ _ h => dpSame (erase_same _ _) _ _ h))
theorem okRank (T : Top K mg) : Def1 P w K mg base 3 "rank" (spRank K) := (okRank2 T).to1
/-! PbHeads: ### path_shown -/
theorem scPathShown : FnScope ["path", "head"] ["path"] (defScope sPathShown) := ⟨rfl, rfl, rfl, by decide +kernel, rfl, by decide +kernel, by decide +kernel⟩
def spPathShown : Sp := fun vs H Q _ => ∃ (v : V) (p : List Str), vs = [v] ∧ RPath p v H ∧ PathOk p ∧ ∀ H', Same H H' → Q (.str (pathShownS p)) H'
theorem sum_le {l : List Nat} {n : Nat} (h : ∀ x ∈ l, x ≤ n) : l.sum ≤ l.length * n := by
  induction l with
  | nil => exact Nat.zero_le _
  | cons x l ih =>
    rw [List.sum_cons, List.length_cons, Nat.add_mul, Nat.one_mul]
    have h1 := h x List.mem_cons_self
    have h2 := ih fun y hy => h y (List.mem_cons_of_mem _ hy)
    omega
theorem okPathShown (T : Top K mg) : Def1 P w K mg base 2 "path_shown" spPathShown := by
  refine def1 T.fPathShown scPathShown (fun vs H Q E h => ?_) (fun _ _ _ _ _ _ us hl => match us, hl with | [_], _ => rfl) (fun f cdv A outer s H vs Q E hr h => ?_)
  · obtain ⟨v, p, rfl, _⟩ := h
    rfl
  · obtain ⟨v, p, rfl, ⟨a, rfl, ha⟩, hp, q⟩ := h
    refine ⟨_, pss_one (ps_ret (pe_join pe_str (pe_lc (own := [("head", 1)]) (g := gName 1) (tt := tYes) rfl scPathShown.nd (pi_tup (pv 0)) (blkOk_by (own := [("head", 1)]) (N := ["path", "head"]) (sc := defScope sPathShown) (by decide +kernel))
      (fun _ _ _ _ _ => pg_name (i := 1) scPathShown.nd rfl (Or.inl rfl)) (fun _ _ _ _ _ => pts_nil)
      (fun _ _ _ _ _ => pe_f (okShown T) hr (Nat.le_refl _) rfl (pa_cons (pv 1) pa_nil))))), ?_⟩
    refine ⟨⟨_, rfl⟩, _, rfl, a, rfl, ⟨_, .inl (.inl ha)⟩, fun D hD => ?_⟩
    refine lc_m (walk_tup (xs := p.map V.str)) p shownS RStr mono_str (by rw [List.length_map]) ?_ hD (fun H1 s1 => .inl (.inl (s1 _ _ ha))) (fun i d x H1 H2 Kn hd sm hacc hy kn => ?_) gName_mono (fun H1 ys sm hD1 pr => ?_)
    · rw [List.length_map]
      have := hp.few
      omega
    · obtain ⟨rfl, hx⟩ := hy
      rw [List.getElem?_map, hd] at hx
      cases hx
      exact ⟨rfl, _, rfl, d, rfl, Nat.le_trans (hp.short d (List.mem_of_getElem? hd)) (by decide), fun H3 s3 => kn _ _ s3 rfl⟩
    · have pr := pr_str pr
      subst pr
      refine ⟨_, D, p.map shownS, rfl, rfl, .inl (.inl (.inl hD1)), ?_, q _ sm⟩
      have h1 : ((p.map shownS).map (·.length)).sum ≤ ((p.map shownS).map (·.length)).length * 802 := sum_le fun x hx => by
        rw [List.map_map] at hx
        obtain ⟨h, hh, rfl⟩ := List.mem_map.mp hx
        exact shown_len (hp.short h hh)
      rw [List.length_map, List.length_map] at h1
      have h2 := hp.few
      rw [List.length_map]
      have h3 : (Str.ofString ": ").length = 2 := by decide
      rw [h3]
      omega
end
end PB
/-! PbData: marks, sees, rows as data -/
namespace PB
open PySem PySem.Spec PyProof.Rows L2 TL

def pathD (p : List Str) : PyData := .tuple (p.map .str)
abbrev Mk := List Str × Int × Int × Bool
abbrev Se := List Str × List Str × Bool
abbrev Pg := Int × Int × Bool
def markD (m : Mk) : PyData := .tuple [pathD m.1, .int m.2.1, .int m.2.2.1, .bool m.2.2.2]
def seeD (s : Se) : PyData := .tuple [pathD s.1, pathD s.2.1, .bool s.2.2]
def pgD (g : Pg) : PyData := .tuple [.int g.1, .int g.2.1, .bool g.2.2]
def RMark : Rl Mk := fun m v H => ∃ a q, v = .ref a ∧ H a = some (.tup [.ref q, .int m.2.1, .int m.2.2.1, .bl m.2.2.2]) ∧ H q = some (.tup (m.1.map V.str))
def RSee : Rl Se := fun m v H => ∃ a q g, v = .ref a ∧ H a = some (.tup [.ref q, .ref g, .bl m.2.2]) ∧ H q = some (.tup (m.1.map V.str)) ∧ H g = some (.tup (m.2.1.map V.str))
def RPg : Rl Pg := fun m v H => ∃ a, v = .ref a ∧ H a = some (.tup [.int m.1, .int m.2.1, .bl m.2.2])
theorem mono_mark : Mono RMark := fun _ _ _ _ e h => by
  obtain ⟨a, q, rfl, ha, hq⟩ := h
  exact ⟨a, q, rfl, e _ _ ha, e _ _ hq⟩
theorem mono_see : Mono RSee := fun _ _ _ _ e h => by
  obtain ⟨a, q, g, rfl, ha, hq, hg⟩ := h
  exact ⟨a, q, g, rfl, e _ _ ha, e _ _ hq, e _ _ hg⟩
theorem mono_pg : Mono RPg := fun _ _ _ _ e h => by
  obtain ⟨a, rfl, ha⟩ := h
  exact ⟨a, rfl, e _ _ ha⟩

section
variable {K : PySem.W.Frag} {H : Hp}
theorem dp_strs : ∀ p : List Str, DpAll K H (p.map V.str) (p.map PyData.str)
  | [] => .nil
  | x :: p => .cons (.str x) (dp_strs p)
theorem dp_at {a : Addr} {p : List Str} (h : H a = some (.tup (p.map V.str))) : Dp K H (.ref a) (pathD p) := .tup (.inl (.inl h)) (dp_strs p)
theorem dp_path {p : List Str} {v : V} (h : RPath p v H) : Dp K H v (pathD p) := by
  obtain ⟨a, rfl, ha⟩ := h
  exact dp_at ha
theorem dp_mark {m : Mk} {v : V} (h : RMark m v H) : Dp K H v (markD m) := by
  obtain ⟨a, q, rfl, ha, hq⟩ := h
  exact .tup (.inl (.inl ha)) (.cons (dp_at hq) (.cons (.int _) (.cons (.int _) (.cons (.bl _) .nil))))
theorem dp_see {m : Se} {v : V} (h : RSee m v H) : Dp K H v (seeD m) := by
  obtain ⟨a, q, g, rfl, ha, hq, hg⟩ := h
  exact .tup (.inl (.inl ha)) (.cons (dp_at hq) (.cons (dp_at hg) (.cons (.bl _) .nil)))
theorem dp_pg {m : Pg} {v : V} (h : RPg m v H) : Dp K H v (pgD m) := by
  obtain ⟨a, rfl, ha⟩ := h
  exact .tup (.inl (.inl ha)) (.cons (.int _) (.cons (.int _) (.cons (.bl _) .nil)))
theorem dp_ints : ∀ p : List Int, DpAll K H (p.map V.int) (p.map PyData.int)
  | [] => .nil
  | x :: p => .cons (.int x) (dp_ints p)
theorem dp_pair {β : Type} {R : Rl β} {f : β → PyData} (h : ∀ b v, R b v H → Dp K H v (f b)) {xs : List β} {ys : List V} (p : Paired (fun b y => R b y H) xs ys) : DpAll K H ys (xs.map f) := dp_list (L2.Paired.mapP p fun b v r => h b v r)
end

/-! PbData: ### shape -/
theorem canLayAll_iff : ∀ ds : List PyData, PyData.canLayAll0 ds = true ↔ ∀ d ∈ ds, d.canLay0 = true
  | [] => by simp [PyData.canLayAll0]
  | d :: ds => by
    rw [PyData.canLayAll0, Bool.and_eq_true, canLayAll_iff ds]
    simp
theorem depthAll_le {n : Nat} : ∀ {ds : List PyData}, (∀ d ∈ ds, d.depth ≤ n) → PyData.depthAll ds ≤ n
  | [], _ => by simp [PyData.depthAll]
  | d :: ds, h => by
    rw [PyData.depthAll]
    have h1 := h d List.mem_cons_self
    have h2 := depthAll_le fun x hx => h x (List.mem_cons_of_mem _ hx)
    omega
/-- laid and not deep -/
structure Low (n : Nat) (d : PyData) : Prop where
  ok : d.canLay0 = true
  dp : d.depth ≤ n
theorem Low.mono {m n : Nat} {d : PyData} (h : Low m d) (e : m ≤ n) : Low n d := ⟨h.ok, Nat.le_trans h.dp e⟩
theorem low_list {n : Nat} {ds : List PyData} (h : ∀ d ∈ ds, Low n d) : Low (n + 1) (.list ds) :=
  ⟨by rw [PyData.canLay0]; exact (canLayAll_iff ds).mpr fun d hd => (h d hd).ok, by rw [PyData.depth]; exact Nat.succ_le_succ (depthAll_le fun d hd => (h d hd).dp)⟩
theorem low_tup {n : Nat} {ds : List PyData} (h : ∀ d ∈ ds, Low n d) : Low (n + 1) (.tuple ds) :=
  ⟨by rw [PyData.canLay0]; exact (canLayAll_iff ds).mpr fun d hd => (h d hd).ok, by rw [PyData.depth]; exact Nat.succ_le_succ (depthAll_le fun d hd => (h d hd).dp)⟩
theorem low_int {n : Nat} (i : Int) : Low n (.int i) := ⟨by rw [PyData.canLay0], by rw [PyData.depth]; exact Nat.zero_le _⟩
theorem low_bool {n : Nat} (i : Bool) : Low n (.bool i) := ⟨by rw [PyData.canLay0], by rw [PyData.depth]; exact Nat.zero_le _⟩
theorem low_str {n : Nat} {x : Str} (h : PyData.strOk x = true) : Low n (.str x) := ⟨by rw [PyData.canLay0]; exact h, by rw [PyData.depth]; exact Nat.zero_le _⟩
theorem Low.shaped {n : Nat} {d : PyData} (h : Low n d) (e : n ≤ 64) : SeqAt.shaped d = true := by
  unfold SeqAt.shaped
  rw [h.ok, Bool.true_and]
  exact decide_eq_true (Nat.le_trans h.dp e)
/-- texts of signs -/
def Sg (p : List Str) : Prop := ∀ h ∈ p, PyData.strOk h = true
theorem low_path {p : List Str} (h : Sg p) : Low 1 (pathD p) := low_tup fun d hd => by
  obtain ⟨x, hx, rfl⟩ := List.mem_map.mp hd
  exact low_str (h x hx)
theorem low_mark {m : Mk} (h : Sg m.1) : Low 2 (markD m) := low_tup fun d hd => by
  simp only [List.mem_cons, List.not_mem_nil, or_false] at hd
  rcases hd with rfl | rfl | rfl | rfl
  · exact low_path h
  · exact low_int _
  · exact low_int _
  · exact low_bool _
theorem low_see {m : Se} (h : Sg m.1) (h2 : Sg m.2.1) : Low 2 (seeD m) := low_tup fun d hd => by
  simp only [List.mem_cons, List.not_mem_nil, or_false] at hd
  rcases hd with rfl | rfl | rfl
  · exact low_path h
  · exact low_path h2
  · exact low_bool _
theorem low_pg (m : Pg) : Low 1 (pgD m) := low_tup fun d hd => by
  simp only [List.mem_cons, List.not_mem_nil, or_false] at hd
  rcases hd with rfl | rfl | rfl
  · exact low_int _
  · exact low_int _
  · exact low_bool _

/-! PbData: ### equality -/
theorem eqv_strs : ∀ p q : List Str, PyData.eqvAll (p.map .str) (q.map .str) = decide (p = q)
  | [], [] => by rw [List.map_nil, PyData.eqvAll]; rfl
  | [], _ :: _ => by rw [List.map_nil, List.map_cons, PyData.eqvAll]; simp
  | _ :: _, [] => by rw [List.map_nil, List.map_cons, PyData.eqvAll]; simp
  | x :: p, y :: q => by
    rw [List.map_cons, List.map_cons, PyData.eqvAll, eqv_strs p q, PyData.eqv]
    by_cases h : x = y
    · subst h; simp
    · simp [h]
theorem eqv_path (p q : List Str) : PyData.eqv (pathD p) (pathD q) = decide (p = q) := by
  unfold pathD
  rw [PyData.eqv, eqv_strs]
theorem eqv_mark {m n : Mk} : PyData.eqv (markD m) (markD n) = true ↔ m = n := by
  obtain ⟨p, a, b, c⟩ := m
  obtain ⟨q, d, e, f⟩ := n
  unfold markD
  simp [PyData.eqv, PyData.eqvAll, eqv_path]
theorem eqv_see {m n : Se} : PyData.eqv (seeD m) (seeD n) = true ↔ m = n := by
  obtain ⟨p, a, b⟩ := m
  obtain ⟨q, d, e⟩ := n
  unfold seeD
  simp [PyData.eqv, PyData.eqvAll, eqv_path]
theorem eqv_nil (ds : List PyData) : PyData.eqv (.list ds) (.list []) = ds.isEmpty := by
  rw [PyData.eqv]
  cases ds with
  | nil => rw [PyData.eqvAll]; rfl
  | cons _ _ => rw [PyData.eqvAll]; rfl

/-- x == [], x != [] -/
theorem eq_nil {K : PySem.W.Frag} {H : Hp} {x : V} {l : Addr} {ds : List PyData} {n : Nat} {Q : VK} (hx : Dp K H x (.list ds)) (hl : H l = some (.lst [])) (hn : Low n (.list ds)) (he : n ≤ 64) (q : Q (.bl ds.isEmpty) H) : rEqD K x (.ref l) H Q :=
  ⟨_, .list [], hx, .lst (.inl (.inl hl)) .nil, hn.shaped he, (low_list (n := 0) fun _ h => absurd h List.not_mem_nil).shaped (by decide), by rw [eqv_nil]; exact q⟩
theorem ne_nil {K : PySem.W.Frag} {H : Hp} {x : V} {l : Addr} {ds : List PyData} {n : Nat} {Q : VK} (hx : Dp K H x (.list ds)) (hl : H l = some (.lst [])) (hn : Low n (.list ds)) (he : n ≤ 64) (q : Q (.bl (!ds.isEmpty)) H) : rNeD K x (.ref l) H Q :=
  ⟨_, .list [], hx, .lst (.inl (.inl hl)) .nil, hn.shaped he, (low_list (n := 0) fun _ h => absurd h List.not_mem_nil).shaped (by decide), by rw [eqv_nil]; exact q⟩

theorem eq_nilB {K : PySem.W.Frag} {H : Hp} {x : V} {l : Addr} {ds : List PyData} {n : Nat} {Q : VK} (b : Bool) (hb : ds.isEmpty = b) (hx : Dp K H x (.list ds)) (hl : H l = some (.lst [])) (hn : Low n (.list ds)) (he : n ≤ 64) (q : Q (.bl b) H) : rEqD K x (.ref l) H Q :=
  eq_nil hx hl hn he (by rw [hb]; exact q)
theorem ne_nilB {K : PySem.W.Frag} {H : Hp} {x : V} {l : Addr} {ds : List PyData} {n : Nat} {Q : VK} (b : Bool) (hb : ds.isEmpty = b) (hx : Dp K H x (.list ds)) (hl : H l = some (.lst [])) (hn : Low n (.list ds)) (he : n ≤ 64) (q : Q (.bl (!b)) H) : rNeD K x (.ref l) H Q :=
  ne_nil hx hl hn he (by rw [hb]; exact q)

/-! PbData: ### permutations of paired lists -/
theorem pr_perm {α β : Type} {F : α → β → Prop} : ∀ {zs ws : List β}, ws.Perm zs → ∀ {xs : List α}, Paired F xs zs → ∃ ys, ys.Perm xs ∧ Paired F ys ws := fun {zs ws} h => by
  induction h with
  | nil => intro xs p; exact ⟨xs, .refl _, p⟩
  | cons x h ih =>
    intro xs p
    cases p with
    | cons a t =>
      obtain ⟨ys, h1, h2⟩ := ih t
      exact ⟨_ :: ys, h1.cons _, .cons a h2⟩
  | swap x y l =>
    intro xs p
    cases p with
    | cons a t =>
      cases t with
      | cons b t => exact ⟨_ :: _ :: _, List.Perm.swap _ _ _, .cons b (.cons a t)⟩
  | trans h1 h2 ih1 ih2 =>
    intro xs p
    obtain ⟨ys, e1, p1⟩ := ih2 p
    obtain ⟨zs, e2, p2⟩ := ih1 p1
    exact ⟨zs, e2.trans e1, p2⟩
theorem pr_zip {β : Type} {R : β → V → Prop} {f : β → PyData} : ∀ {xs : List β} {vs : List V}, Paired R xs vs → Paired (fun b (z : V × PyData) => R b z.1 ∧ z.2 = f b) xs (vs.zip (xs.map f))
  | _, _, .nil => .nil
  | _, _, .cons h t => .cons ⟨h, rfl⟩ (pr_zip t)
theorem pr_fst {β : Type} {R : β → V → Prop} {S : β → V × PyData → Prop} (e : ∀ b z, S b z → R b z.1) : ∀ {xs : List β} {zs : List (V × PyData)}, Paired S xs zs → Paired R xs (zs.map (·.1))
  | _, _, .nil => .nil
  | _, _, .cons h t => .cons (e _ _ h) (pr_fst e t)
/-- what a sort by keys leaves -/
theorem in_order {β : Type} {R : β → V → Prop} {f : β → PyData} {xs : List β} {vs : List V} {os : List (V × PyData)} (p : Paired R xs vs) (h : InOrder vs (xs.map f) os) :
    ∃ ys, ys.Perm xs ∧ Paired R ys (os.map (·.1)) ∧ ys.Pairwise fun a b => PySem.W.dataLt (f b) (f a) = false := by
  obtain ⟨ys, e, q⟩ := pr_perm h.1 (pr_zip (f := f) p)
  refine ⟨ys, e, pr_fst (fun _ _ h => h.1) q, ?_⟩
  have h2 := h.2
  clear e
  revert h2
  generalize os = zs at q
  induction q with
  | nil => intro _; exact .nil
  | cons a t ih =>
    intro h2
    rw [List.pairwise_cons] at h2 ⊢
    refine ⟨fun b hb => ?_, ih h2.2⟩
    obtain ⟨z, hz, r⟩ := pr_mem t hb
    have := h2.1 z hz
    rw [r.2, a.2] at this
    exact this

/-! PbData: ### keys alike -/
theorem alikeAll_str2 : ∀ p q : List Str, PySem.W.alikeAll (p.map fun h => .tuple [.str (keyS h), .str (shownS h)]) (q.map fun h => .tuple [.str (keyS h), .str (shownS h)]) = true
  | [], _ => by simp [PySem.W.alikeAll]
  | _ :: _, [] => by simp [PySem.W.alikeAll]
  | x :: p, y :: q => by
    rw [List.map_cons, List.map_cons, PySem.W.alikeAll, alikeAll_str2 p q]
    simp [PySem.W.alike, PySem.W.alikeAll]
theorem alike_rank (p q : List Str) : PySem.W.alike (rankD p) (rankD q) = true := by
  unfold rankD
  rw [PySem.W.alike]
  exact alikeAll_str2 p q
def markR (m : Mk) : PyData := .tuple [rankD m.1, .int m.2.1, .int m.2.2.1, .bool m.2.2.2]
def seeR (s : Se) : PyData := .tuple [rankD s.1, .bool s.2.2, rankD s.2.1]
theorem alike_markR (m n : Mk) : PySem.W.alike (markR m) (markR n) = true := by
  unfold markR
  simp [PySem.W.alike, PySem.W.alikeAll, alike_rank]
theorem alike_seeR (m n : Se) : PySem.W.alike (seeR m) (seeR n) = true := by
  unfold seeR
  simp [PySem.W.alike, PySem.W.alikeAll, alike_rank]
theorem depth_rank (p : List Str) : (rankD p).depth ≤ 2 := by
  unfold rankD
  rw [PyData.depth]
  refine Nat.succ_le_succ (depthAll_le fun d hd => ?_)
  obtain ⟨x, _, rfl⟩ := List.mem_map.mp hd
  rw [PyData.depth]
  refine Nat.succ_le_succ (depthAll_le fun d hd => ?_)
  simp only [List.mem_cons, List.not_mem_nil, or_false] at hd
  rcases hd with rfl | rfl <;> rw [PyData.depth] <;> exact Nat.le_refl _
theorem depth_markR (m : Mk) : (markR m).depth ≤ 60 := by
  unfold markR
  rw [PyData.depth]
  refine Nat.succ_le_succ (depthAll_le fun d hd => ?_)
  simp only [List.mem_cons, List.not_mem_nil, or_false] at hd
  rcases hd with rfl | rfl | rfl | rfl
  · exact Nat.le_trans (depth_rank _) (by decide)
  all_goals rw [PyData.depth]; exact Nat.zero_le _
theorem depth_seeR (m : Se) : (seeR m).depth ≤ 60 := by
  unfold seeR
  rw [PyData.depth]
  refine Nat.succ_le_succ (depthAll_le fun d hd => ?_)
  simp only [List.mem_cons, List.not_mem_nil, or_false] at hd
  rcases hd with rfl | rfl | rfl
  · exact Nat.le_trans (depth_rank _) (by decide)
  · rw [PyData.depth]; exact Nat.zero_le _
  · exact Nat.le_trans (depth_rank _) (by decide)
/-- the keys of a sort, by a def's promise -/
theorem keysBy {K : PySem.W.Frag} {sp : Sp} {H : Hp} {β : Type} {R : Rl β} {f : β → PyData} {xs : List β} {vs : List V} (m : Mono R) (p : Paired (fun b y => R b y H) xs vs) (hz : xs.length ≤ 1000)
    (hal : ∀ a ∈ xs, ∀ b ∈ xs, PySem.W.alike (f a) (f b) = true) (hs : (∀ a ∈ xs, ∃ x r, f a = .tuple (x :: r)) ∨ ∀ a ∈ xs, ∃ y, f a = .list y) (hd : ∀ a ∈ xs, (f a).depth ≤ 60)
    (h : ∀ b v H1, b ∈ xs → R b v H1 → sp [v] H1 (fun v H2 => Same H1 H2 ∧ Dp K H2 v (f b)) E0) : KeysBy K sp H vs (xs.map f) := by
  refine ⟨by rw [List.length_map]; exact (Paired.length p).symm, by rw [← Paired.length p]; exact hz, fun d hd d' hd' => ?_, ?_, fun d hx => ?_, fun i x d H1 hx hdx sm => ?_⟩
  · obtain ⟨a, ha, rfl⟩ := List.mem_map.mp hd
    obtain ⟨b, hb, rfl⟩ := List.mem_map.mp hd'
    exact hal a ha b hb
  · rcases hs with hs | hs
    · refine .inl fun d hd => ?_
      obtain ⟨a, ha, rfl⟩ := List.mem_map.mp hd
      exact hs a ha
    · refine .inr fun d hd => ?_
      obtain ⟨a, ha, rfl⟩ := List.mem_map.mp hd
      obtain ⟨y, e⟩ := hs a ha
      rw [e]
      exact ⟨(fun z => nomatch z), (fun _ z => nomatch z)⟩
  · obtain ⟨a, ha, rfl⟩ := List.mem_map.mp hx
    exact hd a ha
  · obtain ⟨b, hb, r⟩ := pr_get2 p hx
    rw [List.getElem?_map, hb] at hdx
    cases hdx
    exact h b x H1 (List.mem_of_getElem? hb) (m _ _ _ _ sm r)
end PB
/-! PbMarks: book.py, marks.py -/
namespace PB
open PySem PySem.Spec PyProof.Rows L2 TL

section
variable {P : Program} {w : World} {K : PySem.W.Frag} {mg : Str → Option Value} {base : Heap}
/-! PbMarks: ### pages -/
def pagesGo (most : Int) : List Bool → Int → Int → Bool → List Int
  | [], _, _, _ => []
  | new :: r, page, there, st =>
    if (st && (new || decide (there = most))) = true then (page + 1) :: pagesGo most r (page + 1) (0 + 1) true else page :: pagesGo most r page (there + 1) true
def pagesL (most first : Int) (book : List Bool) : List Int := pagesGo most book first 0 false
theorem pagesGo_len (most : Int) : ∀ (b : List Bool) (p t : Int) (s : Bool), (pagesGo most b p t s).length = b.length
  | [], _, _, _ => rfl
  | new :: r, p, t, s => by
    unfold pagesGo
    split
    · rw [List.length_cons, List.length_cons, pagesGo_len most r]
    · rw [List.length_cons, List.length_cons, pagesGo_len most r]
theorem pagesL_len (most first : Int) (b : List Bool) : (pagesL most first b).length = b.length := pagesGo_len most b first 0 false
theorem pagesGo_ge (most : Int) : ∀ (b : List Bool) (p t : Int) (s : Bool), ∀ n ∈ pagesGo most b p t s, p ≤ n ∧ n ≤ p + b.length
  | [], _, _, _, n, h => by cases h
  | new :: r, p, t, s, n, h => by
    unfold pagesGo at h
    split at h
    · rcases List.mem_cons.mp h with rfl | h
      · rw [List.length_cons]; omega
      · have := pagesGo_ge most r _ _ _ n h
        rw [List.length_cons]; omega
    · rcases List.mem_cons.mp h with rfl | h
      · rw [List.length_cons]; omega
      · have := pagesGo_ge most r _ _ _ n h
        rw [List.length_cons]; omega
theorem scPages : FnScope ["book", "most", "first", "found", "page", "there", "new"] ["book", "most", "first"] (defScope sPages) := ⟨rfl, rfl, rfl, by decide +kernel, rfl, by decide +kernel, by decide +kernel⟩
def spPages : Sp := fun vs H Q _ => ∃ (b : Addr) (most first : Int) (book : List Bool), vs = [.ref b, .int most, .int first] ∧ H b = some (.lst (book.map V.bl)) ∧ book.length ≤ 1000 ∧
  ∀ H' o, Same H H' → H o = none → H' o = some (.lst ((pagesL most first book).map V.int)) → Q (.ref o) H'
theorem okPages (T : Top K mg) : Def1 P w K mg base 1 "pages" spPages := by
  refine def1 T.fPages scPages (fun vs H Q E h => ?_) (fun _ _ _ _ _ _ us hl => match us, hl with | [_, _, _], _ => rfl) (fun f cdv A outer s H vs Q E hr h => ?_)
  · obtain ⟨b, most, first, book, rfl, _⟩ := h
    rfl
  · obtain ⟨b, most, first, book, rfl, hb, hz, q⟩ := h
    refine ⟨_, pss_cons (ps_set (i := 3) scPages.nd rfl (.inl rfl) (pe_lst pa_nil))
      (pss_cons (ps_set (i := 4) scPages.nd rfl (.inl rfl) (pv 2))
      (pss_cons (ps_set (i := 5) scPages.nd rfl (.inl rfl) pe_int)
      (pss_cons (ps_for PassesOwn.never rfl (pi_list (pv 0)) (pg_name (i := 6) scPages.nd rfl (.inl rfl))
        (pss_cons (ps_if (PW.pt (pw_and (pt_cmpR (op_neD hr.units) (pv 3) (pe_lst pa_nil) (nomark _)) (pw_and1 (PW.pt (pw_or (pt_val (pv 6)) (pw_or1 (pt_cmpR op_eq (pv 5) (pv 1) (nomark _))))))))
          (pss_cons (ps_set (i := 4) scPages.nd rfl (.inl rfl) (pe_op op_add (pv 4) pe_int)) (pss_one (ps_set (i := 5) scPages.nd rfl (.inl rfl) pe_int))) pss_nil)
        (pss_cons (ps_expr (pe_bm PySem.F.plainAttrs_list PySem.F.slot_list_append PySem.F.type_list_append mt_append (pv 3) (pa_cons (pv 4) pa_nil)))
        (pss_one (ps_set (i := 5) scPages.nd rfl (.inl rfl) (pe_op op_add (pv 5) pe_int))))))
      (pss_one (ps_ret (pv 3)))))), ?_⟩
    refine ⟨Nat.zero_le _, fun o no => ⟨_, rfl, ?_⟩⟩
    refine ⟨.ref b, rfl, b, rfl, ⟨_, sqL (same_upd no _ _ hb)⟩, ?_⟩
    refine for_it (walk_list (xs := book.map V.bl)) (fun i σ H1 => ∃ (pre : List Int) (page there : Int) (y : Option V), σ = [some (.ref b), some (.int most), some (.int first), some (.ref o), some (.int page), some (.int there), y] ∧ Same H H1 ∧ H1 o = some (.lst (pre.map V.int)) ∧
      pre.length = i ∧ pagesL most first book = pre ++ pagesGo most (book.drop i) page there (decide (0 < i))) ⟨[], first, 0, none, rfl, same_upd no, upd_same, rfl, rfl⟩ (fun i σ H1 hi hp => ?_) (fun i x σ H1 H2 hi hp hy => ?_) (fun σ H1 hp => ?_)
    · obtain ⟨_, _, _, _, _, sm, _⟩ := hp
      exact .inl (.inl (sm _ _ hb))
    · obtain ⟨pre, page, there, y, rfl, sm, ho, hl, he⟩ := hp
      obtain ⟨rfl, hx⟩ := hy
      rw [List.length_map] at hi
      have hbi : book[i]? = some book[i] := List.getElem?_eq_getElem hi
      rw [List.getElem?_map, hbi] at hx
      cases hx
      generalize book[i] = nw at hbi
      have hd : book.drop i = nw :: book.drop (i + 1) := by
        rw [List.drop_eq_getElem_cons hi]
        rw [List.getElem?_eq_getElem hi] at hbi
        rw [Option.some.inj hbi]
      rw [hd] at he
      have hpz : pre.length < sizeLine := szlt (by omega)
      refine ⟨_, rfl, Nat.zero_le _, fun l nl => ?_⟩
      have ho2 : upd H2 l (.lst []) o = some (.lst (pre.map V.int)) := by rw [upd_ne (ne_of_none ho nl)]; exact ho
      refine ne_nil (n := 1) (.lst (.inl (.inl ho2)) (dp_ints pre)) upd_same (low_list fun d hd => by obtain ⟨x, _, rfl⟩ := List.mem_map.mp hd; exact low_int x) (by decide) ?_
      have est : (!(pre.map PyData.int).isEmpty) = decide (0 < i) := by
        cases pre with
        | nil => rw [← hl]; rfl
        | cons _ _ => rw [← hl]; rfl
      rw [est]
      refine ⟨_, rfl, ?_⟩
      -- what follows the if
      have tail : ∀ (page' there' : Int) (c : Bool), pagesL most first book = pre ++ page' :: pagesGo most (book.drop (i + 1)) page' (there' + 1) true →
          (tSeq (tDrop (tBM K "list" rAppend (tVar 3) (tCons (tVar 4) tNil))) (tAsg (tOp (rI0 fun i j => .int (i + j)) (tVar 5) (tC (.int 1))) (gName 5)))
            { nx := fun σ H1 => ∃ (pre : List Int) (page there : Int) (y : Option V), σ = [some (.ref b), some (.int most), some (.int first), some (.ref o), some (.int page), some (.int there), y] ∧ Same H H1 ∧ H1 o = some (.lst (pre.map V.int)) ∧
                pre.length = i + 1 ∧ pagesL most first book = pre ++ pagesGo most (book.drop (i + 1)) page there (decide (0 < i + 1)), rt := Q }
            [some (.ref b), some (.int most), some (.int first), some (.ref o), some (.int page'), some (.int there'), some (.bl nw)] (upd H2 l (.lst [])) := fun page' there' c e => by
        refine ⟨_, rfl, .inl ⟨rfl, _, .inl (.inl ho2)⟩, _, rfl, o, _, _, rfl, rfl, ho2, by rw [List.length_map]; exact hpz, ?_⟩
        refine ⟨_, rfl, there', 1, rfl, rfl, pre ++ [page'], page', there' + 1, some (.bl nw), rfl, ?_, ?_, ?_, ?_⟩
        · exact same_upd2 no (sm.trans (same_upd nl))
        · rw [upd_same, List.map_append]; rfl
        · rw [List.length_append, hl]; rfl
        · rw [e, List.append_assoc]; simp
      by_cases h0 : 0 < i
      · rw [decide_eq_true h0] at he ⊢
        cases nw with
        | true =>
          refine iteT ⟨_, rfl, _, rfl, iteT ?_⟩
          refine iteT ⟨_, rfl, page, 1, rfl, rfl, tail (page + 1) 0 true ?_⟩
          rw [he, pagesGo, if_pos (by simp)]
        | false =>
          refine iteT ⟨_, rfl, _, rfl, iteF ⟨_, rfl, _, rfl, rfl, _, rfl, ?_⟩⟩
          by_cases ht : there = most
          · rw [decide_eq_true (congrArg V.int ht)]
            refine iteT ⟨_, rfl, page, 1, rfl, rfl, tail (page + 1) 0 true ?_⟩
            rw [he, pagesGo, if_pos (by simp [ht])]
          · rw [decide_eq_false (fun z => ht (V.int.inj z))]
            refine iteF (tail page there true ?_)
            rw [he, pagesGo, if_neg (by simp [ht])]
      · rw [decide_eq_false h0] at he ⊢
        refine iteF (iteF (tail page there true ?_))
        rw [he, pagesGo, if_neg (by simp)]
    · obtain ⟨pre, page, there, y, rfl, sm, ho, hl, he⟩ := hp
      refine ⟨_, rfl, ?_⟩
      rw [List.length_map, List.drop_length] at he
      have e2 : pagesL most first book = pre := by rw [he, pagesGo, List.append_nil]
      refine q H1 o sm no ?_
      rw [e2]
      exact ho
/-! PbMarks: ### fits -/
theorem scFits : FnScope ["mark", "many"] ["mark", "many"] (defScope sFits) := ⟨rfl, rfl, rfl, by decide +kernel, rfl, by decide +kernel, by decide +kernel⟩
def spFits : Sp := fun vs H Q _ => ∃ (v : V) (m : Mk) (many : Int), vs = [v, .int many] ∧ RMark m v H ∧ 0 ≤ m.2.1 ∧ m.2.1 ≤ m.2.2.1 ∧ m.2.2.1 < many ∧ Q (.bl true) H
theorem okFits (T : Top K mg) : Def1 P w K mg base 1 "fits" spFits := by
  refine def1 T.fFits scFits (fun vs H Q E h => ?_) (fun _ _ _ _ _ _ us hl => match us, hl with | [_, _], _ => rfl) (fun f cdv A outer s H vs Q E hr h => ?_)
  · obtain ⟨v, m, many, rfl, _⟩ := h
    rfl
  · obtain ⟨v, m, many, rfl, ⟨a, p, rfl, ha, hp⟩, h0, h1, h2, q⟩ := h
    refine ⟨_, pss_one (ps_ret (pe_chain3 op_le op_le op_lt pe_int (pe_ix ix_tup (pv 0) pe_int (fun _ _ => rfl)) (pe_ix ix_tup (pv 0) pe_int (fun _ _ => rfl)) (pv 1))), ?_⟩
    refine ⟨_, rfl, a, _, 1, _, rfl, rfl, .inl (.inl ha), atI_nat (j := 1) rfl, 0, m.2.1, rfl, rfl, _, rfl, ?_⟩
    rw [decide_eq_true h0]
    refine iteT ⟨_, rfl, a, _, 2, _, rfl, rfl, .inl (.inl ha), atI_nat (j := 2) rfl, m.2.1, m.2.2.1, rfl, rfl, _, rfl, ?_⟩
    rw [decide_eq_true h1]
    refine iteT ⟨_, rfl, m.2.2.1, many, rfl, rfl, ?_⟩
    have q' : Q (.bl (decide (m.2.2.1 < many))) H := by rw [decide_eq_true h2]; exact q
    exact q'
/-! PbMarks: ### mark_rank, see_rank -/
theorem scMarkRank : FnScope ["mark"] ["mark"] (defScope sMarkRank) := ⟨rfl, rfl, rfl, by decide +kernel, rfl, by decide +kernel, by decide +kernel⟩
def spMarkRank (K : PySem.W.Frag) : Sp := fun vs H Q _ => ∃ (v : V) (m : Mk), vs = [v] ∧ RMark m v H ∧ PathOk m.1 ∧ ∀ H' v, Same H H' → Dp K H' v (markR m) → Q v H'
theorem okMarkRank (T : Top K mg) : Def2 P w K mg base 4 "mark_rank" "mark" (spMarkRank K) := by
  refine def2 T.fMarkRank scMarkRank (fun vs H Q E h => ?_) (fun _ _ _ _ _ _ us hl => match us, hl with | [_], _ => rfl) (fun f cdv A outer s H vs Q E hr h => ?_)
  · obtain ⟨v, m, rfl, _⟩ := h
    rfl
  · obtain ⟨v, m, rfl, ⟨a, p, rfl, ha, hp⟩, ok, q⟩ := h
    refine ⟨_, pss_one (ps_ret (pe_tup (pa_cons (pe_f (okRank T) hr (Nat.le_refl _) rfl (pa_cons (pe_ix ix_tup (pv 0) pe_int (fun _ _ => rfl)) pa_nil)) (pa_cons (pe_ix ix_tup (pv 0) pe_int (fun _ _ => rfl))
      (pa_cons (pe_ix ix_tup (pv 0) pe_int (fun _ _ => rfl)) (pa_cons (pe_ix ix_tup (pv 0) pe_int (fun _ _ => rfl)) pa_nil)))))), ?_⟩
    refine ⟨_, rfl, a, _, 0, _, rfl, rfl, .inl (.inl ha), atI_nat (j := 0) rfl, _, m.1, rfl, ⟨p, rfl, hp⟩, ok, fun H1 r s1 hd => ?_⟩
    have ha1 := s1 _ _ ha
    refine ⟨_, rfl, a, _, 1, _, rfl, rfl, .inl (.inl ha1), atI_nat (j := 1) rfl, _, rfl, a, _, 2, _, rfl, rfl, .inl (.inl ha1), atI_nat (j := 2) rfl, _, rfl, a, _, 3, _, rfl, rfl, .inl (.inl ha1), atI_nat (j := 3) rfl, sz (by show 4 ≤ 100000; decide), fun t nt => ?_⟩
    refine q _ _ (s1.trans (same_upd nt)) (.tup (.inl (.inl upd_same)) (.cons (dpSame (same_upd nt) _ _ hd) (.cons (.int _) (.cons (.int _) (.cons (.bl _) .nil)))))
theorem scSeeRank : FnScope ["see"] ["see"] (defScope sSeeRank) := ⟨rfl, rfl, rfl, by decide +kernel, rfl, by decide +kernel, by decide +kernel⟩
def spSeeRank (K : PySem.W.Frag) : Sp := fun vs H Q _ => ∃ (v : V) (m : Se), vs = [v] ∧ RSee m v H ∧ PathOk m.1 ∧ PathOk m.2.1 ∧ ∀ H' v, Same H H' → Dp K H' v (seeR m) → Q v H'
theorem okSeeRank (T : Top K mg) : Def2 P w K mg base 4 "see_rank" "see" (spSeeRank K) := by
  refine def2 T.fSeeRank scSeeRank (fun vs H Q E h => ?_) (fun _ _ _ _ _ _ us hl => match us, hl with | [_], _ => rfl) (fun f cdv A outer s H vs Q E hr h => ?_)
  · obtain ⟨v, m, rfl, _⟩ := h
    rfl
  · obtain ⟨v, m, rfl, ⟨a, p, g, rfl, ha, hp, hg⟩, ok, ok2, q⟩ := h
    refine ⟨_, pss_one (ps_ret (pe_tup (pa_cons (pe_f (okRank T) hr (Nat.le_refl _) rfl (pa_cons (pe_ix ix_tup (pv 0) pe_int (fun _ _ => rfl)) pa_nil)) (pa_cons (pe_ix ix_tup (pv 0) pe_int (fun _ _ => rfl))
      (pa_cons (pe_f (okRank T) hr (Nat.le_refl _) rfl (pa_cons (pe_ix ix_tup (pv 0) pe_int (fun _ _ => rfl)) pa_nil)) pa_nil))))), ?_⟩
    refine ⟨_, rfl, a, _, 0, _, rfl, rfl, .inl (.inl ha), atI_nat (j := 0) rfl, _, m.1, rfl, ⟨p, rfl, hp⟩, ok, fun H1 r s1 hd => ?_⟩
    have ha1 := s1 _ _ ha
    refine ⟨_, rfl, a, _, 2, _, rfl, rfl, .inl (.inl ha1), atI_nat (j := 2) rfl, _, rfl, a, _, 1, _, rfl, rfl, .inl (.inl ha1), atI_nat (j := 1) rfl, _, m.2.1, rfl, ⟨g, rfl, s1 _ _ hg⟩, ok2, fun H2 r2 s2 hd2 => ⟨sz (by show 3 ≤ 100000; decide), fun t nt => ?_⟩⟩
    refine q _ _ ((s1.trans s2).trans (same_upd nt)) (.tup (.inl (.inl upd_same)) (.cons (dpSame (s2.trans (same_upd nt)) _ _ hd) (.cons (.bl _) (.cons (dpSame (same_upd nt) _ _ hd2) .nil))))
/-! PbMarks: ### each_once -/
theorem scEachOnce : FnScope ["some", "found", "thing"] ["some"] (defScope sEachOnce) := ⟨rfl, rfl, rfl, by decide +kernel, rfl, by decide +kernel, by decide +kernel⟩
def spEachOnce (K : PySem.W.Frag) : Sp := fun vs H Q _ => ∃ (a : Addr) (zs : List (V × PyData)), vs = [.ref a] ∧ H a = some (.lst (zs.map (·.1))) ∧ (∀ z ∈ zs, Dp K H z.1 z.2 ∧ Low 60 z.2) ∧ zs.length ≤ 1000 ∧
  ∀ (H' : Hp) (o : Addr) (ws : List (V × PyData)), Same H H' → H o = none → H' o = some (.lst (ws.map (·.1))) → (∀ w ∈ ws, w ∈ zs) → ws.length ≤ zs.length → (∀ z ∈ zs, ∃ w ∈ ws, PyData.eqv w.2 z.2 = true) → Q (.ref o) H'
theorem okEachOnce (T : Top K mg) : Def1 P w K mg base 1 "each_once" (spEachOnce K) := by
  refine def1 T.fEachOnce scEachOnce (fun vs H Q E h => ?_) (fun _ _ _ _ _ _ us hl => match us, hl with | [_], _ => rfl) (fun f cdv A outer s H vs Q E hr h => ?_)
  · obtain ⟨a, zs, rfl, _⟩ := h
    rfl
  · obtain ⟨a, zs, rfl, ha, hd, hz, q⟩ := h
    refine ⟨_, pss_cons (ps_set (i := 1) scEachOnce.nd rfl (.inl rfl) (pe_lst pa_nil))
      (pss_cons (ps_for PassesOwn.never rfl (pi_list (pv 0)) (pg_name (i := 2) scEachOnce.nd rfl (.inl rfl))
        (pss_one (ps_if (PW.pt (pw_or (pt_cmpR (op_eqD hr.units) (pv 1) (pe_lst pa_nil) (nomark _)) (pw_or1 (pt_cmpR (op_neD hr.units) (pe_ix ix_list (pv 1) (pe_un un_neg pe_int) (fun _ _ => rfl)) (pv 2) (nomark _)))))
          (pss_one (ps_expr (pe_bm PySem.F.plainAttrs_list PySem.F.slot_list_append PySem.F.type_list_append mt_append (pv 1) (pa_cons (pv 2) pa_nil)))) pss_nil)))
      (pss_one (ps_ret (pv 1)))), ?_⟩
    refine ⟨Nat.zero_le _, fun o no => ?_⟩
    have hao : a ≠ o := ne_of_none ha no
    refine ⟨.ref a, rfl, a, rfl, ⟨_, sqL (same_upd no _ _ ha)⟩, ?_⟩
    refine for_it (walk_list (xs := zs.map (·.1))) (fun i σ H1 => ∃ (ws : List (V × PyData)) (y : Option V), σ = [some (.ref a), some (.ref o), y] ∧ Same H H1 ∧ H1 o = some (.lst (ws.map (·.1))) ∧ (∀ w ∈ ws, w ∈ zs) ∧ ws.length ≤ i ∧ (∀ z ∈ zs.take i, ∃ w ∈ ws, PyData.eqv w.2 z.2 = true))
      ⟨[], none, rfl, same_upd no, upd_same, (fun _ h => nomatch h), Nat.le_refl _, (fun _ h => nomatch h)⟩ (fun i σ H1 hi hp => ?_) (fun i x σ H1 H2 hi hp hy => ?_) (fun σ H1 hp => ?_)
    · obtain ⟨_, _, _, sm, _⟩ := hp
      exact .inl (.inl (sm _ _ ha))
    · obtain ⟨ws, y, rfl, sm, ho, hw, hl, he⟩ := hp
      obtain ⟨rfl, hx⟩ := hy
      rw [List.length_map] at hi
      have hzi : zs[i]? = some zs[i] := List.getElem?_eq_getElem hi
      rw [List.getElem?_map, hzi] at hx
      cases hx
      generalize zs[i] = z at hzi
      have hzm := List.mem_of_getElem? hzi
      obtain ⟨dz, lz⟩ := hd z hzm
      have et : zs.take (i + 1) = zs.take i ++ [z] := by rw [List.take_add_one, hzi]; rfl
      have hwd : ∀ w ∈ ws, Dp K H2 w.1 w.2 ∧ Low 60 w.2 := fun w h => ⟨dpSame sm _ _ (hd w (hw w h)).1, (hd w (hw w h)).2⟩
      refine ⟨_, rfl, Nat.zero_le _, fun l nl => ?_⟩
      have ho2 : upd H2 l (.lst []) o = some (.lst (ws.map (·.1))) := by rw [upd_ne (ne_of_none ho nl)]; exact ho
      have sl : Same H (upd H2 l (.lst [])) := sm.trans (same_upd nl)
      have hda : ∀ {H3 : Hp}, Same H2 H3 → ∀ ws' : List (V × PyData), (∀ w ∈ ws', w ∈ ws) → DpAll K H3 (ws'.map (·.1)) (ws'.map (·.2)) := fun {H3} s3 ws' => by
        intro h
        induction ws' with
        | nil => exact .nil
        | cons w ws' ih => exact .cons (dpSame s3 _ _ (hwd w (h w List.mem_cons_self)).1) (ih fun x hx => h x (List.mem_cons_of_mem _ hx))
      refine eq_nilB (n := 61) (ws.isEmpty) (by cases ws <;> rfl) (.lst (.inl (.inl ho2)) (hda (same_upd nl) ws fun _ h => h)) upd_same (low_list fun d hd => by obtain ⟨x, hx, rfl⟩ := List.mem_map.mp hd; exact (hwd x hx).2) (by decide) ?_
      refine ⟨_, rfl, ?_⟩
      have app : (tDrop (tBM K "list" rAppend (tVar 1) (tCons (tVar 2) tNil))) { nx := fun σ H1 => ∃ (ws : List (V × PyData)) (y : Option V), σ = [some (.ref a), some (.ref o), y] ∧ Same H H1 ∧ H1 o = some (.lst (ws.map (·.1))) ∧ (∀ w ∈ ws, w ∈ zs) ∧ ws.length ≤ i + 1 ∧ (∀ z ∈ zs.take (i + 1), ∃ w ∈ ws, PyData.eqv w.2 z.2 = true), rt := Q }
          [some (.ref a), some (.ref o), some z.1] (upd H2 l (.lst [])) := by
        refine ⟨_, rfl, .inl ⟨rfl, _, .inl (.inl ho2)⟩, _, rfl, o, _, _, rfl, rfl, ho2, by rw [List.length_map]; exact szlt (by omega), ?_⟩
        refine ⟨ws ++ [z], some z.1, rfl, same_upd2 no sl, by rw [upd_same, List.map_append]; rfl, fun w h => ?_, by rw [List.length_append]; show ws.length + 1 ≤ _; omega, fun w h => ?_⟩
        · rcases List.mem_append.mp h with h | h
          · exact hw w h
          · rw [List.mem_singleton.mp h]; exact hzm
        · rw [et] at h
          rcases List.mem_append.mp h with h | h
          · obtain ⟨w', h1, h2⟩ := he w h
            exact ⟨w', List.mem_append_left _ h1, h2⟩
          · rw [List.mem_singleton.mp h]
            exact ⟨z, List.mem_append_right _ (List.mem_singleton.mpr rfl), PySem.SeqAt.eqv_refl _ lz.ok⟩
      rcases snoc_cases ws with rfl | ⟨ws0, w, rfl⟩
      · exact iteT (iteT app)
      · have e1 : (ws0 ++ [w]).isEmpty = false := by cases ws0 <;> rfl
        rw [e1]
        have hwm : w ∈ ws0 ++ [w] := List.mem_append_right _ (List.mem_singleton.mpr rfl)
        refine iteF ⟨_, rfl, 1, rfl, o, _, -1, _, rfl, rfl, .inl (.inl ho2), by rw [List.map_append]; exact atI_last _ _, _, rfl, w.2, z.2, dpSame (same_upd nl) _ _ (hwd w hwm).1, dpSame sl _ _ dz, (hwd w hwm).2.shaped (by decide), lz.shaped (by decide), _, rfl, ?_⟩
        cases hev : PyData.eqv w.2 z.2 with
        | false => exact iteT app
        | true =>
          refine iteF ⟨ws0 ++ [w], some z.1, rfl, sl, ho2, hw, by omega, fun x h => ?_⟩
          rw [et] at h
          rcases List.mem_append.mp h with h | h
          · exact he x h
          · rw [List.mem_singleton.mp h]
            exact ⟨w, hwm, hev⟩
    · obtain ⟨ws, y, rfl, sm, ho, hw, hl, he⟩ := hp
      rw [List.length_map] at hl he
      rw [List.take_length] at he
      exact ⟨_, rfl, q H1 o ws sm no ho hw hl he⟩
end
end PB
/-! PbPour: marks.py: poured, poured_sees -/
namespace PB
open PySem PySem.Spec PyProof.Rows L2 TL

theorem choose_list {α β : Type} {F : α → β → Prop} : ∀ {ws : List β}, (∀ w ∈ ws, ∃ b, F b w) → ∃ bs, Paired F bs ws
  | [], _ => ⟨[], .nil⟩
  | w :: ws, h => by
    obtain ⟨b, hb⟩ := h w List.mem_cons_self
    obtain ⟨bs, hs⟩ := choose_list fun x hx => h x (List.mem_cons_of_mem _ hx)
    exact ⟨b :: bs, .cons hb hs⟩
theorem zip_fst : ∀ {xs : List V} {ds : List PyData}, xs.length = ds.length → (xs.zip ds).map (·.1) = xs
  | [], _, _ => by simp
  | _ :: _, [], h => by simp at h
  | x :: xs, d :: ds, h => by
    rw [List.zip_cons_cons, List.map_cons, zip_fst (by simpa using h)]
/-- what each_once leaves of data -/
theorem once_data {β : Type} {R : Rl β} {f : β → PyData} {H : Hp} (inj : ∀ a b, PyData.eqv (f a) (f b) = true → a = b) {ys : List β} {zs ws : List (V × PyData)} (p : Paired (fun b (z : V × PyData) => R b z.1 H ∧ z.2 = f b) ys zs)
    (h1 : ∀ w ∈ ws, w ∈ zs) (h2 : ∀ z ∈ zs, ∃ w ∈ ws, PyData.eqv w.2 z.2 = true) : ∃ bs, Paired (fun b y => R b y H) bs (ws.map (·.1)) ∧ ∀ b, b ∈ bs ↔ b ∈ ys := by
  obtain ⟨bs, q⟩ := choose_list (F := fun b (z : V × PyData) => (R b z.1 H ∧ z.2 = f b) ∧ b ∈ ys) fun w hw => by
    obtain ⟨b, hb, r⟩ := pr_mem2 p (h1 w hw)
    exact ⟨b, r, hb⟩
  refine ⟨bs, pr_fst (fun _ _ h => h.1.1) q, fun b => ⟨fun hb => ?_, fun hb => ?_⟩⟩
  · obtain ⟨w, _, r⟩ := pr_mem q hb
    exact r.2
  · obtain ⟨z, hz, r⟩ := pr_mem p hb
    obtain ⟨w, hw, e⟩ := h2 z hz
    obtain ⟨c, hc, r2⟩ := pr_mem2 q hw
    rw [r2.1.2, r.2] at e
    rw [← inj _ _ e]
    exact hc
section
variable {P : Program} {w : World} {K : PySem.W.Frag} {mg : Str → Option Value} {base : Heap}
/-! PbPour: ### poured -/
theorem scPoured : FnScope ["hands"] ["hands"] (defScope sPoured) := ⟨rfl, rfl, rfl, by decide +kernel, rfl, by decide +kernel, by decide +kernel⟩
def spPoured (K : PySem.W.Frag) : Sp := fun vs H Q _ => ∃ (h m : Addr) (ms : List Mk) (us : List V), vs = [.ref h] ∧ H h = some (.lst [.ref m]) ∧ H m = some (.lst us) ∧ Paired (fun b y => RMark b y H) ms us ∧ ms.length ≤ 1000 ∧ (∀ m ∈ ms, PathOk m.1 ∧ Sg m.1) ∧
  ∀ (H' : Hp) (o : Addr) (us2 : List V) (ms2 : List Mk), Same H H' → H o = none → H' o = some (.lst us2) → Paired (fun b y => RMark b y H') ms2 us2 → (∀ m, m ∈ ms2 ↔ m ∈ ms) → ms2.length ≤ ms.length → Q (.ref o) H'
theorem okPoured (T : Top K mg) : Def1 P w K mg base 7 "poured" (spPoured K) := by
  obtain ⟨fR, fdR, FR, mR, kR, bR⟩ := (okMarkRank T : Def2 P w K mg base 4 _ _ (spMarkRank K)).ex
  refine def1 T.fPoured scPoured (fun vs H Q E h => ?_) (fun _ _ _ _ _ _ us hl => match us, hl with | [_], _ => rfl) (fun f cdv A outer s H vs Q E hr h => ?_)
  · obtain ⟨h, m, ms, us, rfl, _⟩ := h
    rfl
  · obtain ⟨h, m, ms, us, rfl, hh, hm, pr, hz, ok, q⟩ := h
    refine ⟨_, pss_one (ps_ret (pe_f (okEachOnce T) hr (by decide) rfl (pa_cons (pe_callBK (cr_sortK FR hr bR) (by rfl) T.sorted (by decide +kernel) (pa_cons (pe_callBK (cr_sumOne rfl) (by rfl) T.sum (by decide +kernel) (pa_cons (pv 0) pa_nil) (pk_cons (pe_lst pa_nil) pk_nil)) pa_nil)
      (pk_cons (pe_glob (v := .ref fR) rfl mR rfl) pk_nil)) pa_nil))), ?_⟩
    have hlen := Paired.length pr
    refine ⟨_, rfl, Nat.zero_le _, fun l nl => ⟨h, m, l, us, rfl, rfl, same_upd nl _ _ hh, same_upd nl _ _ hm, upd_same, sz (by omega), fun p np => ?_⟩⟩
    have s1 : Same H (upd (upd H l (.lst [])) p (.lst us)) := (same_upd nl).trans (same_upd np)
    have pr1 := Paired.monoR mono_mark s1 pr
    refine ⟨p, us, ms.map markR, rfl, rfl, sqL upd_same, keysBy mono_mark pr1 hz (fun a _ b _ => alike_markR a b) (.inl fun a _ => ⟨_, _, rfl⟩) (fun a _ => depth_markR a) (fun b v H1 hb r => ?_), fun os H' p2 ord sm np2 => ?_⟩
    · exact ⟨v, b, rfl, r, (ok b hb).1, fun H' v s d => ⟨s, d⟩⟩
    · have s2 := s1.trans sm
      have sp2 : Same H' (upd H' p2 (.lst (os.map (·.1)))) := same_upd np2
      obtain ⟨ys, perm, py, _⟩ := in_order (Paired.monoR mono_mark (sm.trans sp2) pr1) ord
      have hyl : ys.length = ms.length := perm.length_eq
      have hzip := pr_zip (f := markD) py
      have hfst : ((os.map (·.1)).zip (ys.map markD)).map (·.1) = os.map (·.1) := zip_fst (by rw [List.length_map (as := ys), ← Paired.length py])
      refine ⟨p2, (os.map (·.1)).zip (ys.map markD), rfl, by rw [hfst]; exact upd_same, fun z hz => ?_, ?_, fun H3 o ws s3 no ho h1 hl2 h2 => ?_⟩
      · obtain ⟨b, hb, r, e⟩ := pr_mem2 hzip hz
        rw [e]
        exact ⟨dp_mark r, (low_mark (ok b (perm.mem_iff.mp hb)).2).mono (by decide)⟩
      · rw [List.length_zip, List.length_map (as := ys), hyl]
        exact Nat.le_trans (Nat.min_le_right _ _) hz
      · obtain ⟨bs, pb, hb⟩ := once_data (R := RMark) (H := H3) (f := markD) (fun a b e => eqv_mark.mp e) (L2.Paired.mapP hzip fun a b r => ⟨mono_mark _ _ _ _ s3 r.1, r.2⟩) h1 h2
        refine q H3 o _ bs (s2.trans (sp2.trans s3)) (Same.free (s2.trans sp2) no) ho pb (fun m => (hb m).trans perm.mem_iff) ?_
        have e1 := Paired.length pb
        rw [List.length_map] at e1
        rw [List.length_zip, List.length_map (as := ys), hyl] at hl2
        omega
/-! PbPour: ### poured_sees -/
theorem scPouredSees : FnScope ["hands"] ["hands"] (defScope sPouredSees) := ⟨rfl, rfl, rfl, by decide +kernel, rfl, by decide +kernel, by decide +kernel⟩
def spPouredSees (K : PySem.W.Frag) : Sp := fun vs H Q _ => ∃ (h m : Addr) (ms : List Se) (us : List V), vs = [.ref h] ∧ H h = some (.lst [.ref m]) ∧ H m = some (.lst us) ∧ Paired (fun b y => RSee b y H) ms us ∧ ms.length ≤ 1000 ∧ (∀ m ∈ ms, (PathOk m.1 ∧ PathOk m.2.1) ∧ Sg m.1 ∧ Sg m.2.1) ∧
  ∀ (H' : Hp) (o : Addr) (us2 : List V) (ms2 : List Se), Same H H' → H o = none → H' o = some (.lst us2) → Paired (fun b y => RSee b y H') ms2 us2 → (∀ m, m ∈ ms2 ↔ m ∈ ms) → ms2.length ≤ ms.length → Q (.ref o) H'
theorem okPouredSees (T : Top K mg) : Def1 P w K mg base 7 "poured_sees" (spPouredSees K) := by
  obtain ⟨fR, fdR, FR, mR, kR, bR⟩ := (okSeeRank T : Def2 P w K mg base 4 _ _ (spSeeRank K)).ex
  refine def1 T.fPouredSees scPouredSees (fun vs H Q E h => ?_) (fun _ _ _ _ _ _ us hl => match us, hl with | [_], _ => rfl) (fun f cdv A outer s H vs Q E hr h => ?_)
  · obtain ⟨h, m, ms, us, rfl, _⟩ := h
    rfl
  · obtain ⟨h, m, ms, us, rfl, hh, hm, pr, hz, ok, q⟩ := h
    refine ⟨_, pss_one (ps_ret (pe_f (okEachOnce T) hr (by decide) rfl (pa_cons (pe_callBK (cr_sortK FR hr bR) (by rfl) T.sorted (by decide +kernel) (pa_cons (pe_callBK (cr_sumOne rfl) (by rfl) T.sum (by decide +kernel) (pa_cons (pv 0) pa_nil) (pk_cons (pe_lst pa_nil) pk_nil)) pa_nil)
      (pk_cons (pe_glob (v := .ref fR) rfl mR rfl) pk_nil)) pa_nil))), ?_⟩
    have hlen := Paired.length pr
    refine ⟨_, rfl, Nat.zero_le _, fun l nl => ⟨h, m, l, us, rfl, rfl, same_upd nl _ _ hh, same_upd nl _ _ hm, upd_same, sz (by omega), fun p np => ?_⟩⟩
    have s1 : Same H (upd (upd H l (.lst [])) p (.lst us)) := (same_upd nl).trans (same_upd np)
    have pr1 := Paired.monoR mono_see s1 pr
    refine ⟨p, us, ms.map seeR, rfl, rfl, sqL upd_same, keysBy mono_see pr1 hz (fun a _ b _ => alike_seeR a b) (.inl fun a _ => ⟨_, _, rfl⟩) (fun a _ => depth_seeR a) (fun b v H1 hb r => ?_), fun os H' p2 ord sm np2 => ?_⟩
    · exact ⟨v, b, rfl, r, (ok b hb).1.1, (ok b hb).1.2, fun H' v s d => ⟨s, d⟩⟩
    · have s2 := s1.trans sm
      have sp2 : Same H' (upd H' p2 (.lst (os.map (·.1)))) := same_upd np2
      obtain ⟨ys, perm, py, _⟩ := in_order (Paired.monoR mono_see (sm.trans sp2) pr1) ord
      have hyl : ys.length = ms.length := perm.length_eq
      have hzip := pr_zip (f := seeD) py
      have hfst : ((os.map (·.1)).zip (ys.map seeD)).map (·.1) = os.map (·.1) := zip_fst (by rw [List.length_map (as := ys), ← Paired.length py])
      refine ⟨p2, (os.map (·.1)).zip (ys.map seeD), rfl, by rw [hfst]; exact upd_same, fun z hz => ?_, ?_, fun H3 o ws s3 no ho h1 hl2 h2 => ?_⟩
      · obtain ⟨b, hb, r, e⟩ := pr_mem2 hzip hz
        rw [e]
        exact ⟨dp_see r, (low_see (ok b (perm.mem_iff.mp hb)).2.1 (ok b (perm.mem_iff.mp hb)).2.2).mono (by decide)⟩
      · rw [List.length_zip, List.length_map (as := ys), hyl]
        exact Nat.le_trans (Nat.min_le_right _ _) hz
      · obtain ⟨bs, pb, hb⟩ := once_data (R := RSee) (H := H3) (f := seeD) (fun a b e => eqv_see.mp e) (L2.Paired.mapP hzip fun a b r => ⟨mono_see _ _ _ _ s3 r.1, r.2⟩) h1 h2
        refine q H3 o _ bs (s2.trans (sp2.trans s3)) (Same.free (s2.trans sp2) no) ho pb (fun m => (hb m).trans perm.mem_iff) ?_
        have e1 := Paired.length pb
        rw [List.length_map] at e1
        rw [List.length_zip, List.length_map (as := ys), hyl] at hl2
        omega
end
end PB
/-! PbStretch: stretches.py -/
namespace PB
open PySem PySem.Spec PyProof.Rows L2 TL

/-! PbStretch: ### keys -/
theorem keys_putK {κ : Type} [DecidableEq κ] (kvs : List (κ × V)) (k : κ) (v : V) : (putK kvs k v).map (·.1) = if (valV kvs k).isSome = true then kvs.map (·.1) else kvs.map (·.1) ++ [k] := by
  unfold putK
  rw [valV_any]
  split
  · rw [List.map_map]
    refine List.map_congr_left fun p hp => ?_
    show (if p.1 = k then (p.1, v) else p).1 = p.1
    split <;> rfl
  · rw [List.map_append]; rfl
theorem nodup_putK {κ : Type} [DecidableEq κ] {kvs : List (κ × V)} {k : κ} {v : V} (h : (kvs.map (·.1)).Nodup) : ((putK kvs k v).map (·.1)).Nodup := by
  rw [keys_putK]
  split
  · exact h
  · rename_i hn
    rw [List.nodup_append]
    refine ⟨h, by simp, fun a ha b hb e => ?_⟩
    rw [List.mem_singleton] at hb
    subst hb
    subst e
    refine hn ?_
    cases hv : valV kvs a with
    | some _ => rfl
    | none => exact absurd ha (valV_not hv)
theorem mem_putK {κ : Type} [DecidableEq κ] {kvs : List (κ × V)} {k j : κ} {v : V} : j ∈ (putK kvs k v).map (·.1) ↔ j = k ∨ j ∈ kvs.map (·.1) := by
  rw [keys_putK]
  split
  · rename_i hs
    refine ⟨.inr, fun h => ?_⟩
    rcases h with rfl | h
    · obtain ⟨x, hx⟩ := Option.isSome_iff_exists.mp hs
      exact valV_in hx
    · exact h
  · rw [List.mem_append, List.mem_singleton]
    exact Or.comm
/-! PbStretch: ### pages that marks cover -/
def cutG {α : Type} (xs : List α) (lo hi : Int) : List α := (xs.drop (HT.sIx xs.length 0 (some lo))).take (HT.sIx xs.length xs.length (some hi) - HT.sIx xs.length 0 (some lo))
theorem cutV_int (ns : List Int) (lo hi : Int) : cutV (ns.map V.int) (some lo) (some hi) = (cutG ns lo hi).map V.int := by
  unfold cutV cutG
  rw [List.length_map, ← List.map_drop, ← List.map_take]
theorem cutG_mem {α : Type} {xs : List α} {lo hi : Int} {x : α} (h : x ∈ cutG xs lo hi) : x ∈ xs := List.mem_of_mem_drop (List.mem_of_mem_take h)
theorem cutG_len {α : Type} (xs : List α) (lo hi : Int) : (cutG xs lo hi).length ≤ xs.length := by
  unfold cutG
  rw [List.length_take, List.length_drop]
  omega
def stepsOf (nums : List Int) (ms : List Mk) : List (Int × Bool) := ms.flatMap fun m => (cutG nums m.2.1 (m.2.2.1 + 1)).map fun p => (p, m.2.2.2)
/-- is n covered, and by most -/
def cS (st : List (Int × Bool)) (n : Int) : Option Bool := if (st.any fun s => decide (s.1 = n)) = true then some (st.any fun s => decide (s.1 = n) && s.2) else none
theorem cS_snoc (st : List (Int × Bool)) (p n : Int) (b : Bool) : cS (st ++ [(p, b)]) n = if n = p then some (b || (cS st p).getD false) else cS st n := by
  unfold cS
  simp only [List.any_append, List.any_cons, List.any_nil, Bool.or_false]
  by_cases e : n = p
  · subst e
    simp only [decide_true, Bool.or_true, if_true, Bool.true_and]
    by_cases h : (st.any fun s => decide (s.1 = n)) = true
    · rw [if_pos h]
      simp [Bool.or_comm]
    · rw [if_neg h]
      have e2 : (st.any fun s => decide (s.1 = n) && s.2) = false := by
        rw [List.any_eq_false]
        intro s hs
        simp only [List.any_eq_true, not_exists, not_and] at h
        simp [h s hs]
      simp [e2]
  · have e2 : decide (p = n) = false := decide_eq_false fun z => e z.symm
    simp [e2, e]
structure Cov (nums : List Int) (st : List (Int × Bool)) (kvs : List (Key × V)) : Prop where
  nd : (kvs.map (·.1)).Nodup
  sub : ∀ k ∈ kvs.map (·.1), ∃ n ∈ nums, k = Sum.inl n
  val : ∀ n, valV kvs (Sum.inl n) = (cS st n).map V.bl
theorem Cov.len {nums : List Int} {st : List (Int × Bool)} {kvs : List (Key × V)} (h : Cov nums st kvs) : kvs.length ≤ nums.length := by
  have h1 := List.Nodup.length_le_of_subset h.nd (l₂ := nums.map Sum.inl) fun k hk => by
    obtain ⟨n, hn, rfl⟩ := h.sub k hk
    exact List.mem_map.mpr ⟨n, hn, rfl⟩
  rwa [List.length_map, List.length_map] at h1
theorem Cov.none (nums : List Int) : Cov nums [] [] := ⟨by simp, (by simp), fun n => rfl⟩
theorem Cov.put {nums : List Int} {st : List (Int × Bool)} {kvs : List (Key × V)} (h : Cov nums st kvs) {n : Int} (hn : n ∈ nums) (b : Bool) : Cov nums (st ++ [(n, b)]) (putK kvs (Sum.inl n) (.bl (b || (cS st n).getD false))) := by
  refine ⟨nodup_putK h.nd, fun k hk => ?_, fun j => ?_⟩
  · rcases mem_putK.mp hk with rfl | hk
    · exact ⟨n, hn, rfl⟩
    · exact h.sub k hk
  · rw [valV_put, cS_snoc]
    by_cases e : j = n
    · subst e
      rw [if_pos rfl, if_pos rfl]; rfl
    · rw [if_neg (fun z => e (Sum.inl.inj z)), if_neg e]
      exact h.val j
theorem cov_get {nums : List Int} {st : List (Int × Bool)} {kvs : List (Key × V)} (h : Cov nums st kvs) (n : Int) : (valV kvs (Sum.inl n)).getD (.bl false) = .bl ((cS st n).getD false) := by
  rw [h.val]
  cases cS st n <;> rfl
/-! PbStretch: ### runs -/
def stepRun (gs : List Pg) (n : Int) (b : Bool) : List Pg := match gs.getLast? with
  | none => gs ++ [(n, n, b)]
  | some g => if g.2.1 = n - 1 ∧ g.2.2 = b then gs.dropLast ++ [(g.1, n, b)] else gs ++ [(n, n, b)]
def runsL (f : Int → Bool) (ps : List Int) : List Pg := ps.foldl (fun gs n => stepRun gs n (f n)) []
theorem runs_snoc (f : Int → Bool) (ps : List Int) (n : Int) : runsL f (ps ++ [n]) = stepRun (runsL f ps) n (f n) := by
  unfold runsL
  rw [List.foldl_append]; rfl
theorem stepRun_len (gs : List Pg) (n : Int) (b : Bool) : (stepRun gs n b).length ≤ gs.length + 1 := by
  unfold stepRun
  split
  · rw [List.length_append]; exact Nat.le_refl _
  · split
    · rw [List.length_append, List.length_dropLast]
      show gs.length - 1 + 1 ≤ _
      omega
    · rw [List.length_append]; exact Nat.le_refl _
theorem runs_len (f : Int → Bool) (ps : List Int) : (runsL f ps).length ≤ ps.length := by
  have : ∀ (ps : List Int) (gs : List Pg), (ps.foldl (fun gs n => stepRun gs n (f n)) gs).length ≤ gs.length + ps.length := by
    intro ps
    induction ps with
    | nil => intro gs; exact Nat.le_refl _
    | cons n ps ih =>
      intro gs
      have h1 := ih (stepRun gs n (f n))
      have h2 := stepRun_len gs n (f n)
      rw [List.foldl_cons, List.length_cons]
      omega
  have := this ps []
  simpa [runsL] using this
/-- gs: the stretches of the pages that ms cover -/
def IsRuns (nums : List Int) (ms : List Mk) (gs : List Pg) : Prop := ∃ ps : List Int, ps.Pairwise (· < ·) ∧ (∀ n, n ∈ ps ↔ (cS (stepsOf nums ms) n).isSome = true) ∧ (∀ n ∈ ps, n ∈ nums) ∧ gs = runsL (fun n => (cS (stepsOf nums ms) n).getD false) ps

section
variable {P : Program} {w : World} {K : PySem.W.Frag} {mg : Str → Option Value} {base : Heap}
/-! PbStretch: ### covered -/
theorem scCovered : FnScope ["numbers", "marks", "found", "path", "first", "last", "most", "page"] ["numbers", "marks"] (defScope sCovered) := ⟨rfl, rfl, rfl, by decide +kernel, rfl, by decide +kernel, by decide +kernel⟩
def spCovered : Sp := fun vs H Q _ => ∃ (n m : Addr) (nums : List Int) (ms : List Mk) (us : List V), vs = [.ref n, .ref m] ∧ H n = some (.lst (nums.map V.int)) ∧ H m = some (.lst us) ∧ Paired (fun b y => RMark b y H) ms us ∧ nums.length ≤ 1000 ∧
  ∀ (H' : Hp) (d : Addr) (kvs : List (Key × V)), Same H H' → H d = none → H' d = some (.dK kvs) → Cov nums (stepsOf nums ms) kvs → Q (.ref d) H'
theorem okCovered (T : Top K mg) : Def1 P w K mg base 1 "covered" spCovered := by
  refine def1 T.fCovered scCovered (fun vs H Q E h => ?_) (fun _ _ _ _ _ _ us hl => match us, hl with | [_, _], _ => rfl) (fun f cdv A outer s H vs Q E hr h => ?_)
  · obtain ⟨n, m, nums, ms, us, rfl, _⟩ := h
    rfl
  · obtain ⟨n, m, nums, ms, us, rfl, hn, hm, pr, hz, q⟩ := h
    refine ⟨_, pss_cons (ps_set (i := 2) scCovered.nd rfl (.inl rfl) pe_dnewK)
      (pss_cons (ps_for PassesOwn.never rfl (pi_list (pv 1)) (pg_tup rfl (pgs_cons (pg_name (i := 3) scCovered.nd rfl (.inl rfl)) (pgs_cons (pg_name (i := 4) scCovered.nd rfl (.inl rfl)) (pgs_cons (pg_name (i := 5) scCovered.nd rfl (.inl rfl)) (pgs_cons (pg_name (i := 6) scCovered.nd rfl (.inl rfl)) pgs_nil)))))
        (pss_one (ps_for PassesOwn.never rfl (pi_list (pe_slice sl_list (pv 0) (po_some (pv 4)) (po_some (pe_op op_add (pv 5) pe_int)))) (pg_name (i := 7) scCovered.nd rfl (.inl rfl))
          (pss_one (ps_dput (hu_of hr) (pv 2) (pv 7) (pe_or (pv 6) (pe_one (pe_dget2 (hu_of hr) (pv 2) (pv 7) pe_bl ⟨rfl, rfl, rfl, rfl⟩))) rfl)))))
      (pss_one (ps_ret (pv 2)))), ?_⟩
    refine fun d hd => ⟨.ref m, rfl, m, rfl, ⟨_, sqL (same_upd hd _ _ hm)⟩, ?_⟩
    refine for_it (walk_list (xs := us)) (fun i σ H1 => ∃ (kvs : List (Key × V)) (y3 y4 y5 y6 y7 : Option V), σ = [some (.ref n), some (.ref m), some (.ref d), y3, y4, y5, y6, y7] ∧ Same H H1 ∧ H1 d = some (.dK kvs) ∧ Cov nums (stepsOf nums (ms.take i)) kvs)
      ⟨[], none, none, none, none, none, rfl, same_upd hd, upd_same, Cov.none nums⟩ (fun i σ H1 hi hp => ?_) (fun i x σ H1 H2 hi hp hy => ?_) (fun σ H1 hp => ?_)
    · obtain ⟨_, _, _, _, _, _, _, sm, _⟩ := hp
      exact sqL (sm _ _ hm)
    · obtain ⟨kvs, y3, y4, y5, y6, y7, rfl, sm, ho, hc⟩ := hp
      obtain ⟨rfl, hx⟩ := hy
      obtain ⟨mk, hmk, r⟩ := pr_get2 (Paired.monoR mono_mark sm pr) hx
      obtain ⟨a, p, rfl, ha, hpp⟩ := r
      refine ⟨a, _, rfl, sqT ha, rfl, _, _, rfl, _, _, rfl, _, _, rfl, _, _, rfl, rfl, ?_⟩
      refine ⟨_, rfl, _, rfl, _, rfl, _, rfl, mk.2.2.1, 1, rfl, rfl, mk.2.2.1 + 1, rfl, n, nums.map V.int, rfl, sqL (sm _ _ hn), fun c nc => ?_⟩
      have scn : Same H2 (upd H2 c (.lst (cutV (nums.map V.int) (some mk.2.1) (some (mk.2.2.1 + 1))))) := same_upd nc
      have hcd : d ≠ c := ne_of_none ho nc
      have ecut := cutV_int nums mk.2.1 (mk.2.2.1 + 1)
      rw [ecut] at scn ⊢
      have et : ms.take (i + 1) = ms.take i ++ [mk] := by rw [List.take_add_one, hmk]; rfl
      refine ⟨c, rfl, ⟨_, sqL upd_same⟩, ?_⟩
      refine for_it (walk_list (xs := (cutG nums mk.2.1 (mk.2.2.1 + 1)).map V.int)) (fun j σ H3 => ∃ (kvs : List (Key × V)) (y7 : Option V), σ = [some (.ref n), some (.ref m), some (.ref d), some (.ref p), some (.int mk.2.1), some (.int mk.2.2.1), some (.bl mk.2.2.2), y7] ∧ Same H H3 ∧ H3 c = some (.lst ((cutG nums mk.2.1 (mk.2.2.1 + 1)).map V.int)) ∧ H3 d = some (.dK kvs) ∧
        Cov nums (stepsOf nums (ms.take i) ++ ((cutG nums mk.2.1 (mk.2.2.1 + 1)).take j).map fun p => (p, mk.2.2.2)) kvs) ⟨kvs, y7, rfl, sm.trans scn, upd_same, scn _ _ ho, by rw [List.take_zero, List.map_nil, List.append_nil]; exact hc⟩ (fun j σ H3 hj hp => ?_) (fun j x σ H3 H4 hj hp hy => ?_) (fun σ H3 hp => ?_)
      · obtain ⟨_, _, _, _, hcc, _⟩ := hp
        exact sqL hcc
      · obtain ⟨kvs, y7, rfl, sm3, hcc, ho3, hc3⟩ := hp
        obtain ⟨rfl, hx2⟩ := hy
        rw [List.getElem?_map] at hx2
        obtain ⟨pg, hpg, rfl⟩ := Option.map_eq_some_iff.mp hx2
        have et2 : (cutG nums mk.2.1 (mk.2.2.1 + 1)).take (j + 1) = (cutG nums mk.2.1 (mk.2.2.1 + 1)).take j ++ [pg] := by rw [List.take_add_one, hpg]; rfl
        have hpn : pg ∈ nums := cutG_mem (List.mem_of_getElem? hpg)
        have hnx := hc3.put hpn mk.2.2.2
        have hcl : kvs.length < sizeLine := szlt (Nat.le_trans hc3.len (by omega))
        have fin : ∀ v, v = V.bl (mk.2.2.2 || (cS (stepsOf nums (ms.take i) ++ ((cutG nums mk.2.1 (mk.2.2.1 + 1)).take j).map fun p => (p, mk.2.2.2)) pg).getD false) → ∃ (kvs' : List (Key × V)) (y7 : Option V), [some (.ref n), some (.ref m), some (.ref d), some (.ref p), some (.int mk.2.1), some (.int mk.2.2.1), some (.bl mk.2.2.2), some (.int pg)] = [some (.ref n), some (.ref m), some (.ref d), some (.ref p), some (.int mk.2.1), some (.int mk.2.2.1), some (.bl mk.2.2.2), y7] ∧ Same H (upd H4 d (.dK (putK kvs (Sum.inl pg) v))) ∧ (upd H4 d (.dK (putK kvs (Sum.inl pg) v))) c = some (.lst ((cutG nums mk.2.1 (mk.2.2.1 + 1)).map V.int)) ∧ (upd H4 d (.dK (putK kvs (Sum.inl pg) v))) d = some (.dK kvs') ∧
            Cov nums (stepsOf nums (ms.take i) ++ ((cutG nums mk.2.1 (mk.2.2.1 + 1)).take (j + 1)).map fun p => (p, mk.2.2.2)) kvs' := fun v ev => by
          subst ev
          refine ⟨_, _, rfl, same_upd2 hd sm3, by rw [upd_ne hcd.symm]; exact hcc, upd_same, ?_⟩
          rw [et2, List.map_append, ← List.append_assoc]
          exact hnx
        refine ⟨.bl mk.2.2.2, rfl, mk.2.2.2, rfl, ?_⟩
        cases hmm : mk.2.2.2 with
        | true =>
          rw [hmm] at fin
          exact iteT ⟨_, rfl, _, rfl, d, _, rfl, DPut.k (k := Sum.inl pg) ho3 hcl, fin _ rfl⟩
        | false =>
          rw [hmm] at fin hc3
          refine iteF ⟨_, rfl, d, rfl, .inl ⟨_, .inl ho3⟩, _, rfl, _, DGet.k (k := Sum.inl pg) ho3, _, rfl, _, rfl, d, _, rfl, DPut.k (k := Sum.inl pg) ho3 hcl, fin _ ?_⟩
          rw [cov_get hc3, Bool.false_or]
      · obtain ⟨kvs, y7, rfl, sm3, hcc, ho3, hc3⟩ := hp
        refine ⟨kvs, _, _, _, _, _, rfl, sm3, ho3, ?_⟩
        rw [List.length_map, List.take_length] at hc3
        rw [et]
        unfold stepsOf at hc3 ⊢
        rw [List.flatMap_append, List.flatMap_cons, List.flatMap_nil, List.append_nil]
        exact hc3
    · obtain ⟨kvs, y3, y4, y5, y6, y7, rfl, sm, ho, hc⟩ := hp
      rw [← Paired.length pr, List.take_length] at hc
      exact ⟨_, rfl, q H1 d kvs sm hd ho hc⟩
/-! PbStretch: ### stretches -/
theorem scStretches : FnScope ["numbers", "marks", "strong", "found", "page"] ["numbers", "marks"] (defScope sStretches) := ⟨rfl, rfl, rfl, by decide +kernel, rfl, by decide +kernel, by decide +kernel⟩
def spStretches : Sp := fun vs H Q _ => ∃ (n m : Addr) (nums : List Int) (ms : List Mk) (us : List V), vs = [.ref n, .ref m] ∧ H n = some (.lst (nums.map V.int)) ∧ H m = some (.lst us) ∧ Paired (fun b y => RMark b y H) ms us ∧ nums.length < 64 ∧
  ∀ (H' : Hp) (o : Addr) (gs : List Pg), Same H H' → H o = none → RList RPg gs (.ref o) H' → IsRuns nums ms gs → Q (.ref o) H'
theorem sorted_lt : ∀ {ys : List Int}, ys.Pairwise (· ≤ ·) → ys.Nodup → ys.Pairwise (· < ·)
  | [], _, _ => .nil
  | y :: ys, h, n => by
    rw [List.pairwise_cons] at h ⊢
    rw [List.nodup_cons] at n
    exact ⟨fun z hz => Int.lt_iff_le_and_ne.mpr ⟨h.1 z hz, fun e => n.1 (e ▸ hz)⟩, sorted_lt h.2 n.2⟩
theorem keys_ints {nums : List Int} : ∀ {ks : List Key}, (∀ k ∈ ks, ∃ n ∈ nums, k = Sum.inl n) → ∃ ns : List Int, ks = ns.map Sum.inl
  | [], _ => ⟨[], rfl⟩
  | k :: ks, h => by
    obtain ⟨n, _, rfl⟩ := h k List.mem_cons_self
    obtain ⟨ns, e⟩ := keys_ints fun x hx => h x (List.mem_cons_of_mem _ hx)
    exact ⟨n :: ns, by rw [e]; rfl⟩
theorem okStretches (T : Top K mg) : Def1 P w K mg base 2 "stretches" spStretches := by
  refine def1 T.fStretches scStretches (fun vs H Q E h => ?_) (fun _ _ _ _ _ _ us hl => match us, hl with | [_, _], _ => rfl) (fun f cdv A outer s H vs Q E hr h => ?_)
  · obtain ⟨n, m, nums, ms, us, rfl, _⟩ := h
    rfl
  · obtain ⟨n, m, nums, ms, us, rfl, hn, hm, pr, hz, q⟩ := h
    refine ⟨_, pss_cons (ps_set (i := 2) scStretches.nd rfl (.inl rfl) (pe_f (okCovered T) hr (Nat.le_refl _) rfl (pa_cons (pv 0) (pa_cons (pv 1) pa_nil))))
      (pss_cons (ps_set (i := 3) scStretches.nd rfl (.inl rfl) (pe_lst pa_nil))
      (pss_cons (ps_for PassesOwn.never rfl (pi_list (pe_callB (call_sortedDI rfl) (by rfl) T.sorted (by decide +kernel) (pa_cons (pv 2) pa_nil))) (pg_name (i := 4) scStretches.nd rfl (.inl rfl))
        (pss_one (ps_if (PW.pt (pw_and (pt_cmpR (op_neD hr.units) (pv 3) (pe_lst pa_nil) (nomark _)) (pw_and
            (pt_cmpR op_eq (pe_ix ix_tup (pe_ix ix_list (pv 3) (pe_un un_neg pe_int) (fun _ _ => rfl)) pe_int (fun _ _ => rfl)) (pe_op op_sub (pv 4) pe_int) (nomark _))
            (pw_and1 (pt_cmpR op_eq (pe_ix ix_tup (pe_ix ix_list (pv 3) (pe_un un_neg pe_int) (fun _ _ => rfl)) pe_int (fun _ _ => rfl)) (pe_dget (hu_of hr) (pv 2) (pv 4) (fun _ _ => rfl)) (nomark _))))))
          (pss_one (ps_asg (pe_tup (pa_cons (pe_ix ix_tup (pe_ix ix_list (pv 3) (pe_un un_neg pe_int) (fun _ _ => rfl)) pe_int (fun _ _ => rfl)) (pa_cons (pv 4) (pa_cons (pe_dget (hu_of hr) (pv 2) (pv 4) (fun _ _ => rfl)) pa_nil))))
            (pg_sub (pv 3) (pe_un un_neg pe_int) set_list)))
          (pss_one (ps_expr (pe_bm PySem.F.plainAttrs_list PySem.F.slot_list_append PySem.F.type_list_append mt_append (pv 3) (pa_cons (pe_tup (pa_cons (pv 4) (pa_cons (pv 4) (pa_cons (pe_dget (hu_of hr) (pv 2) (pv 4) (fun _ _ => rfl)) pa_nil)))) pa_nil)))))))
      (pss_one (ps_ret (pv 3))))), ?_⟩
    refine ⟨_, rfl, _, rfl, n, m, nums, ms, us, rfl, hn, hm, pr, by omega, fun H1 d kvs s1 hd0 hd hc => ?_⟩
    refine ⟨Nat.zero_le _, fun o no => ?_⟩
    have so : Same H1 (upd H1 o (.lst [])) := same_upd no
    have no0 : H o = none := Same.free s1 no
    obtain ⟨ks, hks⟩ := keys_ints hc.sub
    have hkl : ks.length ≤ nums.length := by
      have h1 := hc.len
      have h2 := congrArg List.length hks
      rw [List.length_map, List.length_map] at h2
      omega
    refine ⟨_, rfl, d, kvs, ks, rfl, .inl (so _ _ hd), hks, by omega, fun ys c perm srt nc => ?_⟩
    have sc : Same (upd H1 o (.lst [])) (upd (upd H1 o (.lst [])) c (.lst (ys.map V.int))) := same_upd nc
    have hoc : o ≠ c := ne_of_none upd_same nc
    have hod : d ≠ o := ne_of_none hd no
    have hmem : ∀ y, y ∈ ys ↔ (cS (stepsOf nums ms) y).isSome = true := fun y => by
      rw [perm.mem_iff]
      have e1 : y ∈ ks ↔ Sum.inl y ∈ kvs.map (·.1) := by
        rw [hks]
        refine ⟨fun h => List.mem_map.mpr ⟨y, h, rfl⟩, fun h => ?_⟩
        obtain ⟨z, hz, e⟩ := List.mem_map.mp h
        cases e
        exact hz
      have e2 := hc.val y
      rw [e1]
      constructor
      · intro h
        cases hv : valV kvs (Sum.inl y) with
        | none => exact absurd h (valV_not hv)
        | some v =>
          rw [hv] at e2
          cases hcs : cS (stepsOf nums ms) y with
          | none => rw [hcs] at e2; cases e2
          | some b => rfl
      · intro h
        obtain ⟨b, hb⟩ := Option.isSome_iff_exists.mp h
        rw [hb] at e2
        exact valV_in e2
    have hnd : ys.Nodup := by
      rw [perm.nodup_iff]
      have := hc.nd
      rw [hks] at this
      exact (List.pairwise_map.mp this).imp fun h e => h (congrArg Sum.inl e)
    refine ⟨c, rfl, ⟨_, sqL upd_same⟩, ?_⟩
    refine for_it (walk_list (xs := ys.map V.int)) (fun i σ H2 => ∃ (vs : List V) (y4 : Option V), σ = [some (.ref n), some (.ref m), some (.ref d), some (.ref o), y4] ∧ Same H H2 ∧ H2 c = some (.lst (ys.map V.int)) ∧ H2 d = some (.dK kvs) ∧ H2 o = some (.lst vs) ∧
      Paired (fun b y => RPg b y H2) (runsL (fun n => (cS (stepsOf nums ms) n).getD false) (ys.take i)) vs)
      ⟨[], none, rfl, s1.trans (so.trans sc), upd_same, sc _ _ (so _ _ hd), sc _ _ upd_same, .nil⟩ (fun i σ H2 hi hp => ?_) (fun i x σ H2 H3 hi hp hy => ?_) (fun σ H2 hp => ?_)
    · obtain ⟨_, _, _, _, hcc, _⟩ := hp
      exact sqL hcc
    · obtain ⟨vs, y4, rfl, sm, hcc, hdd, ho, pg⟩ := hp
      obtain ⟨rfl, hx⟩ := hy
      rw [List.getElem?_map] at hx
      obtain ⟨y, hyi, rfl⟩ := Option.map_eq_some_iff.mp hx
      have et : ys.take (i + 1) = ys.take i ++ [y] := by rw [List.take_add_one, hyi]; rfl
      obtain ⟨b, hb⟩ := Option.isSome_iff_exists.mp ((hmem y).mp (List.mem_of_getElem? hyi))
      have hval : valV kvs (Sum.inl y) = some (.bl b) := by rw [hc.val, hb]; rfl
      have enext : runsL (fun n => (cS (stepsOf nums ms) n).getD false) (ys.take (i + 1)) = stepRun (runsL (fun n => (cS (stepsOf nums ms) n).getD false) (ys.take i)) y b := by
        rw [et, runs_snoc, hb]; rfl
      have hgl := runs_len (fun n => (cS (stepsOf nums ms) n).getD false) (ys.take i)
      rw [enext]
      revert pg hgl
      clear enext
      generalize runsL (fun n => (cS (stepsOf nums ms) n).getD false) (ys.take i) = gs
      intro pg hgl
      rw [List.length_take] at hgl
      have hyl : ys.length = ks.length := perm.length_eq
      refine ⟨_, rfl, Nat.zero_le _, fun l nl => ?_⟩
      have sl : Same H3 (upd H3 l (.lst [])) := same_upd nl
      have hvl := Paired.length pg
      refine ne_nilB (n := 2) gs.isEmpty (by cases gs <;> rfl) (.lst (sqL (sl _ _ ho)) (dp_pair (fun b v h => dp_pg h) (Paired.monoR mono_pg sl pg))) upd_same (low_list fun d hd => by obtain ⟨x, _, rfl⟩ := List.mem_map.mp hd; exact low_pg x) (by decide) ?_
      refine ⟨_, rfl, ?_⟩
      have app : stepRun gs y b = gs ++ [(y, y, b)] → (tDrop (tBM K "list" rAppend (tVar 3) (tCons (tTup (tCons (tVar 4) (tCons (tVar 4) (tCons (tDGet (tVar 2) (tVar 4)) tNil)))) tNil)))
          { nx := fun σ H2 => ∃ (vs : List V) (y4 : Option V), σ = [some (.ref n), some (.ref m), some (.ref d), some (.ref o), y4] ∧ Same H H2 ∧ H2 c = some (.lst (ys.map V.int)) ∧ H2 d = some (.dK kvs) ∧ H2 o = some (.lst vs) ∧ Paired (fun b y => RPg b y H2) (stepRun gs y b) vs, rt := Q }
          [some (.ref n), some (.ref m), some (.ref d), some (.ref o), some (.int y)] (upd H3 l (.lst [])) := fun e => by
        refine ⟨_, rfl, .inl ⟨rfl, _, sqL (sl _ _ ho)⟩, _, rfl, _, rfl, _, rfl, _, rfl, d, _, rfl, by rw [← hval]; exact DGet.k (k := Sum.inl y) (sl _ _ hdd), sz (by show 3 ≤ 100000; decide), fun t nt => ?_⟩
        have st : Same (upd H3 l (.lst [])) (upd (upd H3 l (.lst [])) t (.tup [.int y, .int y, .bl b])) := same_upd nt
        have hto : t ≠ o := (ne_of_none (sl _ _ ho) nt).symm
        refine ⟨o, vs, _, rfl, rfl, st _ _ (sl _ _ ho), szlt (by omega), vs ++ [.ref t], some (.int y), rfl, same_upd2 no0 (sm.trans (sl.trans st)), ?_, ?_, upd_same, ?_⟩
        · rw [upd_ne hoc.symm]; exact st _ _ (sl _ _ hcc)
        · rw [upd_ne hod]; exact st _ _ (sl _ _ hdd)
        · rw [e]
          refine Paired.snoc ?_ ⟨t, rfl, by rw [upd_ne hto]; exact upd_same⟩
          refine L2.Paired.mapP pg fun g v r => ?_
          obtain ⟨a, rfl, ha⟩ := r
          exact ⟨a, rfl, by rw [upd_ne (ne_of ha ho (fun z => nomatch z))]; exact st _ _ (sl _ _ ha)⟩
      rcases snoc_cases gs with rfl | ⟨gs0, g, rfl⟩
      · exact iteF (iteF (app rfl))
      · have e0 : (gs0 ++ [g]).isEmpty = false := by cases gs0 <;> rfl
        rw [e0]
        have elast : (gs0 ++ [g]).getLast? = some g := by simp
        have edrop : (gs0 ++ [g]).dropLast = gs0 := by simp
        obtain ⟨vs0, v, rfl⟩ : ∃ vs0 v, vs = vs0 ++ [v] := by
          rcases snoc_cases vs with rfl | ⟨a, b, e⟩
          · simp at hvl
          · exact ⟨a, b, e⟩
        have hv0 : gs0.length = vs0.length := by simpa using hvl
        obtain ⟨g', hg', rg⟩ := pr_get2 (i := vs0.length) (b := v) pg (by simp)
        have egg : g' = g := by
          rw [← hv0] at hg'
          simpa using hg'.symm
        subst egg
        obtain ⟨a, rfl, ha⟩ := rg
        have hla : atI (vs0 ++ [V.ref a]) (-1) = some (.ref a) := atI_last _ _
        have sla := sl _ _ ha
        refine iteT ⟨_, rfl, 1, rfl, o, _, -1, _, rfl, rfl, sqL (sl _ _ ho), hla, a, _, 1, _, rfl, rfl, sqT sla, atI_nat (j := 1) rfl, _, rfl, y, 1, rfl, rfl, rfl, _, rfl, ?_⟩
        by_cases h1 : g'.2.1 = y - 1
        · rw [decide_eq_true (congrArg V.int h1)]
          refine iteT ⟨_, rfl, 1, rfl, o, _, -1, _, rfl, rfl, sqL (sl _ _ ho), hla, a, _, 2, _, rfl, rfl, sqT sla, atI_nat (j := 2) rfl, _, rfl, _, rfl, d, _, rfl, by rw [← hval]; exact DGet.k (k := Sum.inl y) (sl _ _ hdd), rfl, _, rfl, ?_⟩
          by_cases h2 : g'.2.2 = b
          · rw [decide_eq_true (congrArg V.bl h2)]
            have e : stepRun (gs0 ++ [g']) y b = gs0 ++ [(g'.1, y, b)] := by
              unfold stepRun
              rw [elast]
              show (if _ then _ else _) = _
              rw [if_pos ⟨h1, h2⟩, edrop]
            rw [e]
            refine iteT ⟨_, rfl, 1, rfl, o, _, -1, _, rfl, rfl, sqL (sl _ _ ho), hla, a, _, 0, _, rfl, rfl, sqT sla, atI_nat (j := 0) rfl, _, rfl, _, rfl, _, rfl, d, _, rfl, by rw [← hval]; exact DGet.k (k := Sum.inl y) (sl _ _ hdd), sz (by show 3 ≤ 100000; decide), fun t nt => ?_⟩
            have st : Same (upd H3 l (.lst [])) (upd (upd H3 l (.lst [])) t (.tup [.int g'.1, .int y, .bl b])) := same_upd nt
            have hto : t ≠ o := (ne_of_none (sl _ _ ho) nt).symm
            refine ⟨_, rfl, 1, rfl, o, _, -1, vs0.length, rfl, rfl, st _ _ (sl _ _ ho), ?_, vs0 ++ [.ref t], some (.int y), rfl, same_upd2 no0 (sm.trans (sl.trans st)), ?_, ?_, ?_, ?_⟩
            · unfold ixN
              rw [List.length_append, List.length_singleton, if_neg (by omega), if_pos (by omega)]
              congr 1
              omega
            · rw [upd_ne hoc.symm]; exact st _ _ (sl _ _ hcc)
            · rw [upd_ne hod]; exact st _ _ (sl _ _ hdd)
            · rw [upd_same, List.set_append_right _ _ (Nat.le_refl _), Nat.sub_self]; rfl
            · refine Paired.snoc ?_ ⟨t, rfl, by rw [upd_ne hto]; exact upd_same⟩
              have pg0 := pr_take gs0.length pg
              rw [List.take_left, hv0, List.take_left] at pg0
              refine L2.Paired.mapP pg0 fun g v r => ?_
              obtain ⟨a, rfl, ha⟩ := r
              exact ⟨a, rfl, by rw [upd_ne (ne_of ha ho (fun z => nomatch z))]; exact st _ _ (sl _ _ ha)⟩
          · rw [decide_eq_false (fun z => h2 (V.bl.inj z))]
            refine iteF (app ?_)
            unfold stepRun
            rw [elast]
            show (if _ then _ else _) = _
            rw [if_neg (fun z => h2 z.2)]
        · rw [decide_eq_false (fun z => h1 (V.int.inj z))]
          refine iteF (iteF (app ?_))
          unfold stepRun
          rw [elast]
          show (if _ then _ else _) = _
          rw [if_neg (fun z => h1 z.1)]
    · obtain ⟨vs, y4, rfl, sm, hcc, hdd, ho, pg⟩ := hp
      rw [List.length_map, List.take_length] at pg
      refine ⟨_, rfl, q H2 _ _ sm no0 ⟨o, vs, rfl, ho, pg⟩ ⟨ys, sorted_lt srt hnd, hmem, fun y hy => ?_, rfl⟩⟩
      have h1 := (perm.mem_iff).mp hy
      obtain ⟨k, hk, e⟩ := hc.sub (Sum.inl y) (by rw [hks]; exact List.mem_map.mpr ⟨y, h1, rfl⟩)
      cases e
      exact hk
end
end PB
/-! PbEntries: entries.py -/
namespace PB
open PySem PySem.Spec PyProof.Rows L2 TL

/-- tuples stay -/
def TSame (H H' : Hp) : Prop := ∀ a xs, H a = some (.tup xs) → H' a = some (.tup xs)
theorem Same.tup {H H' : Hp} (h : Same H H') : TSame H H' := fun a xs e => h a _ e
theorem TSame.trans {H H1 H2 : Hp} (h : TSame H H1) (g : TSame H1 H2) : TSame H H2 := fun a xs e => g a _ (h a _ e)
theorem tsame_upd {H : Hp} {d : Addr} {u o : HO} (h : H d = some u) (hu : ∀ xs, u ≠ .tup xs) : TSame H (upd H d o) := fun a xs e => by
  rw [upd_ne (fun z => hu xs (by rw [z, h] at e; exact Option.some.inj e))]
  exact e
theorem path_t {p : List Str} {v : V} {H H' : Hp} (e : TSame H H') (h : RPath p v H) : RPath p v H' := by
  obtain ⟨a, rfl, ha⟩ := h
  exact ⟨a, rfl, e _ _ ha⟩
theorem mark_t {m : Mk} {v : V} {H H' : Hp} (e : TSame H H') (h : RMark m v H) : RMark m v H' := by
  obtain ⟨a, q, rfl, ha, hq⟩ := h
  exact ⟨a, q, rfl, e _ _ ha, e _ _ hq⟩
theorem see_t {m : Se} {v : V} {H H' : Hp} (e : TSame H H') (h : RSee m v H) : RSee m v H' := by
  obtain ⟨a, q, g, rfl, ha, hq, hg⟩ := h
  exact ⟨a, q, g, rfl, e _ _ ha, e _ _ hq, e _ _ hg⟩

/-- a prefix of a path, as a slice -/
theorem slA_take {K : PySem.W.Frag} {H : Hp} {a : Addr} {p : List Str} {n : Nat} {Q : VK} (ha : H a = some (.tup (p.map V.str))) (q : ∀ H' v, Same H H' → RPath (p.take n) v H' → Q v H') : rSlA K (.ref a) none (some (n : Int)) H Q := by
  refine ⟨a, _, rfl, sqT ha, fun h => ?_, fun _ t nt => ?_⟩
  · have h2 := h.2
    rw [HT.sIx_nat, List.length_map] at h2
    have e : p.take n = p := List.take_of_length_le (by omega)
    exact q H _ (Same.refl _) ⟨a, rfl, by rw [e]; exact ha⟩
  · refine q _ _ (same_upd nt) ⟨t, rfl, ?_⟩
    rw [upd_same]
    unfold cutV
    rw [HT.sIx_none, HT.sIx_nat, List.drop_zero, Nat.sub_zero, List.length_map, ← List.map_take]
    congr 3
    by_cases h : n ≤ p.length
    · rw [Nat.min_eq_left h]
    · rw [Nat.min_eq_right (by omega), List.take_of_length_le (Nat.le_refl _), List.take_of_length_le (by omega)]

def keysOf (p : List Str) : List Key := p.map Sum.inr
theorem keysOf_kV (p : List Str) : (keysOf p).map kV = p.map V.str := by
  unfold keysOf
  rw [List.map_map]
  rfl
theorem keysOf_inj {p q : List Str} (h : keysOf p = keysOf q) : p = q := by
  unfold keysOf at h
  induction p generalizing q with
  | nil => cases q with
    | nil => rfl
    | cons _ _ => cases h
  | cons x p ih => cases q with
    | nil => cases h
    | cons y q =>
      rw [List.map_cons, List.map_cons] at h
      injection h with h1 h2
      rw [Sum.inr.inj h1, ih h2]
abbrev Row := List Str × List Pg
def RRow : Rl Row := fun r v H => ∃ a q l, v = .ref a ∧ H a = some (.tup [.ref q, .ref l]) ∧ H q = some (.tup (r.1.map V.str)) ∧ RList RPg r.2 (.ref l) H
theorem mono_row : Mono RRow := fun _ _ _ _ e h => by
  obtain ⟨a, q, l, rfl, ha, hq, hl⟩ := h
  exact ⟨a, q, l, rfl, e _ _ ha, e _ _ hq, mono_list mono_pg _ _ _ _ e hl⟩
theorem cS_congr {st st' : List (Int × Bool)} (h : ∀ s, s ∈ st ↔ s ∈ st') (n : Int) : cS st n = cS st' n := by
  have a : ∀ f : Int × Bool → Bool, st.any f = st'.any f := fun f => by
    rw [Bool.eq_iff_iff, List.any_eq_true, List.any_eq_true]
    exact ⟨fun ⟨x, hx, e⟩ => ⟨x, (h x).mp hx, e⟩, fun ⟨x, hx, e⟩ => ⟨x, (h x).mpr hx, e⟩⟩
  unfold cS
  rw [a, a]
theorem stepsOf_congr {nums : List Int} {ms ms' : List Mk} (h : ∀ m, m ∈ ms ↔ m ∈ ms') (s : Int × Bool) : s ∈ stepsOf nums ms ↔ s ∈ stepsOf nums ms' := by
  unfold stepsOf
  rw [List.mem_flatMap, List.mem_flatMap]
  exact ⟨fun ⟨x, hx, e⟩ => ⟨x, (h x).mp hx, e⟩, fun ⟨x, hx, e⟩ => ⟨x, (h x).mpr hx, e⟩⟩
theorem isRuns_congr {nums : List Int} {ms ms' : List Mk} (h : ∀ m, m ∈ ms ↔ m ∈ ms') {gs : List Pg} (r : IsRuns nums ms gs) : IsRuns nums ms' gs := by
  obtain ⟨ps, h1, h2, h3, h4⟩ := r
  have e : cS (stepsOf nums ms) = cS (stepsOf nums ms') := funext (cS_congr (stepsOf_congr h))
  rw [e] at h2 h4
  exact ⟨ps, h1, h2, h3, h4⟩
/-- the rows that entries makes of the marks -/
structure RowsOf (nums : List Int) (ms : List Mk) (rows : List Row) : Prop where
  nd : (rows.map (·.1)).Nodup
  mem : ∀ p, p ∈ rows.map (·.1) ↔ ∃ m ∈ ms, p ≠ [] ∧ p <+: m.1
  runs : ∀ r ∈ rows, IsRuns nums (ms.filter fun m => decide (m.1 = r.1)) r.2

/-- the dict while it is filled: ins the paths put in, done the marks -/
structure EInv (H0 H : Hp) (d : Addr) (kvs : List (List Key × V)) (ins : List (List Str)) (done : List Mk) : Prop where
  nd : (kvs.map (·.1)).Nodup
  dat : H d = some (.dT kvs)
  keys : ∀ k, k ∈ kvs.map (·.1) ↔ ∃ p ∈ ins, k = keysOf p
  len : kvs.length ≤ ins.length
  vals : ∀ k v, valV kvs k = some v → ∃ l us, v = .ref l ∧ H0 l = none ∧ H l = some (.lst us) ∧ Paired (fun m y => RMark m y H) (done.filter fun m => decide (keysOf m.1 = k)) us
  inj : ∀ k k' l, valV kvs k = some (.ref l) → valV kvs k' = some (.ref l) → k = k'
  old : ∀ m ∈ done, m.1 ∈ ins
theorem EInv.same {H0 H H' : Hp} {d : Addr} {kvs : List (List Key × V)} {ins : List (List Str)} {done : List Mk} (h : EInv H0 H d kvs ins done) (e : Same H H') : EInv H0 H' d kvs ins done :=
  ⟨h.nd, e _ _ h.dat, h.keys, h.len, fun k v hv => by
    obtain ⟨l, us, h1, h2, h3, h4⟩ := h.vals k v hv
    exact ⟨l, us, h1, h2, e _ _ h3, Paired.monoR mono_mark e h4⟩, h.inj, h.old⟩
theorem EInv.again {H0 H : Hp} {d : Addr} {kvs : List (List Key × V)} {ins : List (List Str)} {done : List Mk} (h : EInv H0 H d kvs ins done) {p : List Str} {v : V} (hp : valV kvs (keysOf p) = some v) : EInv H0 H d kvs (ins ++ [p]) done :=
  ⟨h.nd, h.dat, fun k => by
    rw [h.keys]
    constructor
    · rintro ⟨q, hq, e⟩
      exact ⟨q, List.mem_append_left _ hq, e⟩
    · rintro ⟨q, hq, e⟩
      rcases List.mem_append.mp hq with hq | hq
      · exact ⟨q, hq, e⟩
      · rw [List.mem_singleton.mp hq] at e
        exact (h.keys k).mp (e ▸ valV_in hp), by rw [List.length_append]; exact Nat.le_trans h.len (Nat.le_add_right _ _), h.vals, h.inj, fun m hm => List.mem_append_left _ (h.old m hm)⟩
theorem EInv.put {H0 H : Hp} {d l : Addr} {kvs : List (List Key × V)} {ins : List (List Str)} {done : List Mk} (h : EInv H0 H d kvs ins done) {p : List Str} (hp : valV kvs (keysOf p) = none) (hl : H l = none) (h0 : H0 l = none) :
    EInv H0 (upd (upd H l (.lst [])) d (.dT (putK kvs (keysOf p) (.ref l)))) d (putK kvs (keysOf p) (.ref l)) (ins ++ [p]) done := by
  have hdl : d ≠ l := ne_of_none h.dat hl
  have s1 : Same H (upd H l (.lst [])) := same_upd hl
  have ts : TSame (upd H l (.lst [])) (upd (upd H l (.lst [])) d (.dT (putK kvs (keysOf p) (.ref l)))) := tsame_upd (s1 _ _ h.dat) (fun _ z => nomatch z)
  have hpi : p ∉ ins := fun hm => by
    have := (h.keys (keysOf p)).mpr ⟨p, hm, rfl⟩
    exact absurd this (valV_not hp)
  refine ⟨nodup_putK h.nd, upd_same, fun k => ?_, ?_, fun k v hv => ?_, fun k k' x hk hk' => ?_, fun m hm => List.mem_append_left _ (h.old m hm)⟩
  · rw [mem_putK, h.keys]
    constructor
    · rintro (rfl | ⟨q, hq, e⟩)
      · exact ⟨p, List.mem_append_right _ (List.mem_singleton.mpr rfl), rfl⟩
      · exact ⟨q, List.mem_append_left _ hq, e⟩
    · rintro ⟨q, hq, e⟩
      rcases List.mem_append.mp hq with hq | hq
      · exact .inr ⟨q, hq, e⟩
      · rw [List.mem_singleton.mp hq] at e
        exact .inl e
  · have := length_putK kvs (keysOf p) (.ref l)
    rw [List.length_append]
    show _ ≤ ins.length + 1
    have := h.len
    omega
  · rw [valV_put] at hv
    by_cases e : k = keysOf p
    · rw [if_pos e] at hv
      cases hv
      refine ⟨l, [], rfl, h0, by rw [upd_ne hdl.symm]; exact upd_same, ?_⟩
      have : (done.filter fun m => decide (keysOf m.1 = k)) = [] := by
        rw [List.filter_eq_nil_iff]
        intro m hm z
        have z := of_decide_eq_true z
        rw [e] at z
        exact hpi (keysOf_inj z ▸ h.old m hm)
      rw [this]
      exact .nil
    · rw [if_neg e] at hv
      obtain ⟨x, us, rfl, h1, h2, h3⟩ := h.vals k v hv
      have hxd : x ≠ d := ne_of h2 h.dat (fun z => nomatch z)
      exact ⟨x, us, rfl, h1, by rw [upd_ne hxd]; exact s1 _ _ h2, L2.Paired.mapP h3 fun m y r => mark_t ts (mono_mark _ _ _ _ s1 r)⟩
  · rw [valV_put] at hk hk'
    have no : ∀ j, valV kvs j = some (.ref l) → False := fun j hj => by
      obtain ⟨x, us, e, _, h2, _⟩ := h.vals j _ hj
      cases e
      rw [hl] at h2
      cases h2
    by_cases e : k = keysOf p
    · by_cases e' : k' = keysOf p
      · rw [e, e']
      · rw [if_pos e] at hk
        rw [if_neg e'] at hk'
        cases hk
        exact (no _ hk').elim
    · by_cases e' : k' = keysOf p
      · rw [if_neg e] at hk
        rw [if_pos e'] at hk'
        cases hk'
        exact (no _ hk).elim
      · rw [if_neg e] at hk
        rw [if_neg e'] at hk'
        exact h.inj _ _ _ hk hk'
theorem EInv.app {H0 H : Hp} {d l : Addr} {kvs : List (List Key × V)} {ins : List (List Str)} {done : List Mk} {us : List V} (h : EInv H0 H d kvs ins done) {m : Mk} {v : V} (hm : RMark m v H) (hv : valV kvs (keysOf m.1) = some (.ref l)) (hl : H l = some (.lst us)) :
    EInv H0 (upd H l (.lst (us ++ [v]))) d kvs ins (done ++ [m]) := by
  have hdl : d ≠ l := ne_of h.dat hl (fun z => nomatch z)
  have ts : TSame H (upd H l (.lst (us ++ [v]))) := tsame_upd hl (fun _ z => nomatch z)
  refine ⟨h.nd, by rw [upd_ne hdl]; exact h.dat, h.keys, h.len, fun k x hx => ?_, h.inj, fun m' hm' => ?_⟩
  · obtain ⟨x', us', rfl, h1, h2, h3⟩ := h.vals k x hx
    by_cases e : x' = l
    · subst e
      have ek : keysOf m.1 = k := h.inj _ _ _ hv hx
      rw [hl] at h2
      cases h2
      refine ⟨x', _, rfl, h1, upd_same, ?_⟩
      rw [List.filter_append]
      have e1 : [m].filter (fun m => decide (keysOf m.1 = k)) = [m] := by simp [ek]
      rw [e1]
      exact Paired.snoc (L2.Paired.mapP h3 fun m y r => mark_t ts r) (mark_t ts hm)
    · refine ⟨x', us', rfl, h1, by rw [upd_ne e]; exact h2, ?_⟩
      have ek : ¬ keysOf m.1 = k := fun z => by
        subst z
        rw [hv] at hx
        cases hx
        exact e rfl
      rw [List.filter_append]
      have e1 : [m].filter (fun m => decide (keysOf m.1 = k)) = [] := by simp [ek]
      rw [e1, List.append_nil]
      exact L2.Paired.mapP h3 fun m y r => mark_t ts r
  · rcases List.mem_append.mp hm' with hm' | hm'
    · exact h.old m' hm'
    · rw [List.mem_singleton.mp hm']
      obtain ⟨q, hq, e⟩ := (h.keys _).mp (valV_in hv)
      rw [keysOf_inj e]
      exact hq
/-- the paths that a mark puts in -/
def insOf (p : List Str) : List (List Str) := (List.range (p.length - 1)).map fun i => p.take (i + 1)
theorem insOf_mem {p q : List Str} (hp : p ≠ []) : q ∈ insOf p ++ [p] ↔ q ≠ [] ∧ q <+: p := by
  unfold insOf
  rw [List.mem_append, List.mem_singleton, List.mem_map]
  have hl : 0 < p.length := List.length_pos_iff.mpr hp
  constructor
  · rintro (⟨i, hi, rfl⟩ | rfl)
    · rw [List.mem_range] at hi
      refine ⟨fun e => ?_, List.take_prefix _ _⟩
      have h9 : min (i + 1) p.length = 0 := by rw [← List.length_take, e]; rfl
      omega
    · exact ⟨hp, List.prefix_refl _⟩
  · rintro ⟨h0, h1⟩
    have e := List.prefix_iff_eq_take.mp h1
    have h2 := h1.length_le
    have h3 : 0 < q.length := List.length_pos_iff.mpr h0
    by_cases h4 : q.length = p.length
    · right
      rw [e, h4, List.take_length]
    · left
      refine ⟨q.length - 1, List.mem_range.mpr (by omega), ?_⟩
      rw [show q.length - 1 + 1 = q.length by omega]
      exact e.symm
theorem keys_paths : ∀ {ks : List (List Key)} {ins : List (List Str)}, (∀ k ∈ ks, ∃ p ∈ ins, k = keysOf p) → ∃ ps : List (List Str), ks = ps.map keysOf
  | [], _, _ => ⟨[], rfl⟩
  | k :: ks, ins, h => by
    obtain ⟨p, _, rfl⟩ := h k List.mem_cons_self
    obtain ⟨ps, e⟩ := keys_paths fun x hx => h x (List.mem_cons_of_mem _ hx)
    exact ⟨p :: ps, by rw [e]; rfl⟩
theorem isKeys_paths {H : Hp} : ∀ {kvs : List (List Key × V)} {ps : List (List Str)} {bs : List Addr}, kvs.map (·.1) = ps.map keysOf → IsKeys H kvs bs → Paired (fun p v => RPath p v H) ps (bs.map V.ref)
  | [], [], _, _, h => by cases h; exact .nil
  | [], _ :: _, _, e, _ => by cases e
  | _ :: _, [], _, e, _ => by cases e
  | kv :: kvs, p :: ps, _, e, h => by
    cases h with
    | cons a t =>
      rw [List.map_cons, List.map_cons] at e
      injection e with e1 e2
      refine .cons ⟨_, rfl, ?_⟩ (isKeys_paths e2 t)
      rw [← keysOf_kV, ← e1]
      exact a
theorem nodup_paths {ps : List (List Str)} (h : (ps.map keysOf).Nodup) : ps.Nodup := (List.pairwise_map.mp h).imp fun h e => h (congrArg keysOf e)
theorem mem_paths {ps : List (List Str)} {p : List Str} : keysOf p ∈ ps.map keysOf ↔ p ∈ ps := by
  refine ⟨fun h => ?_, fun h => List.mem_map.mpr ⟨p, h, rfl⟩⟩
  obtain ⟨q, hq, e⟩ := List.mem_map.mp h
  rw [← keysOf_inj e]
  exact hq
theorem pr_pairs {α β γ : Type} {F : α → β → γ → Prop} : ∀ {xs : List α} {vs : List γ}, Paired (fun a v => ∃ b, F a b v) xs vs → ∃ rs : List (α × β), rs.map (·.1) = xs ∧ Paired (fun r v => F r.1 r.2 v) rs vs
  | _, _, .nil => ⟨[], rfl, .nil⟩
  | _, _, .cons h t => by
    obtain ⟨b, hb⟩ := h
    obtain ⟨rs, e, p⟩ := pr_pairs t
    exact ⟨(_, b) :: rs, by rw [List.map_cons, e], .cons hb p⟩

section
variable {P : Program} {w : World} {K : PySem.W.Frag} {mg : Str → Option Value} {base : Heap}
theorem scEntries : FnScope ["book", "most", "first", "marks", "numbers", "found", "mark", "many", "path"] ["book", "most", "first", "marks"] (defScope sEntries) := ⟨rfl, rfl, rfl, by decide +kernel, rfl, by decide +kernel, by decide +kernel⟩
def spEntries : Sp := fun vs H Q _ => ∃ (b m : Addr) (most first : Int) (book : List Bool) (ms : List Mk) (us : List V), vs = [.ref b, .int most, .int first, .ref m] ∧ H b = some (.lst (book.map V.bl)) ∧ H m = some (.lst us) ∧ Paired (fun b y => RMark b y H) ms us ∧ book.length < 64 ∧ ms.length ≤ 40 ∧
  (∀ m ∈ ms, (PathOk m.1 ∧ Sg m.1) ∧ m.1 ≠ [] ∧ 0 ≤ m.2.1 ∧ m.2.1 ≤ m.2.2.1 ∧ m.2.2.1 < book.length) ∧
  ∀ (H' : Hp) (o : Addr) (rows : List Row), Same H H' → H o = none → RList RRow rows (.ref o) H' → RowsOf (pagesL most first book) ms rows → Q (.ref o) H'
theorem okEntries (T : Top K mg) : Def1 P w K mg base 8 "entries" spEntries := by
  obtain ⟨fR, fdR, FR, mR, kR, bR⟩ := (okRank2 T : Def2 P w K mg base 3 _ _ (spRank K)).ex
  refine def1 T.fEntries scEntries (fun vs H Q E h => ?_) (fun _ _ _ _ _ _ us hl => match us, hl with | [_, _, _, _], _ => rfl) (fun f cdv A outer s H vs Q E hr h => ?_)
  · obtain ⟨b, m, most, first, book, ms, us, rfl, _⟩ := h
    rfl
  · obtain ⟨b, m, most, first, book, ms, us, rfl, hb, hm, pr, hbz, hmz, ok, q⟩ := h
    refine ⟨_, pss_cons (ps_set (i := 4) scEntries.nd rfl (.inr rfl) (pe_f (okPages T) hr (by decide) rfl (pa_cons (pv 0) (pa_cons (pv 1) (pa_cons (pv 2) pa_nil)))))
      (pss_cons (ps_set (i := 5) scEntries.nd rfl (.inr rfl) pe_dnewT)
      (pss_cons (ps_for PassesOwn.never rfl (pi_list (pe_f (okPoured T) hr (by decide) rfl (pa_cons (pe_lst (pa_cons (pv 3) pa_nil)) pa_nil))) (pg_name (i := 6) scEntries.nd rfl (.inl rfl))
        (pss_cons (ps_if (pt_not (pt_val (pe_f (okFits T) hr (by decide) rfl (pa_cons (pv 6) (pa_cons (pe_callB call_len_seq (by rfl) T.len PySem.boot_len (pa_cons (pv 0) pa_nil)) pa_nil))))) (pss_one ps_never) pss_nil)
        (pss_cons (ps_for PassesOwn.never rfl (pi_range2 (by rfl) T.range (pa_cons pe_int (pa_cons (pe_callB call_len_seq (by rfl) T.len PySem.boot_len (pa_cons (pe_ix ix_tup (pv 6) pe_int (fun _ _ => rfl)) pa_nil)) pa_nil))) (pg_name (i := 7) scEntries.nd rfl (.inl rfl))
          (pss_one (ps_expr (pe_dsetdT (hu_of hr) (pv 5) (pe_slice sl_tupA (pe_ix ix_tup (pv 6) pe_int (fun _ _ => rfl)) po_none (po_some (pv 7))) (pe_lst pa_nil) ⟨rfl, rfl, rfl, rfl⟩))))
        (pss_one (ps_expr (pe_bm PySem.F.plainAttrs_list PySem.F.slot_list_append PySem.F.type_list_append mt_append
          (pe_dsetdT (hu_of hr) (pv 5) (pe_ix ix_tup (pv 6) pe_int (fun _ _ => rfl)) (pe_lst pa_nil) ⟨rfl, rfl, rfl, rfl⟩) (pa_cons (pv 6) pa_nil)))))))
      (pss_one (ps_ret (pe_lc (own := [("path", 8)]) (g := gName 8) (tt := tYes) rfl scEntries.nd (pi_list (pe_callBK (cr_sortKD rfl FR (hr.mono (by decide)) bR) (by rfl) T.sorted (by decide +kernel) (pa_cons (pv 5) pa_nil) (pk_cons (pe_glob (v := .ref fR) rfl mR rfl) pk_nil)))
        (blkOk_by (own := [("path", 8)]) (N := ["book", "most", "first", "marks", "numbers", "found", "mark", "many", "path"]) (sc := defScope sEntries) (by decide +kernel))
        (fun _ _ _ _ _ => pg_name (i := 8) scEntries.nd rfl (Or.inl rfl)) (fun _ _ _ _ _ => pts_nil)
        (fun _ _ _ _ _ => pe_tup (pa_cons (pv 8) (pa_cons (pe_f (okStretches T) hr (by decide) rfl (pa_cons (pv 4) (pa_cons (pe_dget (hu_of hr) (pv 5) (pv 8) (fun _ _ => rfl)) pa_nil))) pa_nil)))))))), ?_⟩
    -- numbers
    refine ⟨_, rfl, _, rfl, _, rfl, b, most, first, book, rfl, hb, by omega, fun H1 n s1 hn0 hn => ?_⟩
    have hnl := pagesL_len most first book
    generalize hnums : pagesL most first book = nums at hn hnl q
    -- found = {}
    refine fun d hd => ?_
    have sd : Same H1 (upd H1 d (.dT [])) := same_upd hd
    have hd0 : H d = none := Same.free s1 hd
    -- poured([marks])
    refine ⟨_, rfl, sz (by show 1 ≤ 100000; decide), fun l nl => ?_⟩
    have sl : Same (upd H1 d (.dT [])) (upd (upd H1 d (.dT [])) l (.lst [.ref m])) := same_upd nl
    have s2 := s1.trans (sd.trans sl)
    refine ⟨l, m, ms, us, rfl, upd_same, s2 _ _ hm, Paired.monoR mono_mark s2 pr, by omega, fun m hm => (ok m hm).1, fun H2 o us2 ms2 s3 no ho pr2 hmem hml => ?_⟩
    have s4 := s2.trans s3
    refine ⟨o, rfl, ⟨_, sqL ho⟩, ?_⟩
    have ok2 : ∀ m ∈ ms2, (PathOk m.1 ∧ Sg m.1) ∧ m.1 ≠ [] ∧ 0 ≤ m.2.1 ∧ m.2.1 ≤ m.2.2.1 ∧ m.2.2.1 < book.length := fun m hm => ok m ((hmem m).mp hm)
    have hdd : H2 d = some (.dT []) := s3 _ _ (sl _ _ upd_same)
    have hod : o ≠ d := ne_of ho hdd (fun z => nomatch z)
    -- what stays: the heap at H2 but d
    refine for_it (walk_list (xs := us2)) (fun i σ H3 => ∃ (kvs : List (List Key × V)) (y6 y7 : Option V), σ = [some (.ref b), some (.int most), some (.int first), some (.ref m), some (.ref n), some (.ref d), y6, y7, none] ∧ Same (erase H2 d) H3 ∧ EInv (erase H2 d) H3 d kvs ((ms2.take i).flatMap fun m => insOf m.1 ++ [m.1]) (ms2.take i))
      ⟨[], none, none, rfl, erase_same _ _, ⟨by simp, hdd, fun k => by simp, Nat.le_refl _, (fun k v hv => nomatch hv), (fun _ _ _ hv => nomatch hv), (fun _ hm => by simp at hm)⟩⟩ (fun i σ H3 hi hp => ?_) (fun i x σ H3 H4 hi hp hy => ?_) (fun σ H3 hp => ?_)
    · obtain ⟨_, _, _, _, sm, _⟩ := hp
      exact sqL (sm _ _ (erase_at ho hod))
    · obtain ⟨kvs, y6, y7, rfl, sm, ei⟩ := hp
      obtain ⟨rfl, hx⟩ := hy
      obtain ⟨mk, hmk, r⟩ := pr_get2 pr2 hx
      have et : ms2.take (i + 1) = ms2.take i ++ [mk] := by rw [List.take_add_one, hmk]; rfl
      have okm := ok2 mk (List.mem_of_getElem? hmk)
      have r4 : RMark mk x H4 := by
        refine mono_mark _ _ _ _ sm ?_
        obtain ⟨a, p, rfl, ha, hp⟩ := r
        exact ⟨a, p, rfl, erase_at ha (ne_of ha hdd (fun z => nomatch z)), erase_at hp (ne_of hp hdd (fun z => nomatch z))⟩
      have hb4 : H4 b = some (.lst (book.map V.bl)) := sm _ _ (erase_at (s4 _ _ hb) (ne_of (s4 _ _ hb) hdd (fun z => nomatch z)))
      refine ⟨_, rfl, _, rfl, b, _, rfl, .inl (sqL hb4), x, mk, _, rfl, r4, okm.2.2.1, okm.2.2.2.1, by rw [List.length_map]; exact okm.2.2.2.2, true, rfl, iteF ?_⟩
      obtain ⟨a, p, rfl, ha, hpp⟩ := r4
      refine ⟨_, rfl, a, _, 0, _, rfl, rfl, sqT ha, atI_nat (j := 0) rfl, p, _, rfl, .inr (sqT hpp), 1, _, rfl, ?_, ?_⟩
      · have := okm.1.1.few
        rw [List.length_map]
        omega
      have hcnt : (((mk.1.map V.str).length : Int) - 1).toNat = mk.1.length - 1 := by rw [List.length_map]; omega
      rw [hcnt]
      have hinsl : ∀ j, j ≤ ms2.length → ((ms2.take j).flatMap fun m => insOf m.1 ++ [m.1]).length ≤ 20 * j := fun j => by
        induction j with
        | zero => intro _; simp
        | succ j ih =>
          intro hj
          obtain ⟨m', hm'⟩ : ∃ m', ms2[j]? = some m' := ⟨_, List.getElem?_eq_getElem (by omega)⟩
          have h1 := ih (by omega)
          have h2 := (ok2 m' (List.mem_of_getElem? hm')).1.1.few
          have e : ms2.take (j + 1) = ms2.take j ++ [m'] := by rw [List.take_add_one, hm']; rfl
          have h3 : 0 < m'.1.length := List.length_pos_iff.mpr (ok2 m' (List.mem_of_getElem? hm')).2.1
          rw [e, List.flatMap_append, List.length_append, List.flatMap_cons, List.flatMap_nil, List.append_nil, List.length_append]
          have h4 : (insOf m'.1).length = m'.1.length - 1 := by unfold insOf; rw [List.length_map, List.length_range]
          rw [h4]
          show _ + (m'.1.length - 1 + 1) ≤ _
          omega
      have hi2 : i < ms2.length := by
        have := (List.getElem?_eq_some_iff.mp hmk).1
        exact this
      have hins := hinsl i (by omega)
      refine for_it walk_range (fun j σ H5 => ∃ (kvs : List (List Key × V)) (y7 : Option V), σ = [some (.ref b), some (.int most), some (.int first), some (.ref m), some (.ref n), some (.ref d), some (.ref a), y7, none] ∧ Same (erase H2 d) H5 ∧ H5 a = some (.tup [.ref p, .int mk.2.1, .int mk.2.2.1, .bl mk.2.2.2]) ∧ H5 p = some (.tup (mk.1.map V.str)) ∧
        EInv (erase H2 d) H5 d kvs (((ms2.take i).flatMap fun m => insOf m.1 ++ [m.1]) ++ (insOf mk.1).take j) (ms2.take i)) ⟨kvs, y7, rfl, sm, ha, hpp, by rw [List.take_zero, List.append_nil]; exact ei⟩ (fun _ _ _ _ _ => trivial) (fun j x σ H5 H6 hj hp hy => ?_) (fun σ H5 hp => ?_)
      · obtain ⟨kvs, y7, rfl, sm, ha, hpp, ei⟩ := hp
        obtain ⟨rfl, hx7⟩ := hy
        have hx8 : x = .int ((j + 1 : Nat) : Int) := hx7.trans (congrArg V.int (by omega))
        subst hx8
        refine ⟨_, rfl, d, rfl, .inr ⟨_, .inl ei.dat⟩, _, rfl, a, _, 0, _, rfl, rfl, sqT ha, atI_nat (j := 0) rfl, _, rfl, _, rfl, slA_take hpp fun H7 v s7 rp => ?_⟩
        refine ⟨Nat.zero_le _, fun z nz => ?_⟩
        have sz7 : Same H7 (upd H7 z (.lst [])) := same_upd nz
        obtain ⟨t, rfl, ht⟩ := rp
        have s67 := s7.trans sz7
        have enx : (insOf mk.1).take (j + 1) = (insOf mk.1).take j ++ [mk.1.take (j + 1)] := by
          have : (insOf mk.1)[j]? = some (mk.1.take (j + 1)) := by
            unfold insOf
            rw [List.getElem?_map, List.getElem?_range hj]; rfl
          rw [List.take_add_one, this]; rfl
        have ei7 := ei.same s7
        have ei8 := ei.same s67
        have hlt : (insOf mk.1).length ≤ 20 := by
          unfold insOf
          rw [List.length_map, List.length_range]
          have := okm.1.1.few
          omega
        refine ⟨kvs, keysOf (mk.1.take (j + 1)), t, ei8.dat, rfl, by rw [keysOf_kV]; exact sz7 _ _ ht, ?_, fun v hv => ?_, fun hv => ?_⟩
        · have := ei.len
          rw [List.length_append, List.length_take] at this
          exact szlt (by omega)
        · refine ⟨kvs, some (.int ((j + 1 : Nat) : Int)), rfl, sm.trans s67, s67 _ _ ha, s67 _ _ hpp, ?_⟩
          rw [enx, ← List.append_assoc]
          exact ei8.again hv
        · have hdn : erase H2 d d = none := by unfold erase; rw [if_pos rfl]
          refine ⟨putK kvs (keysOf (mk.1.take (j + 1))) (.ref z), some (.int ((j + 1 : Nat) : Int)), rfl, same_upd2 hdn (sm.trans s67), ?_, ?_, ?_⟩
          · rw [upd_ne (ne_of ha ei.dat (fun z => nomatch z))]; exact s67 _ _ ha
          · rw [upd_ne (ne_of hpp ei.dat (fun z => nomatch z))]; exact s67 _ _ hpp
          · rw [enx, ← List.append_assoc]
            exact ei7.put hv nz (Same.free (sm.trans s7) nz)
      · obtain ⟨kvs, y7, rfl, sm, ha, hpp, ei⟩ := hp
        have ei : EInv (erase H2 d) H5 d kvs (((ms2.take i).flatMap fun m => insOf m.1 ++ [m.1]) ++ insOf mk.1) (ms2.take i) := by
          have e0 : (insOf mk.1).take (mk.1.length - 1) = insOf mk.1 := List.take_of_length_le (by unfold insOf; rw [List.length_map, List.length_range]; exact Nat.le_refl _)
          rw [e0] at ei
          exact ei
        have eins : (ms2.take (i + 1)).flatMap (fun m => insOf m.1 ++ [m.1]) = (((ms2.take i).flatMap fun m => insOf m.1 ++ [m.1]) ++ insOf mk.1) ++ [mk.1] := by
          rw [et, List.flatMap_append, List.flatMap_cons, List.flatMap_nil, List.append_nil, List.append_assoc]
        have hlt : (insOf mk.1).length ≤ 20 := by
          unfold insOf
          rw [List.length_map, List.length_range]
          have := okm.1.1.few
          omega
        refine ⟨_, rfl, d, rfl, .inr ⟨_, .inl ei.dat⟩, _, rfl, a, _, 0, _, rfl, rfl, sqT ha, atI_nat (j := 0) rfl, Nat.zero_le _, fun z nz => ?_⟩
        have sz5 : Same H5 (upd H5 z (.lst [])) := same_upd nz
        have ei8 := ei.same sz5
        have hdn : erase H2 d d = none := by unfold erase; rw [if_pos rfl]
        refine ⟨kvs, keysOf mk.1, p, ei8.dat, rfl, by rw [keysOf_kV]; exact sz5 _ _ hpp, ?_, fun v hv => ?_, fun hv => ?_⟩
        · have := ei.len
          rw [List.length_append] at this
          exact szlt (by omega)
        · obtain ⟨lv, uv, rfl, h0, hlv, _⟩ := ei8.vals _ _ hv
          have nx := (ei8.again hv).app (m := mk) (v := .ref a) ⟨a, p, rfl, sz5 _ _ ha, sz5 _ _ hpp⟩ hv hlv
          have huv : uv.length < sizeLine := by
            obtain ⟨lv', uv', e, _, h1, h2⟩ := ei8.vals _ _ hv
            cases e
            rw [hlv] at h1
            cases h1
            rw [← Paired.length h2]
            refine szlt (Nat.le_trans (List.length_filter_le _ _) ?_)
            rw [List.length_take]
            omega
          refine ⟨.inl ⟨rfl, _, sqL hlv⟩, _, rfl, lv, uv, _, rfl, rfl, hlv, huv, kvs, _, _, rfl, same_upd2 h0 (sm.trans sz5), ?_⟩
          rw [eins, et]
          exact nx
        · have e1 := ei.put hv nz (Same.free sm nz)
          have hzd : z ≠ d := (ne_of_none ei.dat nz).symm
          have hzl : (upd (upd H5 z (.lst [])) d (.dT (putK kvs (keysOf mk.1) (.ref z)))) z = some (.lst []) := by rw [upd_ne hzd]; exact upd_same
          have hvz : valV (putK kvs (keysOf mk.1) (.ref z)) (keysOf mk.1) = some (.ref z) := by rw [valV_put, if_pos rfl]
          have had : a ≠ d := ne_of ha ei.dat (fun z => nomatch z)
          have hpd : p ≠ d := ne_of hpp ei.dat (fun z => nomatch z)
          have nx := e1.app (m := mk) (v := .ref a) ⟨a, p, rfl, by rw [upd_ne had]; exact sz5 _ _ ha, by rw [upd_ne hpd]; exact sz5 _ _ hpp⟩ hvz hzl
          refine ⟨.inl ⟨rfl, _, sqL hzl⟩, _, rfl, z, [], _, rfl, rfl, hzl, szlt (by show 0 ≤ 100000; decide), putK kvs (keysOf mk.1) (.ref z), _, _, rfl, same_upd2 (Same.free sm nz) (same_upd2 hdn (sm.trans sz5)), ?_⟩
          rw [eins, et]
          exact nx
    · -- the end
      obtain ⟨kvs, y6, y7, rfl, sm, ei⟩ := hp
      rw [← Paired.length pr2, List.take_length] at ei
      have hins := ei.len
      obtain ⟨ps, hps⟩ := keys_paths fun k hk => (ei.keys k).mp hk
      have hpl : ps.length = kvs.length := by
        have := congrArg List.length hps
        rw [List.length_map, List.length_map] at this
        exact this.symm
      have hnd : ps.Nodup := nodup_paths (hps ▸ ei.nd)
      have hpm : ∀ p, p ∈ ps ↔ ∃ m ∈ ms2, p ≠ [] ∧ p <+: m.1 := fun p => by
        rw [← mem_paths, ← hps, ei.keys]
        constructor
        · rintro ⟨x, hx, e⟩
          obtain ⟨m', hm', hx⟩ := List.mem_flatMap.mp hx
          rw [keysOf_inj e]
          exact ⟨m', hm', (insOf_mem (ok2 m' hm').2.1).mp hx⟩
        · rintro ⟨m', hm', hx⟩
          exact ⟨p, List.mem_flatMap.mpr ⟨m', hm', (insOf_mem (ok2 m' hm').2.1).mpr hx⟩, rfl⟩
      have pok : ∀ p ∈ ps, PathOk p := fun p hp => by
        obtain ⟨m', hm', _, hx⟩ := (hpm p).mp hp
        have o1 := (ok2 m' hm').1.1
        exact ⟨Nat.le_trans hx.length_le o1.few, fun h hh => o1.short h (hx.subset hh)⟩
      have hps20 : ps.length ≤ 1000 := by
        have h1 : ((ms2.flatMap fun m => insOf m.1 ++ [m.1])).length ≤ 20 * ms2.length := by
          have : ∀ l : List Mk, (∀ m ∈ l, (PathOk m.1 ∧ Sg m.1) ∧ m.1 ≠ [] ∧ 0 ≤ m.2.1 ∧ m.2.1 ≤ m.2.2.1 ∧ m.2.2.1 < book.length) → ((l.flatMap fun m => insOf m.1 ++ [m.1])).length ≤ 20 * l.length := by
            intro l
            induction l with
            | nil => intro _; simp
            | cons m' l ih =>
              intro h
              have h1 := ih fun x hx => h x (List.mem_cons_of_mem _ hx)
              have h2 := (h m' List.mem_cons_self).1.1.few
              have h3 : 0 < m'.1.length := List.length_pos_iff.mpr (h m' List.mem_cons_self).2.1
              rw [List.flatMap_cons, List.length_append, List.length_append]
              have h4 : (insOf m'.1).length = m'.1.length - 1 := by unfold insOf; rw [List.length_map, List.length_range]
              rw [h4]
              show (m'.1.length - 1 + 1) + _ ≤ 20 * (l.length + 1)
              omega
          exact this ms2 ok2
        omega
      refine ⟨_, rfl, d, kvs, ps.map rankD, rfl, rfl, ei.dat, fun bs hbs => ?_⟩
      have pp := isKeys_paths hps hbs
      refine ⟨keysBy mono_path pp hps20 (fun a _ b _ => alike_rank a b) (.inr fun a _ => ⟨_, rfl⟩) (fun a _ => Nat.le_trans (depth_rank a) (by decide)) (fun p v H5 hp r => ⟨v, p, rfl, r, pok p hp, fun H' v s d => ⟨s, d⟩⟩), fun os H5 p5 ord s5 np5 => ?_⟩
      have sp5 : Same H5 (upd H5 p5 (.lst (os.map (·.1)))) := same_upd np5
      obtain ⟨ys, perm, py, _⟩ := in_order (Paired.monoR mono_path (s5.trans sp5) pp) ord
      have s35 := s5.trans sp5
      have ei5 := ei.same s35
      have hyl : ys.length ≤ 1000 := by rw [perm.length_eq]; exact hps20
      have snum : ∀ {H' : Hp}, Same (upd H5 p5 (.lst (os.map (·.1)))) H' → H' n = some (.lst (nums.map V.int)) := fun {H'} s' => by
        have h1 : H2 n = some (.lst (nums.map V.int)) := s3 _ _ (sl _ _ (sd _ _ hn))
        exact s' _ _ (s35 _ _ (sm _ _ (erase_at h1 (ne_of h1 hdd (fun z => nomatch z)))))
      refine ⟨p5, rfl, ⟨_, sqL upd_same⟩, fun D hD => ?_⟩
      refine lc_m (walk_list (xs := os.map (·.1))) ys (fun p => p) (fun p v H => ∃ gs, RRow (p, gs) v H ∧ IsRuns nums (ms2.filter fun m => decide (m.1 = p)) gs) (fun _ _ _ _ e ⟨gs, h1, h2⟩ => ⟨gs, mono_row _ _ _ _ e h1, h2⟩) (Paired.length py) (by rw [← Paired.length py]; omega) hD (fun H6 s6 => sqL (s6 _ _ upd_same)) (fun i p x H6 H7 Kn hp sm6 hacc hy kn => ?_) gName_mono (fun H6 vs sm6 hD6 pv => ?_)
      · obtain ⟨rfl, hx⟩ := hy
        obtain ⟨x', hx', rp⟩ := pr_get py hp
        rw [hx] at hx'
        cases hx'
        obtain ⟨q0, rfl, hq0⟩ := mono_path _ _ _ _ sm6 rp
        have ei6 := ei5.same sm6
        obtain ⟨v0, hv0⟩ : ∃ v0, valV kvs (keysOf p) = some v0 := by
          cases hv : valV kvs (keysOf p) with
          | some v0 => exact ⟨v0, rfl⟩
          | none =>
            refine absurd ?_ (valV_not hv)
            rw [hps]
            exact mem_paths.mpr (perm.mem_iff.mp (List.mem_of_getElem? hp))
        obtain ⟨l0, u0, rfl, _, hl0, pm⟩ := ei6.vals _ _ hv0
        have efil : (ms2.filter fun m => decide (keysOf m.1 = keysOf p)) = ms2.filter fun m => decide (m.1 = p) := by
          refine List.filter_congr fun m _ => ?_
          rw [decide_eq_decide]
          exact ⟨keysOf_inj, fun e => by rw [e]⟩
        rw [efil] at pm
        refine ⟨rfl, _, rfl, _, rfl, _, rfl, _, rfl, d, _, rfl, by rw [← hv0]; exact DGet.t ei6.dat (by rw [keysOf_kV]; exact hq0), n, l0, nums, _, u0, rfl, snum sm6, hl0, pm, by omega, fun H8 g gs s8 ng rg ir => ⟨sz (by show 2 ≤ 100000; decide), fun t nt => ?_⟩⟩
        obtain ⟨acc, hacc⟩ := hacc
        have hgD : g ≠ D := fun e => by rw [e, hacc] at ng; cases ng
        have st : Same H8 (upd H8 t (.tup [.ref q0, .ref g])) := same_upd nt
        have htD : t ≠ D := (ne_of_none (s8 _ _ hacc) nt).symm
        refine kn _ _ (s8.trans st) ⟨gs, ⟨t, q0, g, rfl, erase_at upd_same htD, erase_at (st _ _ (s8 _ _ hq0)) (ne_of hq0 hacc (fun z => nomatch z)), ?_⟩, ir⟩
        obtain ⟨g', vs, e, hg, pg⟩ := rg
        cases e
        refine ⟨g, vs, rfl, erase_at (st _ _ hg) hgD, L2.Paired.mapP pg fun x y r => ?_⟩
        obtain ⟨a, rfl, ha⟩ := r
        exact ⟨a, rfl, erase_at (st _ _ ha) (ne_of ha (s8 _ _ hacc) (fun z => nomatch z))⟩
      · rw [List.map_id'] at pv
        obtain ⟨rows, er, prow⟩ := pr_pairs pv
        have s6 : Same (erase H2 d) H6 := sm.trans (s35.trans sm6)
        have sH : Same H H6 := fun a o e => s6 _ _ (erase_at (s4 _ _ e) (fun z => by rw [z, hd0] at e; cases e))
        have hDH : H D = none := by
          cases hh : H D with
          | none => rfl
          | some u =>
            have := s35 _ _ (sm _ _ (erase_at (s4 _ _ hh) (fun z => by rw [z, hd0] at hh; cases hh)))
            rw [hD] at this
            cases this
        refine q H6 D rows sH hDH ⟨D, vs, rfl, hD6, L2.Paired.mapP prow fun r v h => mono_row _ _ _ _ (erase_same _ _) h.1⟩ ⟨?_, fun p => ?_, fun r hr => ?_⟩
        · rw [er, perm.nodup_iff]; exact hnd
        · rw [er, perm.mem_iff, hpm]
          exact ⟨fun ⟨m', h1, h2⟩ => ⟨m', (hmem m').mp h1, h2⟩, fun ⟨m', h1, h2⟩ => ⟨m', (hmem m').mpr h1, h2⟩⟩
        · obtain ⟨v, _, h⟩ := pr_mem prow hr
          refine isRuns_congr (fun m' => ?_) h.2
          rw [List.mem_filter, List.mem_filter, hmem]
end
end PB
/-! PbLines: lines.py -/
namespace PB
open PySem PySem.Spec PyProof.Rows L2 TL

def numS (i : Int) : Str := Str.ofString (toString i)
def strS (g : Pg) : Str := if g.2.2 = true then Str.ofString "*" ++ (if g.1 = g.2.1 then numS g.1 else numS g.1 ++ Str.ofString "-" ++ numS g.2.1) ++ Str.ofString "*" else (if g.1 = g.2.1 then numS g.1 else numS g.1 ++ Str.ofString "-" ++ numS g.2.1)
structure PgOk (g : Pg) : Prop where
  a0 : 0 ≤ g.1
  a1 : g.1 < 10 ^ 70
  b0 : 0 ≤ g.2.1
  b1 : g.2.1 < 10 ^ 70
theorem numS_len {i : Int} (h0 : 0 ≤ i) (h1 : i < 10 ^ 70) : (numS i).length ≤ 70 := by
  obtain ⟨n, rfl⟩ := Int.eq_ofNat_of_zero_le h0
  unfold numS
  rw [len_tl, tl_num]
  exact numL_len (by decide) (by omega)
theorem log_ok {i : Int} (h0 : 0 ≤ i) (h1 : i < 10 ^ 70) : i.natAbs.log2 < 1920 := by
  by_cases e : i.natAbs = 0
  · rw [e]; decide
  · rw [Nat.log2_lt e]
    have : (10 : Nat) ^ 70 < 2 ^ 1920 := by decide +kernel
    omega
theorem len1s (s : Str) (n : Nat) (h : s.length = n) : s.length = n := h
theorem strS_len {g : Pg} (h : PgOk g) : (strS g).length ≤ 200 := by
  have h1 := numS_len h.a0 h.a1
  have h2 := numS_len h.b0 h.b1
  have e1 : (Str.ofString "*").length = 1 := by decide
  have e2 : (Str.ofString "-").length = 1 := by decide
  unfold strS
  split <;> split <;> (try simp only [app_len, e1, e2]) <;> omega
theorem joinL_len (S : List Nat) : ∀ ps : List (List Nat), (joinL S ps).length ≤ (ps.map (·.length)).sum + ps.length * S.length
  | [] => by simp [joinL]
  | [p] => by simp [joinL]
  | p :: q :: r => by
    have ih := joinL_len S (q :: r)
    rw [joinL, List.length_append, List.length_append, List.map_cons, List.sum_cons, List.length_cons (a := p), Nat.add_mul]
    omega
theorem join_len (y : Str) (ps : List Str) {n : Nat} (h : ∀ p ∈ ps, p.length ≤ n) : (Txt.join y ps).length ≤ ps.length * (n + y.length) := by
  rw [join_eq, len_tl, tl_join]
  refine Nat.le_trans (joinL_len _ _) ?_
  rw [List.map_map, List.length_map, Nat.mul_add, len_tl]
  have h1 : (ps.map ((fun x => x.length) ∘ tl)).sum ≤ (ps.map ((fun x => x.length) ∘ tl)).length * n := sum_le fun x hx => by
    obtain ⟨p, hp, rfl⟩ := List.mem_map.mp hx
    show (tl p).length ≤ n
    rw [← len_tl]
    exact h p hp
  rw [List.length_map] at h1
  omega
theorem join_fits {ps : List Str} {n : Nat} (a : Str) (h : ∀ p ∈ ps, p.length ≤ n) (hz : ps.length * (n + a.length) ≤ 16777216) : (ps.map (·.length)).sum + ps.length * a.length ≤ 16777216 := by
  have h1 : (ps.map (·.length)).sum ≤ (ps.map (·.length)).length * n := sum_le fun x hx => by
    obtain ⟨p, hp, rfl⟩ := List.mem_map.mp hx
    exact h p hp
  rw [List.length_map] at h1
  rw [Nat.mul_add] at hz
  omega
theorem pathShown_len {p : List Str} (h : PathOk p) : (pathShownS p).length ≤ 16100 := by
  unfold pathShownS
  have h1 := join_len (Str.ofString ": ") (p.map shownS) (n := 802) fun x hx => by
    obtain ⟨z, hz, rfl⟩ := List.mem_map.mp hx
    exact shown_len (h.short z hz)
  have e : (Str.ofString ": ").length = 2 := by decide
  rw [List.length_map, e] at h1
  have := h.few
  omega
abbrev Fd := List Str × List Str × Bool × List Str × Int
def RFd : Rl Fd := fun m v H => ∃ a q g e, v = .ref a ∧ H a = some (.tup [.ref q, .ref g, .bl m.2.2.1, .ref e, .int m.2.2.2.2]) ∧ H q = some (.tup (m.1.map V.str)) ∧ H g = some (.tup (m.2.1.map V.str)) ∧ H e = some (.tup (m.2.2.2.1.map V.str))
theorem mono_fd : Mono RFd := fun _ _ _ _ e h => by
  obtain ⟨a, q, g, x, rfl, ha, hq, hg, hx⟩ := h
  exact ⟨a, q, g, x, rfl, e _ _ ha, e _ _ hq, e _ _ hg, e _ _ hx⟩
abbrev Ln := Int × Str
def RLine : Rl Ln := fun m v H => ∃ a, v = .ref a ∧ H a = some (.tup [.int m.1, .str m.2])
theorem mono_line : Mono RLine := fun _ _ _ _ e h => by
  obtain ⟨a, rfl, ha⟩ := h
  exact ⟨a, rfl, e _ _ ha⟩
def wSee (e : List Str) : Str := Str.ofString "see " ++ pathShownS e
def seeWords (path : List Str) (found : List Fd) : List Str := (found.filter fun r => decide (r.1 = path) && !r.2.2.1).map fun r => wSee r.2.2.2.1
def alsoOf (path : List Str) (found : List Fd) : List (List Str) := (found.filter fun r => decide (r.1 = path) && r.2.2.1).map fun r => r.2.2.2.1
def headWords (path : List Str) (parts : List Pg) : List Str := [shownS (path.getLastD ⟨#[]⟩)] ++ (if parts = [] then [] else [Txt.join (Str.ofString ", ") (parts.map strS)])
def tailWords (zs : List (List Str)) : List Str := if zs = [] then [] else [Str.ofString "also " ++ Txt.join (Str.ofString "; ") (zs.map pathShownS)]
/-- t: the line's text of a path -/
def TextIs (path : List Str) (parts : List Pg) (found : List Fd) (t : Str) : Prop := ∃ zs : List (List Str), zs.Nodup ∧ (∀ e, e ∈ zs ↔ e ∈ alsoOf path found) ∧ t = Txt.join (Str.ofString "  ") (headWords path parts ++ seeWords path found ++ tailWords zs)
structure FdOk (r : Fd) : Prop where
  a : PathOk r.1 ∧ Sg r.1
  g : PathOk r.2.1 ∧ Sg r.2.1
  e : PathOk r.2.2.2.1 ∧ Sg r.2.2.2.1
theorem words_len {path : List Str} {parts : List Pg} {found : List Fd} {zs : List (List Str)} (hp : PathOk path) (hpz : parts.length ≤ 64) (hpo : ∀ g ∈ parts, PgOk g) (hfz : found.length ≤ 40) (hfo : ∀ r ∈ found, FdOk r) (hzz : zs.length ≤ 40) (hzo : ∀ e ∈ zs, PathOk e) :
    (∀ x ∈ headWords path parts, x.length ≤ 20000) ∧ (∀ x ∈ seeWords path found, x.length ≤ 20000) ∧ (∀ x ∈ tailWords zs, x.length ≤ 650000) ∧ (headWords path parts).length ≤ 2 ∧ (seeWords path found).length ≤ 40 ∧ (tailWords zs).length ≤ 1 := by
  refine ⟨fun x hx => ?_, fun x hx => ?_, fun x hx => ?_, ?_, ?_, ?_⟩
  · unfold headWords at hx
    rcases List.mem_append.mp hx with hx | hx
    · rw [List.mem_singleton.mp hx]
      refine Nat.le_trans (shown_len (n := 400) ?_) (by decide)
      rcases snoc_cases path with rfl | ⟨a, b, rfl⟩
      · exact Nat.zero_le _
      · rw [show (a ++ [b]).getLastD ⟨#[]⟩ = b by simp [List.getLastD_eq_getLast?]]
        exact hp.short b (by simp)
    · split at hx
      · cases hx
      · rw [List.mem_singleton.mp hx]
        have h1 := join_len (Str.ofString ", ") (parts.map strS) (n := 200) fun x hx => by
          obtain ⟨g, hg, rfl⟩ := List.mem_map.mp hx
          exact strS_len (hpo g hg)
        have e : (Str.ofString ", ").length = 2 := by decide
        rw [List.length_map, e] at h1
        omega
  · unfold seeWords at hx
    obtain ⟨r, hr, rfl⟩ := List.mem_map.mp hx
    have h1 := pathShown_len (hfo r (List.mem_filter.mp hr).1).e.1
    have e : (Str.ofString "see ").length = 4 := by decide
    unfold wSee
    rw [app_len, e]
    omega
  · unfold tailWords at hx
    split at hx
    · cases hx
    · rw [List.mem_singleton.mp hx]
      have h1 := join_len (Str.ofString "; ") (zs.map pathShownS) (n := 16100) fun x hx => by
        obtain ⟨g, hg, rfl⟩ := List.mem_map.mp hx
        exact pathShown_len (hzo g hg)
      have e : (Str.ofString "; ").length = 2 := by decide
      have e2 : (Str.ofString "also ").length = 5 := by decide
      rw [List.length_map, e] at h1
      rw [app_len, e2]
      omega
  · unfold headWords
    rw [List.length_append]
    split <;> simp
  · unfold seeWords
    rw [List.length_map]
    exact Nat.le_trans (List.length_filter_le _ _) hfz
  · unfold tailWords
    split <;> simp
theorem alsoOf_len {path : List Str} {found : List Fd} {zs : List (List Str)} (hn : zs.Nodup) (h : ∀ e, e ∈ zs ↔ e ∈ alsoOf path found) : zs.length ≤ found.length := by
  refine Nat.le_trans (List.Nodup.length_le_of_subset hn fun e he => (h e).mp he) ?_
  unfold alsoOf
  rw [List.length_map]
  exact List.length_filter_le _ _
theorem alsoOf_ok {path : List Str} {found : List Fd} {e : List Str} (hfo : ∀ r ∈ found, FdOk r) (h : e ∈ alsoOf path found) : PathOk e ∧ Sg e := by
  obtain ⟨r, hr, rfl⟩ := List.mem_map.mp h
  exact (hfo r (List.mem_filter.mp hr).1).e
theorem textIs_len {path : List Str} {parts : List Pg} {found : List Fd} {t : Str} (hp : PathOk path) (hpz : parts.length ≤ 64) (hpo : ∀ g ∈ parts, PgOk g) (hfz : found.length ≤ 40) (hfo : ∀ r ∈ found, FdOk r) (h : TextIs path parts found t) : t.length ≤ 1600000 := by
  obtain ⟨zs, hn, hm, rfl⟩ := h
  have hz := alsoOf_len hn hm
  obtain ⟨h1, h2, h3, l1, l2, l3⟩ := words_len hp hpz hpo hfz hfo (zs := zs) (by omega) (fun e he => (alsoOf_ok hfo ((hm e).mp he)).1)
  rw [join_eq, len_tl, tl_join]
  refine Nat.le_trans (joinL_len _ _) ?_
  rw [List.map_append, List.map_append, List.map_append, List.map_append, List.sum_append, List.sum_append, List.length_append, List.length_append]
  have c : ∀ (l : List Str) (n : Nat), (∀ x ∈ l, x.length ≤ n) → ((l.map tl).map (·.length)).sum ≤ l.length * n := fun l n h => by
    have := sum_le (l := (l.map tl).map (·.length)) (n := n) fun x hx => by
      rw [List.map_map] at hx
      obtain ⟨p, hp, rfl⟩ := List.mem_map.mp hx
      show (tl p).length ≤ n
      rw [← len_tl]
      exact h p hp
    rwa [List.length_map, List.length_map] at this
  have a1 := c _ _ h1
  have a2 := c _ _ h2
  have a3 := c _ _ h3
  have e : (tl (Str.ofString "  ")).length = 2 := by decide
  rw [e, List.length_map, List.length_map, List.length_map]
  have b1 := Nat.mul_le_mul_right 20000 l1
  have b2 := Nat.mul_le_mul_right 20000 l2
  have b3 := Nat.mul_le_mul_right 650000 l3
  omega

theorem eq_path {K : PySem.W.Frag} {H : Hp} {p q : List Str} {x y : V} {Q : VK} (hx : RPath p x H) (hy : RPath q y H) (sp : Sg p) (sq : Sg q) (h : Q (.bl (decide (p = q))) H) : rEqD K x y H Q :=
  ⟨_, _, dp_path hx, dp_path hy, (low_path sp).shaped (by decide), (low_path sq).shaped (by decide), by rw [eqv_path]; exact h⟩
theorem ne_path {K : PySem.W.Frag} {H : Hp} {p q : List Str} {x y : V} {Q : VK} (hx : RPath p x H) (hy : RPath q y H) (sp : Sg p) (sq : Sg q) (h : Q (.bl (!decide (p = q))) H) : rNeD K x y H Q :=
  ⟨_, _, dp_path hx, dp_path hy, (low_path sp).shaped (by decide), (low_path sq).shaped (by decide), by rw [eqv_path]; exact h⟩
/-- an if without else: what is behind it is shown once -/
theorem ifS_rest {b : Bool} {t : TS} {D : Ends} {σ : L2.St} {H : Hp} (G : Hp → Prop) (h1 : b = true → (∀ H', G H' → D.nx σ H') → t D σ H) (h0 : b = false → G H) (rest : ∀ H', G H' → D.nx σ H') : if b = true then t D σ H else tNext D σ H := by
  cases b with
  | true => exact iteT (h1 rfl rest)
  | false => exact iteF (rest H (h0 rfl))
/-- a and b, b a test that is a plain truth -/
theorem and_if {b c : Bool} {A B : Prop} (h : if (b && c) = true then A else B) : if b = true then (if c = true then A else B) else B := by
  cases b with
  | true => exact iteT h
  | false => exact iteF h
section
variable {P : Program} {w : World} {K : PySem.W.Frag} {mg : Str → Option Value} {base : Heap}
/-! PbLines: ### stretch_shown -/
theorem scStretchShown : FnScope ["stretch", "first", "last", "strong", "text"] ["stretch"] (defScope sStretchShown) := ⟨rfl, rfl, rfl, by decide +kernel, rfl, by decide +kernel, by decide +kernel⟩
def spStretchShown : Sp := fun vs H Q _ => ∃ (v : V) (g : Pg), vs = [v] ∧ RPg g v H ∧ PgOk g ∧ Q (.str (strS g)) H
theorem okStretchShown (T : Top K mg) : Def1 P w K mg base 1 "stretch_shown" spStretchShown := by
  refine def1 T.fStretchShown scStretchShown (fun vs H Q E h => ?_) (fun _ _ _ _ _ _ us hl => match us, hl with | [_], _ => rfl) (fun f cdv A outer s H vs Q E hr h => ?_)
  · obtain ⟨v, g, rfl, _⟩ := h
    rfl
  · obtain ⟨v, g, rfl, ⟨a, rfl, ha⟩, ok, q⟩ := h
    refine ⟨_, pss_cons (ps_asg (pv 0) (pg_tup rfl (pgs_cons (pg_name (i := 1) scStretchShown.nd rfl (.inl rfl)) (pgs_cons (pg_name (i := 2) scStretchShown.nd rfl (.inl rfl)) (pgs_cons (pg_name (i := 3) scStretchShown.nd rfl (.inl rfl)) pgs_nil)))))
      (pss_cons (ps_set (i := 4) scStretchShown.nd rfl (.inl rfl) (pe_joined (.cons (pe_fmt (pv 1)) (.cons pe_str (.cons (pe_fmt (pv 2)) .nil)))))
      (pss_cons (ps_if (pt_cmpR op_eq (pv 1) (pv 2) (nomark _)) (pss_one (ps_set (i := 4) scStretchShown.nd rfl (.inl rfl) (pe_callTy call_str_int (by rfl) T.str (by decide +kernel) (pa_cons (pv 1) pa_nil)))) pss_nil)
      (pss_cons (ps_if (pt_val (pv 3)) (pss_one (ps_ret (pe_op op_add_str (pe_op op_add_str pe_str (pv 4)) pe_str))) pss_nil)
      (pss_one (ps_ret (pv 4)))))), ?_⟩
    have h1 := numS_len ok.a0 ok.a1
    have h2 := numS_len ok.b0 ok.b1
    have e1 : (Str.ofString "*").length = 1 := by decide
    have e2 : (Str.ofString "-").length = 1 := by decide
    have e0 : ∀ x : Str, Str.empty ++ x = x := fun x => ext_tl (by rw [tl_append]; rfl)
    have tail : ∀ t : Str, t.length ≤ 150 → strS g = (if g.2.2 = true then Str.ofString "*" ++ t ++ Str.ofString "*" else t) →
        tSeq (tIfS (tB (tVar 3)) (tRet (tOp (fun x y H Q => ∃ i j, x = .str i ∧ y = .str j ∧ i.length + j.length ≤ sizeLine ∧ Q (.str (i ++ j)) H) (tOp (fun x y H Q => ∃ i j, x = .str i ∧ y = .str j ∧ i.length + j.length ≤ sizeLine ∧ Q (.str (i ++ j)) H) (tC (.str (Str.ofString "*"))) (tVar 4)) (tC (.str (Str.ofString "*"))))) tNext) (tRet (tVar 4)) { nx := fun _ H' => Q .non H', rt := Q }
          [some (.ref a), some (.int g.1), some (.int g.2.1), some (.bl g.2.2), some (.str t)] H := fun t ht e => by
      refine ⟨_, rfl, _, rfl, ?_⟩
      by_cases hs : g.2.2 = true
      · rw [if_pos hs] at e ⊢
        refine ⟨_, rfl, _, _, rfl, rfl, sz (by omega), _, _, rfl, rfl, sz (by rw [app_len]; omega), ?_⟩
        rw [← e]; exact q
      · rw [if_neg hs] at e ⊢
        refine ⟨_, rfl, ?_⟩
        rw [← e]; exact q
    refine ⟨_, rfl, a, _, rfl, sqT ha, rfl, _, _, rfl, _, _, rfl, _, _, rfl, rfl, ?_⟩
    refine ⟨_, rfl, .inr ⟨_, rfl, log_ok ok.a0 ok.a1, ?_⟩⟩
    refine ⟨_, rfl, ?_, ?_⟩
    · rw [e0]; exact sz (Nat.le_trans h1 (by decide))
    rw [e0]
    refine ⟨_, rfl, ?_, ?_⟩
    · rw [app_len, e2]
      refine sz ?_
      show (numS g.1).length + 1 ≤ _
      omega
    refine ⟨_, rfl, .inr ⟨_, rfl, log_ok ok.b0 ok.b1, ?_⟩⟩
    refine ⟨_, rfl, ?_, ?_⟩
    · rw [app_len, app_len, e2]
      refine sz ?_
      show (numS g.1).length + 1 + (numS g.2.1).length ≤ _
      omega
    refine ⟨_, rfl, _, rfl, rfl, _, rfl, ite2 (fun e => ?_) (fun e => ?_)⟩
    · have e : g.1 = g.2.1 := V.int.inj (of_decide_eq_true e)
      refine ⟨_, rfl, _, rfl, log_ok ok.a0 ok.a1, tail (numS g.1) (by omega) ?_⟩
      unfold strS
      rw [if_pos e]
    · have e : ¬ g.1 = g.2.1 := fun z => e (decide_eq_true (congrArg V.int z))
      refine tail (numS g.1 ++ Str.ofString "-" ++ numS g.2.1) (by rw [app_len, app_len, e2]; omega) ?_
      unfold strS
      rw [if_neg e]
/-! PbLines: ### text_of -/
theorem scTextOf : FnScope ["path", "parts", "found", "words", "further", "start", "goal", "also", "end", "steps", "stretch"] ["path", "parts", "found"] (defScope sTextOf) := ⟨rfl, rfl, rfl, by decide +kernel, rfl, by decide +kernel, by decide +kernel⟩
def spTextOf : Sp := fun vs H Q _ => ∃ (p : V) (path : List Str) (parts : List Pg) (pv : V) (f : Addr) (found : List Fd) (us : List V), vs = [p, pv, .ref f] ∧ RPath path p H ∧ PathOk path ∧ Sg path ∧ path ≠ [] ∧ RList RPg parts pv H ∧ parts.length ≤ 64 ∧ (∀ g ∈ parts, PgOk g) ∧
  H f = some (.lst us) ∧ Paired (fun b y => RFd b y H) found us ∧ found.length ≤ 40 ∧ (∀ r ∈ found, FdOk r) ∧ ∀ H' t, Same H H' → TextIs path parts found t → Q (.str t) H'
theorem filter_snoc {α : Type} (f : α → Bool) (l : List α) (x : α) : (l ++ [x]).filter f = l.filter f ++ (if f x = true then [x] else []) := by
  rw [List.filter_append]
  by_cases h : f x = true
  · rw [if_pos h]; simp [h]
  · rw [if_neg h]; simp [h]
theorem okTextOf (T : Top K mg) : Def1 P w K mg base 6 "text_of" spTextOf := by
  obtain ⟨fR, fdR, FR, mR, kR, bR⟩ := (okRank2 T : Def2 P w K mg base 3 _ _ (spRank K)).ex
  refine def1 T.fTextOf scTextOf (fun vs H Q E h => ?_) (fun _ _ _ _ _ _ us hl => match us, hl with | [_, _, _], _ => rfl) (fun f cdv A outer s H vs Q E hr h => ?_)
  · obtain ⟨p, path, parts, pv, f, found, us, rfl, _⟩ := h
    rfl
  · obtain ⟨p, path, parts, _, f, found, us, rfl, ⟨pa, rfl, hpa⟩, hpo, hps, hpn, ⟨la, pvs, rfl, hla, prg⟩, hpz', hgo, hf, prf, hfz, hfo, q⟩ := h
    refine ⟨_, pss_cons (ps_set (i := 3) scTextOf.nd rfl (.inl rfl) (pe_lst (pa_cons (pe_f (okShown T) hr (by decide) rfl (pa_cons (pe_ix ix_tup (pv 0) (pe_un un_neg pe_int) (fun _ _ => rfl)) pa_nil)) pa_nil)))
      (pss_cons (ps_if (pt_cmpR (op_neD hr.units) (pv 1) (pe_lst pa_nil) (nomark _))
        (pss_one (ps_expr (pe_bm PySem.F.plainAttrs_list PySem.F.slot_list_append PySem.F.type_list_append mt_append (pv 3) (pa_cons (pe_join pe_str
          (pe_lc (own := [("stretch", 10)]) (g := gName 10) (tt := tYes) rfl scTextOf.nd (pi_list (pv 1)) (blkOk_by (own := [("stretch", 10)]) (N := ["path", "parts", "found", "words", "further", "start", "goal", "also", "end", "steps", "stretch"]) (sc := defScope sTextOf) (by decide +kernel))
            (fun _ _ _ _ _ => pg_name (i := 10) scTextOf.nd rfl (Or.inl rfl)) (fun _ _ _ _ _ => pts_nil) (fun _ _ _ _ _ => pe_f (okStretchShown T) hr (by decide) rfl (pa_cons (pv 10) pa_nil)))) pa_nil)))) pss_nil)
      (pss_cons (ps_set (i := 4) scTextOf.nd rfl (.inl rfl) pe_dnewT)
      (pss_cons (ps_for PassesOwn.never rfl (pi_list (pv 2)) (pg_tup rfl (pgs_cons (pg_name (i := 5) scTextOf.nd rfl (.inl rfl)) (pgs_cons (pg_name (i := 6) scTextOf.nd rfl (.inl rfl)) (pgs_cons (pg_name (i := 7) scTextOf.nd rfl (.inl rfl)) (pgs_cons (pg_name (i := 8) scTextOf.nd rfl (.inl rfl)) (pgs_cons (pg_name (i := 9) scTextOf.nd rfl (.inl rfl)) pgs_nil))))))
        (pss_cons (ps_if (PW.pt (pw_and (pt_cmpR (op_eqD hr.units) (pv 5) (pv 0) (nomark _)) (pw_and1 (pt_not (pt_val (pv 7))))))
          (pss_one (ps_expr (pe_bm PySem.F.plainAttrs_list PySem.F.slot_list_append PySem.F.type_list_append mt_append (pv 3) (pa_cons (pe_op op_add_str pe_str (pe_f (okPathShown T) hr (by decide) rfl (pa_cons (pv 8) pa_nil))) pa_nil)))) pss_nil)
        (pss_one (ps_if (PW.pt (pw_and (pt_cmpR (op_eqD hr.units) (pv 5) (pv 0) (nomark _)) (pw_and1 (pt_val (pv 7)))))
          (pss_one (ps_dput (hu_of hr) (pv 4) (pv 8) pe_bl rfl)) pss_nil))))
      (pss_cons (ps_if (pt_cmpR (op_ne_e hr.units0) (pv 4) pe_dnewT (nomark _))
        (pss_one (ps_expr (pe_bm PySem.F.plainAttrs_list PySem.F.slot_list_append PySem.F.type_list_append mt_append (pv 3) (pa_cons (pe_op op_add_str pe_str (pe_join pe_str
          (pe_lc (own := [("end", 8)]) (g := gName 8) (tt := tYes) rfl scTextOf.nd (pi_list (pe_callBK (cr_sortKD rfl FR hr bR) (by rfl) T.sorted (by decide +kernel) (pa_cons (pv 4) pa_nil) (pk_cons (pe_glob (v := .ref fR) rfl mR rfl) pk_nil))) (blkOk_by (own := [("end", 8)]) (N := ["path", "parts", "found", "words", "further", "start", "goal", "also", "end", "steps", "stretch"]) (sc := defScope sTextOf) (by decide +kernel))
            (fun _ _ _ _ _ => pg_name (i := 8) scTextOf.nd rfl (Or.inl rfl)) (fun _ _ _ _ _ => pts_nil) (fun _ _ _ _ _ => pe_f (okPathShown T) hr (by decide) rfl (pa_cons (pv 8) pa_nil))))) pa_nil)))) pss_nil)
      (pss_one (ps_ret (pe_join pe_str (pv 3)))))))), ?_⟩
    -- words = [shown(path[-1])]
    obtain ⟨p0, pl, rfl⟩ : ∃ p0 pl, path = p0 ++ [pl] := by
      rcases snoc_cases path with rfl | ⟨a, b, e⟩
      · exact absurd rfl hpn
      · exact ⟨a, b, e⟩
    have egl : (p0 ++ [pl]).getLastD ⟨#[]⟩ = pl := by simp [List.getLastD_eq_getLast?]
    refine ⟨_, rfl, 1, rfl, pa, _, -1, .str pl, rfl, rfl, sqT hpa, by rw [List.map_append]; exact atI_last _ _, pl, rfl, Nat.le_trans (hpo.short pl (by simp)) (by decide), fun H1 s1 => ⟨sz (by show 1 ≤ 100000; decide), fun o no => ?_⟩⟩
    have so : Same H1 (upd H1 o (.lst [.str (shownS pl)])) := same_upd no
    have no0 : H o = none := Same.free s1 no
    have s2 := s1.trans so
    -- what follows the first if
    refine ⟨_, rfl, Nat.zero_le _, fun l nl => ?_⟩
    have sl : Same (upd H1 o (.lst [.str (shownS pl)])) (upd (upd H1 o (.lst [.str (shownS pl)])) l (.lst [])) := same_upd nl
    have s3 := s2.trans sl
    refine ne_nilB (n := 2) parts.isEmpty (by cases parts <;> rfl) (.lst (sqL (s3 _ _ hla)) (dp_pair (fun b v h => dp_pg h) (Paired.monoR mono_pg s3 prg))) upd_same (low_list fun d hd => by obtain ⟨x, _, rfl⟩ := List.mem_map.mp hd; exact low_pg x) (by decide) ?_
    refine ⟨_, rfl, ifS_rest (fun H4 => Same H H4 ∧ H4 o = some (.lst ((headWords (p0 ++ [pl]) parts).map V.str))) ?_ ?_ ?_⟩
    · -- the stretches
      intro hne r
      have hne : parts ≠ [] := fun e => by rw [e] at hne; cases hne
      refine ⟨_, rfl, .inl ⟨rfl, _, sqL (sl _ _ upd_same)⟩, ⟨_, rfl⟩, _, rfl, la, rfl, ⟨_, sqL (s3 _ _ hla)⟩, fun D hD => ?_⟩
      refine lc_m (walk_list (xs := pvs)) parts strS RStr mono_str (Paired.length prg) (by rw [← Paired.length prg]; omega) hD (fun H1 s1 => sqL (s1 _ _ (s3 _ _ hla))) (fun i g x H5 H6 Kn hd sm hacc hy kn => ?_) gName_mono (fun H5 ys sm hD1 pr => ?_)
      · obtain ⟨rfl, hx⟩ := hy
        obtain ⟨x', hx', rg⟩ := pr_get prg hd
        rw [hx] at hx'
        cases hx'
        exact ⟨rfl, _, rfl, x, g, rfl, mono_pg _ _ _ _ (s3.trans sm) rg, hgo g (List.mem_of_getElem? hd), kn _ _ (Same.refl _) rfl⟩
      · have pr := pr_str pr
        subst pr
        have hst : ∀ p ∈ parts.map strS, p.length ≤ 200 := fun p hp => by
          obtain ⟨g, hg, rfl⟩ := List.mem_map.mp hp
          exact strS_len (hgo g hg)
        refine ⟨_, D, parts.map strS, rfl, rfl, .inl (sqL hD1), join_fits _ hst (by rw [List.length_map, show (Str.ofString ", ").length = 2 by decide]; omega), ?_⟩
        have ho5 : H5 o = some (.lst [.str (shownS pl)]) := sm _ _ (sl _ _ upd_same)
        refine ⟨o, _, _, rfl, rfl, ho5, szlt (by show 1 ≤ 100000; decide), r _ ⟨same_upd2 no0 (s3.trans sm), ?_⟩⟩
        rw [upd_same]
        unfold headWords
        rw [if_neg hne, egl]
        rfl
    · intro he
      refine ⟨s3, ?_⟩
      have he : parts = [] := by
        cases parts with
        | nil => rfl
        | cons _ _ => cases he
      unfold headWords
      rw [if_pos he, egl, List.append_nil]
      exact sl _ _ upd_same
    · rintro H4 ⟨s4, ho4⟩
      -- further = {}
      refine fun d hd => ?_
      have sd : Same H4 (upd H4 d (.dT [])) := same_upd hd
      have hd0 : H d = none := Same.free s4 hd
      have hod : o ≠ d := ne_of_none ho4 hd
      have wl := words_len (zs := []) hpo hpz' hgo hfz hfo (Nat.zero_le _) (fun _ h => absurd h List.not_mem_nil)
      refine ⟨.ref f, rfl, f, rfl, ⟨_, sqL (sd _ _ (s4 _ _ hf))⟩, ?_⟩
      generalize hpath : p0 ++ [pl] = path at *
      refine for_it (walk_list (xs := us)) (fun i σ H5 => ∃ (kvs : List (List Key × V)) (y5 y6 y7 y8 y9 : Option V), σ = [some (.ref pa), some (.ref la), some (.ref f), some (.ref o), some (.ref d), y5, y6, y7, y8, y9, none] ∧ Same H H5 ∧ H5 o = some (.lst ((headWords path parts ++ seeWords path (found.take i)).map V.str)) ∧ H5 d = some (.dT kvs) ∧
        (kvs.map (·.1)).Nodup ∧ (∀ k, k ∈ kvs.map (·.1) ↔ ∃ e ∈ alsoOf path (found.take i), k = keysOf e)) ⟨[], none, none, none, none, none, rfl, s4.trans sd, ?_, upd_same, by simp, fun k => by simp [alsoOf]⟩ (fun i σ H5 hi hp => ?_) (fun i x σ H5 H6 hi hp hy => ?_) (fun σ H5 hp => ?_)
      · rw [List.take_zero, show seeWords path [] = [] from rfl, List.append_nil]
        exact sd _ _ ho4
      · obtain ⟨_, _, _, _, _, _, _, sm, _⟩ := hp
        exact sqL (sm _ _ hf)
      · obtain ⟨kvs, y5, y6, y7, y8, y9, rfl, sm, ho5, hd5, hnd, hks⟩ := hp
        obtain ⟨rfl, hx⟩ := hy
        obtain ⟨r, hr0, rr⟩ := pr_get2 (Paired.monoR mono_fd sm prf) hx
        obtain ⟨a, q1, g1, e1, rfl, ha, hq1, hg1, he1⟩ := rr
        have okr := hfo r (List.mem_of_getElem? hr0)
        have et : found.take (i + 1) = found.take i ++ [r] := by rw [List.take_add_one, hr0]; rfl
        refine ⟨a, _, rfl, sqT ha, rfl, _, _, rfl, _, _, rfl, _, _, rfl, _, _, rfl, _, _, rfl, rfl, ?_⟩
        have hpa6 := sm _ _ hpa
        have hi40 : i < 40 := by
          have := (List.getElem?_eq_some_iff.mp hr0).1
          omega
        have hsl : (seeWords path (found.take i)).length ≤ 40 := by
          unfold seeWords
          rw [List.length_map]
          refine Nat.le_trans (List.length_filter_le _ _) ?_
          rw [List.length_take]
          omega
        have hkl : kvs.length ≤ 40 := by
          obtain ⟨ps, hps⟩ := keys_paths fun k hk => (hks k).mp hk
          have h1 : ps.Nodup := nodup_paths (hps ▸ hnd)
          have h2 : ∀ e, e ∈ ps ↔ e ∈ alsoOf path (found.take i) := fun e => by
            rw [← mem_paths, ← hps, hks]
            exact ⟨fun ⟨x, hx, h⟩ => keysOf_inj h ▸ hx, fun h => ⟨e, h, rfl⟩⟩
          have h3 := alsoOf_len h1 h2
          have h4 := congrArg List.length hps
          rw [List.length_map, List.length_map] at h4
          rw [List.length_take] at h3
          omega
        have hsee : seeWords path (found.take (i + 1)) = seeWords path (found.take i) ++ (if (decide (r.1 = path) && !r.2.2.1) = true then [wSee r.2.2.2.1] else []) := by
          rw [et]
          unfold seeWords
          rw [filter_snoc, List.map_append]
          split <;> rfl
        have halso : alsoOf path (found.take (i + 1)) = alsoOf path (found.take i) ++ (if (decide (r.1 = path) && r.2.2.1) = true then [r.2.2.2.1] else []) := by
          rw [et]
          unfold alsoOf
          rw [filter_snoc, List.map_append]
          split <;> rfl
        refine ⟨_, rfl, _, rfl, eq_path ⟨q1, rfl, hq1⟩ ⟨pa, rfl, hpa6⟩ okr.a.2 hps ⟨_, rfl, ?_⟩⟩
        by_cases hrp : r.1 = path
        · rw [decide_eq_true hrp] at hsee halso ⊢
          refine iteT ⟨_, rfl, _, rfl, ?_⟩
          cases hals : r.2.2.1 with
          | false =>
            rw [hals] at hsee halso
            refine iteT ⟨_, rfl, .inl ⟨rfl, _, sqL ho5⟩, _, rfl, _, r.2.2.2.1, rfl, ⟨e1, rfl, he1⟩, okr.e.1, fun H7 s7 => ?_⟩
            have hpl := pathShown_len okr.e.1
            have e4 : (Str.ofString "see ").length = 4 := by decide
            refine ⟨_, _, rfl, rfl, sz (by omega), ?_⟩
            have ho7 := s7 _ _ ho5
            refine ⟨o, _, _, rfl, rfl, ho7, ?_, ?_⟩
            · rw [List.length_map, List.length_append]
              refine szlt ?_
              have := wl.2.2.2.1
              omega
            have s6 : Same H (upd H7 o (.lst ((headWords path parts ++ seeWords path (found.take i)).map V.str ++ [.str (Str.ofString "see " ++ pathShownS r.2.2.2.1)]))) := same_upd2 no0 (sm.trans s7)
            refine ⟨_, rfl, _, rfl, eq_path ⟨q1, rfl, by rw [upd_ne (ne_of hq1 ho5 (fun z => nomatch z))]; exact s7 _ _ hq1⟩ ⟨pa, rfl, s6 _ _ hpa⟩ okr.a.2 hps ⟨_, rfl, ?_⟩⟩
            rw [decide_eq_true hrp]
            refine iteT ⟨_, rfl, _, rfl, iteF ⟨kvs, _, _, _, _, _, rfl, s6, ?_, ?_, hnd, ?_⟩⟩
            · rw [upd_same, hsee, if_pos (show (true && !false) = true from rfl), ← List.append_assoc]
              simp only [List.map_append, List.append_assoc]
              rfl
            · rw [upd_ne hod.symm]; exact s7 _ _ hd5
            · rw [halso, if_neg (by simp), List.append_nil]; exact hks
          | true =>
            rw [hals] at hsee halso
            refine iteF ⟨_, rfl, _, rfl, eq_path ⟨q1, rfl, hq1⟩ ⟨pa, rfl, hpa6⟩ okr.a.2 hps ⟨_, rfl, ?_⟩⟩
            rw [decide_eq_true hrp]
            refine iteT ⟨_, rfl, _, rfl, iteT ⟨_, rfl, _, rfl, d, _, rfl, DPut.t (k := keysOf r.2.2.2.1) hd5 (by rw [keysOf_kV]; exact he1) (szlt (by omega)), ?_⟩⟩
            refine ⟨_, _, _, _, _, _, rfl, same_upd2 hd0 sm, ?_, upd_same, nodup_putK hnd, fun k => ?_⟩
            · rw [upd_ne hod, hsee, if_neg (by simp), List.append_nil]; exact ho5
            · rw [mem_putK, hks, halso, if_pos (show (true && true) = true from rfl)]
              constructor
              · rintro (rfl | ⟨e, he, rfl⟩)
                · exact ⟨_, List.mem_append_right _ (List.mem_singleton.mpr rfl), rfl⟩
                · exact ⟨e, List.mem_append_left _ he, rfl⟩
              · rintro ⟨e, he, rfl⟩
                rcases List.mem_append.mp he with he | he
                · exact .inr ⟨e, he, rfl⟩
                · rw [List.mem_singleton.mp he]
                  exact .inl rfl
        · rw [decide_eq_false hrp] at hsee halso ⊢
          refine iteF (iteF ⟨_, rfl, _, rfl, eq_path ⟨q1, rfl, hq1⟩ ⟨pa, rfl, hpa6⟩ okr.a.2 hps ⟨_, rfl, ?_⟩⟩)
          rw [decide_eq_false hrp]
          refine iteF (iteF ⟨kvs, _, _, _, _, _, rfl, sm, ?_, hd5, hnd, ?_⟩)
          · rw [hsee, if_neg (by simp), List.append_nil]; exact ho5
          · rw [halso, if_neg (by simp), List.append_nil]; exact hks
      · obtain ⟨kvs, y5, y6, y7, y8, y9, rfl, sm, ho5, hd5, hnd, hks⟩ := hp
        rw [← Paired.length prf, List.take_length] at ho5 hks
        obtain ⟨ps, hkps⟩ := keys_paths fun k hk => (hks k).mp hk
        have hpn : ps.Nodup := nodup_paths (hkps ▸ hnd)
        have hpm : ∀ e, e ∈ ps ↔ e ∈ alsoOf path found := fun e => by
          rw [← mem_paths, ← hkps, hks]
          exact ⟨fun ⟨x, hx, h⟩ => keysOf_inj h ▸ hx, fun h => ⟨e, h, rfl⟩⟩
        have hpz : ps.length ≤ 40 := Nat.le_trans (alsoOf_len hpn hpm) hfz
        have hpk : ∀ e ∈ ps, PathOk e := fun e he => (alsoOf_ok hfo ((hpm e).mp he)).1
        have hkl : ps.length = kvs.length := by
          have := congrArg List.length hkps
          rw [List.length_map, List.length_map] at this
          exact this.symm
        -- the last words
        have last : ∀ (zs : List (List Str)) (H6 : Hp) (Q' : VK), zs.Perm ps → Same H H6 → H6 o = some (.lst ((headWords path parts ++ seeWords path found ++ tailWords zs).map V.str)) → (∀ t, TextIs path parts found t → Q' (.str t) H6) →
            ∃ (a : Str) (p : Addr) (ys : List Str), V.str (Str.ofString "  ") = .str a ∧ [V.ref o] = [.ref p] ∧ (SqL K H6 p (ys.map V.str) ∨ SqT K H6 p (ys.map V.str)) ∧ (ys.map (·.length)).sum + ys.length * a.length ≤ 16777216 ∧ Q' (.str (Txt.join a ys)) H6 := fun zs H6 Q' perm s6 ho6 q' => by
          obtain ⟨h1, h2, h3, l1, l2, l3⟩ := words_len hpo hpz' hgo hfz hfo (zs := zs) (by rw [perm.length_eq]; exact hpz) (fun e he => hpk e (perm.mem_iff.mp he))
          refine ⟨_, o, _, rfl, rfl, .inl (sqL ho6), ?_, q' _ ⟨zs, perm.nodup_iff.mpr hpn, fun e => by rw [perm.mem_iff, hpm], rfl⟩⟩
          have c : ∀ (l : List Str) (n : Nat), (∀ x ∈ l, x.length ≤ n) → (l.map (·.length)).sum ≤ l.length * n := fun l n h => by
            have := sum_le (l := l.map (·.length)) (n := n) fun x hx => by
              obtain ⟨p, hp, rfl⟩ := List.mem_map.mp hx
              exact h p hp
            rwa [List.length_map] at this
          have a1 := c _ _ h1
          have a2 := c _ _ h2
          have a3 := c _ _ h3
          have b1 := Nat.mul_le_mul_right 20000 l1
          have b2 := Nat.mul_le_mul_right 20000 l2
          have b3 := Nat.mul_le_mul_right 650000 l3
          rw [List.map_append, List.map_append, List.sum_append, List.sum_append, List.length_append, List.length_append, show (Str.ofString "  ").length = 2 by decide]
          omega
        refine ⟨_, rfl, fun l2 nl2 => ?_⟩
        have sl2 : Same H5 (upd H5 l2 (.dT [])) := same_upd nl2
        refine ⟨d, l2, kvs, rfl, rfl, sl2 _ _ hd5, upd_same, _, rfl, ifS_rest (fun H6 => ∃ zs : List (List Str), zs.Perm ps ∧ Same H H6 ∧ H6 o = some (.lst ((headWords path parts ++ seeWords path found ++ tailWords zs).map V.str))) ?_ ?_ ?_⟩
        · intro hne r
          have hne : kvs ≠ [] := fun e => by rw [e] at hne; cases hne
          have s56 := sm.trans sl2
          refine ⟨_, rfl, .inl ⟨rfl, _, sqL (sl2 _ _ ho5)⟩, ⟨_, rfl⟩, _, rfl, d, kvs, ps.map rankD, rfl, rfl, sl2 _ _ hd5, fun bs hbs => ?_⟩
          have pp := isKeys_paths hkps hbs
          refine ⟨keysBy mono_path pp (by omega) (fun a _ b _ => alike_rank a b) (.inr fun a _ => ⟨_, rfl⟩) (fun a _ => Nat.le_trans (depth_rank a) (by decide)) (fun p v H7 hp r => ⟨v, p, rfl, r, hpk p hp, fun H' v s d => ⟨s, d⟩⟩), fun os H7 p7 ord s7 np7 => ?_⟩
          have sp7 : Same H7 (upd H7 p7 (.lst (os.map (·.1)))) := same_upd np7
          obtain ⟨ys, perm, py, _⟩ := in_order (Paired.monoR mono_path (s7.trans sp7) pp) ord
          refine ⟨p7, rfl, ⟨_, sqL upd_same⟩, fun D hD => ?_⟩
          refine lc_m (walk_list (xs := os.map (·.1))) ys pathShownS RStr mono_str (Paired.length py) (by rw [← Paired.length py, perm.length_eq]; omega) hD (fun H1 s1 => sqL (s1 _ _ upd_same)) (fun i g x H8 H9 Kn hd sm hacc hy kn => ?_) gName_mono (fun H8 ts sm8 hD8 pr => ?_)
          · obtain ⟨rfl, hx⟩ := hy
            obtain ⟨x', hx', rg⟩ := pr_get py hd
            rw [hx] at hx'
            cases hx'
            exact ⟨rfl, _, rfl, x, g, rfl, mono_path _ _ _ _ sm rg, hpk g (perm.mem_iff.mp (List.mem_of_getElem? hd)), fun H' s' => kn _ _ s' rfl⟩
          · have pr := pr_str pr
            subst pr
            have hst : ∀ p ∈ ys.map pathShownS, p.length ≤ 16100 := fun p hp => by
              obtain ⟨g, hg, rfl⟩ := List.mem_map.mp hp
              exact pathShown_len (hpk g (perm.mem_iff.mp hg))
            have hyl : ys.length ≤ 40 := by rw [perm.length_eq]; exact hpz
            have hj := join_len (Str.ofString "; ") _ hst
            have e2 : (Str.ofString "; ").length = 2 := by decide
            have e5 : (Str.ofString "also ").length = 5 := by decide
            rw [e2, List.length_map] at hj
            refine ⟨_, D, ys.map pathShownS, rfl, rfl, .inl (sqL hD8), join_fits _ hst (by rw [List.length_map, e2]; omega), _, _, rfl, rfl, ?_, ?_⟩
            · rw [sizeLine_eq, e5]; omega
            have s58 := sl2.trans (s7.trans (sp7.trans sm8))
            have ho8 := s58 _ _ ho5
            refine ⟨o, _, _, rfl, rfl, ho8, ?_, r _ ⟨ys, perm, same_upd2 no0 (sm.trans s58), ?_⟩⟩
            · rw [List.length_map, List.length_append]
              have := wl.2.2.2.1
              have h2 : (seeWords path found).length ≤ 40 := wl.2.2.2.2.1
              exact szlt (by omega)
            · rw [upd_same]
              unfold tailWords
              rw [if_neg ?_]
              · simp only [List.map_append, List.append_assoc]
                rfl
              · intro e
                rw [e] at perm
                have := perm.length_eq
                rw [hkl] at this
                exact hne (List.length_eq_zero_iff.mp this.symm)
        · intro he
          have he : kvs = [] := by
            cases kvs with
            | nil => rfl
            | cons _ _ => cases he
          have hps0 : ps = [] := List.length_eq_zero_iff.mp (by rw [hkl, he]; rfl)
          refine ⟨[], by rw [hps0], sm.trans sl2, ?_⟩
          rw [show tailWords [] = [] from rfl, List.append_nil]
          exact sl2 _ _ ho5
        · rintro H6 ⟨zs, perm, s6, ho6⟩
          exact ⟨⟨_, rfl⟩, _, rfl, last zs H6 _ perm s6 ho6 fun t ht => q H6 t s6 ht⟩
end
end PB
/-! PbLines2: lines.py: lines, written -/
namespace PB
open PySem PySem.Spec PyProof.Rows L2 TL

/-- the stretches of a path by the rows -/
def partsOf (rows : List Row) (p : List Str) : List Pg := match rows.find? fun r => decide (r.1 = p) with
  | some r => r.2
  | none => []
theorem partsOf_mem {rows : List Row} (hn : (rows.map (·.1)).Nodup) {r : Row} (h : r ∈ rows) : partsOf rows r.1 = r.2 := by
  unfold partsOf
  induction rows with
  | nil => cases h
  | cons a t ih =>
    rw [List.map_cons, List.nodup_cons] at hn
    rw [List.find?_cons]
    rcases List.mem_cons.mp h with rfl | h
    · simp
    · have e : decide (a.1 = r.1) = false := decide_eq_false fun e => hn.1 (e ▸ List.mem_map.mpr ⟨r, h, rfl⟩)
      rw [e]
      exact ih hn.2 h
theorem partsOf_not {rows : List Row} {p : List Str} (h : p ∉ rows.map (·.1)) : partsOf rows p = [] := by
  unfold partsOf
  have e : (rows.find? fun r => decide (r.1 = p)) = none := by
    rw [List.find?_eq_none]
    intro r hr e
    exact h (List.mem_map.mpr ⟨r, hr, of_decide_eq_true e⟩)
  rw [e]
/-- the dict while it is filled -/
structure KInv {β : Type} (R : Rl β) (g : List Str → β) (H : Hp) (d : Addr) (kvs : List (List Key × V)) (ins : List (List Str)) : Prop where
  nd : (kvs.map (·.1)).Nodup
  dat : H d = some (.dT kvs)
  keys : ∀ k, k ∈ kvs.map (·.1) ↔ ∃ p ∈ ins, k = keysOf p
  len : kvs.length ≤ ins.length
  vals : ∀ p v, valV kvs (keysOf p) = some v → R (g p) v (erase H d)
section
variable {β : Type} {R : Rl β} {g : List Str → β}
theorem KInv.same (m : Mono R) {H H' : Hp} {d : Addr} {kvs : List (List Key × V)} {ins : List (List Str)} (h : KInv R g H d kvs ins) (e : Same H H') : KInv R g H' d kvs ins :=
  ⟨h.nd, e _ _ h.dat, h.keys, h.len, fun p v hv => m _ _ _ _ (same_erase e) (h.vals p v hv)⟩
theorem KInv.again {H : Hp} {d : Addr} {kvs : List (List Key × V)} {ins : List (List Str)} (h : KInv R g H d kvs ins) {p : List Str} {v : V} (hp : valV kvs (keysOf p) = some v) : KInv R g H d kvs (ins ++ [p]) :=
  ⟨h.nd, h.dat, fun k => by
    rw [h.keys]
    constructor
    · rintro ⟨q, hq, e⟩
      exact ⟨q, List.mem_append_left _ hq, e⟩
    · rintro ⟨q, hq, e⟩
      rcases List.mem_append.mp hq with hq | hq
      · exact ⟨q, hq, e⟩
      · rw [List.mem_singleton.mp hq] at e
        exact (h.keys k).mp (e ▸ valV_in hp), by rw [List.length_append]; exact Nat.le_trans h.len (Nat.le_add_right _ _), h.vals⟩
theorem KInv.put {H : Hp} {d : Addr} {kvs : List (List Key × V)} {ins : List (List Str)} (h : KInv R g H d kvs ins) {p : List Str} {v : V} (hv : R (g p) v (erase H d)) : KInv R g (upd H d (.dT (putK kvs (keysOf p) v))) d (putK kvs (keysOf p) v) (ins ++ [p]) := by
  refine ⟨nodup_putK h.nd, upd_same, fun k => ?_, ?_, fun q x hx => ?_⟩
  · rw [mem_putK, h.keys]
    constructor
    · rintro (rfl | ⟨q, hq, e⟩)
      · exact ⟨p, List.mem_append_right _ (List.mem_singleton.mpr rfl), rfl⟩
      · exact ⟨q, List.mem_append_left _ hq, e⟩
    · rintro ⟨q, hq, e⟩
      rcases List.mem_append.mp hq with hq | hq
      · exact .inr ⟨q, hq, e⟩
      · rw [List.mem_singleton.mp hq] at e
        exact .inl e
  · have := length_putK kvs (keysOf p) v
    rw [List.length_append]
    show _ ≤ ins.length + 1
    have := h.len
    omega
  · rw [erase_upd]
    rw [valV_put] at hx
    by_cases e : keysOf q = keysOf p
    · rw [if_pos e] at hx
      cases hx
      rw [keysOf_inj e]
      exact hv
    · rw [if_neg e] at hx
      exact h.vals q x hx
theorem KInv.has {H : Hp} {d : Addr} {kvs : List (List Key × V)} {ins : List (List Str)} (h : KInv R g H d kvs ins) {p : List Str} : (∃ v, valV kvs (keysOf p) = some v) ↔ p ∈ ins := by
  constructor
  · rintro ⟨v, hv⟩
    obtain ⟨q, hq, e⟩ := (h.keys _).mp (valV_in hv)
    rw [keysOf_inj e]
    exact hq
  · intro hp
    cases hv : valV kvs (keysOf p) with
    | some v => exact ⟨v, rfl⟩
    | none => exact absurd ((h.keys _).mpr ⟨p, hp, rfl⟩) (valV_not hv)
theorem KInv.none {H : Hp} {d : Addr} (hd : H d = some (.dT [])) : KInv R g H d [] [] :=
  ⟨by simp, hd, fun k => by simp, Nat.le_refl _, fun p v hv => nomatch hv⟩
end
/-- len, within a comprehension too -/
def rLen (K : PySem.W.Frag) : List V → Hp → VK → Prop := fun xs H Q => ∃ p ys, xs = [V.ref p] ∧ (SqL K H p ys ∨ SqT K H p ys) ∧ Q (.int ys.length) H
theorem lenK {X : Cx} {K : PySem.W.Frag} (h : X.K = K) : CallR X (.builtin "len") (rLen K) := by
  subst h
  exact call_len_seq
/-- what lines gives -/
def LinesOf (rows : List Row) (found : List Fd) (lns : List Ln) : Prop := ∃ ps : List (List Str), ps.Nodup ∧ (∀ p, p ∈ ps ↔ p ∈ rows.map (·.1) ∨ ∃ r ∈ found, p ≠ [] ∧ p <+: r.1) ∧ (ps.Pairwise fun a b => PySem.W.dataLt (rankD b) (rankD a) = false) ∧
  Paired (fun p ln => ln.1 = (p.length : Int) - 1 ∧ TextIs p (partsOf rows p) found ln.2) ps lns
structure RowOk (r : Row) : Prop where
  p : (PathOk r.1 ∧ Sg r.1) ∧ r.1 ≠ []
  g : r.2.length ≤ 64 ∧ ∀ g ∈ r.2, PgOk g

section
variable {P : Program} {w : World} {K : PySem.W.Frag} {mg : Str → Option Value} {base : Heap}
theorem scLines : FnScope ["rows", "found", "known", "path", "parts", "row", "many"] ["rows", "found"] (defScope sLines) := ⟨rfl, rfl, rfl, by decide +kernel, rfl, by decide +kernel, by decide +kernel⟩
def spLines : Sp := fun vs H Q _ => ∃ (r f : Addr) (rows : List Row) (rvs : List V) (found : List Fd) (us : List V), vs = [.ref r, .ref f] ∧ H r = some (.lst rvs) ∧ Paired (fun b y => RRow b y H) rows rvs ∧ H f = some (.lst us) ∧ Paired (fun b y => RFd b y H) found us ∧
  (rows.map (·.1)).Nodup ∧ rows.length ≤ 500 ∧ (∀ r ∈ rows, RowOk r) ∧ found.length ≤ 24 ∧ (∀ r ∈ found, FdOk r ∧ r.1 ≠ []) ∧ ∀ (H' : Hp) (o : Addr) (lns : List Ln), Same H H' → H o = none → RList RLine lns (.ref o) H' → LinesOf rows found lns → Q (.ref o) H'
def prefsOf (p : List Str) : List (List Str) := (List.range p.length).map fun i => p.take (i + 1)
theorem prefsOf_mem {p q : List Str} : q ∈ prefsOf p ↔ q ≠ [] ∧ q <+: p := by
  unfold prefsOf
  rw [List.mem_map]
  constructor
  · rintro ⟨i, hi, rfl⟩
    rw [List.mem_range] at hi
    refine ⟨fun e => ?_, List.take_prefix _ _⟩
    have h9 : min (i + 1) p.length = 0 := by rw [← List.length_take, e]; rfl
    omega
  · rintro ⟨h0, h1⟩
    have e := List.prefix_iff_eq_take.mp h1
    have h2 := h1.length_le
    have h3 : 0 < q.length := List.length_pos_iff.mpr h0
    refine ⟨q.length - 1, List.mem_range.mpr (by omega), ?_⟩
    rw [show q.length - 1 + 1 = q.length by omega]
    exact e.symm
theorem prefsOf_len (p : List Str) : (prefsOf p).length = p.length := by
  unfold prefsOf
  rw [List.length_map, List.length_range]
theorem okLines (T : Top K mg) : Def1 P w K mg base 7 "lines" spLines := by
  obtain ⟨fR, fdR, FR, mR, kR, bR⟩ := (okRank2 T : Def2 P w K mg base 3 _ _ (spRank K)).ex
  refine def1 T.fLines scLines (fun vs H Q E h => ?_) (fun _ _ _ _ _ _ us hl => match us, hl with | [_, _], _ => rfl) (fun f cdv A outer s H vs Q E hr h => ?_)
  · obtain ⟨r, f, rows, rvs, found, us, rfl, _⟩ := h
    rfl
  · obtain ⟨r, f, rows, rvs, found, us, rfl, hrr, prr, hf, prf, hnd, hrz, hro, hfz, hfo, q⟩ := h
    refine ⟨_, pss_cons (ps_set (i := 2) scLines.nd rfl (.inr rfl) pe_dnewT)
      (pss_cons (ps_for PassesOwn.never rfl (pi_list (pv 0)) (pg_tup rfl (pgs_cons (pg_name (i := 3) scLines.nd rfl (.inl rfl)) (pgs_cons (pg_name (i := 4) scLines.nd rfl (.inl rfl)) pgs_nil)))
        (pss_one (ps_dput (hu_of hr) (pv 2) (pv 3) (pv 4) rfl)))
      (pss_cons (ps_for PassesOwn.never rfl (pi_list (pv 1)) (pg_name (i := 5) scLines.nd rfl (.inl rfl))
        (pss_one (ps_for PassesOwn.never rfl (pi_range2 (by rfl) T.range (pa_cons pe_int (pa_cons (pe_op op_add (pe_callB call_len_seq (by rfl) T.len PySem.boot_len (pa_cons (pe_ix ix_tup (pv 5) pe_int (fun _ _ => rfl)) pa_nil)) pe_int) pa_nil))) (pg_name (i := 6) scLines.nd rfl (.inl rfl))
          (pss_one (ps_expr (pe_dsetdT (hu_of hr) (pv 2) (pe_slice sl_tupA (pe_ix ix_tup (pv 5) pe_int (fun _ _ => rfl)) po_none (po_some (pv 6))) (pe_lst pa_nil) ⟨rfl, rfl, rfl, rfl⟩))))))
      (pss_one (ps_ret (pe_lc (own := [("path", 3)]) (g := gName 3) (tt := tYes) rfl scLines.nd (pi_list (pe_callBK (cr_sortKD rfl FR (hr.mono (by decide)) bR) (by rfl) T.sorted (by decide +kernel) (pa_cons (pv 2) pa_nil) (pk_cons (pe_glob (v := .ref fR) rfl mR rfl) pk_nil)))
        (blkOk_by (own := [("path", 3)]) (N := ["rows", "found", "known", "path", "parts", "row", "many"]) (sc := defScope sLines) (by decide +kernel))
        (fun _ _ _ _ _ => pg_name (i := 3) scLines.nd rfl (Or.inl rfl)) (fun _ _ _ _ _ => pts_nil)
        (fun _ _ _ _ _ => pe_tup (pa_cons (pe_op op_sub (pe_callB (lenK (K := K) rfl) (by rfl) T.len PySem.boot_len (pa_cons (pv 3) pa_nil)) pe_int)
          (pa_cons (pe_f (okTextOf T) hr (by decide) rfl (pa_cons (pv 3) (pa_cons (pe_dget (hu_of hr) (pv 2) (pv 3) (fun _ _ => rfl)) (pa_cons (pv 1) pa_nil)))) pa_nil)))))))), ?_⟩
    refine fun d hd => ?_
    have sd : Same H (upd H d (.dT [])) := same_upd hd
    have hin : ∀ p ∈ rows.map (·.1), ∃ r' ∈ rows, r'.1 = p := fun p hp => by
      obtain ⟨r', h1, h2⟩ := List.mem_map.mp hp
      exact ⟨r', h1, h2⟩
    refine ⟨.ref r, rfl, r, rfl, ⟨_, sqL (sd _ _ hrr)⟩, ?_⟩
    refine for_it (walk_list (xs := rvs)) (fun i σ H1 => ∃ (kvs : List (List Key × V)) (y3 y4 : Option V), σ = [some (.ref r), some (.ref f), some (.ref d), y3, y4, none, none] ∧ Same H H1 ∧ KInv (RList RPg) (partsOf rows) H1 d kvs ((rows.take i).map (·.1))) ⟨[], none, none, rfl, sd, KInv.none upd_same⟩ (fun i σ H1 hi hp => ?_) (fun i x σ H1 H2 hi hp hy => ?_) (fun σ H1 hp => ?_)
    · obtain ⟨_, _, _, _, sm, _⟩ := hp
      exact sqL (sm _ _ hrr)
    · obtain ⟨kvs, y3, y4, rfl, sm, ki⟩ := hp
      obtain ⟨rfl, hx⟩ := hy
      obtain ⟨rw', hr0, rr⟩ := pr_get2 prr hx
      have hdn : H d = none := hd
      have rr2 : RRow rw' x (erase H2 d) := mono_row _ _ _ _ (same_erase_of hdn sm) rr
      obtain ⟨a, q1, l, rfl, ha, hq1, hl⟩ := rr2
      have et : rows.take (i + 1) = rows.take i ++ [rw'] := by rw [List.take_add_one, hr0]; rfl
      have es := erase_same H2 d
      have hkl := ki.len
      rw [List.length_map, List.length_take] at hkl
      refine ⟨a, _, rfl, sqT (es _ _ ha), rfl, _, _, rfl, _, _, rfl, rfl, _, rfl, _, rfl, _, rfl, d, _, rfl, DPut.t (k := keysOf rw'.1) ki.dat (by rw [keysOf_kV]; exact es _ _ hq1) (szlt (by omega)), ?_⟩
      refine ⟨putK kvs (keysOf rw'.1) (.ref l), _, _, rfl, same_upd2 hdn sm, ?_⟩
      rw [et, List.map_append]
      refine ki.put ?_
      rw [partsOf_mem hnd (List.mem_of_getElem? hr0)]
      exact hl
    · obtain ⟨kvs, y3, y4, rfl, sm, ki⟩ := hp
      rw [← Paired.length prr, List.take_length] at ki
      refine ⟨.ref f, rfl, f, rfl, ⟨_, sqL (sm _ _ hf)⟩, ?_⟩
      refine for_it (walk_list (xs := us)) (fun i σ H2 => ∃ (kvs : List (List Key × V)) (y5 y6 : Option V), σ = [some (.ref r), some (.ref f), some (.ref d), y3, y4, y5, y6] ∧ Same H H2 ∧ KInv (RList RPg) (partsOf rows) H2 d kvs (rows.map (·.1) ++ (found.take i).flatMap fun r => prefsOf r.1)) ⟨kvs, none, none, rfl, sm, by rw [List.take_zero, List.flatMap_nil, List.append_nil]; exact ki⟩ (fun i σ H2 hi hp => ?_) (fun i x σ H2 H3 hi hp hy => ?_) (fun σ H2 hp => ?_)
      · obtain ⟨_, _, _, _, sm, _⟩ := hp
        exact sqL (sm _ _ hf)
      · obtain ⟨kvs, y5, y6, rfl, sm, ki⟩ := hp
        obtain ⟨rfl, hx⟩ := hy
        obtain ⟨fd0, hfd, rfd⟩ := pr_get2 (Paired.monoR mono_fd sm prf) hx
        obtain ⟨a, p, g1, e1, rfl, ha, hpp, _, _⟩ := rfd
        have okr := hfo fd0 (List.mem_of_getElem? hfd)
        have hfew := okr.1.a.1.few
        have et : found.take (i + 1) = found.take i ++ [fd0] := by rw [List.take_add_one, hfd]; rfl
        refine ⟨.ref a, rfl, a, _, 0, _, rfl, rfl, sqT ha, atI_nat (j := 0) rfl, p, _, rfl, .inr (sqT hpp), _, 1, rfl, rfl, 1, _, rfl, ?_, ?_⟩
        · rw [List.length_map]; omega
        have hcnt : (((fd0.1.map V.str).length : Int) + 1 - 1).toNat = fd0.1.length := by rw [List.length_map]; omega
        rw [hcnt]
        have hplen : ∀ j, j ≤ found.length → ((found.take j).flatMap fun r => prefsOf r.1).length ≤ 20 * j := fun j => by
          induction j with
          | zero => intro _; simp
          | succ j ih =>
            intro hj
            obtain ⟨m', hm'⟩ : ∃ m', found[j]? = some m' := ⟨_, List.getElem?_eq_getElem (by omega)⟩
            have h1 := ih (by omega)
            have h2 := (hfo m' (List.mem_of_getElem? hm')).1.a.1.few
            have e : found.take (j + 1) = found.take j ++ [m'] := by rw [List.take_add_one, hm']; rfl
            rw [e, List.flatMap_append, List.length_append, List.flatMap_cons, List.flatMap_nil, List.append_nil, prefsOf_len]
            omega
        have hi2 : i < found.length := (List.getElem?_eq_some_iff.mp hfd).1
        have hpi := hplen i (by omega)
        refine for_it walk_range (fun j σ H5 => ∃ (kvs : List (List Key × V)) (y6 : Option V), σ = [some (.ref r), some (.ref f), some (.ref d), y3, y4, some (.ref a), y6] ∧ Same H H5 ∧ H5 a = some (.tup [.ref p, .ref g1, .bl fd0.2.2.1, .ref e1, .int fd0.2.2.2.2]) ∧ H5 p = some (.tup (fd0.1.map V.str)) ∧
          KInv (RList RPg) (partsOf rows) H5 d kvs ((rows.map (·.1) ++ (found.take i).flatMap fun r => prefsOf r.1) ++ (prefsOf fd0.1).take j)) ⟨kvs, y6, rfl, sm, ha, hpp, by rw [List.take_zero, List.append_nil]; exact ki⟩ (fun _ _ _ _ _ => trivial) (fun j x σ H5 H6 hj hp hy => ?_) (fun σ H5 hp => ?_)
        · obtain ⟨kvs, y6, rfl, sm, ha, hpp, ki⟩ := hp
          obtain ⟨rfl, hx7⟩ := hy
          have hx8 : x = .int ((j + 1 : Nat) : Int) := hx7.trans (congrArg V.int (by omega))
          subst hx8
          refine ⟨_, rfl, d, rfl, .inr ⟨_, .inl ki.dat⟩, .ref a, rfl, a, _, 0, _, rfl, rfl, sqT ha, atI_nat (j := 0) rfl, _, rfl, _, rfl, slA_take hpp fun H7 v s7 rp => ?_⟩
          refine ⟨Nat.zero_le _, fun z nz => ?_⟩
          have sz7 : Same H7 (upd H7 z (.lst [])) := same_upd nz
          obtain ⟨t, rfl, ht⟩ := rp
          have s67 := s7.trans sz7
          have enx : (prefsOf fd0.1).take (j + 1) = (prefsOf fd0.1).take j ++ [fd0.1.take (j + 1)] := by
            have : (prefsOf fd0.1)[j]? = some (fd0.1.take (j + 1)) := by
              unfold prefsOf
              rw [List.getElem?_map, List.getElem?_range hj]; rfl
            rw [List.take_add_one, this]; rfl
          have ki7 := ki.same (mono_list mono_pg) s67
          have hzd : z ≠ d := (ne_of_none (s7 _ _ ki.dat) nz).symm
          refine ⟨kvs, keysOf (fd0.1.take (j + 1)), t, ki7.dat, rfl, by rw [keysOf_kV]; exact sz7 _ _ ht, ?_, fun v hv => ?_, fun hv => ?_⟩
          · have h1 := ki.len
            have h2 := prefsOf_len fd0.1
            rw [List.length_append, List.length_append, List.length_map, List.length_take] at h1
            exact szlt (by omega)
          · refine ⟨kvs, some (.int ((j + 1 : Nat) : Int)), rfl, sm.trans s67, s67 _ _ ha, s67 _ _ hpp, ?_⟩
            rw [enx, ← List.append_assoc]
            exact ki7.again hv
          · refine ⟨putK kvs (keysOf (fd0.1.take (j + 1))) (.ref z), some (.int ((j + 1 : Nat) : Int)), rfl, same_upd2 hd (sm.trans s67), ?_, ?_, ?_⟩
            · rw [upd_ne (ne_of ha ki.dat (fun z => nomatch z))]; exact s67 _ _ ha
            · rw [upd_ne (ne_of hpp ki.dat (fun z => nomatch z))]; exact s67 _ _ hpp
            · rw [enx, ← List.append_assoc]
              refine ki7.put ?_
              have hno : fd0.1.take (j + 1) ∉ rows.map (·.1) := fun hm => by
                obtain ⟨v, hv2⟩ := ki.has.mpr (List.mem_append_left _ (List.mem_append_left _ hm))
                rw [hv] at hv2
                cases hv2
              rw [partsOf_not hno]
              exact ⟨z, [], rfl, erase_at upd_same hzd, .nil⟩
        · obtain ⟨kvs, y6, rfl, sm, ha, hpp, ki⟩ := hp
          have e0 : (prefsOf fd0.1).take fd0.1.length = prefsOf fd0.1 := List.take_of_length_le (by rw [prefsOf_len]; exact Nat.le_refl _)
          rw [e0] at ki
          refine ⟨kvs, _, _, rfl, sm, ?_⟩
          rw [et, List.flatMap_append, List.flatMap_cons, List.flatMap_nil, List.append_nil, ← List.append_assoc]
          exact ki
      · obtain ⟨kvs, y5, y6, rfl, sm, ki⟩ := hp
        rw [← Paired.length prf, List.take_length] at ki
        obtain ⟨ps, hkps⟩ := keys_paths fun k hk => (ki.keys k).mp hk
        have hpn : ps.Nodup := nodup_paths (hkps ▸ ki.nd)
        have hpm : ∀ p, p ∈ ps ↔ p ∈ rows.map (·.1) ∨ ∃ r ∈ found, p ≠ [] ∧ p <+: r.1 := fun p => by
          rw [← mem_paths, ← hkps, ki.keys]
          constructor
          · rintro ⟨x, hx, e⟩
            rw [keysOf_inj e]
            rcases List.mem_append.mp hx with hx | hx
            · exact .inl hx
            · obtain ⟨r', hr', hx⟩ := List.mem_flatMap.mp hx
              exact .inr ⟨r', hr', prefsOf_mem.mp hx⟩
          · rintro (h | ⟨r', hr', hx⟩)
            · exact ⟨p, List.mem_append_left _ h, rfl⟩
            · exact ⟨p, List.mem_append_right _ (List.mem_flatMap.mpr ⟨r', hr', prefsOf_mem.mpr hx⟩), rfl⟩
        have pok : ∀ p ∈ ps, (PathOk p ∧ Sg p) ∧ p ≠ [] := fun p hp => by
          rcases (hpm p).mp hp with h | ⟨r', hr', h0, hx⟩
          · obtain ⟨r', h1, rfl⟩ := hin p h
            exact (hro r' h1).p
          · have o1 := (hfo r' hr').1.a
            exact ⟨⟨⟨Nat.le_trans hx.length_le o1.1.few, fun h hh => o1.1.short h (hx.subset hh)⟩, fun h hh => o1.2 h (hx.subset hh)⟩, h0⟩
        have hpl : ps.length = kvs.length := by
          have := congrArg List.length hkps
          rw [List.length_map, List.length_map] at this
          exact this.symm
        have hpz : ps.length ≤ 1000 := by
          have h1 := ki.len
          have h2 : ∀ l : List Fd, (∀ r ∈ l, FdOk r ∧ r.1 ≠ []) → (l.flatMap fun r => prefsOf r.1).length ≤ 20 * l.length := by
            intro l
            induction l with
            | nil => intro _; simp
            | cons m' l ih =>
              intro h
              have h1 := ih fun x hx => h x (List.mem_cons_of_mem _ hx)
              have h2 := (h m' List.mem_cons_self).1.a.1.few
              rw [List.flatMap_cons, List.length_append, prefsOf_len]
              show _ ≤ 20 * (l.length + 1)
              omega
          have h3 := h2 found hfo
          rw [List.length_append, List.length_map] at h1
          omega
        refine ⟨_, rfl, d, kvs, ps.map rankD, rfl, rfl, ki.dat, fun bs hbs => ?_⟩
        have pp := isKeys_paths hkps hbs
        refine ⟨keysBy mono_path pp hpz (fun a _ b _ => alike_rank a b) (.inr fun a _ => ⟨_, rfl⟩) (fun a _ => Nat.le_trans (depth_rank a) (by decide)) (fun p v H5 hp r => ⟨v, p, rfl, r, (pok p hp).1.1, fun H' v s d => ⟨s, d⟩⟩), fun os H5 p5 ord s5 np5 => ?_⟩
        have sp5 : Same H5 (upd H5 p5 (.lst (os.map (·.1)))) := same_upd np5
        have s35 := s5.trans sp5
        obtain ⟨ys, perm, py, srt⟩ := in_order (Paired.monoR mono_path s35 pp) ord
        have ki5 := ki.same (mono_list mono_pg) s35
        refine ⟨p5, rfl, ⟨_, sqL upd_same⟩, fun D hD => ?_⟩
        refine lc_m (walk_list (xs := os.map (·.1))) ys (fun p => p) (fun p v H => ∃ ln : Ln, RLine ln v H ∧ ln.1 = (p.length : Int) - 1 ∧ TextIs p (partsOf rows p) found ln.2) (fun _ _ _ _ e ⟨ln, h1, h2⟩ => ⟨ln, mono_line _ _ _ _ e h1, h2⟩) (Paired.length py) (by rw [← Paired.length py, perm.length_eq]; omega) hD (fun H6 s6 => sqL (s6 _ _ upd_same)) (fun i p x H6 H7 Kn hp sm6 hacc hy kn => ?_) gName_mono (fun H6 vs sm6 hD6 pv => ?_)
        · obtain ⟨rfl, hx⟩ := hy
          obtain ⟨x', hx', rp⟩ := pr_get py hp
          rw [hx] at hx'
          cases hx'
          obtain ⟨q0, rfl, hq0⟩ := mono_path _ _ _ _ sm6 rp
          have hpp : p ∈ ps := perm.mem_iff.mp (List.mem_of_getElem? hp)
          have ki6 := ki5.same (mono_list mono_pg) sm6
          obtain ⟨v0, hv0⟩ : ∃ v0, valV kvs (keysOf p) = some v0 := by
            cases hv : valV kvs (keysOf p) with
            | some v0 => exact ⟨v0, rfl⟩
            | none => exact absurd (by rw [hkps]; exact mem_paths.mpr hpp) (valV_not hv)
          have rv0 := mono_list mono_pg _ _ _ _ (erase_same _ _) (ki6.vals p v0 hv0)
          have hparts : (partsOf rows p).length ≤ 64 ∧ ∀ g ∈ partsOf rows p, PgOk g := by
            by_cases hpr : p ∈ rows.map (·.1)
            · obtain ⟨r', h1, rfl⟩ := hin p hpr
              rw [partsOf_mem hnd h1]
              exact (hro r' h1).g
            · rw [partsOf_not hpr]
              exact ⟨Nat.zero_le _, fun _ h => absurd h List.not_mem_nil⟩
          have s7 := sm.trans (s35.trans sm6)
          refine ⟨rfl, _, rfl, q0, _, rfl, .inr (sqT hq0), _, 1, rfl, rfl, _, rfl, _, rfl, _, rfl, d, v0, rfl, by rw [← hv0]; exact DGet.t ki6.dat (by rw [keysOf_kV]; exact hq0), _, rfl, _, p, partsOf rows p, v0, f, found, us, rfl, ⟨q0, rfl, hq0⟩, (pok p hpp).1.1, (pok p hpp).1.2, (pok p hpp).2, rv0, hparts.1, hparts.2, s7 _ _ hf, Paired.monoR mono_fd s7 prf, by omega, fun r hr => (hfo r hr).1, fun H8 t s8 ht => ⟨sz (by show 2 ≤ 100000; decide), fun tp ntp => ?_⟩⟩
          obtain ⟨acc, hacc⟩ := hacc
          have htD : tp ≠ D := (ne_of_none (s8 _ _ hacc) ntp).symm
          refine kn _ _ (s8.trans (same_upd ntp)) ⟨((p.length : Int) - 1, t), ⟨tp, rfl, erase_at ?_ htD⟩, rfl, ht⟩
          rw [upd_same, List.length_map]
        · rw [List.map_id'] at pv
          obtain ⟨lps, elp, plp⟩ := pr_pairs pv
          have s6 := sm.trans (s35.trans sm6)
          have hDH : H D = none := Same.free (sm.trans s35) hD
          have pl1 : Paired (fun (b : Ln) y => RLine b y H6) (lps.map (·.2)) vs := pr_map (L2.Paired.mapP plp fun r v h => mono_line _ _ _ _ (erase_same _ _) h.1)
          refine q H6 D (lps.map (·.2)) s6 hDH ⟨D, vs, rfl, hD6, pl1⟩ ⟨ys, perm.nodup_iff.mpr hpn, fun p => by rw [perm.mem_iff, hpm], srt, ?_⟩
          rw [← elp]
          have : ∀ (l : List (List Str × Ln)) (vs : List V), Paired (fun r v => RLine r.2 v (erase H6 D) ∧ r.2.1 = (r.1.length : Int) - 1 ∧ TextIs r.1 (partsOf rows r.1) found r.2.2) l vs → Paired (fun p ln => ln.1 = (p.length : Int) - 1 ∧ TextIs p (partsOf rows p) found ln.2) (l.map (·.1)) (l.map (·.2)) := by
            intro l vs h
            induction h with
            | nil => exact .nil
            | cons a t ih => exact .cons a.2 ih
          exact this lps vs plp
/-! PbLines2: ### written -/
theorem scWritten : FnScope ["line", "depth", "text"] ["line"] (defScope sWritten) := ⟨rfl, rfl, rfl, by decide +kernel, rfl, by decide +kernel, by decide +kernel⟩
def spWritten : Sp := fun vs H Q _ => ∃ (v : V) (n : Nat) (t : Str), vs = [v] ∧ RLine ((n : Int), t) v H ∧ n ≤ 100 ∧ t.length ≤ 2000000 ∧ Q (.str (Txt.mul (Str.ofString "  ") (n : Int) ++ t)) H
theorem foldl_app (l : List Nat) (n : Nat) : ∀ acc : Array Nat, ((List.replicate n l.toArray).foldl (· ++ ·) acc).toList = acc.toList ++ (List.replicate n l).flatten := by
  induction n with
  | zero => intro acc; simp
  | succ n ih =>
    intro acc
    rw [List.replicate_succ, List.foldl_cons, ih, List.replicate_succ, List.flatten_cons]
    simp
theorem tl_mul (n : Nat) : tl (Txt.mul (Str.ofString "  ") (n : Int)) = (List.replicate n [32, 32]).flatten := by
  unfold Txt.mul
  by_cases h0 : (n : Int) < 1
  · rw [if_pos h0]
    have : n = 0 := by omega
    subst this
    rfl
  · rw [if_neg h0]
    by_cases h1 : ((n : Int) == 1 || (Str.ofString "  ").length == 0) = true
    · rw [if_pos h1]
      have : n = 1 := by
        have e : ((Str.ofString "  ").length == 0) = false := by decide
        rw [e, Bool.or_false] at h1
        have := of_decide_eq_true h1
        omega
      subst this
      decide
    · rw [if_neg h1]
      have e : (Str.ofString "  ").cps = [32, 32].toArray := by decide
      show ((List.replicate (n : Int).toNat (Str.ofString "  ").cps).foldl (· ++ ·) (#[] : Array Nat)).toList = _
      rw [e, Int.toNat_natCast, foldl_app]
      simp
theorem mul_len (n : Nat) : (Txt.mul (Str.ofString "  ") (n : Int)).length = 2 * n := by
  rw [len_tl, tl_mul]
  induction n with
  | zero => rfl
  | succ n ih =>
    rw [List.replicate_succ, List.flatten_cons, List.length_append, ih]
    show 2 + 2 * n = _
    omega
theorem okWritten (T : Top K mg) : Def1 P w K mg base 1 "written" spWritten := by
  refine def1 T.fWritten scWritten (fun vs H Q E h => ?_) (fun _ _ _ _ _ _ us hl => match us, hl with | [_], _ => rfl) (fun f cdv A outer s H vs Q E hr h => ?_)
  · obtain ⟨v, n, t, rfl, _⟩ := h
    rfl
  · obtain ⟨v, n, t, rfl, ⟨a, rfl, ha⟩, hn, ht, q⟩ := h
    refine ⟨_, pss_cons (ps_asg (pv 0) (pg_tup rfl (pgs_cons (pg_name (i := 1) scWritten.nd rfl (.inl rfl)) (pgs_cons (pg_name (i := 2) scWritten.nd rfl (.inl rfl)) pgs_nil))))
      (pss_one (ps_ret (pe_op op_add_str (pe_op op_mul_str pe_str (pv 1)) (pv 2)))), ?_⟩
    refine ⟨_, rfl, a, _, rfl, sqT ha, rfl, _, _, rfl, _, _, rfl, rfl, ?_⟩
    refine ⟨_, rfl, _, n, rfl, rfl, by omega, by decide, _, rfl, _, _, rfl, rfl, ?_, q⟩
    rw [mul_len, sizeLine_eq]
    show 2 * n + t.length ≤ _
    omega
end
end PB
/-! PbSees: sees.py -/
namespace PB
open PySem PySem.Spec PyProof.Rows L2 TL

theorem hu65 {A : Around} {k : Nat} (hr : Room k A) : A.units + 65 < cLine := by
  have := hr.un
  omega
def sentOf (ss : List Se) : List (List Str) := (ss.filter fun s => !s.2.2).map (·.1)
def goalOf (ss : List Se) (p : List Str) : List Str := match ss.find? fun s => decide (s.1 = p) && !s.2.2 with
  | some s => s.2.1
  | none => []
theorem goalOf_at {ss : List Se} {i : Nat} {s : Se} (h : ss[i]? = some s) (ha : s.2.2 = false) (hn : s.1 ∉ sentOf (ss.take i)) : goalOf ss s.1 = s.2.1 := by
  unfold goalOf
  have e : (ss.find? fun t => decide (t.1 = s.1) && !t.2.2) = some s := by
    rw [List.find?_eq_some_iff_getElem]
    obtain ⟨hi, he⟩ := List.getElem?_eq_some_iff.mp h
    refine ⟨by simp [ha], i, hi, he, fun j hj => ?_⟩
    cases hb : (decide (ss[j].1 = s.1) && !ss[j].2.2) with
    | false => rfl
    | true =>
      rw [Bool.and_eq_true] at hb
      refine absurd ?_ hn
      unfold sentOf
      refine List.mem_map.mpr ⟨ss[j], List.mem_filter.mpr ⟨?_, hb.2⟩, of_decide_eq_true hb.1⟩
      rw [List.mem_take_iff_getElem]
      exact ⟨j, by omega, rfl⟩
  rw [e]
/-- what makes the sees good: mu falls along the ways, fin is a way's end -/
structure SeesOk (rows : List Row) (ss : List Se) (mu : List Str → Nat) (fin : List Str → List Str) : Prop where
  p : ∀ s ∈ ss, (PathOk s.1 ∧ Sg s.1) ∧ PathOk s.2.1 ∧ Sg s.2.1
  ne : ∀ s ∈ ss, s.2.1 ≠ s.1
  bare : ∀ s ∈ ss, s.2.2 = false → partsOf rows s.1 = []
  one : ∀ s ∈ ss, ∀ t ∈ ss, s.2.2 = false → t.2.2 = false → s.1 = t.1 → s.2.1 = t.2.1
  dn : ∀ s ∈ ss, s.2.2 = false → mu s.2.1 < mu s.1
  few : ∀ s ∈ ss, mu s.2.1 ≤ 1000
  fi : ∀ s ∈ ss, s.2.2 = false → fin s.2.1 = fin s.1
  stop : ∀ p, p ∉ sentOf ss → fin p = p
  known : ∀ s ∈ ss, fin s.2.1 ∈ rows.map (·.1)
  also : ∀ s ∈ ss, s.2.2 = true → s.1 ∈ rows.map (·.1) ∧ fin s.2.1 ≠ s.1
theorem tsame_erase {H : Hp} {D : Addr} {acc : List V} (h : H D = some (.lst acc)) : TSame H (erase H D) := fun a xs e => erase_at e (ne_of e h (fun z => nomatch z))
theorem fd_t {m : Fd} {v : V} {H H' : Hp} (e : TSame H H') (h : RFd m v H) : RFd m v H' := by
  obtain ⟨a, q, g, x, rfl, ha, hq, hg, hx⟩ := h
  exact ⟨a, q, g, x, rfl, e _ _ ha, e _ _ hq, e _ _ hg, e _ _ hx⟩

section
variable {P : Program} {w : World} {K : PySem.W.Frag} {mg : Str → Option Value} {base : Heap}
/-! PbSees: ### senders -/
theorem scSenders : FnScope ["sees", "found", "path", "goal", "also"] ["sees"] (defScope sSenders) := ⟨rfl, rfl, rfl, by decide +kernel, rfl, by decide +kernel, by decide +kernel⟩
def spSenders : Sp := fun vs H Q _ => ∃ (s : Addr) (ss : List Se) (us : List V), vs = [.ref s] ∧ H s = some (.lst us) ∧ Paired (fun b y => RSee b y H) ss us ∧ ss.length ≤ 100 ∧
  ∀ (H' : Hp) (d : Addr) (kvs : List (List Key × V)), Same H H' → H d = none → KInv RPath (goalOf ss) H' d kvs (sentOf ss) → Q (.ref d) H'
theorem okSenders (T : Top K mg) : Def1 P w K mg base 1 "senders" spSenders := by
  refine def1 T.fSenders scSenders (fun vs H Q E h => ?_) (fun _ _ _ _ _ _ us hl => match us, hl with | [_], _ => rfl) (fun f cdv A outer s H vs Q E hr h => ?_)
  · obtain ⟨s, ss, us, rfl, _⟩ := h
    rfl
  · obtain ⟨s, ss, us, rfl, hs, prs, hz, q⟩ := h
    refine ⟨_, pss_cons (ps_set (i := 1) scSenders.nd rfl (.inl rfl) pe_dnewT)
      (pss_cons (ps_for PassesOwn.never rfl (pi_list (pv 0)) (pg_tup rfl (pgs_cons (pg_name (i := 2) scSenders.nd rfl (.inl rfl)) (pgs_cons (pg_name (i := 3) scSenders.nd rfl (.inl rfl)) (pgs_cons (pg_name (i := 4) scSenders.nd rfl (.inl rfl)) pgs_nil))))
        (pss_one (ps_if (pt_not (pt_val (pv 4))) (pss_one (ps_expr (pe_dsetdT (hu_of hr) (pv 1) (pv 2) (pv 3) ⟨rfl, rfl, rfl, rfl⟩))) pss_nil)))
      (pss_one (ps_ret (pv 1)))), ?_⟩
    refine fun d hd => ?_
    have sd : Same H (upd H d (.dT [])) := same_upd hd
    refine ⟨.ref s, rfl, s, rfl, ⟨_, sqL (sd _ _ hs)⟩, ?_⟩
    refine for_it (walk_list (xs := us)) (fun i σ H1 => ∃ (kvs : List (List Key × V)) (y2 y3 y4 : Option V), σ = [some (.ref s), some (.ref d), y2, y3, y4] ∧ Same H H1 ∧ KInv RPath (goalOf ss) H1 d kvs (sentOf (ss.take i))) ⟨[], none, none, none, rfl, sd, KInv.none upd_same⟩ (fun i σ H1 hi hp => ?_) (fun i x σ H1 H2 hi hp hy => ?_) (fun σ H1 hp => ?_)
    · obtain ⟨_, _, _, _, _, sm, _⟩ := hp
      exact sqL (sm _ _ hs)
    · obtain ⟨kvs, y2, y3, y4, rfl, sm, ki⟩ := hp
      obtain ⟨rfl, hx⟩ := hy
      obtain ⟨se, hse, rs⟩ := pr_get2 (Paired.monoR mono_see sm prs) hx
      obtain ⟨a, q1, g1, rfl, ha, hq, hg⟩ := rs
      have et : ss.take (i + 1) = ss.take i ++ [se] := by rw [List.take_add_one, hse]; rfl
      have hil : i < ss.length := (List.getElem?_eq_some_iff.mp hse).1
      have hkl : kvs.length ≤ 100 := by
        have h1 := ki.len
        have h2 : (sentOf (ss.take i)).length ≤ i := by
          unfold sentOf
          rw [List.length_map]
          refine Nat.le_trans (List.length_filter_le _ _) ?_
          rw [List.length_take]
          omega
        omega
      have esent : sentOf (ss.take (i + 1)) = sentOf (ss.take i) ++ (if (!se.2.2) = true then [se.1] else []) := by
        rw [et]
        unfold sentOf
        rw [filter_snoc, List.map_append]
        split <;> rfl
      refine ⟨a, _, rfl, sqT ha, rfl, _, _, rfl, _, _, rfl, _, _, rfl, rfl, ?_⟩
      refine ⟨_, rfl, _, rfl, ?_⟩
      cases hals : se.2.2 with
      | true =>
        rw [hals] at esent
        refine iteF ⟨kvs, _, _, _, rfl, sm, ?_⟩
        rw [esent, if_neg (by simp), List.append_nil]
        exact ki
      | false =>
        rw [hals, if_pos (show (!false) = true from rfl)] at esent
        refine iteT ⟨_, rfl, d, rfl, .inr ⟨_, .inl ki.dat⟩, _, rfl, _, rfl, kvs, keysOf se.1, q1, ki.dat, rfl, by rw [keysOf_kV]; exact hq, szlt (by omega), fun v hv => ?_, fun hv => ?_⟩
        · refine ⟨kvs, _, _, _, rfl, sm, ?_⟩
          rw [esent]
          exact ki.again hv
        · refine ⟨putK kvs (keysOf se.1) (.ref g1), _, _, _, rfl, same_upd2 hd sm, ?_⟩
          rw [esent]
          refine ki.put ?_
          have hno : se.1 ∉ sentOf (ss.take i) := fun hm => by
            obtain ⟨v, hv2⟩ := ki.has.mpr hm
            rw [hv] at hv2
            cases hv2
          rw [goalOf_at hse hals hno]
          exact ⟨g1, rfl, erase_at hg (ne_of hg ki.dat (fun z => nomatch z))⟩
    · obtain ⟨kvs, y2, y3, y4, rfl, sm, ki⟩ := hp
      rw [← Paired.length prs, List.take_length] at ki
      exact ⟨_, rfl, q H1 d kvs sm hd ki⟩
/-! PbSees: ### is_sent_otherwise -/
theorem scOtherwise : FnScope ["see", "sees", "path", "goal", "also"] ["see", "sees"] (defScope sOtherwise) := ⟨rfl, rfl, rfl, by decide +kernel, rfl, by decide +kernel, by decide +kernel⟩
def spOtherwise : Sp := fun vs H Q _ => ∃ (v : V) (see : Se) (s : Addr) (ss : List Se) (us : List V), vs = [v, .ref s] ∧ RSee see v H ∧ (Sg see.1 ∧ Sg see.2.1) ∧ H s = some (.lst us) ∧ Paired (fun b y => RSee b y H) ss us ∧ (∀ t ∈ ss, Sg t.1 ∧ Sg t.2.1) ∧
  (∀ t ∈ ss, t.2.2 = false → t.1 = see.1 → t.2.1 = see.2.1) ∧ Q (.bl false) H
theorem okOtherwise (T : Top K mg) : Def1 P w K mg base 1 "is_sent_otherwise" spOtherwise := by
  refine def1 T.fOtherwise scOtherwise (fun vs H Q E h => ?_) (fun _ _ _ _ _ _ us hl => match us, hl with | [_, _], _ => rfl) (fun f cdv A outer s H vs Q E hr h => ?_)
  · obtain ⟨v, see, s, ss, us, rfl, _⟩ := h
    rfl
  · obtain ⟨v, see, s, ss, us, rfl, ⟨a, p, g, rfl, ha, hp, hg⟩, sg, hs, prs, sgs, hone, q⟩ := h
    refine ⟨_, pss_cons (ps_for PassesOwn.never rfl (pi_list (pv 1)) (pg_tup rfl (pgs_cons (pg_name (i := 2) scOtherwise.nd rfl (.inl rfl)) (pgs_cons (pg_name (i := 3) scOtherwise.nd rfl (.inl rfl)) (pgs_cons (pg_name (i := 4) scOtherwise.nd rfl (.inl rfl)) pgs_nil))))
        (pss_one (ps_if (PW.pt (pw_and (pt_not (pt_val (pv 4))) (pw_and (pt_cmpR (op_eqD hr.units) (pv 2) (pe_ix ix_tup (pv 0) pe_int (fun _ _ => rfl)) (nomark _)) (pw_and1 (pt_cmpR (op_neD hr.units) (pv 3) (pe_ix ix_tup (pv 0) pe_int (fun _ _ => rfl)) (nomark _))))))
          (pss_one (ps_ret pe_bl)) pss_nil)))
      (pss_one (ps_ret pe_bl)), ?_⟩
    refine ⟨.ref s, rfl, s, rfl, ⟨_, sqL hs⟩, ?_⟩
    refine for_it (walk_list (xs := us)) (fun i σ H1 => ∃ (y2 y3 y4 : Option V), σ = [some (.ref a), some (.ref s), y2, y3, y4] ∧ H1 = H) ⟨none, none, none, rfl, rfl⟩ (fun i σ H1 hi hp => ?_) (fun i x σ H1 H2 hi hp hy => ?_) (fun σ H1 hp => ?_)
    · obtain ⟨_, _, _, _, rfl⟩ := hp
      exact sqL hs
    · obtain ⟨y2, y3, y4, rfl, rfl⟩ := hp
      obtain ⟨rfl, hx⟩ := hy
      obtain ⟨se, hse, rs⟩ := pr_get2 prs hx
      obtain ⟨a1, q1, g1, rfl, ha1, hq, hg1⟩ := rs
      have hm := List.mem_of_getElem? hse
      refine ⟨a1, _, rfl, sqT ha1, rfl, _, _, rfl, _, _, rfl, _, _, rfl, rfl, ?_⟩
      refine ⟨_, rfl, _, rfl, ?_⟩
      cases hals : se.2.2 with
      | true => exact iteF (iteF ⟨_, _, _, rfl, rfl⟩)
      | false =>
        refine iteT ⟨_, rfl, _, rfl, a, _, 0, _, rfl, rfl, sqT ha, atI_nat (j := 0) rfl, eq_path ⟨q1, rfl, hq⟩ ⟨p, rfl, hp⟩ (sgs se hm).1 sg.1 ⟨_, rfl, ?_⟩⟩
        by_cases e : se.1 = see.1
        · rw [decide_eq_true e]
          refine iteT ⟨_, rfl, _, rfl, a, _, 1, _, rfl, rfl, sqT ha, atI_nat (j := 1) rfl, ne_path ⟨g1, rfl, hg1⟩ ⟨g, rfl, hg⟩ (sgs se hm).2 sg.2 ⟨_, rfl, ?_⟩⟩
          rw [decide_eq_true (hone se hm hals e)]
          exact iteF ⟨_, _, _, rfl, rfl⟩
        · rw [decide_eq_false e]
          exact iteF (iteF ⟨_, _, _, rfl, rfl⟩)
    · obtain ⟨y2, y3, y4, rfl, rfl⟩ := hp
      exact q
/-! PbSees: ### way_of -/
theorem scWayOf : FnScope ["goal", "onward", "way", "seen", "there"] ["goal", "onward"] (defScope sWayOf) := ⟨rfl, rfl, rfl, by decide +kernel, rfl, by decide +kernel, by decide +kernel⟩
def spWayOf : Sp := fun vs H Q _ => ∃ (v : V) (goal : List Str) (d : Addr) (gf : List Str → List Str) (kvs : List (List Key × V)) (ins : List (List Str)) (mu : List Str → Nat) (S : List Str → Prop), vs = [v, .ref d] ∧ RPath goal v H ∧ KInv RPath gf H d kvs ins ∧
  S goal ∧ (∀ p, p ∈ ins → S p → S (gf p)) ∧ (∀ p ∈ ins, mu (gf p) < mu p) ∧ mu goal ≤ 1000 ∧
  ∀ (H' : Hp) (o : Addr) (ws : List (List Str)) (e : List Str) (us : List V), Same H H' → H o = none → H' o = some (.lst us) → Paired (fun b y => RPath b y H') (ws ++ [e]) us → (ws ++ [e]).Nodup → (∀ p ∈ ws ++ [e], S p) → e ∉ ins → ws.length ≤ 1000 → Q (.ref o) H'
theorem okWayOf (T : Top K mg) : Def1 P w K mg base 1 "way_of" spWayOf := by
  refine def1 T.fWayOf scWayOf (fun vs H Q E h => ?_) (fun _ _ _ _ _ _ us hl => match us, hl with | [_, _], _ => rfl) (fun f cdv A outer s H vs Q E hr h => ?_)
  · obtain ⟨v, goal, d, gf, kvs, ins, mu, S, rfl, _⟩ := h
    rfl
  · obtain ⟨v, goal, d, gf, kvs, ins, mu, S, rfl, ⟨ga, rfl, hga⟩, ki, hS, hcl, hmu, hm0, q⟩ := h
    refine ⟨_, pss_cons (ps_set (i := 2) scWayOf.nd rfl (.inl rfl) (pe_lst (pa_cons (pv 0) pa_nil)))
      (pss_cons (ps_set (i := 3) scWayOf.nd rfl (.inl rfl) (pe_disp1 hr.units0 (pv 0) pe_bl))
      (pss_cons (ps_while PassesOwn.never (pt_cmp (pc_din (hu_of hr) (pe_ix ix_list (pv 2) (pe_un un_neg pe_int) (fun _ _ => rfl)) (pv 1)))
        (pss_cons (ps_set (i := 4) scWayOf.nd rfl (.inl rfl) (pe_dget (hu_of hr) (pv 1) (pe_ix ix_list (pv 2) (pe_un un_neg pe_int) (fun _ _ => rfl)) (fun _ _ => rfl)))
        (pss_cons (ps_expr (pe_bm PySem.F.plainAttrs_list PySem.F.slot_list_append PySem.F.type_list_append mt_append (pv 2) (pa_cons (pv 4) pa_nil)))
        (pss_cons (ps_if (pt_cmp (pc_din (hu_of hr) (pv 4) (pv 3))) (pss_one (ps_ret (pv 2))) pss_nil)
        (pss_one (ps_dput (hu_of hr) (pv 3) (pv 4) pe_bl rfl))))))
      (pss_one (ps_ret (pv 2))))), ?_⟩
    refine ⟨_, rfl, sz (by show 1 ≤ 100000; decide), fun o no => ?_⟩
    have so : Same H (upd H o (.lst [.ref ga])) := same_upd no
    refine fun d2 nd2 => ?_
    have sd2 : Same (upd H o (.lst [.ref ga])) (upd (upd H o (.lst [.ref ga])) d2 (.dT [])) := same_upd nd2
    have hod2 : o ≠ d2 := ne_of_none upd_same nd2
    refine ⟨_, rfl, upd_same, ga, keysOf goal, rfl, by rw [keysOf_kV]; exact sd2 _ _ (so _ _ hga), ?_⟩
    have e2 : upd (upd (upd H o (.lst [.ref ga])) d2 (.dT [])) d2 (.dT [(keysOf goal, .bl true)]) = upd (upd H o (.lst [.ref ga])) d2 (.dT [(keysOf goal, .bl true)]) := funext fun b => by
      by_cases hb : b = d2
      · subst hb; rw [upd_same, upd_same]
      · rw [upd_ne hb, upd_ne hb, upd_ne hb]
    rw [e2]
    have sd3 : Same (upd H o (.lst [.ref ga])) (upd (upd H o (.lst [.ref ga])) d2 (.dT [(keysOf goal, .bl true)])) := same_upd nd2
    have hnd2 : H d2 = none := Same.free so nd2
    refine ⟨fun m σ H1 => ∃ (ws : List (List Str)) (e : List Str) (us : List V) (kv2 : List (List Key × V)) (y4 : Option V), σ = [some (.ref ga), some (.ref d), some (.ref o), some (.ref d2), y4] ∧ Same H H1 ∧ H1 o = some (.lst us) ∧ Paired (fun b y => RPath b y H1) (ws ++ [e]) us ∧ KInv RBl (fun _ => true) H1 d2 kv2 (ws ++ [e]) ∧
      (ws ++ [e]).Nodup ∧ (∀ p ∈ ws ++ [e], S p ∧ mu e ≤ mu p) ∧ m = mu e ∧ ws.length + mu e ≤ mu goal, ⟨mu goal, [], goal, [.ref ga], [(keysOf goal, .bl true)], none, rfl, so.trans sd3, sd3 _ _ upd_same, .cons ⟨ga, rfl, sd3 _ _ (so _ _ hga)⟩ .nil, ?_, by simp, fun p hp => ?_, rfl, by simp⟩, ?_⟩
    · refine ⟨by simp, upd_same, fun k => by simp, Nat.le_refl _, fun p v hv => ?_⟩
      by_cases hk : keysOf goal = keysOf p
      · rw [valV_pos hk] at hv
        cases hv
        exact rfl
      · rw [valV_neg hk] at hv
        cases hv
    · rw [List.mem_singleton.mp hp]
      exact ⟨hS, Nat.le_refl _⟩
    rintro m σ H1 ⟨ws, e, us, kv2, y4, rfl, sm, ho, pw, k2, hnd, hall, rfl, hlen⟩
    obtain ⟨us0, ue, rfl⟩ : ∃ us0 ue, us = us0 ++ [ue] := by
      rcases snoc_cases us with rfl | ⟨a, b, h⟩
      · have := Paired.length pw
        simp at this
      · exact ⟨a, b, h⟩
    have hlw : ws.length = us0.length := by simpa using Paired.length pw
    obtain ⟨e', he', re⟩ := pr_get2 (i := us0.length) (b := ue) pw (by simp)
    have : e' = e := by
      rw [← hlw] at he'
      simpa using he'.symm
    subst this
    obtain ⟨ea, rfl, hea⟩ := re
    have hla : atI (us0 ++ [V.ref ea]) (-1) = some (.ref ea) := atI_last _ _
    have ki1 := ki.same mono_path sm
    have hmem := (hall e' (by simp)).1
    refine ⟨_, rfl, 1, rfl, o, _, -1, _, rfl, rfl, sqL ho, hla, _, rfl, d, _, rfl, DGet.t ki1.dat (by rw [keysOf_kV]; exact hea), _, rfl, ?_⟩
    cases hv : valV kvs (keysOf e') with
    | none =>
      refine iteF ⟨_, rfl, q H1 o ws e' _ sm no ho pw hnd (fun p hp => (hall p hp).1) (fun hm => ?_) (by omega)⟩
      obtain ⟨v, hv2⟩ := ki1.has.mpr hm
      rw [hv] at hv2
      cases hv2
    | some gv =>
      have hin : e' ∈ ins := ki1.has.mp ⟨gv, hv⟩
      have hlt := hmu e' hin
      refine iteT ⟨fun σ' H' => ∃ (ws : List (List Str)) (e : List Str) (us : List V) (kv2 : List (List Key × V)) (y4 : Option V), σ' = [some (.ref ga), some (.ref d), some (.ref o), some (.ref d2), y4] ∧ Same H H' ∧ H' o = some (.lst us) ∧ Paired (fun b y => RPath b y H') (ws ++ [e]) us ∧ KInv RBl (fun _ => true) H' d2 kv2 (ws ++ [e]) ∧
        (ws ++ [e]).Nodup ∧ (∀ p ∈ ws ++ [e], S p ∧ mu e ≤ mu p) ∧ mu (gf e') = mu e ∧ ws.length + mu e ≤ mu goal, fun σ' H' h => ⟨mu (gf e'), hlt, h⟩, ?_⟩
      obtain ⟨gq, rfl, hgq⟩ := mono_path _ _ _ _ (erase_same _ _) (ki1.vals e' gv hv)
      refine ⟨_, rfl, _, rfl, 1, rfl, o, _, -1, _, rfl, rfl, sqL ho, hla, d, _, rfl, by rw [← hv]; exact DGet.t ki1.dat (by rw [keysOf_kV]; exact hea), ?_⟩
      refine ⟨_, rfl, .inl ⟨rfl, _, sqL ho⟩, _, rfl, o, _, _, rfl, rfl, ho, ?_, ?_⟩
      · rw [List.length_append, ← hlw]
        show ws.length + 1 < _
        exact szlt (by omega)
      have ts : TSame H1 (upd H1 o (.lst (us0 ++ [.ref ea] ++ [.ref gq]))) := tsame_upd ho (fun _ z => nomatch z)
      have hd2o : d2 ≠ o := ne_of k2.dat ho (fun z => nomatch z)
      have k2d : (upd H1 o (.lst (us0 ++ [.ref ea] ++ [.ref gq]))) d2 = some (.dT kv2) := by rw [upd_ne hd2o]; exact k2.dat
      have hgq1 := ts _ _ hgq
      have hno : gf e' ∉ ws ++ [e'] := fun hm => by
        have := (hall _ hm).2
        omega
      have hnv : valV kv2 (keysOf (gf e')) = none := by
        cases hx : valV kv2 (keysOf (gf e')) with
        | none => rfl
        | some x => exact absurd (k2.has.mp ⟨x, hx⟩) hno
      refine ⟨_, rfl, _, rfl, d2, _, rfl, DGet.t (k := keysOf (gf e')) k2d (by rw [keysOf_kV]; exact hgq1), _, rfl, ?_⟩
      rw [hnv]
      have hkl := k2.len
      rw [List.length_append] at hkl
      have k2' : KInv RBl (fun _ => true) (upd H1 o (.lst (us0 ++ [.ref ea] ++ [.ref gq]))) d2 kv2 (ws ++ [e']) := ⟨k2.nd, k2d, k2.keys, k2.len, k2.vals⟩
      refine iteF ⟨_, rfl, _, rfl, d2, _, rfl, DPut.t (k := keysOf (gf e')) k2d (by rw [keysOf_kV]; exact hgq1) (szlt (by have h1 : [e'].length = 1 := rfl; omega)), ?_⟩
      have ts2 : TSame H1 (upd (upd H1 o (.lst (us0 ++ [.ref ea] ++ [.ref gq]))) d2 (.dT (putK kv2 (keysOf (gf e')) (.bl true)))) := ts.trans (tsame_upd k2d (fun _ z => nomatch z))
      refine ⟨ws ++ [e'], gf e', us0 ++ [.ref ea] ++ [.ref gq], putK kv2 (keysOf (gf e')) (.bl true), _, rfl, same_upd2 hnd2 (same_upd2 no sm), by rw [upd_ne hd2o.symm]; exact upd_same, ?_, k2'.put rfl, ?_, fun p hp => ?_, rfl, ?_⟩
      · exact Paired.snoc (L2.Paired.mapP pw fun b y r => path_t ts2 r) ⟨gq, rfl, ts2 _ _ hgq⟩
      · rw [List.nodup_append]
        exact ⟨hnd, by simp, fun a ha b hb hab => hno (by rw [List.mem_singleton.mp hb] at hab; exact hab ▸ ha)⟩
      · rcases List.mem_append.mp hp with hp | hp
        · have := hall p hp
          exact ⟨this.1, by omega⟩
        · rw [List.mem_singleton.mp hp]
          exact ⟨hcl e' hin hmem, Nat.le_refl _⟩
      · rw [List.length_append]
        show ws.length + 1 + _ ≤ _
        omega
/-! PbSees: ### ring_of -/
theorem scRingOf : FnScope ["way", "ring", "ranks", "at", "path"] ["way"] (defScope sRingOf) := ⟨rfl, rfl, rfl, by decide +kernel, rfl, by decide +kernel, by decide +kernel⟩
def spRingOf : Sp := fun vs H Q _ => ∃ (o : Addr) (ws : List (List Str)) (e : List Str) (us : List V), vs = [.ref o] ∧ H o = some (.lst us) ∧ Paired (fun b y => RPath b y H) (ws ++ [e]) us ∧ (ws ++ [e]).Nodup ∧ (∀ p ∈ ws ++ [e], Sg p) ∧ ws.length ≤ 1000 ∧
  ∀ (H' : Hp) (o' : Addr), Same H H' → H o' = none → H' o' = some (.lst []) → Q (.ref o') H'
theorem okRingOf (T : Top K mg) : Def1 P w K mg base 1 "ring_of" spRingOf := by
  refine def1 T.fRingOf scRingOf (fun vs H Q E h => ?_) (fun _ _ _ _ _ _ us hl => match us, hl with | [_], _ => rfl) (fun f cdv A outer s H vs Q E hr h => ?_)
  · obtain ⟨o, ws, e, us, rfl, _⟩ := h
    rfl
  · obtain ⟨o, ws, e, us, rfl, ho, pw, hnd, hsg, hz, q⟩ := h
    refine ⟨_, pss_cons (ps_set (i := 1) scRingOf.nd rfl (.inl rfl) (pe_slice sl_list (pv 0)
          (po_some (pe_bm PySem.F.plainAttrs_list PySem.F.slot_list_index PySem.F.type_list_index (mt_indexD (hu65 hr)) (pv 0) (pa_cons (pe_ix ix_list (pv 0) (pe_un un_neg pe_int) (fun _ _ => rfl)) pa_nil))) (po_some (pe_un un_neg pe_int))))
      (pss_cons (ps_if (pt_cmpR (op_eqD hr.units) (pv 1) (pe_lst pa_nil) (nomark _)) (pss_one (ps_ret (pe_lst pa_nil))) pss_nil)
      (pss_cons ps_never (pss_cons ps_never (pss_one ps_never)))), ?_⟩
    obtain ⟨us0, ue, rfl⟩ : ∃ us0 ue, us = us0 ++ [ue] := by
      rcases snoc_cases us with rfl | ⟨a, b, h⟩
      · have := Paired.length pw
        simp at this
      · exact ⟨a, b, h⟩
    have hlw : ws.length = us0.length := by simpa using Paired.length pw
    obtain ⟨e', he', re⟩ := pr_get2 (i := us0.length) (b := ue) pw (by simp)
    have : e' = e := by
      rw [← hlw] at he'
      simpa using he'.symm
    subst this
    have hla : atI (us0 ++ [ue]) (-1) = some ue := atI_last _ _
    have hdl : Dp K H (.ref o) (.list ((ws ++ [e']).map pathD)) := .lst (sqL ho) (dp_pair (fun b v h => dp_path h) pw)
    have hlow : Low 2 (.list ((ws ++ [e']).map pathD)) := low_list fun d hd => by
      obtain ⟨x, hx, rfl⟩ := List.mem_map.mp hd
      exact low_path (hsg x hx)
    have sge := hsg e' (by simp)
    have hds : ((ws ++ [e']).map pathD)[ws.length]? = some (pathD e') := by
      rw [List.getElem?_map]
      simp
    have hahead : ∀ (m : Nat) (z' : PyData), m < ws.length → ((ws ++ [e']).map pathD)[m]? = some z' → PyData.eqv z' (pathD e') = false := fun m z' hm hz' => by
      rw [List.getElem?_map, List.getElem?_append_left hm, List.getElem?_eq_getElem hm] at hz'
      cases hz'
      show PyData.eqv (pathD ws[m]) (pathD e') = false
      rw [eqv_path]
      refine decide_eq_false fun h => ?_
      rw [List.nodup_append] at hnd
      exact hnd.2.2 _ (List.getElem_mem hm) _ (List.mem_singleton.mpr rfl) h
    refine ⟨_, rfl, _, rfl, .inl ⟨rfl, _, sqL ho⟩, _, rfl, 1, rfl, o, _, -1, _, rfl, rfl, sqL ho, hla, o, ue, pathD e', _, ws.length, pathD e', rfl, rfl, hdl, dp_path re, hlow.shaped (by decide), (low_path sge).shaped (by decide), hds, by rw [eqv_path]; exact decide_eq_true rfl, hahead, (ws.length : Int), rfl, 1, rfl, -1, rfl, o, _, rfl, sqL ho, fun p np => ?_⟩
    have ecut : cutV (us0 ++ [ue]) (some (ws.length : Int)) (some (-1)) = [] := by
      unfold cutV
      have h1 : HT.sIx (us0 ++ [ue]).length 0 (some (ws.length : Int)) = ws.length := by
        rw [HT.sIx_nat, List.length_append, hlw]
        show min us0.length (us0.length + 1) = _
        omega
      have h2 : HT.sIx (us0 ++ [ue]).length (us0 ++ [ue]).length (some (-1)) = ws.length := by
        unfold HT.sIx
        rw [List.length_append, hlw]
        show (if (-1 : Int) < 0 then ((-1 : Int) + ((us0.length + 1 : Nat) : Int)).toNat else _) = _
        rw [if_pos (by decide)]
        omega
      rw [h1, h2, Nat.sub_self, List.take_zero]
    have sp : Same H (upd H p (.lst (cutV (us0 ++ [ue]) (some (ws.length : Int)) (some (-1))))) := same_upd np
    rw [ecut] at sp ⊢
    refine ⟨_, rfl, Nat.zero_le _, fun l nl => ?_⟩
    have sl : Same (upd H p (.lst [])) (upd (upd H p (.lst [])) l (.lst [])) := same_upd nl
    refine eq_nilB (n := 1) (ds := []) true rfl (.lst (sqL (sl _ _ upd_same)) .nil) upd_same (low_list fun _ h => absurd h List.not_mem_nil) (by decide) ⟨_, rfl, iteT ⟨Nat.zero_le _, fun r nr => ?_⟩⟩
    exact q _ r (sp.trans (sl.trans (same_upd nr))) (Same.free (sp.trans sl) nr) upd_same
theorem share {P R : Prop} (f : P → R) (h : P) : R := f h
theorem ifN {c : Bool} {A B : Prop} (h : c = true) (b : B) : if (!c) = true then A else B := by
  subst h
  exact b
theorem ifY {c : Bool} {A B : Prop} (h : c = false) (a : A) : if (!c) = true then A else B := by
  subst h
  exact a
theorem ifT {c : Bool} {A B : Prop} (h : c = true) (a : A) : if c = true then A else B := by
  subst h
  exact a
theorem ifF {c : Bool} {A B : Prop} (h : c = false) (b : B) : if c = true then A else B := by
  subst h
  exact b
/-! PbSees: ### looked_at -/
theorem scLookedAt : FnScope ["see", "sees", "onward", "known", "path", "goal", "also", "way", "ring", "end"] ["see", "sees", "onward", "known"] (defScope sLookedAt) := ⟨rfl, rfl, rfl, by decide +kernel, rfl, by decide +kernel, by decide +kernel⟩
def spLookedAt : Sp := fun vs H Q _ => ∃ (v : V) (s d k : Addr) (see : Se) (ss : List Se) (us : List V) (kvs kvk : List (List Key × V)) (rows : List Row) (mu : List Str → Nat) (fin : List Str → List Str), vs = [v, .ref s, .ref d, .ref k] ∧ RSee see v H ∧ see ∈ ss ∧
  H s = some (.lst us) ∧ Paired (fun b y => RSee b y H) ss us ∧ KInv RPath (goalOf ss) H d kvs (sentOf ss) ∧ KInv RBl (fun p => !(partsOf rows p).isEmpty) H k kvk (rows.map (·.1)) ∧ SeesOk rows ss mu fin ∧
  ∀ (H' : Hp) (v' : V) (fd : Fd), Same H H' → RFd fd v' H' → fd.1 = see.1 → fd.2.1 = see.2.1 → fd.2.2.1 = see.2.2 → fd.2.2.2.1 = fin see.2.1 → Q v' H'
theorem sent_iff {ss : List Se} {p : List Str} : p ∈ sentOf ss ↔ ∃ s ∈ ss, s.2.2 = false ∧ s.1 = p := by
  unfold sentOf
  rw [List.mem_map]
  constructor
  · rintro ⟨s, hs, rfl⟩
    have := List.mem_filter.mp hs
    exact ⟨s, this.1, by simpa using this.2, rfl⟩
  · rintro ⟨s, hs, ha, rfl⟩
    exact ⟨s, List.mem_filter.mpr ⟨hs, by simp [ha]⟩, rfl⟩
theorem goalOf_eq {rows : List Row} {ss : List Se} {mu : List Str → Nat} {fin : List Str → List Str} (ok : SeesOk rows ss mu fin) {s : Se} (hs : s ∈ ss) (ha : s.2.2 = false) : goalOf ss s.1 = s.2.1 := by
  unfold goalOf
  cases hf : ss.find? fun t => decide (t.1 = s.1) && !t.2.2 with
  | none =>
    have := List.find?_eq_none.mp hf s hs
    simp [ha] at this
  | some t =>
    have h1 := List.mem_of_find?_eq_some hf
    have h2 := List.find?_some hf
    simp only [Bool.and_eq_true, decide_eq_true_eq, Bool.not_eq_true'] at h2
    exact ok.one t h1 s hs h2.2 ha h2.1
theorem okLookedAt (T : Top K mg) : Def1 P w K mg base 2 "looked_at" spLookedAt := by
  refine def1 T.fLookedAt scLookedAt (fun vs H Q E h => ?_) (fun _ _ _ _ _ _ us hl => match us, hl with | [_, _, _, _], _ => rfl) (fun f cdv A outer s0 H vs Q E hr h => ?_)
  · obtain ⟨v, s, d, k, see, ss, us, kvs, kvk, rows, mu, fin, rfl, _⟩ := h
    rfl
  · obtain ⟨v, s, d, k, see, ss, us, kvs, kvk, rows, mu, fin, rfl, ⟨a, p, g, rfl, ha, hp, hg⟩, hmem, hs, prs, ki, kk, ok, q⟩ := h
    refine ⟨_, pss_cons (ps_asg (pv 0) (pg_tup rfl (pgs_cons (pg_name (i := 4) scLookedAt.nd rfl (.inl rfl)) (pgs_cons (pg_name (i := 5) scLookedAt.nd rfl (.inl rfl)) (pgs_cons (pg_name (i := 6) scLookedAt.nd rfl (.inl rfl)) pgs_nil)))))
      (pss_cons (ps_if (pt_cmpR (op_eqD hr.units) (pv 5) (pv 4) (nomark _)) (pss_one ps_never) pss_nil)
      (pss_cons (ps_if (PW.pt (pw_and (pt_not (pt_val (pv 6))) (pw_and1 (pt_val (pe_dget2 (hu_of hr) (pv 3) (pv 4) pe_bl ⟨rfl, rfl, rfl, rfl⟩))))) (pss_one ps_never) pss_nil)
      (pss_cons (ps_if (PW.pt (pw_and (pt_not (pt_val (pv 6))) (pw_and1 (pt_val (pe_f (okOtherwise T) hr (by decide) rfl (pa_cons (pv 0) (pa_cons (pv 1) pa_nil))))))) (pss_one ps_never) pss_nil)
      (pss_cons (ps_set (i := 7) scLookedAt.nd rfl (.inl rfl) (pe_f (okWayOf T) hr (by decide) rfl (pa_cons (pv 5) (pa_cons (pv 2) pa_nil))))
      (pss_cons (ps_set (i := 8) scLookedAt.nd rfl (.inl rfl) (pe_f (okRingOf T) hr (by decide) rfl (pa_cons (pv 7) pa_nil)))
      (pss_cons (ps_if (pt_cmpR (op_neD hr.units) (pv 8) (pe_lst pa_nil) (nomark _)) (pss_one ps_never) pss_nil)
      (pss_cons (ps_set (i := 9) scLookedAt.nd rfl (.inl rfl) (pe_ix ix_list (pv 7) (pe_un un_neg pe_int) (fun _ _ => rfl)))
      (pss_cons (ps_if (PW.pt (pw_or (pt_cmp (pc_dnotin (hu_of hr) (pv 9) (pv 3))) (pw_or (PW.pt (pw_and (pt_val (pv 6)) (pw_and1 (pt_cmp (pc_dnotin (hu_of hr) (pv 4) (pv 3)))))) (pw_or1 (pt_cmpR (op_eqD hr.units) (pv 9) (pv 4) (nomark _)))))) (pss_one ps_never) pss_nil)
      (pss_one (ps_ret (pe_tup (pa_cons (pv 4) (pa_cons (pv 5) (pa_cons (pv 6) (pa_cons (pv 9) (pa_cons (pe_callB call_len_seq (by rfl) T.len PySem.boot_len (pa_cons (pv 7) pa_nil)) pa_nil)))))))))))))))), ?_⟩
    have okp := ok.p see hmem
    refine ⟨_, rfl, a, _, rfl, sqT ha, rfl, _, _, rfl, _, _, rfl, _, _, rfl, rfl, ?_⟩
    refine ⟨_, rfl, _, rfl, eq_path ⟨g, rfl, hg⟩ ⟨p, rfl, hp⟩ okp.2.2 okp.1.2 ⟨_, rfl, ?_⟩⟩
    rw [decide_eq_false (ok.ne see hmem)]
    refine iteF ⟨_, rfl, _, rfl, ?_⟩
    -- the way
    apply share
    · intro rest
      rcases Bool.eq_false_or_eq_true see.2.2 with hals | hals
      · exact ifN hals (iteF ⟨_, rfl, _, rfl, ifN hals (iteF rest)⟩)
      · refine ifY hals ⟨_, rfl, k, rfl, .inr ⟨_, .inl kk.dat⟩, _, rfl, _, DGet.t (k := keysOf see.1) kk.dat (by rw [keysOf_kV]; exact hp), false, ?_, iteF ⟨_, rfl, _, rfl, ifY hals ⟨_, rfl, _, rfl, .ref a, see, s, ss, us, rfl, ⟨a, p, g, rfl, ha, hp, hg⟩, ⟨okp.1.2, okp.2.2⟩, hs, prs, fun t ht => ⟨(ok.p t ht).1.2, (ok.p t ht).2.2⟩, fun t ht hta e => ok.one t ht see hmem hta hals e, _, rfl, iteF rest⟩⟩⟩
        cases hv : valV kvk (keysOf see.1) with
        | none => rfl
        | some x =>
          have := kk.vals see.1 x hv
          rw [ok.bare see hmem hals] at this
          exact this
    · refine ⟨_, rfl, _, rfl, .ref g, see.2.1, d, goalOf ss, kvs, sentOf ss, mu, fun x => (fin x = fin see.2.1) ∧ PathOk x ∧ Sg x, rfl, ⟨g, rfl, hg⟩, ki, ⟨rfl, okp.2⟩, fun x hx hS => ?_, fun x hx => ?_, ok.few see hmem, fun H1 o ws e ws' s1 no ho pw hnd hall hlast hz => ?_⟩
      · obtain ⟨t, ht, hta, rfl⟩ := sent_iff.mp hx
        rw [goalOf_eq ok ht hta]
        exact ⟨(ok.fi t ht hta).trans hS.1, (ok.p t ht).2⟩
      · obtain ⟨t, ht, hta, rfl⟩ := sent_iff.mp hx
        rw [goalOf_eq ok ht hta]
        exact ok.dn t ht hta
      have hee := hall e (by simp)
      have hefin : e = fin see.2.1 := by rw [← hee.1]; exact (ok.stop e hlast).symm
      refine ⟨_, rfl, o, ws, e, ws', rfl, ho, pw, hnd, fun x hx => (hall x hx).2.2, hz, fun H2 r s2 nr hrl => ?_⟩
      refine ⟨_, rfl, Nat.zero_le _, fun l nl => ?_⟩
      have sl : Same H2 (upd H2 l (.lst [])) := same_upd nl
      refine ne_nilB (n := 1) (ds := []) true rfl (.lst (sqL (sl _ _ hrl)) .nil) upd_same (low_list fun _ h => absurd h List.not_mem_nil) (by decide) ⟨_, rfl, iteF ?_⟩
      obtain ⟨us0, ue, rfl⟩ : ∃ us0 ue, ws' = us0 ++ [ue] := by
        rcases snoc_cases ws' with rfl | ⟨a, b, h⟩
        · have := Paired.length pw
          simp at this
        · exact ⟨a, b, h⟩
      have hlw : ws.length = us0.length := by simpa using Paired.length pw
      obtain ⟨e', he', re⟩ := pr_get2 (i := us0.length) (b := ue) pw (by simp)
      have : e' = e := by
        rw [← hlw] at he'
        simpa using he'.symm
      subst this
      have s3 := s2.trans sl
      have s13 := s1.trans s3
      obtain ⟨ea, rfl, hea⟩ := mono_path _ _ _ _ s3 re
      refine ⟨_, rfl, 1, rfl, o, _, -1, _, rfl, rfl, sqL (s3 _ _ ho), atI_last _ _, ?_⟩
      have kk3 := kk.same mono_bl s13
      have hfk := ok.known see hmem
      rw [← hefin] at hfk
      obtain ⟨vk, hvk⟩ := kk3.has.mpr hfk
      refine ⟨_, rfl, _, rfl, k, _, rfl, DGet.t (k := keysOf e') kk3.dat (by rw [keysOf_kV]; exact hea), _, rfl, ?_⟩
      rw [hvk]
      refine iteF ⟨_, rfl, _, rfl, ?_⟩
      have hne : e' ≠ see.1 := fun z => by
        cases hals : see.2.2 with
        | true => exact (ok.also see hmem hals).2 (hefin ▸ z)
        | false => exact hlast (sent_iff.mpr ⟨see, hmem, hals, z.symm⟩)
      have hfin : ∀ {b : Bool}, b = false → (if b = true then (tNever { nx := tRet (tTup (tCons (tVar 4) (tCons (tVar 5) (tCons (tVar 6) (tCons (tVar 9) (tCons (tCB (rLen K) (tCons (tVar 7) tNil)) tNil)))))) { nx := fun _ H' => Q .non H', rt := Q }, rt := Q } [some (.ref a), some (.ref s), some (.ref d), some (.ref k), some (.ref p), some (.ref g), some (.bl see.2.2), some (.ref o), some (.ref r), some (.ref ea)] (upd H2 l (.lst []))) else tRet (tTup (tCons (tVar 4) (tCons (tVar 5) (tCons (tVar 6) (tCons (tVar 9) (tCons (tCB (rLen K) (tCons (tVar 7) tNil)) tNil)))))) { nx := fun _ H' => Q .non H', rt := Q } [some (.ref a), some (.ref s), some (.ref d), some (.ref k), some (.ref p), some (.ref g), some (.bl see.2.2), some (.ref o), some (.ref r), some (.ref ea)] (upd H2 l (.lst []))) := fun {b} hb => by
        subst hb
        refine iteF ⟨_, rfl, _, rfl, _, rfl, _, rfl, _, rfl, o, _, rfl, .inl (sqL (s3 _ _ ho)), sz (by show 5 ≤ 100000; decide), fun t nt => ?_⟩
        have st := same_upd nt (o := .tup [.ref p, .ref g, .bl see.2.2, .ref ea, .int ((us0 ++ [V.ref ea]).length : Int)])
        refine q _ _ (see.1, see.2.1, see.2.2, e', ((us0 ++ [V.ref ea]).length : Int)) (s13.trans st) ⟨t, p, g, ea, rfl, upd_same, st _ _ (s13 _ _ hp), st _ _ (s13 _ _ hg), st _ _ hea⟩ rfl rfl rfl hefin
      rcases Bool.eq_false_or_eq_true see.2.2 with hals | hals
      · obtain ⟨vp, hvp⟩ := kk3.has.mpr (ok.also see hmem hals).1
        refine ifT hals ⟨_, rfl, _, rfl, k, _, rfl, DGet.t (k := keysOf see.1) kk3.dat (by rw [keysOf_kV]; exact s13 _ _ hp), _, rfl, ?_⟩
        rw [hvp]
        refine iteF ⟨_, rfl, _, rfl, eq_path ⟨ea, rfl, hea⟩ ⟨p, rfl, s13 _ _ hp⟩ hee.2.2 okp.1.2 ⟨_, rfl, hfin (decide_eq_false hne)⟩⟩
      · refine ifF hals (iteF ⟨_, rfl, _, rfl, eq_path ⟨ea, rfl, hea⟩ ⟨p, rfl, s13 _ _ hp⟩ hee.2.2 okp.1.2 ⟨_, rfl, hfin (decide_eq_false hne)⟩⟩)
end
end PB
/-! PbWays: sees.py: ways -/
namespace PB
open PySem PySem.Spec PyProof.Rows L2 TL

theorem SeesOk.congr {rows : List Row} {ss ss' : List Se} {mu : List Str → Nat} {fin : List Str → List Str} (h : SeesOk rows ss mu fin) (e : ∀ s, s ∈ ss' ↔ s ∈ ss) : SeesOk rows ss' mu fin :=
  ⟨fun s hs => h.p s ((e s).mp hs), fun s hs => h.ne s ((e s).mp hs), fun s hs => h.bare s ((e s).mp hs), fun s hs t ht => h.one s ((e s).mp hs) t ((e t).mp ht), fun s hs => h.dn s ((e s).mp hs), fun s hs => h.few s ((e s).mp hs), fun s hs => h.fi s ((e s).mp hs),
   fun p hp => h.stop p fun z => hp (by
    obtain ⟨s, hs, ha, hp⟩ := sent_iff.mp z
    exact sent_iff.mpr ⟨s, (e s).mpr hs, ha, hp⟩), fun s hs => h.known s ((e s).mp hs), fun s hs => h.also s ((e s).mp hs)⟩
section
variable {P : Program} {w : World} {K : PySem.W.Frag} {mg : Str → Option Value} {base : Heap}
theorem scWays : FnScope ["rows", "sees", "some", "onward", "known", "path", "parts", "see"] ["rows", "sees"] (defScope sWays) := ⟨rfl, rfl, rfl, by decide +kernel, rfl, by decide +kernel, by decide +kernel⟩
def spWays : Sp := fun vs H Q _ => ∃ (r s : Addr) (rows : List Row) (rvs : List V) (ss : List Se) (us : List V) (mu : List Str → Nat) (fin : List Str → List Str), vs = [.ref r, .ref s] ∧ H r = some (.lst rvs) ∧ Paired (fun b y => RRow b y H) rows rvs ∧ (rows.map (·.1)).Nodup ∧ rows.length ≤ 1000 ∧
  H s = some (.lst us) ∧ Paired (fun b y => RSee b y H) ss us ∧ ss.length ≤ 100 ∧ SeesOk rows ss mu fin ∧
  ∀ (H' : Hp) (o : Addr) (fds : List Fd), Same H H' → H o = none → RList RFd fds (.ref o) H' → fds.length ≤ ss.length → (∀ fd ∈ fds, ∃ t ∈ ss, fd.1 = t.1 ∧ fd.2.1 = t.2.1 ∧ fd.2.2.1 = t.2.2 ∧ fd.2.2.2.1 = fin t.2.1) → Q (.ref o) H'
theorem okWays (T : Top K mg) : Def1 P w K mg base 8 "ways" spWays := by
  refine def1 T.fWays scWays (fun vs H Q E h => ?_) (fun _ _ _ _ _ _ us hl => match us, hl with | [_, _], _ => rfl) (fun f cdv A outer s0 H vs Q E hr h => ?_)
  · obtain ⟨r, s, rows, rvs, ss, us, mu, fin, rfl, _⟩ := h
    rfl
  · obtain ⟨r, s, rows, rvs, ss, us, mu, fin, rfl, hrr, prr, hnd, hrz, hs, prs, hsz, ok, q⟩ := h
    refine ⟨_, pss_cons (ps_set (i := 2) scWays.nd rfl (.inr rfl) (pe_f (okPouredSees T) hr (by decide) rfl (pa_cons (pe_lst (pa_cons (pv 1) pa_nil)) pa_nil)))
      (pss_cons (ps_set (i := 3) scWays.nd rfl (.inr rfl) (pe_f (okSenders T) hr (by decide) rfl (pa_cons (pv 2) pa_nil)))
      (pss_cons (ps_set (i := 4) scWays.nd rfl (.inr rfl) pe_dnewT)
      (pss_cons (ps_for PassesOwn.never rfl (pi_list (pv 0)) (pg_tup rfl (pgs_cons (pg_name (i := 5) scWays.nd rfl (.inl rfl)) (pgs_cons (pg_name (i := 6) scWays.nd rfl (.inl rfl)) pgs_nil)))
        (pss_one (ps_dput (hu_of hr) (pv 4) (pv 5) (pe_cmpR (op_neD hr.units) (pv 6) (pe_lst pa_nil) (nomark _)) rfl)))
      (pss_one (ps_ret (pe_lc (own := [("see", 7)]) (g := gName 7) (tt := tYes) rfl scWays.nd (pi_list (pv 2))
        (blkOk_by (own := [("see", 7)]) (N := ["rows", "sees", "some", "onward", "known", "path", "parts", "see"]) (sc := defScope sWays) (by decide +kernel))
        (fun _ _ _ _ _ => pg_name (i := 7) scWays.nd rfl (Or.inl rfl)) (fun _ _ _ _ _ => pts_nil)
        (fun _ _ _ _ _ => pe_f (okLookedAt T) hr (by decide) rfl (pa_cons (pv 7) (pa_cons (pv 2) (pa_cons (pv 3) (pa_cons (pv 4) pa_nil))))))))))), ?_⟩
    refine ⟨_, rfl, sz (by show 1 ≤ 100000; decide), fun l nl => ?_⟩
    have sl : Same H (upd H l (.lst [.ref s])) := same_upd nl
    refine ⟨l, s, ss, us, rfl, upd_same, sl _ _ hs, Paired.monoR mono_see sl prs, by omega, fun t ht => ?_, fun H1 o us2 ss2 s1 no ho pr2 hmem hlen => ?_⟩
    · have := ok.p t ht
      exact ⟨⟨this.1.1, this.2.1⟩, this.1.2, this.2.2⟩
    have ok2 := ok.congr hmem
    refine ⟨_, rfl, o, ss2, us2, rfl, ho, pr2, by omega, fun H2 d kvs s2 nd ki => ?_⟩
    refine fun k nk => ?_
    have sk : Same H2 (upd H2 k (.dT [])) := same_upd nk
    have s01 := sl.trans s1
    have s02 := s01.trans s2
    have hdk : d ≠ k := ne_of_none ki.dat nk
    have ki2 := ki.same mono_path sk
    refine ⟨_, rfl, r, rfl, ⟨_, sqL (sk _ _ (s02 _ _ hrr))⟩, ?_⟩
    refine for_it (walk_list (xs := rvs)) (fun i σ H3 => ∃ (kvk : List (List Key × V)) (y5 y6 : Option V), σ = [some (.ref r), some (.ref s), some (.ref o), some (.ref d), some (.ref k), y5, y6, none] ∧ Same H2 H3 ∧ KInv RBl (fun p => !(partsOf rows p).isEmpty) H3 k kvk ((rows.take i).map (·.1))) ⟨[], none, none, rfl, sk, KInv.none upd_same⟩ (fun i σ H3 hi hp => ?_) (fun i x σ H3 H4 hi hp hy => ?_) (fun σ H3 hp => ?_)
    · obtain ⟨_, _, _, _, sm, _⟩ := hp
      exact sqL (sm _ _ (s02 _ _ hrr))
    · obtain ⟨kvk, y5, y6, rfl, sm, kk⟩ := hp
      obtain ⟨rfl, hx⟩ := hy
      obtain ⟨rw', hr0, rr⟩ := pr_get2 prr hx
      have hnk : H2 k = none := nk
      obtain ⟨a, q1, l2, rfl, ha, hq1, hl⟩ := mono_row _ _ _ _ (s02.trans sm) rr
      obtain ⟨lx, gvs, e, hlx, pg⟩ := hl
      cases e
      have et : rows.take (i + 1) = rows.take i ++ [rw'] := by rw [List.take_add_one, hr0]; rfl
      have hkl := kk.len
      rw [List.length_map, List.length_take] at hkl
      refine ⟨a, _, rfl, sqT ha, rfl, _, _, rfl, _, _, rfl, rfl, _, rfl, Nat.zero_le _, fun e ne => ?_⟩
      have se : Same H4 (upd H4 e (.lst [])) := same_upd ne
      refine ne_nilB (n := 2) rw'.2.isEmpty (by cases rw'.2 <;> rfl) (.lst (sqL (se _ _ hlx)) (dp_pair (fun b v h => dp_pg h) (Paired.monoR mono_pg se pg))) upd_same (low_list fun d hd => by obtain ⟨x, _, rfl⟩ := List.mem_map.mp hd; exact low_pg x) (by decide) ?_
      refine ⟨_, rfl, _, rfl, k, _, rfl, DPut.t (k := keysOf rw'.1) (se _ _ kk.dat) (by rw [keysOf_kV]; exact se _ _ hq1) (szlt (by omega)), ?_⟩
      refine ⟨putK kvk (keysOf rw'.1) (.bl (!rw'.2.isEmpty)), _, _, rfl, same_upd2 hnk (sm.trans se), ?_⟩
      rw [et, List.map_append]
      refine (kk.same mono_bl se).put ?_
      rw [partsOf_mem hnd (List.mem_of_getElem? hr0)]
      exact rfl
    · obtain ⟨kvk, y5, y6, rfl, sm, kk⟩ := hp
      rw [← Paired.length prr, List.take_length] at kk
      have ki3 := ki.same mono_path sm
      have so3 := s2.trans sm
      have s03 := s01.trans so3
      refine ⟨_, rfl, o, rfl, ⟨_, sqL (so3 _ _ ho)⟩, fun D hD => ?_⟩
      refine lc_m (walk_list (xs := us2)) ss2 (fun t => t) (fun t v H => ∃ fd : Fd, RFd fd v H ∧ fd.1 = t.1 ∧ fd.2.1 = t.2.1 ∧ fd.2.2.1 = t.2.2 ∧ fd.2.2.2.1 = fin t.2.1) (fun _ _ _ _ e ⟨fd, h1, h2⟩ => ⟨fd, mono_fd _ _ _ _ e h1, h2⟩) (Paired.length pr2) (by rw [← Paired.length pr2]; omega) hD (fun H6 s6 => sqL (s6 _ _ (so3 _ _ ho))) (fun i t x H6 H7 Kn ht sm6 hacc hy kn => ?_) gName_mono (fun H6 vs sm6 hD6 pv => ?_)
      · obtain ⟨rfl, hx⟩ := hy
        obtain ⟨x', hx', rs⟩ := pr_get pr2 ht
        rw [hx] at hx'
        cases hx'
        have s36 := so3.trans sm6
        obtain ⟨acc, hacc⟩ := hacc
        refine ⟨rfl, _, rfl, _, rfl, _, rfl, _, rfl, x, o, d, k, t, ss2, us2, kvs, kvk, rows, mu, fin, rfl, mono_see _ _ _ _ s36 rs, List.mem_of_getElem? ht, s36 _ _ ho, Paired.monoR mono_see s36 pr2, ki3.same mono_path sm6, kk.same mono_bl sm6, ok2, fun H8 v fd s8 rf h1 h2 h3 h4 => kn _ _ s8 ⟨fd, fd_t (tsame_erase (s8 _ _ hacc)) rf, h1, h2, h3, h4⟩⟩
      · rw [List.map_id'] at pv
        obtain ⟨lps, elp, plp⟩ := pr_pairs pv
        have pl1 : Paired (fun (b : Fd) y => RFd b y H6) (lps.map (·.2)) vs := pr_map (L2.Paired.mapP plp fun r v h => mono_fd _ _ _ _ (erase_same _ _) h.1)
        refine q H6 D (lps.map (·.2)) (s03.trans sm6) (Same.free s03 hD) ⟨D, vs, rfl, hD6, pl1⟩ ?_ (fun fd hfd => ?_)
        · have := congrArg List.length elp
          rw [List.length_map] at this
          rw [List.length_map]
          omega
        · obtain ⟨r', hr', rfl⟩ := List.mem_map.mp hfd
          obtain ⟨v, _, h⟩ := pr_mem plp hr'
          have hm : r'.1 ∈ ss2 := by rw [← elp]; exact List.mem_map.mpr ⟨r', hr', rfl⟩
          exact ⟨r'.1, (hmem _).mp hm, h.2⟩
end
end PB
/-! PbLaw1: the law's small defs: cells, heads, paths, book, settings, marks -/
namespace PB
open PySem PySem.Spec PyProof.Rows L2 TL

def SIGNS : Str := Str.ofString "abcdefghijklmnopqrstuvwxyzABCDEFGHIJKLMNOPQRSTUVWXYZ0123456789-"
def signAt (i : Int) : Nat := (tl SIGNS).getD i.toNat 0
def baseJ (c : Int) (j : Nat) : Nat := signAt ((c / ((j : Int) + 5) + 7 * (j : Int) * (j : Int)) % 63)
def baseL (c : Int) : List Nat := (List.range (1 + c % 3).toNat).map (baseJ c)
def atL (c : Int) : Nat := (c / 15 % ((baseL c).length + 1)).toNat
def headX (c : Int) (d : Nat) : List Nat := (baseL c).take (atL c) ++ numL d ++ (baseL c).drop (atL c)
def wayN (c : Int) (d : Nat) : Int := (c / 240 + (d : Int)) % 6
def wayL (w : Int) (b x : List Nat) : List Nat := if w = 1 then x ++ ([124] ++ b) else if w = 5 then x ++ ([124] ++ (b ++ ([32] ++ b))) else if w = 2 then b ++ ([32] ++ x) else if w = 3 then [45] ++ x else x
def headL (c : Int) (k : Nat) : List Nat := wayL (wayN c (k / 2)) (baseL c) (headX c (k / 2)) ++ (if k % 2 = 1 then [45] else [])
def headBy (c : Int) (k : Nat) : Str := ⟨(headL c k).toArray⟩

theorem baseL_len (c : Int) : 1 ≤ (baseL c).length ∧ (baseL c).length ≤ 3 := by
  unfold baseL
  rw [List.length_map, List.length_range]
  omega
theorem atL_le (c : Int) : atL c ≤ (baseL c).length := by
  unfold atL
  have := Int.emod_lt_of_pos (c / 15) (show (0 : Int) < (baseL c).length + 1 by omega)
  omega
theorem numL_short {d : Nat} (h : d < 100) : (numL d).length ≤ 2 := numL_len (by decide) (by omega)
theorem headX_len {c : Int} {d : Nat} (h : d < 100) : (headX c d).length ≤ 5 := by
  unfold headX
  have h1 := baseL_len c
  have h2 := numL_short h
  rw [List.length_append, List.length_append, List.length_take, List.length_drop]
  omega
theorem headL_len {c : Int} {k : Nat} (h : k < 200) : (headL c k).length ≤ 20 := by
  unfold headL wayL
  have h1 := baseL_len c
  have h2 := headX_len (c := c) (d := k / 2) (by omega)
  rw [List.length_append]
  have h3 : (if k % 2 = 1 then [45] else [] : List Nat).length ≤ 1 := by split <;> simp
  split
  · simp only [List.length_append, List.length_cons, List.length_nil]; omega
  · split
    · simp only [List.length_append, List.length_cons, List.length_nil]; omega
    · split
      · simp only [List.length_append, List.length_cons, List.length_nil]; omega
      · split
        · simp only [List.length_append, List.length_cons, List.length_nil]; omega
        · omega
theorem signAt_get {i : Int} (h0 : 0 ≤ i) (h1 : i < 63) : SIGNS.cps[i.toNat]? = some (signAt i) := by
  have e : SIGNS.cps.toList.length = 63 := by decide +kernel
  unfold signAt
  rw [← Array.getElem?_toList, List.getD_eq_getElem?_getD, List.getElem?_eq_getElem (show i.toNat < SIGNS.cps.toList.length by omega)]
  rfl
theorem tl_cut_take (l : List Nat) (n : Nat) (h : n ≤ l.length) : tl (cutS ⟨l.toArray⟩ none (some (n : Int))) = l.take n := by
  unfold cutS
  have e : (⟨l.toArray⟩ : Str).length = l.length := by rw [len_tl]
  rw [tl_mk, e, HT.sIx_none, HT.sIx_nat, List.drop_zero, Nat.sub_zero, Nat.min_eq_left h]
theorem tl_cut_drop (l : List Nat) (n : Nat) (h : n ≤ l.length) : tl (cutS ⟨l.toArray⟩ (some (n : Int)) none) = l.drop n := by
  unfold cutS
  have e : (⟨l.toArray⟩ : Str).length = l.length := by rw [len_tl]
  rw [tl_mk, e, HT.sIx_none, HT.sIx_nat, Nat.min_eq_left h]
  exact List.take_of_length_le (by rw [List.length_drop]; exact Nat.le_refl _)
theorem tl_cut_3 (l : List Nat) (h : l.length ≤ 3) : tl (cutS ⟨l.toArray⟩ none (some 3)) = l := by
  unfold cutS
  have e : (⟨l.toArray⟩ : Str).length = l.length := by rw [len_tl]
  rw [tl_mk, e, HT.sIx_none, show (some (3 : Int)) = some ((3 : Nat) : Int) from rfl, HT.sIx_nat, List.drop_zero]
  exact List.take_of_length_le (by show l.length ≤ _; omega)

theorem shareA {α : Type} {C G : α → Prop} {R : Prop} (f : (∀ a, C a → G a) → R) (h : ∀ a, C a → G a) : R := f h
section
variable {P : Program} {w : World} {K : PySem.W.Frag} {mg : Str → Option Value} {base : Heap}
/-! PbLaw1: ### _law_cell_at -/
theorem scCellAt : FnScope ["_law_script", "_law_k"] ["_law_script", "_law_k"] (defScope sCellAt) := ⟨rfl, rfl, rfl, by decide +kernel, rfl, by decide +kernel, by decide +kernel⟩
def spCellAt (K : PySem.W.Frag) : Sp := fun vs H Q _ => ∃ (a : Addr) (ns : List Int), vs = [.ref a, .int 0] ∧ SqL K H a (ns.map V.int) ∧ Q (.int (ns.headD 0)) H
theorem okCellAt (T : Top K mg) : Def1 P w K mg base 1 "_law_cell_at" (spCellAt K) := by
  refine def1 T.fCellAt scCellAt (fun vs H Q E h => ?_) (fun _ _ _ _ _ _ us hl => match us, hl with | [_, _], _ => rfl) (fun f cdv A outer s H vs Q E hr h => ?_)
  · obtain ⟨a, ns, rfl, _⟩ := h
    rfl
  · obtain ⟨a, ns, rfl, hS, q⟩ := h
    refine ⟨_, pss_cons (ps_if (pt_cmpR op_lt (pv 1) (pe_callB call_len_seq (by rfl) T.len PySem.boot_len (pa_cons (pv 0) pa_nil)) (nomark _)) (pss_one (ps_ret (pe_ix ix_list (pv 0) (pv 1) (fun _ _ => rfl)))) pss_nil)
      (pss_one (ps_ret pe_int)), ?_⟩
    refine ⟨_, rfl, _, rfl, a, _, rfl, .inl hS, 0, _, rfl, rfl, _, rfl, ?_⟩
    cases ns with
    | nil =>
      refine ite2 (fun e => ?_) (fun _ => q)
      exact absurd (of_decide_eq_true e) (by simp)
    | cons n ns =>
      refine ite2 (fun _ => ?_) (fun e => ?_)
      · exact ⟨_, rfl, _, rfl, a, _, 0, .int n, rfl, rfl, hS, atI_nat (j := 0) rfl, q⟩
      · exact absurd (decide_eq_true (by simp)) e
/-! PbLaw1: ### _law_head_by -/
theorem scHeadBy : FnScope ["_law_cell", "_law_k", "_law_signs", "_law_base", "_law_j", "_law_at", "_law_head", "_law_way"] ["_law_cell", "_law_k"] (defScope sHeadBy) := ⟨rfl, rfl, rfl, by decide +kernel, rfl, by decide +kernel, by decide +kernel⟩
def spHeadBy : Sp := fun vs H Q _ => ∃ (c : Int) (k : Nat), vs = [.int c, .int (k : Int)] ∧ k < 200 ∧ Q (.str (headBy c k)) H
theorem okHeadBy (T : Top K mg) : Def1 P w K mg base 1 "_law_head_by" spHeadBy := by
  refine def1 T.fHeadBy scHeadBy (fun vs H Q E h => ?_) (fun _ _ _ _ _ _ us hl => match us, hl with | [_, _], _ => rfl) (fun f cdv A outer s H vs Q E hr h => ?_)
  · obtain ⟨c, k, rfl, _⟩ := h
    rfl
  · obtain ⟨c, k, rfl, hk, q⟩ := h
    refine ⟨_, pss_cons (ps_set (i := 2) scHeadBy.nd rfl (.inl rfl) pe_str)
      (pss_cons (ps_set (i := 3) scHeadBy.nd rfl (.inl rfl) pe_str)
      (pss_cons (ps_for PassesOwn.never rfl (pi_range1 rfl T.range (pa_cons (pe_op op_add pe_int (pe_op op_mod (pv 0) pe_int)) pa_nil)) (pg_name (i := 4) scHeadBy.nd rfl (.inl rfl))
        (pss_one (ps_set (i := 3) scHeadBy.nd rfl (.inl rfl) (pe_op op_add_str (pv 3) (pe_item_str (pv 2) (pe_op op_mod (pe_op op_add (pe_op op_fdiv (pv 0) (pe_op op_add (pv 4) pe_int)) (pe_op op_mul (pe_op op_mul pe_int (pv 4)) (pv 4))) pe_int) (fun _ _ => rfl))))))
      (pss_cons (ps_set (i := 5) scHeadBy.nd rfl (.inl rfl) (pe_op op_mod (pe_op op_fdiv (pv 0) pe_int) (pe_op op_add (pe_callB call_len_str (by rfl) T.len PySem.boot_len (pa_cons (pv 3) pa_nil)) pe_int)))
      (pss_cons (ps_set (i := 6) scHeadBy.nd rfl (.inl rfl) (pe_op op_add_str (pe_op op_add_str (pe_slice sl_str (pv 3) po_none (po_some (pv 5))) (pe_callTy call_str_int (by rfl) T.str (by decide +kernel) (pa_cons (pe_op op_fdiv (pv 1) pe_int) pa_nil))) (pe_slice sl_str (pv 3) (po_some (pv 5)) po_none)))
      (pss_cons (ps_set (i := 7) scHeadBy.nd rfl (.inl rfl) (pe_op op_mod (pe_op op_add (pe_op op_fdiv (pv 0) pe_int) (pe_op op_fdiv (pv 1) pe_int)) pe_int))
      (pss_cons (ps_if (pt_cmpR op_eq (pv 7) pe_int (nomark _)) (pss_one (ps_set (i := 6) scHeadBy.nd rfl (.inl rfl) (pe_op op_add_str (pe_op op_add_str (pv 6) pe_str) (pv 3)))) pss_nil)
      (pss_cons (ps_if (pt_cmpR op_eq (pv 7) pe_int (nomark _)) (pss_one (ps_set (i := 6) scHeadBy.nd rfl (.inl rfl) (pe_op op_add_str (pe_op op_add_str (pe_op op_add_str (pe_op op_add_str (pv 6) pe_str) (pe_slice sl_str (pv 3) po_none (po_some pe_int))) pe_str) (pe_slice sl_str (pv 3) po_none (po_some pe_int))))) pss_nil)
      (pss_cons (ps_if (pt_cmpR op_eq (pv 7) pe_int (nomark _)) (pss_one (ps_set (i := 6) scHeadBy.nd rfl (.inl rfl) (pe_op op_add_str (pe_op op_add_str (pv 3) pe_str) (pv 6)))) pss_nil)
      (pss_cons (ps_if (pt_cmpR op_eq (pv 7) pe_int (nomark _)) (pss_one (ps_set (i := 6) scHeadBy.nd rfl (.inl rfl) (pe_op op_add_str pe_str (pv 6)))) pss_nil)
      (pss_cons (ps_if (pt_cmpR op_eq (pe_op op_mod (pv 1) pe_int) pe_int (nomark _)) (pss_one (ps_ret (pe_op op_add_str (pv 6) pe_str))) pss_nil)
      (pss_one (ps_ret (pv 6))))))))))))), ?_⟩
    have hbl := baseL_len c
    have hm3 : 0 ≤ c % 3 ∧ c % 3 < 3 := by omega
    refine ⟨_, rfl, c, 3, rfl, rfl, (by show (0 : Int) < 3; decide), 1, c % 3, rfl, rfl, 1 + c % 3, rfl, by omega, by omega, ?_⟩
    have hsl : SIGNS.length = 63 := by decide +kernel
    refine for_it walk_range (fun i σ H1 => ∃ y4 : Option V, σ = [some (.int c), some (.int (k : Int)), some (.str SIGNS), some (.str ⟨((List.range i).map (baseJ c)).toArray⟩), y4, none, none, none] ∧ H1 = H) ⟨none, rfl, rfl⟩ (fun _ _ _ _ _ => trivial) (fun j x σ H1 H2 hj hp hy => ?_) (fun σ H1 hp => ?_)
    · obtain ⟨y4, rfl, rfl⟩ := hp
      obtain ⟨rfl, hx⟩ := hy
      have hx : x = .int (j : Int) := hx.trans (congrArg V.int (by omega))
      subst hx
      have hj3 : j < 3 := by omega
      have h1 := Int.emod_nonneg (c / ((j : Int) + 5) + 7 * (j : Int) * (j : Int)) (show (63 : Int) ≠ 0 by decide)
      have h2 := Int.emod_lt_of_pos (c / ((j : Int) + 5) + 7 * (j : Int) * (j : Int)) (show (0 : Int) < 63 by decide)
      refine ⟨_, rfl, _, rfl, _, rfl, _, rfl, (j : Int), 5, rfl, rfl, c, (j : Int) + 5, rfl, rfl, ⟨by omega, by omega⟩, _, rfl, 7, (j : Int), rfl, rfl, .inl ⟨by omega, by omega⟩, _, rfl, 7 * (j : Int), (j : Int), rfl, rfl, .inl ⟨by omega, by omega⟩, _, _, rfl, rfl, _, 63, rfl, rfl, (by show (0 : Int) < 63; decide), SIGNS, _, signAt ((c / ((j : Int) + 5) + 7 * (j : Int) * (j : Int)) % 63), rfl, rfl, h1, by omega, by rw [hsl]; exact h2, signAt_get h1 h2, _, _, rfl, rfl, ?_, ?_⟩
      · refine sz ?_
        show Array.size _ + 1 ≤ _
        rw [List.size_toArray, List.length_map, List.length_range]
        omega
      · refine ⟨some (.int (j : Int)), ?_, rfl⟩
        have e : (⟨((List.range j).map (baseJ c)).toArray⟩ : Str) ++ ⟨#[signAt ((c / ((j : Int) + 5) + 7 * (j : Int) * (j : Int)) % 63)]⟩ = ⟨((List.range (j + 1)).map (baseJ c)).toArray⟩ := by
          refine ext_tl ?_
          rw [tl_append, tl_mk, tl_mk, List.range_succ, List.map_append]
          rfl
        rw [← e]
        rfl
    · obtain ⟨y4, rfl, rfl⟩ := hp
      have eb : (List.range (1 + c % 3).toNat).map (baseJ c) = baseL c := rfl
      have hal := atL_le c
      have hat : c / 15 % (((⟨(baseL c).toArray⟩ : Str).length : Int) + 1) = ((atL c : Nat) : Int) := by
        have e : (⟨(baseL c).toArray⟩ : Str).length = (baseL c).length := by rw [len_tl]
        rw [e]
        unfold atL
        have := Int.emod_nonneg (c / 15) (show ((baseL c).length : Int) + 1 ≠ 0 by omega)
        omega
      have hlb : (⟨(baseL c).toArray⟩ : Str).length = (baseL c).length := by rw [len_tl]
      have hkd : (k : Int) / 2 = ((k / 2 : Nat) : Int) := by omega
      have hnl := numL_short (d := k / 2) (by omega)
      rw [eb]
      refine ⟨_, rfl, c, 15, rfl, rfl, ⟨by decide, by decide⟩, _, rfl, _, rfl, sz (by rw [hlb]; omega), _, 1, rfl, rfl, _, _, rfl, rfl, (by show (0 : Int) < _; omega), ?_⟩
      show gName 5 (V.int (c / 15 % (((⟨(baseL c).toArray⟩ : Str).length : Int) + 1))) _ _ _
      rw [hat]
      have hxl := headX_len (c := c) (d := k / 2) (by omega)
      have lt : ∀ x : Str, x.length = (tl x).length := len_tl
      have e1 := tl_cut_take (baseL c) (atL c) hal
      have e2 := tl_cut_drop (baseL c) (atL c) hal
      have e3 := tl_cut_3 (baseL c) hbl.2
      have en : tl (Str.ofString (toString ((k : Int) / 2))) = numL (k / 2) := by rw [hkd]; exact tl_num _
      refine ⟨_, rfl, _, rfl, _, rfl, ⟨(baseL c).toArray⟩, rfl, sz (by rw [hlb]; omega), _, rfl, (k : Int), 2, rfl, rfl, ⟨by decide, by decide⟩, _, rfl, ?_, _, _, rfl, rfl, ?_, ?_⟩
      · have : ((k : Int) / 2).natAbs < 100 := by omega
        by_cases e : ((k : Int) / 2).natAbs = 0
        · rw [e]; decide
        · rw [Nat.log2_lt e]
          exact Nat.lt_of_lt_of_le this (Nat.le_trans (show 100 ≤ 2 ^ 7 by decide) (Nat.pow_le_pow_right (by decide) (by decide)))
      · rw [lt, lt, e1]
        refine sz ?_
        have h9 : (tl (Str.ofString (toString ((k : Int) / 2)))).length ≤ 2 := by rw [en]; exact hnl
        have : ((baseL c).take (atL c)).length ≤ (baseL c).length := by rw [List.length_take]; omega
        show ((baseL c).take (atL c)).length + (tl (Str.ofString (toString ((k : Int) / 2)))).length ≤ _
        omega
      refine ⟨_, rfl, _, rfl, _, rfl, ⟨(baseL c).toArray⟩, rfl, sz (by rw [hlb]; omega), _, _, rfl, rfl, ?_, ?_⟩
      · rw [app_len, lt, lt, lt, e1, e2]
        refine sz ?_
        have h9 : (tl (Str.ofString (toString ((k : Int) / 2)))).length ≤ 2 := by rw [en]; exact hnl
        have h8 : ((baseL c).take (atL c)).length ≤ (baseL c).length := by rw [List.length_take]; omega
        have h7 : ((baseL c).drop (atL c)).length ≤ (baseL c).length := by rw [List.length_drop]; omega
        show ((baseL c).take (atL c)).length + (tl (Str.ofString (toString ((k : Int) / 2)))).length + ((baseL c).drop (atL c)).length ≤ _
        omega
      have e0 : tl (cutS ⟨(baseL c).toArray⟩ none (some ((atL c : Nat) : Int)) ++ Str.ofString (toString ((k : Int) / 2)) ++ cutS ⟨(baseL c).toArray⟩ (some ((atL c : Nat) : Int)) none) = headX c (k / 2) := by
        rw [tl_append, tl_append, e1, e2, en]
        rfl
      revert e0
      show tl (cutS ⟨(baseL c).toArray⟩ none (some ((atL c : Nat) : Int)) ++ Str.ofString (toString ((k : Int) / 2)) ++ cutS ⟨(baseL c).toArray⟩ (some ((atL c : Nat) : Int)) none) = headX c (k / 2) → gName 6 (V.str (cutS ⟨(baseL c).toArray⟩ none (some ((atL c : Nat) : Int)) ++ Str.ofString (toString ((k : Int) / 2)) ++ cutS ⟨(baseL c).toArray⟩ (some ((atL c : Nat) : Int)) none)) [some (.int c), some (.int (k : Int)), some (.str SIGNS), some (.str ⟨(baseL c).toArray⟩), y4, some (.int ((atL c : Nat) : Int)), none, none] H1 _
      generalize cutS ⟨(baseL c).toArray⟩ none (some ((atL c : Nat) : Int)) ++ Str.ofString (toString ((k : Int) / 2)) ++ cutS ⟨(baseL c).toArray⟩ (some ((atL c : Nat) : Int)) none = h0
      intro e0
      have hl0 : h0.length ≤ 5 := by rw [lt, e0]; exact hxl
      have hle : ∀ j : Nat, j < 100 → j < 100 := fun _ h => h
      refine ⟨_, rfl, c, 240, rfl, rfl, ⟨by decide, by decide⟩, _, rfl, (k : Int), 2, rfl, rfl, ⟨by decide, by decide⟩, _, _, rfl, rfl, _, 6, rfl, rfl, (by show (0 : Int) < 6; decide), ?_⟩
      show gName 7 (V.int ((c / 240 + (k : Int) / 2) % 6)) _ _ _
      rw [hkd]
      show gName 7 (V.int (wayN c (k / 2))) _ _ _
      have hw6 : 0 ≤ wayN c (k / 2) ∧ wayN c (k / 2) < 6 := by unfold wayN; omega
      have hq : headBy c k = ⟨(wayL (wayN c (k / 2)) (baseL c) (headX c (k / 2)) ++ (if k % 2 = 1 then [45] else [])).toArray⟩ := rfl
      rw [hq] at q
      revert hw6 q
      clear hq
      generalize wayN c (k / 2) = w
      intro q hw6
      have c124 : tl (Str.ofString "|") = [124] := by decide
      have c32 : tl (Str.ofString " ") = [32] := by decide
      have c45 : tl (Str.ofString "-") = [45] := by decide
      have l124 : (Str.ofString "|").length = 1 := by decide
      have l32 : (Str.ofString " ").length = 1 := by decide
      have l45 : (Str.ofString "-").length = 1 := by decide
      have lc3 : (cutS ⟨(baseL c).toArray⟩ none (some 3)).length ≤ 3 := by rw [lt, e3]; exact hbl.2
      have no : ∀ {i j : Int}, i ≠ j → decide (V.int i = V.int j) = false := fun h => decide_eq_false fun z => h (V.int.inj z)
      have yes : ∀ {i j : Int}, i = j → decide (V.int i = V.int j) = true := fun h => decide_eq_true (congrArg V.int h)
      have fin : ∀ h7 : Str, (h7.length ≤ 30 ∧ tl h7 = wayL w (baseL c) (headX c (k / 2))) → tSeq (tIfS (tTest (tOp rEq (tOp (rI (fun _ j => 0 < j) fun i j => V.int (i % j)) (tVar 1) (tC (V.int 2))) (tC (V.int 1)))) (tRet (tOp (fun x y H Q => ∃ i j, x = V.str i ∧ y = V.str j ∧ i.length + j.length ≤ sizeLine ∧ Q (V.str (i ++ j)) H) (tVar 6) (tC (V.str (Str.ofString "-"))))) tNext) (tRet (tVar 6)) { nx := fun _ H' => Q V.non H', rt := Q }
          [some (.int c), some (.int (k : Int)), some (.str SIGNS), some (.str ⟨(baseL c).toArray⟩), y4, some (.int ((atL c : Nat) : Int)), some (.str h7), some (.int w)] H1 := by
        rintro h7 ⟨hl7, e7⟩
        refine ⟨_, rfl, (k : Int), 2, rfl, rfl, (by show (0 : Int) < 2; decide), rfl, _, rfl, ?_⟩
        by_cases hk2 : k % 2 = 1
        · rw [if_pos hk2] at q
          refine ifT (yes (by omega)) ⟨_, rfl, _, _, rfl, rfl, sz (by omega), ?_⟩
          have e : h7 ++ Str.ofString "-" = ⟨(wayL w (baseL c) (headX c (k / 2)) ++ [45]).toArray⟩ := ext_tl (by rw [tl_append, e7, c45, tl_mk])
          rw [← e] at q
          exact q
        · rw [if_neg hk2, List.append_nil] at q
          refine ifF (no (by omega)) ⟨_, rfl, ?_⟩
          have e : h7 = ⟨(wayL w (baseL c) (headX c (k / 2))).toArray⟩ := ext_tl (by rw [e7, tl_mk])
          rw [← e] at q
          exact q
      by_cases hd : w ≠ 1 ∧ w ≠ 5 ∧ w ≠ 2 ∧ w ≠ 3
      · refine ⟨_, rfl, rfl, _, rfl, ifF (no hd.1) ⟨_, rfl, rfl, _, rfl, ifF (no hd.2.1) ⟨_, rfl, rfl, _, rfl, ifF (no hd.2.2.1) ⟨_, rfl, rfl, _, rfl, ifF (no hd.2.2.2) ?_⟩⟩⟩⟩
        refine fin h0 ⟨by omega, ?_⟩
        rw [e0]
        unfold wayL
        rw [if_neg hd.1, if_neg hd.2.1, if_neg hd.2.2.1, if_neg hd.2.2.2]
      · by_cases w1 : w = 1
        · refine ⟨_, rfl, rfl, _, rfl, ifT (yes w1) ⟨_, rfl, _, _, rfl, rfl, sz (by omega), _, rfl, _, _, rfl, rfl, sz (by rw [app_len]; omega), ?_⟩⟩
          refine ⟨_, rfl, rfl, _, rfl, ifF (no (by omega)) ⟨_, rfl, rfl, _, rfl, ifF (no (by omega)) ⟨_, rfl, rfl, _, rfl, ifF (no (by omega)) ?_⟩⟩⟩
          refine fin (h0 ++ Str.ofString "|" ++ ⟨(baseL c).toArray⟩) ⟨by rw [app_len, app_len]; omega, ?_⟩
          unfold wayL
          rw [if_pos w1, tl_append, tl_append, e0, c124, tl_mk, List.append_assoc]
        · refine ⟨_, rfl, rfl, _, rfl, ifF (no w1) ?_⟩
          by_cases w5 : w = 5
          · refine ⟨_, rfl, rfl, _, rfl, ifT (yes w5) ⟨_, rfl, _, _, rfl, rfl, sz (by omega), _, rfl, 3, rfl, ⟨(baseL c).toArray⟩, rfl, sz (by omega), _, _, rfl, rfl, sz (by rw [app_len]; omega), _, _, rfl, rfl, sz (by rw [app_len, app_len]; omega), _, rfl, 3, rfl, ⟨(baseL c).toArray⟩, rfl, sz (by omega), _, _, rfl, rfl, sz (by rw [app_len, app_len, app_len]; omega), ?_⟩⟩
            refine ⟨_, rfl, rfl, _, rfl, ifF (no (by omega)) ⟨_, rfl, rfl, _, rfl, ifF (no (by omega)) ?_⟩⟩
            refine fin (h0 ++ Str.ofString "|" ++ cutS ⟨(baseL c).toArray⟩ none (some 3) ++ Str.ofString " " ++ cutS ⟨(baseL c).toArray⟩ none (some 3)) ⟨by rw [app_len, app_len, app_len, app_len]; omega, ?_⟩
            unfold wayL
            rw [if_neg w1, if_pos w5, tl_append, tl_append, tl_append, tl_append, e0, e3, c124, c32]
            simp only [List.append_assoc]
          · refine ⟨_, rfl, rfl, _, rfl, ifF (no w5) ?_⟩
            by_cases w2 : w = 2
            · refine ⟨_, rfl, rfl, _, rfl, ifT (yes w2) ⟨_, rfl, _, _, rfl, rfl, sz (by omega), _, rfl, _, _, rfl, rfl, sz (by rw [app_len]; omega), ?_⟩⟩
              refine ⟨_, rfl, rfl, _, rfl, ifF (no (by omega)) ?_⟩
              refine fin (⟨(baseL c).toArray⟩ ++ Str.ofString " " ++ h0) ⟨by rw [app_len, app_len]; omega, ?_⟩
              unfold wayL
              rw [if_neg w1, if_neg w5, if_pos w2, tl_append, tl_append, e0, c32, tl_mk, List.append_assoc]
            · have w3 : w = 3 := Classical.byContradiction fun w3 => hd ⟨w1, w5, w2, w3⟩
              refine ⟨_, rfl, rfl, _, rfl, ifF (no w2) ⟨_, rfl, rfl, _, rfl, ifT (yes w3) ⟨_, rfl, _, _, rfl, rfl, sz (by omega), ?_⟩⟩⟩
              refine fin (Str.ofString "-" ++ h0) ⟨by rw [app_len]; omega, ?_⟩
              unfold wayL
              rw [if_neg w1, if_neg w5, if_neg w2, if_pos w3, tl_append, e0, c45]
end
end PB
/-! PbLaw2: the law's small defs: paths, book, settings, marks -/
namespace PB
open PySem PySem.Spec PyProof.Rows L2 TL

/-- a path of the marks: one to six heads of the first kinds -/
structure MPath (by_ : Int) (p : List Str) : Prop where
  ne : p ≠ []
  few : p.length ≤ 6
  hd : ∀ h ∈ p, ∃ k, k < 6 ∧ h = headBy by_ k
structure MarkOk (by_ : Int) (many : Nat) (m : Mk) : Prop where
  p : MPath by_ m.1
  lo : 0 ≤ m.2.1
  le : m.2.1 ≤ m.2.2.1
  hi : m.2.2.1 < many
section
variable {P : Program} {w : World} {K : PySem.W.Frag} {mg : Str → Option Value} {base : Heap}
/-! PbLaw2: ### _law_path_by -/
theorem scPathBy : FnScope ["_law_number", "_law_by", "_law_many", "_law_j"] ["_law_number", "_law_by"] (defScope sPathBy) := ⟨rfl, rfl, rfl, by decide +kernel, rfl, by decide +kernel, by decide +kernel⟩
def spPathBy : Sp := fun vs H Q _ => ∃ (n by_ : Int), vs = [.int n, .int by_] ∧ ∀ (H' : Hp) (v : V) (p : List Str), Same H H' → RPath p v H' → MPath by_ p → Q v H'
theorem many_mem {i : Int} (h0 : 0 ≤ i) (h1 : i < 6) : ∃ m : Nat, 1 ≤ m ∧ m ≤ 6 ∧ atI [V.int 1, .int 1, .int 2, .int 3, .int 2, .int 6] i = some (.int (m : Int)) := by
  have : i = 0 ∨ i = 1 ∨ i = 2 ∨ i = 3 ∨ i = 4 ∨ i = 5 := by omega
  rcases this with rfl | rfl | rfl | rfl | rfl | rfl
  · exact ⟨1, by decide, by decide, rfl⟩
  · exact ⟨1, by decide, by decide, rfl⟩
  · exact ⟨2, by decide, by decide, rfl⟩
  · exact ⟨3, by decide, by decide, rfl⟩
  · exact ⟨2, by decide, by decide, rfl⟩
  · exact ⟨6, by decide, by decide, rfl⟩
theorem pr_nat {R : Nat → V → Prop} : ∀ {n : Nat} {ys : List V}, Paired R (List.range n) ys → ∀ y ∈ ys, ∃ j, j < n ∧ R j y := fun {n ys} h y hy => by
  obtain ⟨j, hj, r⟩ := pr_mem2 h hy
  exact ⟨j, List.mem_range.mp hj, r⟩
theorem okPathBy (T : Top K mg) : Def1 P w K mg base 2 "_law_path_by" spPathBy := by
  refine def1 T.fPathBy scPathBy (fun vs H Q E h => ?_) (fun _ _ _ _ _ _ us hl => match us, hl with | [_, _], _ => rfl) (fun f cdv A outer s H vs Q E hr h => ?_)
  · obtain ⟨n, by_, rfl, _⟩ := h
    rfl
  · obtain ⟨n, by_, rfl, q⟩ := h
    refine ⟨_, pss_cons (ps_set (i := 2) scPathBy.nd rfl (.inl rfl) (pe_ix ix_list (pe_lst (pa_cons pe_int (pa_cons pe_int (pa_cons pe_int (pa_cons pe_int (pa_cons pe_int (pa_cons pe_int pa_nil))))))) (pe_op op_mod (pv 0) pe_int) (fun _ _ => rfl)))
      (pss_one (ps_ret (pe_callTy call_tuple_of (by rfl) T.tuple (by decide +kernel) (pa_cons (pe_lc (own := [("_law_j", 3)]) (g := gName 3) (tt := tYes) rfl scPathBy.nd (pi_range1 rfl T.range (pa_cons (pv 2) pa_nil))
        (blkOk_by (own := [("_law_j", 3)]) (N := ["_law_number", "_law_by", "_law_many", "_law_j"]) (sc := defScope sPathBy) (by decide +kernel))
        (fun _ _ _ _ _ => pg_name (i := 3) scPathBy.nd rfl (Or.inl rfl)) (fun _ _ _ _ _ => pts_nil)
        (fun _ _ _ _ _ => pe_f (okHeadBy T) hr (by decide) rfl (pa_cons (pv 1) (pa_cons (pe_op op_mod (pe_op op_fdiv (pv 0) (pe_op op_add pe_int (pe_op op_mul pe_int (pv 3)))) pe_int) pa_nil)))) pa_nil)))), ?_⟩
    have h6 : 0 ≤ n % 6 ∧ n % 6 < 6 := by omega
    obtain ⟨m, hm1, hm6, hm⟩ := many_mem h6.1 h6.2
    refine ⟨sz (by show 6 ≤ 100000; decide), fun l nl => ?_⟩
    have sl : Same H (upd H l (.lst [.int 1, .int 1, .int 2, .int 3, .int 2, .int 6])) := same_upd nl
    refine ⟨_, rfl, n, 6, rfl, rfl, (by show (0 : Int) < 6; decide), l, _, n % 6, _, rfl, rfl, sqL upd_same, hm, ?_⟩
    refine ⟨_, rfl, (m : Int), rfl, by omega, by omega, fun D hD => ?_⟩
    refine lc_m walk_range (List.range m) (fun j => (j : Nat)) (fun (j : Nat) v _ => ∃ k, k < 6 ∧ v = .str (headBy by_ k)) (fun _ _ _ _ _ h => h) (by rw [List.length_range]; omega) (by omega) hD (fun _ _ => trivial) (fun i d x H1 H2 Kn hd sm hacc hy kn => ?_) gName_mono (fun H1 ys sm hD1 pr => ?_)
    · obtain ⟨rfl, hx⟩ := hy
      have hi : i < m := by
        have := (List.getElem?_eq_some_iff.mp hd).1
        rwa [List.length_range] at this
      have hx : x = .int (i : Int) := hx.trans (congrArg V.int (by omega))
      subst hx
      have hk := Int.emod_nonneg (n / (7 + 5 * (i : Int))) (show (6 : Int) ≠ 0 by decide)
      have hk2 := Int.emod_lt_of_pos (n / (7 + 5 * (i : Int))) (show (0 : Int) < 6 by decide)
      refine ⟨rfl, _, rfl, _, rfl, _, rfl, 5, (i : Int), rfl, rfl, .inl ⟨by omega, by omega⟩, 7, _, rfl, rfl, n, 7 + 5 * (i : Int), rfl, rfl, ⟨by omega, by omega⟩, _, 6, rfl, rfl, (by show (0 : Int) < 6; decide), by_, (n / (7 + 5 * (i : Int)) % 6).toNat, ?_, by omega, kn _ _ (Same.refl _) ⟨_, by omega, rfl⟩⟩
      exact congrArg (fun x => [V.int by_, V.int x]) (Int.toNat_of_nonneg hk).symm
    · rw [List.map_id'] at pr
      have hlen := Paired.length pr
      rw [List.length_range] at hlen
      obtain ⟨p, hp⟩ : ∃ p : List Str, Paired (fun z y => y = V.str z ∧ ∃ k, k < 6 ∧ z = headBy by_ k) p ys := choose_list fun y hy => by
        obtain ⟨j, _, k, hk, e⟩ := pr_nat pr y hy
        exact ⟨headBy by_ k, e, k, hk, rfl⟩
      have eys : ys = p.map V.str := pr_str (H := H1) (L2.Paired.mapP hp fun _ _ h => h.1)
      have hpl := Paired.length hp
      subst eys
      refine ⟨D, _, rfl, .inl ⟨sqL hD1, fun t nt => ?_⟩⟩
      refine q _ _ p (sl.trans (sm.trans (same_upd nt))) ⟨t, rfl, upd_same⟩ ⟨fun e => ?_, by omega, fun h hh => ?_⟩
      · subst e
        simp at hlen
        omega
      · obtain ⟨y, _, r⟩ := pr_mem hp hh
        exact r.2
/-! PbLaw2: ### _law_book -/
theorem scBook : FnScope ["_law_cells", "_law_cell"] ["_law_cells"] (defScope sBook) := ⟨rfl, rfl, rfl, by decide +kernel, rfl, by decide +kernel, by decide +kernel⟩
def spBook : Sp := fun vs H Q _ => ∃ (a : Addr) (ns : List Int), vs = [.ref a] ∧ H a = some (.lst (ns.map V.int)) ∧ ns.length ≤ 1000 ∧ ∀ (H' : Hp) (o : Addr) (bs : List Bool), Same H H' → H o = none → H' o = some (.lst (bs.map V.bl)) → bs.length = ns.length → Q (.ref o) H'
theorem okBook (T : Top K mg) : Def1 P w K mg base 1 "_law_book" spBook := by
  refine def1 T.fBook scBook (fun vs H Q E h => ?_) (fun _ _ _ _ _ _ us hl => match us, hl with | [_], _ => rfl) (fun f cdv A outer s H vs Q E hr h => ?_)
  · obtain ⟨a, ns, rfl, _⟩ := h
    rfl
  · obtain ⟨a, ns, rfl, ha, hz, q⟩ := h
    refine ⟨_, pss_one (ps_ret (pe_lc (own := [("_law_cell", 1)]) (g := gName 1) (tt := tYes) rfl scBook.nd (pi_list (pv 0)) (blkOk_by (own := [("_law_cell", 1)]) (N := ["_law_cells", "_law_cell"]) (sc := defScope sBook) (by decide +kernel))
      (fun _ _ _ _ _ => pg_name (i := 1) scBook.nd rfl (Or.inl rfl)) (fun _ _ _ _ _ => pts_nil)
      (fun _ _ _ _ _ => pe_cmpR op_eq (pe_op op_mod (pv 1) pe_int) pe_int (nomark _)))), ?_⟩
    refine ⟨_, rfl, a, rfl, ⟨_, sqL ha⟩, fun D hD => ?_⟩
    refine lc_m (walk_list (xs := ns.map V.int)) ns (fun n => decide (V.int (n % 6) = V.int 1)) RBl mono_bl (by rw [List.length_map]) (by rw [List.length_map]; omega) hD (fun H1 s1 => sqL (s1 _ _ ha)) (fun i d x H1 H2 Kn hd sm hacc hy kn => ?_) gName_mono (fun H1 ys sm hD1 pr => ?_)
    · obtain ⟨rfl, hx⟩ := hy
      rw [List.getElem?_map, hd] at hx
      cases hx
      exact ⟨rfl, _, rfl, d, 6, rfl, rfl, (by show (0 : Int) < 6; decide), rfl, kn _ _ (Same.refl _) rfl⟩
    · have e := pr_bl pr
      subst e
      exact q H1 D _ sm hD hD1 (by rw [List.length_map])
/-! PbLaw2: ### _law_settings -/
theorem scSettings : FnScope ["_law_by", "_law_most"] ["_law_by"] (defScope sSettings) := ⟨rfl, rfl, rfl, by decide +kernel, rfl, by decide +kernel, by decide +kernel⟩
def spSettings : Sp := fun vs H Q _ => ∃ (by_ : Int), vs = [.int by_] ∧ ∀ (H' : Hp) (t : Addr) (most first : Int), Same H H' → H' t = some (.tup [.int most, .int first]) → 0 ≤ first → first < 10 ^ 60 → Q (.ref t) H'
theorem okSettings (T : Top K mg) : Def1 P w K mg base 1 "_law_settings" spSettings := by
  refine def1 T.fSettings scSettings (fun vs H Q E h => ?_) (fun _ _ _ _ _ _ us hl => match us, hl with | [_], _ => rfl) (fun f cdv A outer s H vs Q E hr h => ?_)
  · obtain ⟨by_, rfl, _⟩ := h
    rfl
  · obtain ⟨by_, rfl, q⟩ := h
    refine ⟨_, pss_cons (ps_set (i := 1) scSettings.nd rfl (.inl rfl) (pe_ix ix_list (pe_lst (pa_cons (pe_op op_add pe_int (pe_op op_mod (pv 0) pe_int)) (pa_cons (pe_op op_add pe_int (pe_op op_mod (pe_op op_mul (pv 0) pe_int) (pe_op op_pow pe_int pe_int))) pa_nil)))
        (pe_callTy call_int1 (by rfl) T.int (by decide +kernel) (pa_cons (pe_cmpR op_eq (pe_op op_mod (pe_op op_fdiv (pv 0) pe_int) pe_int) pe_int (nomark _)) pa_nil)) (fun _ _ => rfl)))
      (pss_one (ps_ret (pe_tup (pa_cons (pv 1) (pa_cons (pe_ix ix_list (pe_lst (pa_cons (pe_op op_mod (pe_op op_fdiv (pv 0) pe_int) pe_int) (pa_cons (pe_op op_mod (pe_op op_mul (pv 0) pe_int) (pe_op op_sub (pe_op op_pow pe_int pe_int) pe_int)) pa_nil)))
        (pe_op op_mod (pe_op op_fdiv (pv 0) pe_int) pe_int) (fun _ _ => rfl)) pa_nil))))), ?_⟩
    have p59 : (0 : Int) < 10 ^ (59 : Int).toNat := by decide +kernel
    have p60 : (0 : Int) < 10 ^ (60 : Int).toNat - 2000 := by decide +kernel
    refine ⟨_, rfl, by_, 4, rfl, rfl, (by show (0 : Int) < 4; decide), 1, _, rfl, rfl, _, rfl, by_, 48271, rfl, rfl, .inr ⟨by decide, by decide⟩, 10, 59, rfl, rfl, ⟨by decide, by decide, by decide⟩, _, _, rfl, rfl, p59, 1, _, rfl, rfl, sz (by show 2 ≤ 100000; decide), fun l nl => ?_⟩
    have sl := same_upd nl (o := .lst [.int (1 + by_ % 4), .int (1 + by_ * 48271 % 10 ^ (59 : Int).toNat)])
    refine ⟨_, rfl, by_, 4, rfl, rfl, ⟨by decide, by decide⟩, _, 7, rfl, rfl, (by show (0 : Int) < 7; decide), rfl, .inr ⟨_, rfl, ?_⟩⟩
    obtain ⟨most, hmost⟩ : ∃ most : Int, atI [V.int (1 + by_ % 4), .int (1 + by_ * 48271 % 10 ^ (59 : Int).toNat)] (if decide (V.int (by_ / 4 % 7) = V.int 0) = true then 1 else 0) = some (.int most) := by
      cases decide (V.int (by_ / 4 % 7) = V.int 0) with
      | true => exact ⟨_, rfl⟩
      | false => exact ⟨_, rfl⟩
    refine ⟨l, _, _, _, rfl, rfl, sqL upd_same, hmost, ?_⟩
    refine ⟨_, rfl, _, rfl, by_, 28, rfl, rfl, ⟨by decide, by decide⟩, _, 12, rfl, rfl, (by show (0 : Int) < 12; decide), _, rfl, by_, 982451653, rfl, rfl, .inr ⟨by decide, by decide⟩, 10, 60, rfl, rfl, ⟨by decide, by decide, by decide⟩, _, 2000, rfl, rfl, _, _, rfl, rfl, p60, sz (by show 2 ≤ 100000; decide), fun l2 nl2 => ?_⟩
    refine ⟨_, rfl, by_, 7, rfl, rfl, ⟨by decide, by decide⟩, _, 2, rfl, rfl, (by show (0 : Int) < 2; decide), ?_⟩
    obtain ⟨first, hfirst, h0, h1⟩ : ∃ first : Int, atI [V.int (by_ / 28 % 12), .int (by_ * 982451653 % (10 ^ (60 : Int).toNat - 2000))] (by_ / 7 % 2) = some (.int first) ∧ 0 ≤ first ∧ first < 10 ^ 60 := by
      have h2 : by_ / 7 % 2 = 0 ∨ by_ / 7 % 2 = 1 := by omega
      have e1 : (10 : Int) ^ (60 : Int).toNat - 2000 < 10 ^ 60 := by decide +kernel
      have e2 : (12 : Int) < 10 ^ 60 := by decide +kernel
      have a1 := Int.emod_nonneg (by_ / 28) (show (12 : Int) ≠ 0 by decide)
      have a2 := Int.emod_lt_of_pos (by_ / 28) (show (0 : Int) < 12 by decide)
      have b1 := Int.emod_nonneg (by_ * 982451653) (Int.ne_of_gt p60)
      have b2 := Int.emod_lt_of_pos (by_ * 982451653) p60
      rcases h2 with e | e
      · rw [e]; exact ⟨_, rfl, a1, Int.lt_trans a2 e2⟩
      · rw [e]; exact ⟨_, rfl, b1, Int.lt_trans b2 e1⟩
    refine ⟨l2, _, _, _, rfl, rfl, sqL upd_same, hfirst, sz (by show 2 ≤ 100000; decide), fun t nt => ?_⟩
    exact q _ t most first (sl.trans ((same_upd nl2).trans (same_upd nt))) upd_same h0 h1
/-! PbLaw2: ### _law_marks -/
theorem scMarks : FnScope ["_law_cells", "_law_many", "_law_by", "_law_marks_here", "_law_cell", "_law_number", "_law_low", "_law_high"] ["_law_cells", "_law_many", "_law_by"] (defScope sMarks) := ⟨rfl, rfl, rfl, by decide +kernel, rfl, by decide +kernel, by decide +kernel⟩
def spMarks : Sp := fun vs H Q _ => ∃ (a : Addr) (ns : List Int) (many : Nat) (by_ : Int), vs = [.ref a, .int (many : Int), .int by_] ∧ H a = some (.lst (ns.map V.int)) ∧ ns.length ≤ 1000 ∧ many ≤ 1000 ∧
  ∀ (H' : Hp) (o : Addr) (us : List V) (ms : List Mk), Same H H' → H o = none → H' o = some (.lst us) → Paired (fun b y => RMark b y H') ms us → ms.length ≤ ns.length → (∀ m ∈ ms, MarkOk by_ many m) → Q (.ref o) H'
theorem okMarks (T : Top K mg) : Def1 P w K mg base 3 "_law_marks" spMarks := by
  refine def1 T.fMarks scMarks (fun vs H Q E h => ?_) (fun _ _ _ _ _ _ us hl => match us, hl with | [_, _, _], _ => rfl) (fun f cdv A outer s H vs Q E hr h => ?_)
  · obtain ⟨a, ns, many, by_, rfl, _⟩ := h
    rfl
  · obtain ⟨a, ns, many, by_, rfl, ha, hz, hmz, q⟩ := h
    refine ⟨_, pss_cons (ps_set (i := 3) scMarks.nd rfl (.inl rfl) (pe_lst pa_nil))
      (pss_cons (ps_for PassesOwn.never rfl (pi_list (pv 0)) (pg_name (i := 4) scMarks.nd rfl (.inl rfl))
        (pss_cons (ps_set (i := 5) scMarks.nd rfl (.inl rfl) (pe_op op_mod (pe_op op_mul (pv 4) pe_int) pe_int))
        (pss_one (ps_if (pt_cmpR op_gt (pv 1) pe_int (nomark _))
          (pss_cons (ps_set (i := 6) scMarks.nd rfl (.inl rfl) (pe_op op_mod (pe_op op_fdiv (pv 5) pe_int) (pv 1)))
          (pss_cons (ps_set (i := 7) scMarks.nd rfl (.inl rfl) (pe_callB (call_min2 rfl) (by rfl) T.min (by decide +kernel) (pa_cons (pe_op op_sub (pv 1) pe_int) (pa_cons (pe_op op_add (pv 6) (pe_ix ix_list (pe_lst (pa_cons pe_int (pa_cons pe_int (pa_cons pe_int (pa_cons pe_int (pa_cons (pe_op op_mod (pe_op op_fdiv (pv 5) pe_int) pe_int) (pa_cons (pv 1) pa_nil)))))))
              (pe_op op_mod (pe_op op_fdiv (pv 5) pe_int) pe_int) (fun _ _ => rfl))) pa_nil))))
          (pss_one (ps_expr (pe_bm PySem.F.plainAttrs_list PySem.F.slot_list_append PySem.F.type_list_append mt_append (pv 3) (pa_cons (pe_tup (pa_cons (pe_f (okPathBy T) hr (by decide) rfl (pa_cons (pv 5) (pa_cons (pv 2) pa_nil))) (pa_cons (pv 6) (pa_cons (pv 7)
            (pa_cons (pe_cmpR op_eq (pe_op op_mod (pe_op op_fdiv (pv 5) pe_int) pe_int) pe_int (nomark _)) pa_nil))))) pa_nil)))))) pss_nil))))
      (pss_one (ps_ret (pv 3)))), ?_⟩
    refine ⟨Nat.zero_le _, fun o no => ⟨_, rfl, a, rfl, ⟨_, sqL (same_upd no _ _ ha)⟩, ?_⟩⟩
    refine for_it (walk_list (xs := ns.map V.int)) (fun i σ H1 => ∃ (us : List V) (ms : List Mk) (y4 y5 y6 y7 : Option V), σ = [some (.ref a), some (.int (many : Int)), some (.int by_), some (.ref o), y4, y5, y6, y7] ∧ Same H H1 ∧ H1 o = some (.lst us) ∧ Paired (fun b y => RMark b y H1) ms us ∧ ms.length ≤ i ∧ (∀ m ∈ ms, MarkOk by_ many m))
      ⟨[], [], none, none, none, none, rfl, same_upd no, upd_same, .nil, Nat.le_refl _, fun _ h => absurd h List.not_mem_nil⟩ (fun i σ H1 hi hp => ?_) (fun i x σ H1 H2 hi hp hy => ?_) (fun σ H1 hp => ?_)
    · obtain ⟨_, _, _, _, _, _, _, sm, _⟩ := hp
      exact sqL (sm _ _ ha)
    · obtain ⟨us, ms, y4, y5, y6, y7, rfl, sm, ho, pm, hl, hok⟩ := hp
      obtain ⟨rfl, hx⟩ := hy
      rw [List.getElem?_map] at hx
      obtain ⟨c, hci, rfl⟩ := Option.map_eq_some_iff.mp hx
      rw [List.length_map] at hi
      refine ⟨_, rfl, c, 1583458089, rfl, rfl, .inr ⟨by decide, by decide⟩, _, 2147483647, rfl, rfl, (by show (0 : Int) < 2147483647; decide), ?_⟩
      have n0 := Int.emod_nonneg (c * 1583458089) (show (2147483647 : Int) ≠ 0 by decide)
      show gName 5 (V.int (c * 1583458089 % 2147483647)) _ _ _
      revert n0
      generalize c * 1583458089 % 2147483647 = n
      intro n0
      refine ⟨_, rfl, (many : Int), 0, rfl, rfl, _, rfl, ite2 (fun e => ?_) (fun e => ?_)⟩
      · have hm : (0 : Int) < (many : Int) := of_decide_eq_true e
        refine ⟨_, rfl, n, 11, rfl, rfl, ⟨by decide, by decide⟩, _, rfl, _, (many : Int), rfl, rfl, hm, ?_⟩
        have l0 := Int.emod_nonneg (n / 11) (Int.ne_of_gt hm)
        have l1 := Int.emod_lt_of_pos (n / 11) hm
        show gName 6 (V.int (n / 11 % (many : Int))) _ _ _
        revert l0 l1
        generalize n / 11 % (many : Int) = lo
        intro l0 l1
        refine ⟨_, rfl, (many : Int), 1, rfl, rfl, _, rfl, _, rfl, n, 55, rfl, rfl, ⟨by decide, by decide⟩, _, 30, rfl, rfl, (by show (0 : Int) < 30; decide), _, rfl, sz (by show 6 ≤ 100000; decide), fun l nl => ?_⟩
        have sl := same_upd nl (o := .lst [.int 0, .int 0, .int 1, .int 2, .int (n / 55 % 30), .int (many : Int)])
        have t0 := Int.emod_nonneg (n / 55) (show (30 : Int) ≠ 0 by decide)
        obtain ⟨ad, had, ha0⟩ : ∃ ad : Int, atI [V.int 0, .int 0, .int 1, .int 2, .int (n / 55 % 30), .int (many : Int)] (n / 13 % 6) = some (.int ad) ∧ 0 ≤ ad := by
          have : n / 13 % 6 = 0 ∨ n / 13 % 6 = 1 ∨ n / 13 % 6 = 2 ∨ n / 13 % 6 = 3 ∨ n / 13 % 6 = 4 ∨ n / 13 % 6 = 5 := by omega
          rcases this with e | e | e | e | e | e <;> rw [e]
          · exact ⟨0, rfl, by decide⟩
          · exact ⟨0, rfl, by decide⟩
          · exact ⟨1, rfl, by decide⟩
          · exact ⟨2, rfl, by decide⟩
          · exact ⟨_, rfl, t0⟩
          · exact ⟨_, rfl, by omega⟩
        refine ⟨_, rfl, n, 13, rfl, rfl, ⟨by decide, by decide⟩, _, 6, rfl, rfl, (by show (0 : Int) < 6; decide), l, _, _, _, rfl, rfl, sqL upd_same, had, lo, ad, rfl, rfl, (many : Int) - 1, lo + ad, rfl, ?_⟩
        obtain ⟨hi', ehi, hh1, hh2⟩ : ∃ hi' : Int, (if lo + ad < (many : Int) - 1 then lo + ad else (many : Int) - 1) = hi' ∧ lo ≤ hi' ∧ hi' < many := by
          refine ⟨_, rfl, ?_⟩
          split <;> omega
        show gName 7 (V.int (if lo + ad < (many : Int) - 1 then lo + ad else (many : Int) - 1)) _ _ _
        rw [ehi]
        refine ⟨_, rfl, .inl ⟨rfl, _, sqL (sl _ _ ho)⟩, _, rfl, _, rfl, n, by_, rfl, fun H3 v p s3 rp hp => ?_⟩
        refine ⟨_, rfl, _, rfl, _, rfl, n, 17, rfl, rfl, ⟨by decide, by decide⟩, _, 3, rfl, rfl, (by show (0 : Int) < 3; decide), rfl, sz (by show 4 ≤ 100000; decide), fun t nt => ?_⟩
        have st := same_upd nt (o := .tup [v, .int lo, .int hi', .bl (decide (V.int (n / 17 % 3) = V.int 0))])
        have s23 := sl.trans (s3.trans st)
        obtain ⟨pa, rfl, hpa⟩ := rp
        have ho3 := s23 _ _ ho
        have hml := Paired.length pm
        have ts : TSame (upd H3 t (.tup [.ref pa, .int lo, .int hi', .bl (decide (V.int (n / 17 % 3) = V.int 0))])) (upd (upd H3 t (.tup [.ref pa, .int lo, .int hi', .bl (decide (V.int (n / 17 % 3) = V.int 0))])) o (.lst (us ++ [.ref t]))) := tsame_upd ho3 (fun _ z => nomatch z)
        refine ⟨o, us, _, rfl, rfl, ho3, szlt (by omega), us ++ [.ref t], ms ++ [(p, lo, hi', decide (V.int (n / 17 % 3) = V.int 0))], _, _, _, _, rfl, same_upd2 no (sm.trans s23), upd_same, ?_, ?_, fun m hm => ?_⟩
        · exact Paired.snoc (L2.Paired.mapP pm fun b y r => mark_t ts (mono_mark _ _ _ _ s23 r)) ⟨t, pa, rfl, ts _ _ upd_same, ts _ _ (st _ _ hpa)⟩
        · rw [List.length_append]
          show ms.length + 1 ≤ _
          omega
        · rcases List.mem_append.mp hm with hm | hm
          · exact hok m hm
          · rw [List.mem_singleton.mp hm]
            exact ⟨hp, l0, hh1, hh2⟩
      · exact ⟨us, ms, _, _, _, _, rfl, sm, ho, pm, by omega, hok⟩
    · obtain ⟨us, ms, y4, y5, y6, y7, rfl, sm, ho, pm, hl, hok⟩ := hp
      rw [List.length_map] at hl
      exact ⟨_, rfl, q H1 o us ms sm no ho pm hl hok⟩
end
end PB
/-! PbLaw3: the law's sees -/
namespace PB
open PySem PySem.Spec PyProof.Rows L2 TL

abbrev Path := List Str
structure FreshOk (there : List Path) (by_ : Int) (k : Nat) (q : Path) : Prop where
  own : headBy by_ (20 + k) ∈ q
  hd : ∀ x ∈ q, x = headBy by_ (20 + k) ∨ ∃ p ∈ there, x ∈ p
  few : q.length ≤ 6
theorem ix_mod {α : Type} {xs : List α} (i : Int) (h : 0 < xs.length) : ∃ (j : Nat) (x : α), xs[j]? = some x ∧ atI xs (i % (xs.length : Int)) = some x := by
  have h1 := Int.emod_nonneg i (show (xs.length : Int) ≠ 0 by omega)
  have h2 := Int.emod_lt_of_pos i (show (0 : Int) < xs.length by omega)
  obtain ⟨j, hj⟩ := Int.eq_ofNat_of_zero_le h1
  have hj2 : j < xs.length := by omega
  refine ⟨j, xs[j], List.getElem?_eq_getElem hj2, ?_⟩
  rw [hj]
  exact atI_nat (List.getElem?_eq_getElem hj2)
theorem cat_path {K : PySem.W.Frag} {H : Hp} {p q : Path} {x y : V} {Q : VK} (hx : RPath p x H) (hy : RPath q y H) (hz : p.length + q.length ≤ 100000) (h : ∀ H' v, Same H H' → RPath (p ++ q) v H' → Q v H') : rCatA K x y H Q := by
  obtain ⟨a, rfl, ha⟩ := hx
  obtain ⟨b, rfl, hb⟩ := hy
  refine ⟨a, b, _, _, rfl, rfl, sqT ha, sqT hb, sz (by rw [List.length_map, List.length_map]; exact hz), fun e => ?_, fun _ e => ?_, fun _ _ t nt => ?_⟩
  · have : p = [] := List.map_eq_nil_iff.mp e
    subst this
    exact h H _ (Same.refl _) ⟨b, rfl, hb⟩
  · have : q = [] := List.map_eq_nil_iff.mp e
    subst this
    exact h H _ (Same.refl _) ⟨a, rfl, by rw [List.append_nil]; exact ha⟩
  · exact h _ _ (same_upd nt) ⟨t, rfl, by rw [upd_same, List.map_append]⟩
theorem any_path (ps : List Path) (p : Path) : ((ps.map pathD).any fun z => PyData.eqv z (pathD p)) = decide (p ∈ ps) := by
  induction ps with
  | nil => simp
  | cons x ps ih =>
    rw [List.map_cons, List.any_cons, ih, eqv_path]
    by_cases e : x = p
    · subst e; simp
    · have : ¬ p = x := fun z => e z.symm
      simp [e, this]

/-! PbLaw3: ### the ends, as an ordered list -/
def keysE (E : List (Path × Path)) : List Path := E.map (·.1)
def finE (E : List (Path × Path)) (p : Path) : Path := match E.find? fun e => decide (e.1 = p) with
  | some e => e.2
  | none => p
def muE (E : List (Path × Path)) (p : Path) : Nat := if p ∈ keysE E then (keysE E).idxOf p + 1 else 0
theorem keysE_snoc (E : List (Path × Path)) (q e : Path) : keysE (E ++ [(q, e)]) = keysE E ++ [q] := by
  unfold keysE
  rw [List.map_append]; rfl
theorem finE_not {E : List (Path × Path)} {p : Path} (h : p ∉ keysE E) : finE E p = p := by
  unfold finE
  have e : (E.find? fun e => decide (e.1 = p)) = none := by
    rw [List.find?_eq_none]
    intro x hx z
    exact h (List.mem_map.mpr ⟨x, hx, of_decide_eq_true z⟩)
  rw [e]
theorem finE_snoc {E : List (Path × Path)} {q e : Path} (hq : q ∉ keysE E) (p : Path) : finE (E ++ [(q, e)]) p = if p = q then e else finE E p := by
  by_cases h : p = q
  · subst h
    rw [if_pos rfl]
    unfold finE
    have e0 : (E.find? fun e => decide (e.1 = p)) = none := by
      rw [List.find?_eq_none]
      intro x hx z
      exact hq (List.mem_map.mpr ⟨x, hx, of_decide_eq_true z⟩)
    rw [List.find?_append, e0]
    simp
  · rw [if_neg h]
    unfold finE
    rw [List.find?_append]
    cases hf : E.find? fun e => decide (e.1 = p) with
    | some x => rfl
    | none =>
      have : ¬ q = p := fun z => h z.symm
      simp [this]
theorem muE_le (E : List (Path × Path)) (p : Path) : muE E p ≤ E.length := by
  unfold muE
  split
  · rename_i h
    have := List.idxOf_lt_length_of_mem h
    unfold keysE at this ⊢
    rw [List.length_map] at this
    omega
  · exact Nat.zero_le _
theorem muE_snoc {E : List (Path × Path)} {q e : Path} (hq : q ∉ keysE E) (p : Path) : muE (E ++ [(q, e)]) p = if p = q then E.length + 1 else muE E p := by
  unfold muE
  rw [keysE_snoc]
  by_cases h : p = q
  · subst h
    rw [if_pos rfl, if_pos (List.mem_append_right _ (List.mem_singleton.mpr rfl)), List.idxOf_append, if_neg hq]
    unfold keysE
    simp
  · rw [if_neg h]
    by_cases hp : p ∈ keysE E
    · rw [if_pos hp, if_pos (List.mem_append_left _ hp), List.idxOf_append, if_pos hp]
    · rw [if_neg hp, if_neg]
      intro z
      rcases List.mem_append.mp z with z | z
      · exact hp z
      · exact h (List.mem_singleton.mp z)
/-- what holds of the ends and the sees made so far -/
structure SInv (there full fr : List Path) (E : List (Path × Path)) (ss : List Se) : Prop where
  p : ∀ s ∈ ss, (s.1 ∈ there ∨ s.1 ∈ fr) ∧ (s.2.1 ∈ there ∨ s.2.1 ∈ fr)
  ne : ∀ s ∈ ss, s.2.1 ≠ s.1
  bare : ∀ s ∈ ss, s.2.2 = false → s.1 ∉ full
  sent : ∀ s ∈ ss, s.2.2 = false → s.1 ∈ keysE E
  sentr : ∀ p ∈ keysE E, ∃ s ∈ ss, s.2.2 = false ∧ s.1 = p
  one : ∀ s ∈ ss, ∀ t ∈ ss, s.2.2 = false → t.2.2 = false → s.1 = t.1 → s.2.1 = t.2.1
  dn : ∀ s ∈ ss, s.2.2 = false → muE E s.2.1 < muE E s.1
  fi : ∀ s ∈ ss, s.2.2 = false → finE E s.2.1 = finE E s.1
  also : ∀ s ∈ ss, s.2.2 = true → s.1 ∈ there ∧ finE E s.2.1 ≠ s.1
  known : ∀ p, (p ∈ there ∨ p ∈ fr) → finE E p ∈ there
  keys : ∀ p ∈ keysE E, p ∈ there ∨ p ∈ fr
theorem SInv.start (there full : List Path) : SInv there full [] [] [] :=
  ⟨(fun _ h => absurd h List.not_mem_nil), (fun _ h => absurd h List.not_mem_nil), (fun _ h => absurd h List.not_mem_nil), (fun _ h => absurd h List.not_mem_nil), (fun _ h => absurd h List.not_mem_nil), (fun _ h => absurd h List.not_mem_nil), (fun _ h => absurd h List.not_mem_nil), (fun _ h => absurd h List.not_mem_nil), (fun _ h => absurd h List.not_mem_nil),
   fun p h => by
    rw [finE_not (show p ∉ keysE [] from List.not_mem_nil)]
    rcases h with h | h
    · exact h
    · exact absurd h List.not_mem_nil, (fun _ h => absurd h List.not_mem_nil)⟩
theorem SInv.put {there full fr fr' : List Path} {E : List (Path × Path)} {ss : List Se} {q g : Path} (h : SInv there full fr E ss) (h1 : ∀ p ∈ fr, p ∈ fr') (h2 : q ∈ there ∨ q ∈ fr') (h3 : ∀ p ∈ fr', p ∈ fr ∨ p = q) (hq : q ∉ keysE E) (hs : ∀ s ∈ ss, s.1 ≠ q ∧ s.2.1 ≠ q) (hg : g ∈ there ∨ g ∈ fr) (hgq : g ≠ q) (hf : q ∉ full) :
    SInv there full fr' (E ++ [(q, finE E g)]) (ss ++ [(q, g, false)]) := by
  have up : ∀ p, (p ∈ there ∨ p ∈ fr) → p ∈ there ∨ p ∈ fr' := fun p hp => hp.imp id (h1 p)
  have split : ∀ {s : Se}, s ∈ ss ++ [(q, g, false)] → s ∈ ss ∨ s = (q, g, false) := fun {s} hs => by
    rcases List.mem_append.mp hs with hs | hs
    · exact .inl hs
    · exact .inr (List.mem_singleton.mp hs)
  refine ⟨fun s m => ?_, fun s m => ?_, fun s m a => ?_, fun s m a => ?_, fun p m => ?_, fun s m t m' a b e => ?_, fun s m a => ?_, fun s m a => ?_, fun s m a => ?_, fun p m => ?_, fun p m => ?_⟩
  · rcases split m with m | rfl
    · exact ⟨up _ (h.p s m).1, up _ (h.p s m).2⟩
    · exact ⟨h2, up _ hg⟩
  · rcases split m with m | rfl
    · exact h.ne s m
    · exact hgq
  · rcases split m with m | rfl
    · exact h.bare s m a
    · exact hf
  · rw [keysE_snoc]
    rcases split m with m | rfl
    · exact List.mem_append_left _ (h.sent s m a)
    · exact List.mem_append_right _ (List.mem_singleton.mpr rfl)
  · rw [keysE_snoc] at m
    rcases List.mem_append.mp m with m | m
    · obtain ⟨s, hs, a, e⟩ := h.sentr p m
      exact ⟨s, List.mem_append_left _ hs, a, e⟩
    · exact ⟨_, List.mem_append_right _ (List.mem_singleton.mpr rfl), rfl, (List.mem_singleton.mp m).symm⟩
  · rcases split m with m | rfl
    · rcases split m' with m' | rfl
      · exact h.one s m t m' a b e
      · exact absurd e (hs s m).1
    · rcases split m' with m' | rfl
      · exact absurd e.symm (hs t m').1
      · rfl
  · rw [muE_snoc hq, muE_snoc hq]
    rcases split m with m | rfl
    · rw [if_neg (hs s m).1, if_neg (hs s m).2]
      exact h.dn s m a
    · show (if g = q then _ else _) < (if q = q then _ else _)
      rw [if_neg hgq, if_pos rfl]
      exact Nat.lt_succ_of_le (muE_le E g)
  · rw [finE_snoc hq, finE_snoc hq]
    rcases split m with m | rfl
    · rw [if_neg (hs s m).1, if_neg (hs s m).2]
      exact h.fi s m a
    · show (if g = q then _ else _) = (if q = q then _ else _)
      rw [if_neg hgq, if_pos rfl]
  · rcases split m with m | rfl
    · rw [finE_snoc hq, if_neg (hs s m).2]
      exact h.also s m a
    · cases a
  · rw [finE_snoc hq]
    by_cases e : p = q
    · rw [if_pos e]
      exact h.known g hg
    · rw [if_neg e]
      refine h.known p ?_
      rcases m with m | m
      · exact .inl m
      · rcases h3 p m with m | m
        · exact .inr m
        · exact absurd m e
  · rw [keysE_snoc] at m
    rcases List.mem_append.mp m with m | m
    · exact up _ (h.keys p m)
    · rw [List.mem_singleton.mp m]
      exact h2
theorem SInv.more {there full fr : List Path} {E : List (Path × Path)} {ss : List Se} {q g : Path} (h : SInv there full fr E ss) (hq : q ∈ there) (hg : g ∈ there ∨ g ∈ fr) (hne : q ≠ g) (hfi : q ≠ finE E g) :
    SInv there full fr E (ss ++ [(q, g, true)]) := by
  have split : ∀ {s : Se}, s ∈ ss ++ [(q, g, true)] → s ∈ ss ∨ s = (q, g, true) := fun {s} hs => by
    rcases List.mem_append.mp hs with hs | hs
    · exact .inl hs
    · exact .inr (List.mem_singleton.mp hs)
  refine ⟨fun s m => ?_, fun s m => ?_, fun s m a => ?_, fun s m a => ?_, fun p m => ?_, fun s m t m' a b e => ?_, fun s m a => ?_, fun s m a => ?_, fun s m a => ?_, h.known, h.keys⟩
  · rcases split m with m | rfl
    · exact h.p s m
    · exact ⟨.inl hq, hg⟩
  · rcases split m with m | rfl
    · exact h.ne s m
    · exact hne.symm
  · rcases split m with m | rfl
    · exact h.bare s m a
    · cases a
  · rcases split m with m | rfl
    · exact h.sent s m a
    · cases a
  · obtain ⟨s, hs, a, e⟩ := h.sentr p m
    exact ⟨s, List.mem_append_left _ hs, a, e⟩
  · rcases split m with m | rfl
    · rcases split m' with m' | rfl
      · exact h.one s m t m' a b e
      · cases b
    · cases a
  · rcases split m with m | rfl
    · exact h.dn s m a
    · cases a
  · rcases split m with m | rfl
    · exact h.fi s m a
    · cases a
  · rcases split m with m | rfl
    · exact h.also s m a
    · exact ⟨hq, fun z => hfi z.symm⟩
theorem KInv.congr {β : Type} {R : Rl β} {g g' : Path → β} {H : Hp} {d : Addr} {kvs : List (List Key × V)} {ins : List Path} (h : KInv R g H d kvs ins) (e : ∀ p ∈ ins, g p = g' p) : KInv R g' H d kvs ins :=
  ⟨h.nd, h.dat, h.keys, h.len, fun p v hv => by rw [← e p (h.has.mp ⟨v, hv⟩)]; exact h.vals p v hv⟩
/-- the dict's own heap may change elsewhere, tuples stay -/
theorem KInv.tsame {g : Path → Path} {H H' : Hp} {d : Addr} {kvs : List (List Key × V)} {ins : List Path} (h : KInv RPath g H d kvs ins) (e : TSame H H') (hd : H' d = H d) : KInv RPath g H' d kvs ins :=
  ⟨h.nd, by rw [hd]; exact h.dat, h.keys, h.len, fun p v hv => by
    obtain ⟨a, rfl, ha⟩ := h.vals p v hv
    have ha2 := erase_same _ _ _ _ ha
    exact ⟨a, rfl, erase_at (e _ _ ha2) (ne_of ha2 h.dat (fun z => nomatch z))⟩⟩

section
variable {P : Program} {w : World} {K : PySem.W.Frag} {mg : Str → Option Value} {base : Heap}
/-! PbLaw3: ### _law_fresh -/
theorem scFresh : FnScope ["_law_there", "_law_k", "_law_number", "_law_by", "_law_head", "_law_base"] ["_law_there", "_law_k", "_law_number", "_law_by"] (defScope sFresh) := ⟨rfl, rfl, rfl, by decide +kernel, rfl, by decide +kernel, by decide +kernel⟩
def spFresh : Sp := fun vs H Q _ => ∃ (t : Addr) (k : Nat) (n by_ : Int) (there : List Path) (tvs : List V), vs = [.ref t, .int (k : Int), .int n, .int by_] ∧ H t = some (.lst tvs) ∧ Paired (fun b y => RPath b y H) there tvs ∧ there ≠ [] ∧ k < 100 ∧
  ∀ (H' : Hp) (v : V) (q : Path), Same H H' → RPath q v H' → FreshOk there by_ k q → Q v H'
theorem okFresh (T : Top K mg) : Def1 P w K mg base 2 "_law_fresh" spFresh := by
  refine def1 T.fFresh scFresh (fun vs H Q E h => ?_) (fun _ _ _ _ _ _ us hl => match us, hl with | [_, _, _, _], _ => rfl) (fun f cdv A outer s H vs Q E hr h => ?_)
  · obtain ⟨t, k, n, by_, there, tvs, rfl, _⟩ := h
    rfl
  · obtain ⟨t, k, n, by_, there, tvs, rfl, ht, prt, htn, hk, q⟩ := h
    refine ⟨_, pss_cons (ps_set (i := 4) scFresh.nd rfl (.inl rfl) (pe_f (okHeadBy T) hr (by decide) rfl (pa_cons (pv 3) (pa_cons (pe_op op_add pe_int (pv 1)) pa_nil))))
      (pss_cons (ps_set (i := 5) scFresh.nd rfl (.inl rfl) (pe_ix ix_list (pv 0) (pe_op op_mod (pe_op op_fdiv (pv 2) pe_int) (pe_callB call_len_seq (by rfl) T.len PySem.boot_len (pa_cons (pv 0) pa_nil))) (fun _ _ => rfl)))
      (pss_cons (ps_if (pt_cmpR op_eq (pe_op op_mod (pv 2) pe_int) pe_int (nomark _)) (pss_one (ps_ret (pe_tup (pa_cons (pv 4) pa_nil)))) pss_nil)
      (pss_cons (ps_if (pt_cmpR op_lt (pe_callB call_len_seq (by rfl) T.len PySem.boot_len (pa_cons (pv 5) pa_nil)) pe_int (nomark _)) (pss_one (ps_ret (pe_op op_catA (pv 5) (pe_tup (pa_cons (pv 4) pa_nil))))) pss_nil)
      (pss_one (ps_ret (pe_op op_catA (pe_tup (pa_cons (pv 4) pa_nil)) (pe_slice sl_tupA (pv 5) po_none (po_some pe_int)))))))), ?_⟩
    have htl := Paired.length prt
    have htp : 0 < tvs.length := by rw [← htl]; exact List.length_pos_iff.mpr htn
    obtain ⟨j, bv, hbv, hat⟩ := ix_mod (n / 3) htp
    obtain ⟨b, hb, rb⟩ := pr_get2 prt hbv
    have hbm := List.mem_of_getElem? hb
    obtain ⟨ba, rfl, hba⟩ := rb
    refine ⟨_, rfl, _, rfl, 20, (k : Int), rfl, rfl, by_, 20 + k, ?_, by omega, ?_⟩
    · exact congrArg (fun x => [V.int by_, V.int x]) (by omega)
    refine ⟨_, rfl, _, rfl, n, 3, rfl, rfl, ⟨by decide, by decide⟩, _, rfl, t, _, rfl, .inl (sqL ht), _, _, rfl, rfl, (by show (0 : Int) < _; omega), t, _, _, _, rfl, rfl, sqL ht, hat, ?_⟩
    refine ⟨_, rfl, n, 3, rfl, rfl, (by show (0 : Int) < 3; decide), rfl, _, rfl, ite2 (fun _ => ?_) (fun _ => ?_)⟩
    · refine ⟨_, rfl, sz (by show 1 ≤ 100000; decide), fun p np => ?_⟩
      exact q _ _ [headBy by_ (20 + k)] (same_upd np) ⟨p, rfl, upd_same⟩ ⟨by simp, fun x hx => .inl (List.mem_singleton.mp hx), by simp⟩
    · refine ⟨_, rfl, ba, _, rfl, .inr (sqT hba), _, 6, rfl, rfl, _, rfl, ite2 (fun e => ?_) (fun _ => ?_)⟩
      · have e : ((b.map V.str).length : Int) < 6 := of_decide_eq_true e
        rw [List.length_map] at e
        refine ⟨_, rfl, _, rfl, sz (by show 1 ≤ 100000; decide), fun p np => ?_⟩
        refine cat_path (p := b) (q := [headBy by_ (20 + k)]) ⟨ba, rfl, same_upd np _ _ hba⟩ ⟨p, rfl, upd_same⟩ (by show b.length + 1 ≤ _; omega) fun H' v s' r => ?_
        refine q H' v _ ((same_upd np).trans s') r ⟨by simp, fun x hx => ?_, by rw [List.length_append]; show b.length + 1 ≤ 6; omega⟩
        rcases List.mem_append.mp hx with hx | hx
        · exact .inr ⟨b, hbm, hx⟩
        · exact .inl (List.mem_singleton.mp hx)
      · refine ⟨_, rfl, sz (by show 1 ≤ 100000; decide), fun p np => ?_⟩
        refine ⟨_, rfl, 2, rfl, slA_take (n := 2) (same_upd np _ _ hba) fun H2 v2 s2 r2 => ?_⟩
        refine cat_path (p := [headBy by_ (20 + k)]) (q := b.take 2) ⟨p, rfl, s2 _ _ upd_same⟩ r2 (by rw [List.length_take]; show 1 + _ ≤ _; omega) fun H' v s' r => ?_
        refine q H' v _ ((same_upd np).trans (s2.trans s')) r ⟨by simp, fun x hx => ?_, by rw [List.length_append, List.length_take]; show 1 + _ ≤ 6; omega⟩
        rcases List.mem_append.mp hx with hx | hx
        · exact .inl (List.mem_singleton.mp hx)
        · exact .inr ⟨b, hbm, List.mem_of_mem_take hx⟩
end
end PB
/-! PbMath1: the heads: what is shown of them; they differ -/
namespace PB
open PySem PySem.Spec PyProof.Rows L2 TL

/-- a letter, a figure or - -/
def Al (c : Nat) : Prop := (97 ≤ c ∧ c ≤ 122) ∨ (65 ≤ c ∧ c ≤ 90) ∨ (48 ≤ c ∧ c ≤ 57) ∨ c = 45
instance (c : Nat) : Decidable (Al c) := by unfold Al; infer_instance
theorem signs_al : ∀ c ∈ tl SIGNS, Al c := by
  have h : (tl SIGNS).all (fun c => decide (Al c)) = true := by decide +kernel
  intro c hc
  exact of_decide_eq_true (List.all_eq_true.mp h c hc)
theorem signAt_al {i : Int} (h0 : 0 ≤ i) (h1 : i < 63) : Al (signAt i) := by
  refine signs_al _ ?_
  have h := signAt_get h0 h1
  rw [← Array.getElem?_toList] at h
  exact List.mem_of_getElem? h
theorem base_al (c : Int) : ∀ x ∈ baseL c, Al x := fun x hx => by
  obtain ⟨j, _, rfl⟩ := List.mem_map.mp hx
  exact signAt_al (Int.emod_nonneg _ (by decide)) (Int.emod_lt_of_pos _ (by decide))
theorem num_dig (n : Nat) : ∀ x ∈ numL n, 48 ≤ x ∧ x ≤ 57 := fun x hx => by
  have := numL_free (n := n) (s := x)
  by_cases h : x < 48 ∨ 57 < x
  · exact absurd hx (this h)
  · omega
theorem num_al (n : Nat) : ∀ x ∈ numL n, Al x := fun x hx => by
  have := num_dig n x hx
  exact .inr (.inr (.inl this))
theorem headX_al (c : Int) (d : Nat) : ∀ x ∈ headX c d, Al x := fun x hx => by
  unfold headX at hx
  rcases List.mem_append.mp hx with hx | hx
  · rcases List.mem_append.mp hx with hx | hx
    · exact base_al c x (List.mem_of_mem_take hx)
    · exact num_al d x hx
  · exact base_al c x (List.mem_of_mem_drop hx)
def sufL (k : Nat) : List Nat := if k % 2 = 1 then [45] else []
theorem suf_al (k : Nat) : ∀ x ∈ sufL k, Al x := fun x hx => by
  unfold sufL at hx
  split at hx
  · rw [List.mem_singleton.mp hx]; exact .inr (.inr (.inr rfl))
  · cases hx
theorem al_ne {c : Nat} (h : Al c) : c ≠ 124 ∧ c ≠ 44 ∧ c ≠ 32 ∧ c ≠ 58 ∧ c ≠ 59 := by
  unfold Al at h
  omega
/-- what is shown of a head -/
def shownL (c : Int) (k : Nat) : List Nat :=
  if wayN c (k / 2) = 1 then (baseL c ++ sufL k) ++ ([44] ++ ([32] ++ headX c (k / 2)))
  else if wayN c (k / 2) = 5 then (baseL c ++ ([32] ++ (baseL c ++ sufL k))) ++ ([44] ++ ([32] ++ headX c (k / 2)))
  else if wayN c (k / 2) = 2 then baseL c ++ ([32] ++ (headX c (k / 2) ++ sufL k))
  else if wayN c (k / 2) = 3 then [45] ++ (headX c (k / 2) ++ sufL k) else headX c (k / 2) ++ sufL k
theorem not124 {l : List Nat} (h : ∀ x ∈ l, Al x ∨ x = 32) : 124 ∉ l := fun hm => by
  rcases h _ hm with h | h
  · exact (al_ne h).1 rfl
  · omega
theorem shown_head (c : Int) (k : Nat) : shownS (headBy c k) = ⟨(shownL c k).toArray⟩ := by
  have ey : tl (Str.ofString "|") = 124 :: [] := by decide
  have e44 : tl (Str.ofString ", ") = [44, 32] := by decide
  have hb := base_al c
  have hx := headX_al c (k / 2)
  have hs := suf_al k
  have bar : ∀ (l m : List Nat), 124 ∉ l → shownS ⟨(l ++ ([124] ++ m)).toArray⟩ = ⟨(m ++ ([44] ++ ([32] ++ l))).toArray⟩ := fun l m hl => by
    have e : (⟨(l ++ ([124] ++ m)).toArray⟩ : Str) = ⟨l.toArray⟩ ++ Str.ofString "|" ++ ⟨m.toArray⟩ := ext_tl (by rw [tl_append, tl_append, ey, tl_mk, tl_mk, tl_mk, List.append_assoc])
    unfold shownS
    rw [e, partition_app ey (by rw [tl_mk]; exact hl)]
    rw [if_neg (show ¬ Str.ofString "|" = Str.ofString "" by decide)]
    refine ext_tl ?_
    rw [tl_append, tl_append, e44, tl_mk, tl_mk, tl_mk, List.append_assoc]
    rfl
  have no : ∀ (l : List Nat), 124 ∉ l → shownS ⟨l.toArray⟩ = ⟨l.toArray⟩ := fun l hl => by
    unfold shownS
    rw [partition_none ey (by rw [tl_mk]; exact hl)]
    rw [if_pos (by rfl)]
  have al : ∀ {l : List Nat}, (∀ x ∈ l, Al x) → ∀ x ∈ l, Al x ∨ x = 32 := fun h x hx => .inl (h x hx)
  have app : ∀ {l m : List Nat}, (∀ x ∈ l, Al x ∨ x = 32) → (∀ x ∈ m, Al x ∨ x = 32) → ∀ x ∈ l ++ m, Al x ∨ x = 32 := fun h1 h2 x hx => by
    rcases List.mem_append.mp hx with hx | hx
    · exact h1 x hx
    · exact h2 x hx
  have sp : ∀ x ∈ [32], Al x ∨ x = 32 := fun x hx => .inr (List.mem_singleton.mp hx)
  have mi : ∀ x ∈ [45], Al x ∨ x = 32 := fun x hx => .inl (by rw [List.mem_singleton.mp hx]; exact .inr (.inr (.inr rfl)))
  have ehead : headBy c k = ⟨(wayL (wayN c (k / 2)) (baseL c) (headX c (k / 2)) ++ sufL k).toArray⟩ := rfl
  rw [ehead]
  unfold wayL shownL
  by_cases w1 : wayN c (k / 2) = 1
  · rw [if_pos w1, if_pos w1, List.append_assoc, List.append_assoc]
    exact bar _ _ (not124 (al hx))
  · rw [if_neg w1, if_neg w1]
    by_cases w5 : wayN c (k / 2) = 5
    · rw [if_pos w5, if_pos w5, List.append_assoc, List.append_assoc, List.append_assoc, List.append_assoc]
      exact bar _ _ (not124 (al hx))
    · rw [if_neg w5, if_neg w5]
      by_cases w2 : wayN c (k / 2) = 2
      · rw [if_pos w2, if_pos w2, List.append_assoc, List.append_assoc]
        exact no _ (not124 (app (al hb) (app sp (app (al hx) (al hs)))))
      · rw [if_neg w2, if_neg w2]
        by_cases w3 : wayN c (k / 2) = 3
        · rw [if_pos w3, if_pos w3, List.append_assoc]
          exact no _ (not124 (app mi (app (al hx) (al hs))))
        · rw [if_neg w3, if_neg w3]
          exact no _ (not124 (app (al hx) (al hs)))
/-! PbMath1: ### they differ -/
theorem count_al {x : Nat} (hx : ¬ Al x) {l : List Nat} (h : ∀ y ∈ l, Al y) : l.count x = 0 := List.count_eq_zero.mpr fun hm => hx (h x hm)
theorem cut_at {z : Nat} : ∀ {l1 l2 r1 r2 : List Nat}, z ∉ l1 → z ∉ l2 → l1 ++ ([z] ++ r1) = l2 ++ ([z] ++ r2) → l1 = l2 ∧ r1 = r2
  | [], [], _, _, _, _, h => ⟨rfl, by simpa using h⟩
  | [], b :: l2, _, _, _, h2, h => by
    simp at h
    exact absurd h.1 (fun e => h2 (e ▸ List.mem_cons_self))
  | a :: l1, [], _, _, h1, _, h => by
    simp at h
    exact absurd h.1 (fun e => h1 (e ▸ List.mem_cons_self))
  | a :: l1, b :: l2, r1, r2, h1, h2, h => by
    rw [List.cons_append, List.cons_append] at h
    injection h with e1 e2
    obtain ⟨i1, i2⟩ := cut_at (fun hm => h1 (List.mem_cons_of_mem _ hm)) (fun hm => h2 (List.mem_cons_of_mem _ hm)) e2
    exact ⟨by rw [e1, i1], i2⟩
theorem shift_eq {q z : Nat} : ∀ {v : List Nat}, q :: v = v ++ [z] → q = z
  | [], h => by simpa using h
  | a :: v, h => by
    rw [List.cons_append] at h
    injection h with e1 e2
    rw [e1]
    exact shift_eq e2
theorem suf_cases (k : Nat) : (sufL k = [] ∧ k % 2 = 0) ∨ (sufL k = [45] ∧ k % 2 = 1) := by
  unfold sufL
  by_cases h : k % 2 = 1
  · rw [if_pos h]; exact .inr ⟨rfl, h⟩
  · rw [if_neg h]; exact .inl ⟨rfl, by omega⟩
theorem num_tail {d d' : Nat} {v : List Nat} (h : numL d ++ v = numL d' ++ v ++ [45]) : False := by
  have hl := congrArg List.length h
  simp only [List.length_append, List.length_cons, List.length_nil] at hl
  have h1 : (numL d).take (numL d').length = numL d' := by
    have := congrArg (List.take (numL d').length) h
    rw [List.take_append_of_le_length (by omega), List.append_assoc, List.take_left] at this
    exact this
  have h2 : (numL d).drop (numL d').length ++ v = v ++ [45] := by
    have := congrArg (List.drop (numL d').length) h
    rw [List.drop_append_of_le_length (by omega), List.append_assoc, List.drop_left] at this
    exact this
  have h3 : ((numL d).drop (numL d').length).length = 1 := by rw [List.length_drop]; omega
  obtain ⟨q, hq⟩ : ∃ q, (numL d).drop (numL d').length = [q] := List.length_eq_one_iff.mp h3
  rw [hq] at h2
  have e := shift_eq (show q :: v = v ++ [45] from h2)
  have hm : q ∈ numL d := List.mem_of_mem_drop (i := (numL d').length) (by rw [hq]; exact List.mem_singleton.mpr rfl)
  have := num_dig d q hm
  omega
theorem core_a {c : Int} {a b : Nat} (h : headX c (a / 2) ++ sufL a = headX c (b / 2) ++ sufL b) : a = b := by
  unfold headX at h
  rw [List.append_assoc, List.append_assoc, List.append_assoc, List.append_assoc] at h
  have h := List.append_cancel_left h
  have fin : numL (a / 2) = numL (b / 2) → a % 2 = b % 2 → a = b := fun e1 e2 => by
    have := numL_inj e1
    omega
  rcases suf_cases a with ⟨e1, p1⟩ | ⟨e1, p1⟩ <;> rcases suf_cases b with ⟨e2, p2⟩ | ⟨e2, p2⟩ <;> rw [e1, e2] at h
  · rw [List.append_nil] at h
    exact fin (List.append_cancel_right h) (by omega)
  · rw [List.append_nil, ← List.append_assoc] at h
    exact (num_tail h).elim
  · rw [List.append_nil, ← List.append_assoc] at h
    exact (num_tail h.symm).elim
  · exact fin (List.append_cancel_right h) (by omega)
theorem core_b {c : Int} {a b : Nat} (h : [45] ++ (headX c (a / 2) ++ sufL a) = headX c (b / 2) ++ sufL b) : False := by
  unfold headX at h
  cases hn : numL (b / 2) with
  | nil => exact numL_ne _ hn
  | cons r rest =>
    rw [hn] at h
    have e : (45 :: (baseL c).take (atL c)) ++ (numL (a / 2) ++ (baseL c).drop (atL c) ++ sufL a) = ((baseL c).take (atL c) ++ [r]) ++ (rest ++ (baseL c).drop (atL c) ++ sufL b) := by
      simpa [List.append_assoc] using h
    have e2 := (List.append_inj e (by simp)).1
    have e3 := shift_eq e2
    have := num_dig (b / 2) r (by rw [hn]; exact List.mem_cons_self)
    omega
theorem shownL_inj {c : Int} {a b : Nat} (h : shownL c a = shownL c b) : a = b := by
  have hb := base_al c
  have c44 : ∀ {l : List Nat}, (∀ y ∈ l, Al y) → l.count 44 = 0 := fun h => count_al (by decide) h
  have c32 : ∀ {l : List Nat}, (∀ y ∈ l, Al y) → l.count 32 = 0 := fun h => count_al (by decide) h
  have n44 : (shownL c a).count 44 = (shownL c b).count 44 := by rw [h]
  have n32 : (shownL c a).count 32 = (shownL c b).count 32 := by rw [h]
  have cnt : ∀ k : Nat, (wayN c (k / 2) = 1 ∧ (shownL c k).count 44 = 1 ∧ (shownL c k).count 32 = 1) ∨ (wayN c (k / 2) = 5 ∧ (shownL c k).count 44 = 1 ∧ (shownL c k).count 32 = 2) ∨ (wayN c (k / 2) = 2 ∧ (shownL c k).count 44 = 0 ∧ (shownL c k).count 32 = 1) ∨
      (wayN c (k / 2) ≠ 1 ∧ wayN c (k / 2) ≠ 5 ∧ wayN c (k / 2) ≠ 2 ∧ (shownL c k).count 44 = 0 ∧ (shownL c k).count 32 = 0) := fun k => by
    have a1 := c44 hb
    have a2 := c32 hb
    have b1 := c44 (headX_al c (k / 2))
    have b2 := c32 (headX_al c (k / 2))
    have d1 := c44 (suf_al k)
    have d2 := c32 (suf_al k)
    unfold shownL
    by_cases w1 : wayN c (k / 2) = 1
    · rw [if_pos w1]
      refine .inl ⟨w1, ?_, ?_⟩ <;> simp [List.count_append, List.count_cons, *]
    · rw [if_neg w1]
      by_cases w5 : wayN c (k / 2) = 5
      · rw [if_pos w5]
        refine .inr (.inl ⟨w5, ?_, ?_⟩) <;> simp [List.count_append, List.count_cons, a1, a2, b1, b2, d1, d2]
      · rw [if_neg w5]
        by_cases w2 : wayN c (k / 2) = 2
        · rw [if_pos w2]
          refine .inr (.inr (.inl ⟨w2, ?_, ?_⟩)) <;> simp [List.count_append, List.count_cons, a1, a2, b1, b2, d1, d2]
        · rw [if_neg w2]
          refine .inr (.inr (.inr ⟨w1, w5, w2, ?_, ?_⟩))
          · split <;> simp [List.count_append, List.count_cons, a1, a2, b1, b2, d1, d2]
          · split <;> simp [List.count_append, List.count_cons, a1, a2, b1, b2, d1, d2]
  have no44 : ∀ {l : List Nat}, (∀ y ∈ l, Al y ∨ y = 32) → 44 ∉ l := fun h hm => by
    rcases h _ hm with h | h
    · exact (al_ne h).2.1 rfl
    · omega
  have par : a % 2 = b % 2 → a / 2 = b / 2 → a = b := fun h1 h2 => by omega
  have xs : ∀ {d d' : Nat}, headX c d = headX c d' → d = d' := fun {d d'} h => by
    unfold headX at h
    exact numL_inj (List.append_cancel_left (List.append_cancel_right h))
  have sf : sufL a = sufL b → a % 2 = b % 2 := fun h => by
    rcases suf_cases a with ⟨e1, p1⟩ | ⟨e1, p1⟩ <;> rcases suf_cases b with ⟨e2, p2⟩ | ⟨e2, p2⟩ <;> rw [e1, e2] at h
    · omega
    · cases h
    · cases h
    · omega
  have al2 : ∀ {k : Nat}, ∀ y ∈ baseL c ++ sufL k, Al y ∨ y = 32 := fun {k} y hy => by
    rcases List.mem_append.mp hy with hy | hy
    · exact .inl (hb y hy)
    · exact .inl (suf_al k y hy)
  rcases cnt a with ⟨wa, qa, ra⟩ | ⟨wa, qa, ra⟩ | ⟨wa, qa, ra⟩ | ⟨wa1, wa5, wa2, qa, ra⟩ <;> rcases cnt b with ⟨wb, qb, rb⟩ | ⟨wb, qb, rb⟩ | ⟨wb, qb, rb⟩ | ⟨wb1, wb5, wb2, qb, rb⟩ <;> try omega
  · unfold shownL at h
    rw [if_pos wa, if_pos wb] at h
    obtain ⟨e1, e2⟩ := cut_at (no44 al2) (no44 al2) h
    exact par (sf (List.append_cancel_left e1)) (xs (List.append_cancel_left e2))
  · unfold shownL at h
    rw [if_neg (show ¬ wayN c (a / 2) = 1 by omega), if_neg (show ¬ wayN c (b / 2) = 1 by omega), if_pos wa, if_pos wb] at h
    have al3 : ∀ {k : Nat}, ∀ y ∈ baseL c ++ ([32] ++ (baseL c ++ sufL k)), Al y ∨ y = 32 := fun {k} y hy => by
      rcases List.mem_append.mp hy with hy | hy
      · exact .inl (hb y hy)
      · rcases List.mem_append.mp hy with hy | hy
        · exact .inr (List.mem_singleton.mp hy)
        · exact al2 y hy
    obtain ⟨e1, e2⟩ := cut_at (no44 al3) (no44 al3) h
    exact par (sf (List.append_cancel_left (List.append_cancel_left (List.append_cancel_left e1)))) (xs (List.append_cancel_left e2))
  · unfold shownL at h
    rw [if_neg (show ¬ wayN c (a / 2) = 1 by omega), if_neg (show ¬ wayN c (a / 2) = 5 by omega), if_neg (show ¬ wayN c (b / 2) = 1 by omega), if_neg (show ¬ wayN c (b / 2) = 5 by omega), if_pos wa, if_pos wb] at h
    exact core_a (List.append_cancel_left (List.append_cancel_left h))
  · unfold shownL at h
    rw [if_neg wa1, if_neg wa5, if_neg wa2, if_neg wb1, if_neg wb5, if_neg wb2] at h
    by_cases w3 : wayN c (a / 2) = 3 <;> by_cases w3' : wayN c (b / 2) = 3
    · rw [if_pos w3, if_pos w3'] at h
      exact core_a (List.append_cancel_left h)
    · rw [if_pos w3, if_neg w3'] at h
      exact (core_b h).elim
    · rw [if_neg w3, if_pos w3'] at h
      exact (core_b h.symm).elim
    · rw [if_neg w3, if_neg w3'] at h
      exact core_a h
theorem shown_inj {c : Int} {a b : Nat} (h : shownS (headBy c a) = shownS (headBy c b)) : a = b := by
  rw [shown_head, shown_head] at h
  refine shownL_inj (c := c) ?_
  have := congrArg tl h
  rwa [tl_mk, tl_mk] at this
theorem headBy_inj {c : Int} {a b : Nat} (h : headBy c a = headBy c b) : a = b := shown_inj (by rw [h])
theorem headBy_ok (c : Int) {k : Nat} (hk : k < 200) : (headBy c k).length ≤ 400 ∧ PyData.strOk (headBy c k) = true := by
  constructor
  · rw [len_tl]
    have := headL_len (c := c) hk
    show (headL c k).length ≤ 400
    omega
  · unfold PyData.strOk
    show ((headL c k).toArray).all (fun x => decide (x < 0x110000)) = true
    rw [List.all_toArray, List.all_eq_true]
    intro x hx
    have hb := base_al c
    have hx' := headX_al c (k / 2)
    have hs := suf_al k
    have : Al x ∨ x = 32 ∨ x = 124 := by
      unfold headL wayL at hx
      rcases List.mem_append.mp hx with hx | hx
      · split at hx
        · rcases List.mem_append.mp hx with hx | hx
          · exact .inl (hx' x hx)
          · rcases List.mem_append.mp hx with hx | hx
            · exact .inr (.inr (List.mem_singleton.mp hx))
            · exact .inl (hb x hx)
        · split at hx
          · rcases List.mem_append.mp hx with hx | hx
            · exact .inl (hx' x hx)
            · rcases List.mem_append.mp hx with hx | hx
              · exact .inr (.inr (List.mem_singleton.mp hx))
              · rcases List.mem_append.mp hx with hx | hx
                · exact .inl (hb x hx)
                · rcases List.mem_append.mp hx with hx | hx
                  · exact .inr (.inl (List.mem_singleton.mp hx))
                  · exact .inl (hb x hx)
          · split at hx
            · rcases List.mem_append.mp hx with hx | hx
              · exact .inl (hb x hx)
              · rcases List.mem_append.mp hx with hx | hx
                · exact .inr (.inl (List.mem_singleton.mp hx))
                · exact .inl (hx' x hx)
            · split at hx
              · rcases List.mem_append.mp hx with hx | hx
                · rw [List.mem_singleton.mp hx]; exact .inl (.inr (.inr (.inr rfl)))
                · exact .inl (hx' x hx)
              · exact .inl (hx' x hx)
      · exact .inl (hs x hx)
    refine decide_eq_true ?_
    rcases this with h | h | h
    · unfold Al at h; omega
    · omega
    · omega
/-- a path of such heads -/
structure HPath (c : Int) (p : Path) : Prop where
  ne : p ≠ []
  few : p.length ≤ 7
  hd : ∀ h ∈ p, ∃ k, k < 200 ∧ h = headBy c k
theorem HPath.ok {c : Int} {p : Path} (h : HPath c p) : PathOk p ∧ Sg p :=
  ⟨⟨Nat.le_trans h.few (by decide), fun x hx => by
    obtain ⟨k, hk, rfl⟩ := h.hd x hx
    exact (headBy_ok c hk).1⟩, fun x hx => by
    obtain ⟨k, hk, rfl⟩ := h.hd x hx
    exact (headBy_ok c hk).2⟩
theorem MPath.h {c : Int} {p : Path} (h : MPath c p) : HPath c p := ⟨h.ne, Nat.le_trans h.few (by decide), fun x hx => by
  obtain ⟨k, hk, e⟩ := h.hd x hx
  exact ⟨k, by omega, e⟩⟩
end PB
/-! PbLaw4: the law's sees, walked -/
namespace PB
open PySem PySem.Spec PyProof.Rows L2 TL

theorem FreshOk.h {there : List Path} {by_ : Int} {k : Nat} {q : Path} (hk : k < 100) (h : FreshOk there by_ k q) (ht : ∀ p ∈ there, MPath by_ p) : HPath by_ q :=
  ⟨(fun e => by have := h.own; rw [e] at this; cases this), Nat.le_trans h.few (by decide), fun x hx => by
    rcases h.hd x hx with rfl | ⟨p, hp, hx⟩
    · exact ⟨20 + k, by omega, rfl⟩
    · obtain ⟨j, hj, e⟩ := (ht p hp).hd x hx
      exact ⟨j, by omega, e⟩⟩
theorem FreshOk.new {there : List Path} {by_ : Int} {k : Nat} {q : Path} (h : FreshOk there by_ k q) (ht : ∀ p ∈ there, MPath by_ p) : q ∉ there := fun hq => by
  obtain ⟨j, hj, e⟩ := (ht q hq).hd _ h.own
  have := headBy_inj e
  omega
theorem FreshOk.diff {there : List Path} {by_ : Int} {j k : Nat} {q q' : Path} (h : FreshOk there by_ k q) (h' : FreshOk there by_ j q') (ht : ∀ p ∈ there, MPath by_ p) (hjk : j < k) : q ≠ q' := fun e => by
  subst e
  rcases h'.hd _ h.own with e | ⟨p, hp, hx⟩
  · have := headBy_inj e
    omega
  · obtain ⟨i, hi, e⟩ := (ht p hp).hd _ hx
    have := headBy_inj e
    omega
theorem kinv_nil {β : Type} {R : Rl β} {g : Path → β} {H : Hp} {d : Addr} {ins : List Path} (h : KInv R g H d [] ins) : ins = [] := by
  cases ins with
  | nil => rfl
  | cons p ps =>
    have := (h.keys (keysOf p)).mpr ⟨p, List.mem_cons_self, rfl⟩
    cases this
section
variable {P : Program} {w : World} {K : PySem.W.Frag} {mg : Str → Option Value} {base : Heap}
theorem scSees : FnScope ["_law_cells", "_law_there", "_law_full", "_law_by", "_law_goals", "_law_ends", "_law_sees_here", "_law_path", "_law_k", "_law_number", "_law_goal"] ["_law_cells", "_law_there", "_law_full", "_law_by"] (defScope sSees) := ⟨rfl, rfl, rfl, by decide +kernel, rfl, by decide +kernel, by decide +kernel⟩
def spSees : Sp := fun vs H Q _ => ∃ (c t f : Addr) (by_ : Int) (ns : List Int) (there full : List Path) (tvs fvs : List V), vs = [.ref c, .ref t, .ref f, .int by_] ∧ H c = some (.lst (ns.map V.int)) ∧ ns.length ≤ 8 ∧ H t = some (.lst tvs) ∧ Paired (fun b y => RPath b y H) there tvs ∧ H f = some (.lst fvs) ∧ Paired (fun b y => RPath b y H) full fvs ∧
  (∀ p ∈ there, MPath by_ p) ∧ (∀ p ∈ full, p ∈ there) ∧ (there ≠ [] → full ≠ []) ∧ there.length ≤ 1000 ∧
  ∀ (H' : Hp) (o : Addr) (us : List V) (ss : List Se) (fr : List Path) (E : List (Path × Path)), Same H H' → H o = none → H' o = some (.lst us) → Paired (fun b y => RSee b y H') ss us → SInv there full fr E ss → (∀ p ∈ fr, HPath by_ p) → ss.length ≤ 10 → E.length ≤ 9 → Q (.ref o) H'
theorem okSees (T : Top K mg) : Def1 P w K mg base 3 "_law_sees" spSees := by
  refine def1 T.fSees scSees (fun vs H Q E h => ?_) (fun _ _ _ _ _ _ us hl => match us, hl with | [_, _, _, _], _ => rfl) (fun f cdv A outer s H vs Q E hr h => ?_)
  · obtain ⟨c, t, f, by_, ns, there, full, tvs, fvs, rfl, _⟩ := h
    rfl
  · obtain ⟨c, t, f, by_, ns, there, full, tvs, fvs, rfl, hc, hnz, ht, prt, hf, prf, hm, hsub, hfn, htz, q⟩ := h
    refine ⟨_, pss_cons (ps_set (i := 4) scSees.nd rfl (.inl rfl) (pe_callTy call_list_of (by rfl) T.list (by decide +kernel) (pa_cons (pv 1) pa_nil)))
      (pss_cons (ps_set (i := 5) scSees.nd rfl (.inl rfl) pe_dnewT)
      (pss_cons (ps_set (i := 6) scSees.nd rfl (.inl rfl) (pe_lst pa_nil))
      (pss_cons (ps_for PassesOwn.never rfl (pi_list (pv 1)) (pg_name (i := 7) scSees.nd rfl (.inl rfl))
        (pss_one (ps_if (PW.pt (pw_and (pt_cmpR (op_notInD (hu65 hr)) (pv 7) (pv 2) rfl) (pw_and (pt_cmpR op_gt (pe_op op_mod (pv 3) pe_int) pe_int (nomark _)) (pw_and1 (pt_cmpR (op_eq_e hr.units0) (pv 5) pe_dnewT (nomark _))))))
          (pss_cons (ps_dput (hu_of hr) (pv 5) (pv 7) (pe_ix ix_list (pv 2) (pe_op op_mod (pe_op op_fdiv (pv 3) pe_int) (pe_callB call_len_seq (by rfl) T.len PySem.boot_len (pa_cons (pv 2) pa_nil))) (fun _ _ => rfl)) rfl)
          (pss_cons (ps_expr (pe_bm PySem.F.plainAttrs_list PySem.F.slot_list_append PySem.F.type_list_append mt_append (pv 6) (pa_cons (pe_tup (pa_cons (pv 7) (pa_cons (pe_dget (hu_of hr) (pv 5) (pv 7) (fun _ _ => rfl)) (pa_cons pe_bl pa_nil)))) pa_nil)))
          (pss_one (ps_if (pt_cmpR op_eq (pe_op op_mod (pv 3) pe_int) pe_int (nomark _))
            (pss_one (ps_expr (pe_bm PySem.F.plainAttrs_list PySem.F.slot_list_append PySem.F.type_list_append mt_append (pv 6) (pa_cons (pe_tup (pa_cons (pv 7) (pa_cons (pe_ix ix_list (pv 2) (pe_op op_mod (pe_op op_fdiv (pv 3) pe_int) (pe_callB call_len_seq (by rfl) T.len PySem.boot_len (pa_cons (pv 2) pa_nil))) (fun _ _ => rfl)) (pa_cons pe_bl pa_nil)))) pa_nil)))) pss_nil)))) pss_nil)))
      (pss_cons (ps_for PassesOwn.never rfl (pi_range1 rfl T.range (pa_cons (pe_op op_mul (pe_callB call_len_seq (by rfl) T.len PySem.boot_len (pa_cons (pv 0) pa_nil)) (pe_callTy call_int1 (by rfl) T.int (by decide +kernel) (pa_cons (pe_cmpR (op_neD hr.units) (pv 1) (pe_lst pa_nil) (nomark _)) pa_nil))) pa_nil)) (pg_name (i := 8) scSees.nd rfl (.inl rfl))
        (pss_cons (ps_set (i := 9) scSees.nd rfl (.inl rfl) (pe_op op_mod (pe_op op_mul (pe_ix ix_list (pv 0) (pv 8) (fun _ _ => rfl)) pe_int) pe_int))
        (pss_cons (ps_set (i := 10) scSees.nd rfl (.inl rfl) (pe_ix ix_list (pv 4) (pe_op op_mod (pe_op op_fdiv (pv 9) pe_int) (pe_callB call_len_seq (by rfl) T.len PySem.boot_len (pa_cons (pv 4) pa_nil))) (fun _ _ => rfl)))
        (pss_cons (ps_set (i := 7) scSees.nd rfl (.inl rfl) (pe_f (okFresh T) hr (by decide) rfl (pa_cons (pv 1) (pa_cons (pv 8) (pa_cons (pe_op op_fdiv (pv 9) pe_int) (pa_cons (pv 3) pa_nil))))))
        (pss_one (ps_if (pt_cmpR op_eq (pe_op op_mod (pv 9) pe_int) pe_int (nomark _))
          (pss_cons (ps_dput (hu_of hr) (pv 5) (pv 7) (pe_dget2 (hu_of hr) (pv 5) (pv 10) (pv 10) ⟨rfl, rfl, rfl, rfl⟩) rfl)
          (pss_cons (ps_expr (pe_bm PySem.F.plainAttrs_list PySem.F.slot_list_append PySem.F.type_list_append mt_append (pv 4) (pa_cons (pv 7) pa_nil)))
          (pss_one (ps_expr (pe_bm PySem.F.plainAttrs_list PySem.F.slot_list_append PySem.F.type_list_append mt_append (pv 6) (pa_cons (pe_tup (pa_cons (pv 7) (pa_cons (pv 10) (pa_cons pe_bl pa_nil)))) pa_nil))))))
          (pss_cons (ps_set (i := 7) scSees.nd rfl (.inl rfl) (pe_ix ix_list (pv 1) (pe_op op_mod (pe_op op_fdiv (pv 9) pe_int) (pe_callB call_len_seq (by rfl) T.len PySem.boot_len (pa_cons (pv 1) pa_nil))) (fun _ _ => rfl)))
          (pss_one (ps_if (PW.pt (pw_and (pt_cmpR (op_neD hr.units) (pv 7) (pv 10) (nomark _)) (pw_and1 (pt_cmpR (op_neD hr.units) (pv 7) (pe_dget2 (hu_of hr) (pv 5) (pv 10) (pv 10) ⟨rfl, rfl, rfl, rfl⟩) (nomark _)))))
            (pss_one (ps_expr (pe_bm PySem.F.plainAttrs_list PySem.F.slot_list_append PySem.F.type_list_append mt_append (pv 6) (pa_cons (pe_tup (pa_cons (pv 7) (pa_cons (pv 10) (pa_cons pe_bl pa_nil)))) pa_nil)))) pss_nil)))))))))
      (pss_one (ps_ret (pv 6))))))), ?_⟩
    have hml : ∀ p ∈ there, PathOk p ∧ Sg p := fun p hp => (hm p hp).h.ok
    have htl := Paired.length prt
    have hfl := Paired.length prf
    have hfm : ∀ p ∈ full, p ∈ there := hsub
    have hlowT : ∀ (l : List Path), (∀ p ∈ l, Sg p) → Low 2 (.list (l.map pathD)) := fun l h => low_list fun d hd => by
      obtain ⟨x, hx, rfl⟩ := List.mem_map.mp hd
      exact low_path (h x hx)
    -- goals, ends, sees_here
    refine ⟨_, rfl, t, tvs, rfl, .inl (sqL ht), fun gl ngl => ?_⟩
    have s1 : Same H (upd H gl (.lst tvs)) := same_upd ngl
    refine fun d nd => ?_
    have s2 : Same H (upd (upd H gl (.lst tvs)) d (.dT [])) := s1.trans (same_upd nd)
    have nd0 : H d = none := Same.free s1 nd
    refine ⟨Nat.zero_le _, fun o no => ?_⟩
    have s3 : Same H (upd (upd (upd H gl (.lst tvs)) d (.dT [])) o (.lst [])) := s2.trans (same_upd no)
    have no0 : H o = none := Same.free s2 no
    have hgld : gl ≠ d := ne_of_none upd_same nd
    have hdo : d ≠ o := ne_of_none upd_same no
    have hglo : gl ≠ o := ne_of_none (same_upd nd _ _ upd_same) no
    refine ⟨_, rfl, t, rfl, ⟨_, sqL (s3 _ _ ht)⟩, ?_⟩
    refine for_it (walk_list (xs := tvs)) (fun i σ H1 => ∃ (E : List (Path × Path)) (ss : List Se) (us : List V) (kvs : List (List Key × V)) (y7 : Option V), σ = [some (.ref c), some (.ref t), some (.ref f), some (.int by_), some (.ref gl), some (.ref d), some (.ref o), y7, none, none, none] ∧ Same H H1 ∧ H1 gl = some (.lst tvs) ∧ H1 o = some (.lst us) ∧ Paired (fun b y => RSee b y H1) ss us ∧
      KInv RPath (finE E) H1 d kvs (keysE E) ∧ SInv there full [] E ss ∧ ss.length ≤ 2 ∧ E.length ≤ 1 ∧ (E = [] → ss = [])) ⟨[], [], [], [], none, rfl, s3, same_upd no _ _ (same_upd nd _ _ upd_same), upd_same, .nil, KInv.none (same_upd no _ _ upd_same), SInv.start _ _, Nat.zero_le _, Nat.zero_le _, fun _ => rfl⟩ (fun i σ H1 hi hp => ?_) (fun i x σ H1 H2 hi hp hy => ?_) (fun σ H1 hp => ?_)
    · obtain ⟨_, _, _, _, _, _, sm, _⟩ := hp
      exact sqL (sm _ _ ht)
    · obtain ⟨E, ss, us, kvs, y7, rfl, sm, hgl, ho, prs, ki, si, hsz, hez, hes⟩ := hp
      obtain ⟨rfl, hx⟩ := hy
      obtain ⟨p, hp0, rp⟩ := pr_get2 (Paired.monoR mono_path sm prt) hx
      have hpt := List.mem_of_getElem? hp0
      obtain ⟨pa, rfl, hpa⟩ := rp
      have hf2 := sm _ _ hf
      have prf2 := Paired.monoR mono_path sm prf
      refine ⟨_, rfl, _, rfl, pathD p, full.map pathD, dp_at hpa, .lst (sqL hf2) (dp_pair (fun b v h => dp_path h) prf2), (low_path (hml p hpt).2).shaped (by decide), (hlowT full (fun p hp => (hml p (hsub p hp)).2)).shaped (by decide), _, rfl, ?_⟩
      rw [any_path]
      by_cases hpf : p ∈ full
      · rw [decide_eq_true hpf]
        exact iteF (iteF ⟨E, ss, us, kvs, _, rfl, sm, hgl, ho, prs, ki, si, hsz, hez, hes⟩)
      · rw [decide_eq_false hpf]
        refine iteT ⟨_, rfl, by_, 3, rfl, rfl, (by show (0 : Int) < 3; decide), _, 0, rfl, rfl, _, rfl, ite2 (fun h3 => ?_) (fun h3 => iteF ⟨E, ss, us, kvs, _, rfl, sm, hgl, ho, prs, ki, si, hsz, hez, hes⟩)⟩
        refine ⟨_, rfl, fun l nl => ?_⟩
        have sl : Same H2 (upd H2 l (.dT [])) := same_upd nl
        refine ⟨d, l, kvs, rfl, rfl, sl _ _ ki.dat, upd_same, _, rfl, ?_⟩
        have prs1 := Paired.monoR mono_see sl prs
        have ki1 := ki.same mono_path sl
        cases kvs with
        | cons kv kvs => exact iteF ⟨E, ss, us, kv :: kvs, _, rfl, sm.trans sl, sl _ _ hgl, sl _ _ ho, prs1, ki1, si, hsz, hez, hes⟩
        | nil =>
          have hE : E = [] := by
            have := kinv_nil ki
            unfold keysE at this
            exact List.map_eq_nil_iff.mp this
          subst hE
          have hss := hes rfl
          subst hss
          cases prs
          have hfp : 0 < fvs.length := by
            rw [← hfl]
            exact List.length_pos_iff.mpr (hfn (List.ne_nil_of_mem hpt))
          obtain ⟨j1, v1, hv1, hat1⟩ := ix_mod (by_ / 3) hfp
          obtain ⟨j2, v2, hv2, hat2⟩ := ix_mod (by_ / 7) hfp
          obtain ⟨f1, hf1, rf1⟩ := pr_get2 prf2 hv1
          obtain ⟨f2, hf2', rf2⟩ := pr_get2 prf2 hv2
          have hf1m := List.mem_of_getElem? hf1
          have hf2m := List.mem_of_getElem? hf2'
          obtain ⟨fa1, rfl, hfa1⟩ := rf1
          obtain ⟨fa2, rfl, hfa2⟩ := rf2
          refine iteT ⟨_, rfl, _, rfl, by_, 3, rfl, rfl, ⟨by decide, by decide⟩, _, rfl, f, _, rfl, .inl (sqL (sl _ _ hf2)), _, _, rfl, rfl, (by show (0 : Int) < _; omega), f, _, _, _, rfl, rfl, sqL (sl _ _ hf2), hat1, _, rfl, _, rfl, d, _, rfl, DPut.t (k := keysOf p) ki1.dat (by rw [keysOf_kV]; exact sl _ _ hpa) (szlt (by show 0 ≤ 100000; decide)), ?_⟩
          have hfin : ∀ z : Path, finE [] z = z := fun z => finE_not (show z ∉ keysE [] from List.not_mem_nil)
          have si1 := si.put (fr' := []) (q := p) (g := f1) (fun _ h => h) (.inl hpt) (fun _ h => absurd h List.not_mem_nil) List.not_mem_nil (fun _ h => absurd h List.not_mem_nil) (.inl (hsub f1 hf1m)) (fun e => hpf (e ▸ hf1m)) hpf
          rw [hfin f1, List.nil_append, List.nil_append] at si1
          have hfE : ∀ z : Path, finE [(p, f1)] z = if z = p then f1 else z := fun z => by
            have := finE_snoc (E := []) (q := p) (e := f1) List.not_mem_nil z
            rw [List.nil_append] at this
            rw [this, hfin]
          have kc : KInv RPath (finE [(p, f1)]) (upd H2 l (.dT [])) d [] (keysE []) := KInv.congr ki1 (fun _ h => absurd h List.not_mem_nil)
          have ki2 : KInv RPath (finE [(p, f1)]) (upd (upd H2 l (.dT [])) d (.dT (putK [] (keysOf p) (.ref fa1)))) d (putK [] (keysOf p) (.ref fa1)) (keysE [] ++ [p]) := kc.put (by
            rw [hfE, if_pos rfl]
            exact ⟨fa1, rfl, erase_at (sl _ _ hfa1) (ne_of (sl _ _ hfa1) ki1.dat (fun z => nomatch z))⟩)
          have s4 : Same H (upd (upd H2 l (.dT [])) d (.dT (putK [] (keysOf p) (.ref fa1)))) := same_upd2 nd0 (sm.trans sl)
          have ts4 : TSame H2 (upd (upd H2 l (.dT [])) d (.dT (putK [] (keysOf p) (.ref fa1)))) := (Same.tup sl).trans (tsame_upd ki1.dat (fun _ z => nomatch z))
          have ho4 : (upd (upd H2 l (.dT [])) d (.dT (putK [] (keysOf p) (.ref fa1)))) o = some (.lst []) := by rw [upd_ne hdo.symm]; exact sl _ _ ho
          have hgl4 : (upd (upd H2 l (.dT [])) d (.dT (putK [] (keysOf p) (.ref fa1)))) gl = some (.lst tvs) := by rw [upd_ne hgld]; exact sl _ _ hgl
          have hvp : valV (putK ([] : List (List Key × V)) (keysOf p) (.ref fa1)) (keysOf p) = some (.ref fa1) := by rw [valV_put, if_pos rfl]
          refine ⟨_, rfl, .inl ⟨rfl, _, sqL ho4⟩, _, rfl, _, rfl, _, rfl, d, _, rfl, by rw [← hvp]; exact DGet.t ki2.dat (by rw [keysOf_kV]; exact ts4 _ _ hpa), sz (by show 3 ≤ 100000; decide), fun tp ntp => ?_⟩
          have stp := same_upd ntp (o := .tup [.ref pa, .ref fa1, .bl false])
          refine ⟨o, [], _, rfl, rfl, stp _ _ ho4, szlt (by show 0 ≤ 100000; decide), ?_⟩
          generalize hH5 : upd (upd (upd H2 l (.dT [])) d (.dT (putK [] (keysOf p) (.ref fa1)))) tp (.tup [.ref pa, .ref fa1, .bl false]) = H5 at stp
          have htp5 : H5 tp = some (.tup [.ref pa, .ref fa1, .bl false]) := by rw [← hH5]; exact upd_same
          have ts5 := ts4.trans (Same.tup stp)
          have ho5 := stp _ _ ho4
          have ts6 : TSame H5 (upd H5 o (.lst ([] ++ [.ref tp]))) := tsame_upd ho5 (fun _ z => nomatch z)
          have ki5 := ki2.same mono_path stp
          have hdo5 : (upd H5 o (.lst ([] ++ [.ref tp]))) d = H5 d := upd_ne hdo
          have ki6 := ki5.tsame ts6 hdo5
          have s6 : Same H (upd H5 o (.lst ([] ++ [.ref tp]))) := same_upd2 no0 (s4.trans stp)
          have hgl6 : (upd H5 o (.lst ([] ++ [.ref tp]))) gl = some (.lst tvs) := by rw [upd_ne hglo]; exact stp _ _ hgl4
          have rs6 : RSee (p, f1, false) (.ref tp) (upd H5 o (.lst ([] ++ [.ref tp]))) := ⟨tp, pa, fa1, rfl, ts6 _ _ htp5, ts6 _ _ (ts5 _ _ hpa), ts6 _ _ (ts5 _ _ hfa1)⟩
          refine ⟨_, rfl, by_, 2, rfl, rfl, (by show (0 : Int) < 2; decide), rfl, _, rfl, ite2 (fun _ => ?_) (fun _ => ?_)⟩
          · have hf6 := s6 _ _ hf
            refine ⟨_, rfl, .inl ⟨rfl, _, sqL upd_same⟩, _, rfl, _, rfl, _, rfl, by_, 7, rfl, rfl, ⟨by decide, by decide⟩, _, rfl, f, _, rfl, .inl (sqL hf6), _, _, rfl, rfl, (by show (0 : Int) < _; omega), f, _, _, _, rfl, rfl, sqL hf6, hat2, sz (by show 3 ≤ 100000; decide), fun tq ntq => ?_⟩
            have stq := same_upd ntq (o := .tup [.ref pa, .ref fa2, .bl true])
            refine ⟨o, [] ++ [.ref tp], _, rfl, rfl, stq _ _ upd_same, szlt (by show 1 ≤ 100000; decide), ?_⟩
            have hne2 : p ≠ f2 := fun e => hpf (e ▸ hf2m)
            have si2 := si1.more hpt (.inl (hsub f2 hf2m)) hne2 (by rw [hfE, if_neg (fun z => hne2 z.symm)]; exact hne2)
            have ts7 := (Same.tup stq).trans (tsame_upd (o := .lst ([] ++ [.ref tp] ++ [.ref tq])) (stq _ _ upd_same) (fun _ z => nomatch z))
            refine ⟨[(p, f1)], [(p, f1, false), (p, f2, true)], [] ++ [.ref tp] ++ [.ref tq], _, _, rfl, same_upd2 no0 (s6.trans stq), ?_, upd_same, ?_, (ki6.same mono_path stq).tsame (tsame_upd (stq _ _ upd_same) (fun _ z => nomatch z)) (upd_ne hdo), si2, Nat.le_refl _, Nat.le_refl _, (fun e => nomatch e)⟩
            · rw [upd_ne hglo]; exact stq _ _ hgl6
            · refine .cons (see_t ts7 rs6) (.cons ⟨tq, pa, fa2, rfl, tsame_upd (stq _ _ upd_same) (fun _ z => nomatch z) _ _ upd_same, ts7 _ _ (ts6 _ _ (ts5 _ _ hpa)), ts7 _ _ (ts6 _ _ (ts5 _ _ hfa2))⟩ .nil)
          · exact ⟨[(p, f1)], [(p, f1, false)], _, _, _, rfl, s6, hgl6, upd_same, .cons rs6 .nil, ki6, si1, (show 1 ≤ 2 from by decide), Nat.le_refl _, (fun e => nomatch e)⟩
    · obtain ⟨E, ss, us, kvs, y7, rfl, sm, hgl, ho, prs, ki, si, hsz, hez, hes⟩ := hp
      -- the range
      have ht1 := sm _ _ ht
      have prt1 := Paired.monoR mono_path sm prt
      refine ⟨_, rfl, c, _, rfl, .inl (sqL (sm _ _ hc)), _, rfl, Nat.zero_le _, fun l nl => ?_⟩
      have sl : Same H1 (upd H1 l (.lst [])) := same_upd nl
      refine ne_nilB (n := 2) there.isEmpty (by cases there <;> rfl) (.lst (sqL (sl _ _ ht1)) (dp_pair (fun b v h => dp_path h) (Paired.monoR mono_path sl prt1))) upd_same (hlowT there fun p hp => (hml p hp).2) (by decide) ?_
      refine .inr ⟨_, rfl, _, _, rfl, rfl, .inl ⟨by rw [List.length_map]; omega, by rw [List.length_map]; omega⟩, ?_⟩
      obtain ⟨N, hN, hNz, hNt⟩ : ∃ N : Nat, ((ns.map V.int).length : Int) * (if (!there.isEmpty) = true then 1 else 0) = (N : Int) ∧ N ≤ ns.length ∧ (there = [] → N = 0) := by
        cases there with
        | nil => exact ⟨0, by simp, Nat.zero_le _, fun _ => rfl⟩
        | cons a b => exact ⟨ns.length, by simp, Nat.le_refl _, fun e => by cases e⟩
      refine ⟨_, rfl, ?_⟩
      rw [hN]
      refine ⟨by omega, by omega, ?_⟩
      have sm1 := sm.trans sl
      refine for_it walk_range (fun i σ H2 => ∃ (E : List (Path × Path)) (ss : List Se) (us : List V) (fr : List Path) (gvs : List V) (kvs : List (List Key × V)) (y7 y8 y9 y10 : Option V), σ = [some (.ref c), some (.ref t), some (.ref f), some (.int by_), some (.ref gl), some (.ref d), some (.ref o), y7, y8, y9, y10] ∧ Same H H2 ∧ H2 gl = some (.lst (tvs ++ gvs)) ∧ Paired (fun b y => RPath b y H2) fr gvs ∧ H2 o = some (.lst us) ∧ Paired (fun b y => RSee b y H2) ss us ∧
        KInv RPath (finE E) H2 d kvs (keysE E) ∧ SInv there full fr E ss ∧ (∀ q ∈ fr, ∃ j, j < i ∧ FreshOk there by_ j q) ∧ ss.length ≤ 2 + i ∧ E.length ≤ 1 + i ∧ fr.length ≤ i) ⟨E, ss, us, [], [], kvs, y7, none, none, none, rfl, sm1, by rw [List.append_nil]; exact sl _ _ hgl, .nil, sl _ _ ho, Paired.monoR mono_see sl prs, ki.same mono_path sl, si, fun _ h => absurd h List.not_mem_nil, hsz, hez, Nat.le_refl _⟩ (fun _ _ _ _ _ => trivial) (fun i x σ H2 H3 hi hp hy => ?_) (fun σ H2 hp => ?_)
      · obtain ⟨E, ss, us, fr, gvs, kvs, y7, y8, y9, y10, rfl, sm, hgl, prg, ho, prs, ki, si, hfr, hsz, hez, hfz⟩ := hp
        obtain ⟨rfl, hx⟩ := hy
        have hx : x = .int (i : Int) := hx.trans (congrArg V.int (by omega))
        subst hx
        have hi8 : i < 8 := by omega
        have htn : there ≠ [] := fun e => by have := hNt e; omega
        have hin : i < ns.length := by omega
        have hni : (ns.map V.int)[i]? = some (.int ns[i]) := by
          rw [List.getElem?_map, List.getElem?_eq_getElem hin]; rfl
        have hc3 := sm _ _ hc
        refine ⟨_, rfl, _, rfl, c, _, (i : Int), _, rfl, rfl, sqL hc3, atI_nat hni, ns[i], 1583458089, rfl, rfl, .inr ⟨by decide, by decide⟩, _, 2147483647, rfl, rfl, (by show (0 : Int) < 2147483647; decide), ?_⟩
        show gName 9 (V.int (ns[i] * 1583458089 % 2147483647)) _ _ _
        generalize ns[i] * 1583458089 % 2147483647 = n
        -- the goal
        have ht3 := sm _ _ ht
        have prt3 := Paired.monoR mono_path sm prt
        have htp : 0 < tvs.length := by rw [← htl]; exact List.length_pos_iff.mpr htn
        have hgp : 0 < (tvs ++ gvs).length := by rw [List.length_append]; omega
        obtain ⟨jg, gv, hgv, hatg⟩ := ix_mod (n / 7) hgp
        obtain ⟨g, hg0, rg⟩ := pr_get2 (pr_app prt3 prg) hgv
        have hgm : g ∈ there ∨ g ∈ fr := List.mem_append.mp (List.mem_of_getElem? hg0)
        obtain ⟨ga, rfl, hga⟩ := rg
        refine ⟨_, rfl, _, rfl, n, 7, rfl, rfl, ⟨by decide, by decide⟩, _, rfl, gl, _, rfl, .inl (sqL hgl), _, _, rfl, rfl, (by show (0 : Int) < _; omega), gl, _, _, _, rfl, rfl, sqL hgl, hatg, ?_⟩
        -- the fresh path
        refine ⟨_, rfl, _, rfl, _, rfl, n, 31, rfl, rfl, ⟨by decide, by decide⟩, _, rfl, t, i, n / 31, by_, there, tvs, rfl, ht3, prt3, htn, by omega, fun H4 v qp s4 rq fq => ?_⟩
        obtain ⟨qa, rfl, hqa⟩ := rq
        have sm4 := sm.trans s4
        have hgl4 := s4 _ _ hgl
        have ho4 := s4 _ _ ho
        have hga4 := s4 _ _ hga
        have prs4 := Paired.monoR mono_see s4 prs
        have prg4 := Paired.monoR mono_path s4 prg
        have ki4 := ki.same mono_path s4
        have hnew : qp ∉ there := fq.new hm
        have hnfr : qp ∉ fr := fun hq => by
          obtain ⟨j, hj, fj⟩ := hfr qp hq
          exact fq.diff fj hm hj rfl
        have hnew2 : ∀ z, (z ∈ there ∨ z ∈ fr) → z ≠ qp := fun z hz e => by
          subst e
          rcases hz with hz | hz
          · exact hnew hz
          · exact hnfr hz
        have hnk : qp ∉ keysE E := fun hq => hnew2 qp (si.keys qp hq) rfl
        have hsgg : PathOk g ∧ Sg g := by
          rcases hgm with h | h
          · exact hml g h
          · obtain ⟨j, hj, fj⟩ := hfr g h
            exact (fj.h (by omega) hm).ok
        have hfing : finE E g ∈ there := si.known g hgm
        -- ends.get(goal, goal)
        obtain ⟨ev, hev, rev⟩ : ∃ ev, (valV kvs (keysOf g)).getD (.ref ga) = ev ∧ RPath (finE E g) ev H4 := by
          refine ⟨_, rfl, ?_⟩
          cases hv : valV kvs (keysOf g) with
          | some x => exact mono_path _ _ _ _ (erase_same _ _) (ki4.vals g x hv)
          | none =>
            have : g ∉ keysE E := fun hq => by
              obtain ⟨x, hx⟩ := ki4.has.mpr hq
              rw [hv] at hx
              cases hx
            rw [finE_not this]
            exact ⟨ga, rfl, hga4⟩
        refine ⟨_, rfl, n, 2, rfl, rfl, (by show (0 : Int) < 2; decide), rfl, _, rfl, ite2 (fun _ => ?_) (fun _ => ?_)⟩
        · have hkl : kvs.length ≤ 100 := by
            have h1 := ki.len
            unfold keysE at h1
            rw [List.length_map] at h1
            omega
          refine ⟨_, rfl, d, rfl, .inr ⟨_, .inl ki4.dat⟩, _, rfl, _, rfl, _, DGet.t (k := keysOf g) ki4.dat (by rw [keysOf_kV]; exact hga4), _, rfl, _, rfl, d, _, rfl, DPut.t (k := keysOf qp) ki4.dat (by rw [keysOf_kV]; exact hqa) (szlt (by omega)), ?_⟩
          rw [hev]
          have si5 := si.put (fr' := fr ++ [qp]) (q := qp) (g := g) (fun _ h => List.mem_append_left _ h) (.inr (List.mem_append_right _ (List.mem_singleton.mpr rfl))) (fun z h => (List.mem_append.mp h).imp id List.mem_singleton.mp) hnk (fun s hs => ⟨hnew2 _ (si.p s hs).1, hnew2 _ (si.p s hs).2⟩) hgm (hnew2 g hgm) (fun h => hnew (hsub qp h))
          have kc : KInv RPath (finE (E ++ [(qp, finE E g)])) H4 d kvs (keysE E) := KInv.congr ki4 fun z hz => by
            rw [finE_snoc hnk, if_neg (hnew2 z (si.keys z hz))]
          have ki5 := kc.put (p := qp) (v := ev) (by
            rw [finE_snoc hnk, if_pos rfl]
            obtain ⟨ea, rfl, hea⟩ := rev
            exact ⟨ea, rfl, erase_at hea (ne_of hea ki4.dat (fun z => nomatch z))⟩)
          have ts5 : TSame H4 (upd H4 d (.dT (putK kvs (keysOf qp) ev))) := tsame_upd ki4.dat (fun _ z => nomatch z)
          have hgl5 : (upd H4 d (.dT (putK kvs (keysOf qp) ev))) gl = some (.lst (tvs ++ gvs)) := by rw [upd_ne hgld]; exact hgl4
          have hgl4z : (tvs ++ gvs).length < sizeLine := by
            rw [List.length_append, ← htl, ← Paired.length prg]
            exact szlt (by omega)
          refine ⟨_, rfl, .inl ⟨rfl, _, sqL hgl5⟩, _, rfl, gl, _, _, rfl, rfl, hgl5, hgl4z, ?_⟩
          have ts6 : TSame (upd H4 d (.dT (putK kvs (keysOf qp) ev))) (upd (upd H4 d (.dT (putK kvs (keysOf qp) ev))) gl (.lst (tvs ++ gvs ++ [.ref qa]))) := tsame_upd hgl5 (fun _ z => nomatch z)
          have ho6 : (upd (upd H4 d (.dT (putK kvs (keysOf qp) ev))) gl (.lst (tvs ++ gvs ++ [.ref qa]))) o = some (.lst us) := by rw [upd_ne hglo.symm, upd_ne hdo.symm]; exact ho4
          have ki6 := ki5.tsame ts6 (upd_ne hgld.symm)
          have sm6 : Same H (upd (upd H4 d (.dT (putK kvs (keysOf qp) ev))) gl (.lst (tvs ++ gvs ++ [.ref qa]))) := same_upd2 ngl (same_upd2 nd0 sm4)
          have ts46 := ts5.trans ts6
          generalize hH6 : upd (upd H4 d (.dT (putK kvs (keysOf qp) ev))) gl (.lst (tvs ++ gvs ++ [.ref qa])) = H6 at ho6 ki6 sm6 ts46
          have hgl6 : H6 gl = some (.lst (tvs ++ gvs ++ [.ref qa])) := by rw [← hH6]; exact upd_same
          refine ⟨_, rfl, .inl ⟨rfl, _, sqL ho6⟩, _, rfl, _, rfl, sz (by show 3 ≤ 100000; decide), fun tp ntp => ?_⟩
          have stp := same_upd ntp (o := .tup [.ref qa, .ref ga, .bl false])
          have husz := Paired.length prs
          refine ⟨o, us, _, rfl, rfl, stp _ _ ho6, szlt (by omega), ?_⟩
          have ts7 := (Same.tup stp).trans (tsame_upd (o := .lst (us ++ [.ref tp])) (stp _ _ ho6) (fun _ z => nomatch z))
          have ts47 := ts46.trans ts7
          refine ⟨E ++ [(qp, finE E g)], ss ++ [(qp, g, false)], us ++ [.ref tp], fr ++ [qp], gvs ++ [.ref qa], putK kvs (keysOf qp) ev, _, _, _, _, rfl, same_upd2 no0 (sm6.trans stp), ?_, ?_, upd_same, ?_, ?_, si5, ?_, ?_, ?_, ?_⟩
          · rw [upd_ne hglo, ← List.append_assoc]; exact stp _ _ hgl6
          · exact Paired.snoc (L2.Paired.mapP prg4 fun b y r => path_t ts47 r) ⟨qa, rfl, ts47 _ _ hqa⟩
          · exact Paired.snoc (L2.Paired.mapP prs4 fun b y r => see_t ts47 r) ⟨tp, qa, ga, rfl, tsame_upd (stp _ _ ho6) (fun _ z => nomatch z) _ _ upd_same, ts47 _ _ hqa, ts47 _ _ hga4⟩
          · rw [keysE_snoc]
            exact (ki6.same mono_path stp).tsame (tsame_upd (stp _ _ ho6) (fun _ z => nomatch z)) (upd_ne hdo)
          · intro z hz
            rcases List.mem_append.mp hz with hz | hz
            · obtain ⟨j, hj, fj⟩ := hfr z hz
              exact ⟨j, by omega, fj⟩
            · rw [List.mem_singleton.mp hz]
              exact ⟨i, by omega, fq⟩
          · rw [List.length_append]; show ss.length + 1 ≤ _; omega
          · rw [List.length_append]; show E.length + 1 ≤ _; omega
          · rw [List.length_append]; show fr.length + 1 ≤ _; omega
        · have ht4 := s4 _ _ ht3
          have prt4 := Paired.monoR mono_path s4 prt3
          obtain ⟨jt, tv, htv, hatt⟩ := ix_mod (n / 41) htp
          obtain ⟨p, hp0, rp⟩ := pr_get2 prt4 htv
          have hpt := List.mem_of_getElem? hp0
          obtain ⟨pa, rfl, hpa⟩ := rp
          refine ⟨_, rfl, _, rfl, n, 41, rfl, rfl, ⟨by decide, by decide⟩, _, rfl, t, _, rfl, .inl (sqL ht4), _, _, rfl, rfl, (by show (0 : Int) < _; omega), t, _, _, _, rfl, rfl, sqL ht4, hatt, ?_⟩
          have same : ∀ (y7 y8 y9 y10 : Option V), ∃ (E' : List (Path × Path)) (ss' : List Se) (us' : List V) (fr' : List Path) (gvs' : List V) (kvs' : List (List Key × V)) (z7 z8 z9 z10 : Option V), [some (.ref c), some (.ref t), some (.ref f), some (.int by_), some (.ref gl), some (.ref d), some (.ref o), y7, y8, y9, y10] = [some (.ref c), some (.ref t), some (.ref f), some (.int by_), some (.ref gl), some (.ref d), some (.ref o), z7, z8, z9, z10] ∧ Same H H4 ∧ H4 gl = some (.lst (tvs ++ gvs')) ∧ Paired (fun b y => RPath b y H4) fr' gvs' ∧ H4 o = some (.lst us') ∧ Paired (fun b y => RSee b y H4) ss' us' ∧
              KInv RPath (finE E') H4 d kvs' (keysE E') ∧ SInv there full fr' E' ss' ∧ (∀ q ∈ fr', ∃ j, j < i + 1 ∧ FreshOk there by_ j q) ∧ ss'.length ≤ 2 + (i + 1) ∧ E'.length ≤ 1 + (i + 1) ∧ fr'.length ≤ i + 1 := fun y7 y8 y9 y10 =>
            ⟨E, ss, us, fr, gvs, kvs, y7, y8, y9, y10, rfl, sm4, hgl4, prg4, ho4, prs4, ki4, si, fun z hz => by obtain ⟨j, hj, fj⟩ := hfr z hz; exact ⟨j, by omega, fj⟩, by omega, by omega, by omega⟩
          refine ⟨_, rfl, _, rfl, ne_path ⟨pa, rfl, hpa⟩ ⟨ga, rfl, hga4⟩ (hml p hpt).2 hsgg.2 ⟨_, rfl, ?_⟩⟩
          by_cases h1 : p = g
          · rw [decide_eq_true h1]
            exact iteF (iteF (same _ _ _ _))
          · rw [decide_eq_false h1]
            refine iteT ⟨_, rfl, _, rfl, d, rfl, .inr ⟨_, .inl ki4.dat⟩, _, rfl, _, rfl, _, DGet.t (k := keysOf g) ki4.dat (by rw [keysOf_kV]; exact hga4), ?_⟩
            rw [hev]
            refine ne_path ⟨pa, rfl, hpa⟩ rev (hml p hpt).2 (hml _ hfing).2 ⟨_, rfl, ?_⟩
            by_cases h2 : p = finE E g
            · rw [decide_eq_true h2]
              exact iteF (same _ _ _ _)
            · rw [decide_eq_false h2]
              refine iteT ⟨_, rfl, .inl ⟨rfl, _, sqL ho4⟩, _, rfl, _, rfl, sz (by show 3 ≤ 100000; decide), fun tp ntp => ?_⟩
              have stp := same_upd ntp (o := .tup [.ref pa, .ref ga, .bl true])
              have husz := Paired.length prs
              refine ⟨o, us, _, rfl, rfl, stp _ _ ho4, szlt (by omega), ?_⟩
              have ts7 := (Same.tup stp).trans (tsame_upd (o := .lst (us ++ [.ref tp])) (stp _ _ ho4) (fun _ z => nomatch z))
              refine ⟨E, ss ++ [(p, g, true)], us ++ [.ref tp], fr, gvs, kvs, _, _, _, _, rfl, same_upd2 no0 (sm4.trans stp), ?_, L2.Paired.mapP prg4 fun b y r => path_t ts7 r, upd_same, ?_, (ki4.same mono_path stp).tsame (tsame_upd (stp _ _ ho4) (fun _ z => nomatch z)) (upd_ne hdo), si.more hpt hgm h1 h2, fun z hz => by obtain ⟨j, hj, fj⟩ := hfr z hz; exact ⟨j, by omega, fj⟩, ?_, by omega, by omega⟩
              · rw [upd_ne hglo]; exact stp _ _ hgl4
              · exact Paired.snoc (L2.Paired.mapP prs4 fun b y r => see_t ts7 r) ⟨tp, pa, ga, rfl, tsame_upd (stp _ _ ho4) (fun _ z => nomatch z) _ _ upd_same, ts7 _ _ hpa, ts7 _ _ hga4⟩
              · rw [List.length_append]; show ss.length + 1 ≤ _; omega
      · obtain ⟨E, ss, us, fr, gvs, kvs, y7, y8, y9, y10, rfl, sm, hgl, prg, ho, prs, ki, si, hfr, hsz, hez, hfz⟩ := hp
        exact ⟨_, rfl, q H2 o us ss fr E sm no0 ho prs si (fun z hz => by obtain ⟨j, hj, fj⟩ := hfr z hz; exact fj.h (by omega) hm) (by omega) (by omega)⟩
end
end PB
/-! PbMath2: words of a line, read back -/
namespace PB
open PySem PySem.Spec PyProof.Rows L2 TL

def NoSp2 (l : List Nat) : Prop := ∀ i, ¬ (l[i]? = some 32 ∧ l[i + 1]? = some 32)
structure Wd (l : List Nat) : Prop where
  ne : l ≠ []
  nd : NoSp2 l
  hd : l[0]? ≠ some 32
  la : l[l.length - 1]? ≠ some 32
theorem nosp_app {a b : List Nat} (ha : NoSp2 a) (hb : NoSp2 b) (h : a[a.length - 1]? ≠ some 32 ∨ b[0]? ≠ some 32 ∨ a = []) : NoSp2 (a ++ b) := by
  rintro i ⟨h1, h2⟩
  by_cases hi : i + 1 < a.length
  · rw [List.getElem?_append_left (by omega)] at h1
    rw [List.getElem?_append_left hi] at h2
    exact ha i ⟨h1, h2⟩
  · by_cases hj : i < a.length
    · rw [List.getElem?_append_left hj] at h1
      rw [List.getElem?_append_right (by omega)] at h2
      have e1 : i = a.length - 1 := by omega
      have e2 : i + 1 - a.length = 0 := by omega
      rw [e1] at h1
      rw [e2] at h2
      rcases h with h | h | h
      · exact h h1
      · exact h h2
      · rw [h] at hj
        exact absurd hj (Nat.not_lt_zero _)
    · rw [List.getElem?_append_right (by omega)] at h1
      rw [List.getElem?_append_right (by omega), show i + 1 - a.length = (i - a.length) + 1 by omega] at h2
      exact hb _ ⟨h1, h2⟩
theorem Wd.cat {a b : List Nat} (ha : Wd a) (hb : Wd b) : Wd (a ++ b) := by
  have la := List.length_pos_iff.mpr ha.ne
  have lb := List.length_pos_iff.mpr hb.ne
  refine ⟨by simp [ha.ne], nosp_app ha.nd hb.nd (.inl ha.la), ?_, ?_⟩
  · rw [List.getElem?_append_left la]; exact ha.hd
  · rw [List.length_append, List.getElem?_append_right (by omega), show a.length + b.length - 1 - a.length = b.length - 1 by omega]
    exact hb.la
theorem Wd.sp {a b : List Nat} (ha : Wd a) (hb : Wd b) : Wd (a ++ ([32] ++ b)) := by
  have la := List.length_pos_iff.mpr ha.ne
  have lb := List.length_pos_iff.mpr hb.ne
  have n1 : NoSp2 [32] := by
    rintro i ⟨_, h2⟩
    simp at h2
  refine ⟨by simp, nosp_app ha.nd (nosp_app n1 hb.nd (.inr (.inl hb.hd))) (.inl ha.la), ?_, ?_⟩
  · rw [List.getElem?_append_left la]; exact ha.hd
  · rw [List.length_append, List.length_append, List.getElem?_append_right (by show a.length ≤ a.length + (1 + b.length) - 1; omega), show a.length + ([32].length + b.length) - 1 - a.length = b.length - 1 + 1 by show a.length + (1 + b.length) - 1 - a.length = _; omega]
    exact hb.la
theorem wd_plain {l : List Nat} (hn : l ≠ []) (h : ∀ x ∈ l, x ≠ 32) : Wd l :=
  ⟨hn, fun i ⟨h1, _⟩ => h 32 (List.mem_of_getElem? h1) rfl, fun e => h 32 (List.mem_of_getElem? e) rfl, fun e => h 32 (List.mem_of_getElem? e) rfl⟩
theorem Wd.sep {a b : List Nat} {x : Nat} (hx : x ≠ 32) (ha : Wd a) (hb : Wd b) : Wd (a ++ ([x, 32] ++ b)) := by
  have := (ha.cat (wd_plain (l := [x]) (by simp) (by simpa using hx))).sp hb
  rw [List.append_assoc] at this
  exact this
theorem wd_join {x : Nat} (hx : x ≠ 32) : ∀ {ps : List (List Nat)}, ps ≠ [] → (∀ p ∈ ps, Wd p) → Wd (joinL [x, 32] ps)
  | [], h, _ => absurd rfl h
  | [p], _, h => h p (by simp)
  | p :: q :: r, _, h => (h p List.mem_cons_self).sep hx (wd_join hx (by simp) fun y hy => h y (List.mem_cons_of_mem _ hy))
/-! PbMath2: ### the split at two blanks -/
theorem pre2 {L : List Nat} {i : Nat} (h : ¬ (L[i]? = some 32 ∧ L[i + 1]? = some 32)) : pre [32, 32] (L.drop i) = false := by
  cases hp : pre [32, 32] (L.drop i) with
  | false => rfl
  | true =>
    unfold pre at hp
    have e : (L.drop i).take 2 = [32, 32] := by simpa using hp
    refine absurd ⟨?_, ?_⟩ h
    · have := congrArg (fun l => l[0]?) e
      simpa [List.getElem?_take, List.getElem?_drop] using this
    · have := congrArg (fun l => l[1]?) e
      simpa [List.getElem?_take, List.getElem?_drop] using this
theorem spl_two : ∀ {ps : List (List Nat)}, ps ≠ [] → (∀ p ∈ ps, Wd p) → spl [32, 32] 0 [] (joinL [32, 32] ps) = ps
  | [], h, _ => absurd rfl h
  | [p], _, hp => by
    have w := hp p (by simp)
    show spl [32, 32] 0 [] p = [p]
    rw [spl_last fun i hi => pre2 (w.nd i), List.nil_append]
  | p :: q :: r, _, hp => by
    have w := hp p List.mem_cons_self
    show spl [32, 32] 0 [] (p ++ ([32, 32] ++ joinL [32, 32] (q :: r))) = p :: q :: r
    have h : ∀ i, i < p.length → pre [32, 32] ((p ++ ([32, 32] ++ joinL [32, 32] (q :: r))).drop i) = false := fun i hi => pre2 fun ⟨h1, h2⟩ => by
      by_cases hj : i + 1 < p.length
      · rw [List.getElem?_append_left hi] at h1
        rw [List.getElem?_append_left hj] at h2
        exact w.nd i ⟨h1, h2⟩
      · rw [List.getElem?_append_left hi] at h1
        have : i = p.length - 1 := by omega
        rw [this] at h1
        exact w.la h1
    rw [spl_part (by simp) h, List.nil_append, spl_two (by simp) fun z hz => hp z (List.mem_cons_of_mem _ hz)]
theorem split_two {ws : List Str} (hn : ws ≠ []) (h : ∀ w ∈ ws, Wd (tl w)) : Txt.split (Txt.join (Str.ofString "  ") ws) (Str.ofString "  ") = ws := by
  have ey : tl (Str.ofString "  ") = [32, 32] := by decide
  refine map_tl_inj ?_
  rw [split_spl _ _ (by rw [ey]; simp) (kind_ok (by decide +kernel)), join_eq, tl_join, ey]
  refine spl_two (fun e => hn (List.map_eq_nil_iff.mp e)) fun p hp => ?_
  obtain ⟨z, hz, rfl⟩ := List.mem_map.mp hp
  exact h z hz
/-! PbMath2: ### the words -/
theorem wd_al {l : List Nat} (hn : l ≠ []) (h : ∀ x ∈ l, Al x) : Wd l := wd_plain hn fun x hx => (al_ne (h x hx)).2.2.1
theorem base_ne (c : Int) : baseL c ≠ [] := List.length_pos_iff.mp (baseL_len c).1
theorem headX_ne (c : Int) (d : Nat) : headX c d ≠ [] := by
  unfold headX
  simp [numL_ne]
theorem wd_shown (c : Int) (k : Nat) : Wd (shownL c k) := by
  have al_app : ∀ {a b : List Nat}, (∀ x ∈ a, Al x) → (∀ x ∈ b, Al x) → ∀ x ∈ a ++ b, Al x := fun h1 h2 x hx => by
    rcases List.mem_append.mp hx with hx | hx
    · exact h1 x hx
    · exact h2 x hx
  have hb := base_al c
  have hx := headX_al c (k / 2)
  have hs := suf_al k
  have w1 : Wd (baseL c ++ sufL k) := wd_al (by simp [base_ne]) (al_app hb hs)
  have w2 : Wd (headX c (k / 2)) := wd_al (headX_ne _ _) hx
  have w3 : Wd (headX c (k / 2) ++ sufL k) := wd_al (by simp [headX_ne]) (al_app hx hs)
  have w4 : Wd (baseL c) := wd_al (base_ne c) hb
  unfold shownL
  split
  · exact w1.sep (by decide) w2
  · split
    · exact (w4.sp w1).sep (by decide) w2
    · split
      · exact w4.sp w3
      · split
        · exact (wd_al (l := [45]) (by simp) (by simp [Al])).cat w3
        · exact w3
theorem shownL_free (c : Int) (k : Nat) : 58 ∉ shownL c k ∧ 59 ∉ shownL c k := by
  have h : ∀ x ∈ shownL c k, Al x ∨ x = 32 ∨ x = 44 := by
    have al : ∀ {l : List Nat}, (∀ x ∈ l, Al x) → ∀ x ∈ l, Al x ∨ x = 32 ∨ x = 44 := fun h x hx => .inl (h x hx)
    have app : ∀ {l m : List Nat}, (∀ x ∈ l, Al x ∨ x = 32 ∨ x = 44) → (∀ x ∈ m, Al x ∨ x = 32 ∨ x = 44) → ∀ x ∈ l ++ m, Al x ∨ x = 32 ∨ x = 44 := fun h1 h2 x hx => by
      rcases List.mem_append.mp hx with hx | hx
      · exact h1 x hx
      · exact h2 x hx
    have sp : ∀ x ∈ [32], Al x ∨ x = 32 ∨ x = 44 := fun x hx => .inr (.inl (List.mem_singleton.mp hx))
    have co : ∀ x ∈ [44], Al x ∨ x = 32 ∨ x = 44 := fun x hx => .inr (.inr (List.mem_singleton.mp hx))
    have mi : ∀ x ∈ [45], Al x ∨ x = 32 ∨ x = 44 := fun x hx => .inl (by rw [List.mem_singleton.mp hx]; exact .inr (.inr (.inr rfl)))
    have hb := al (base_al c)
    have hx := al (headX_al c (k / 2))
    have hs := al (suf_al k)
    unfold shownL
    split
    · exact app (app hb hs) (app co (app sp hx))
    · split
      · exact app (app hb (app sp (app hb hs))) (app co (app sp hx))
      · split
        · exact app hb (app sp (app hx hs))
        · split
          · exact app mi (app hx hs)
          · exact app hx hs
  constructor
  · intro hm
    rcases h _ hm with h | h | h
    · exact (al_ne h).2.2.2.1 rfl
    · omega
    · omega
  · intro hm
    rcases h _ hm with h | h | h
    · exact (al_ne h).2.2.2.2 rfl
    · omega
    · omega
theorem wd_head {c : Int} {p : Path} (hp : HPath c p) {h : Str} (hh : h ∈ p) : Wd (tl (shownS h)) := by
  obtain ⟨k, _, rfl⟩ := hp.hd h hh
  rw [shown_head, tl_mk]
  exact wd_shown c k
theorem free_head {c : Int} {p : Path} (hp : HPath c p) {h : Str} (hh : h ∈ p) : 58 ∉ tl (shownS h) ∧ 59 ∉ tl (shownS h) := by
  obtain ⟨k, _, rfl⟩ := hp.hd h hh
  rw [shown_head, tl_mk]
  exact shownL_free c k
theorem tl_pathShown (p : Path) : tl (pathShownS p) = joinL [58, 32] (p.map fun h => tl (shownS h)) := by
  unfold pathShownS
  rw [join_eq, tl_join, List.map_map]
  rfl
theorem wd_pathShown {c : Int} {p : Path} (hp : HPath c p) : Wd (tl (pathShownS p)) := by
  rw [tl_pathShown]
  refine wd_join (by decide) (fun e => hp.ne (List.map_eq_nil_iff.mp e)) fun q hq => ?_
  obtain ⟨h, hh, rfl⟩ := List.mem_map.mp hq
  exact wd_head hp hh
theorem mem_joinL {S : List Nat} {x : Nat} : ∀ {ps : List (List Nat)}, x ∈ joinL S ps → x ∈ S ∨ ∃ p ∈ ps, x ∈ p
  | [], h => by cases h
  | [p], h => .inr ⟨p, by simp, h⟩
  | p :: q :: r, h => by
    rw [joinL] at h
    rcases List.mem_append.mp h with h | h
    · exact .inr ⟨p, by simp, h⟩
    · rcases List.mem_append.mp h with h | h
      · exact .inl h
      · rcases mem_joinL h with h | ⟨p', h1, h2⟩
        · exact .inl h
        · exact .inr ⟨p', List.mem_cons_of_mem _ h1, h2⟩
theorem free_pathShown {c : Int} {p : Path} (hp : HPath c p) : 59 ∉ tl (pathShownS p) := fun hm => by
  rw [tl_pathShown] at hm
  rcases mem_joinL hm with h | ⟨q, hq, h⟩
  · simp at h
  · obtain ⟨z, hz, rfl⟩ := List.mem_map.mp hq
    exact (free_head hp hz).2 h
theorem shownS_inj_l {c : Int} : ∀ {p q : Path}, (∀ h ∈ p, ∃ k, k < 200 ∧ h = headBy c k) → (∀ h ∈ q, ∃ k, k < 200 ∧ h = headBy c k) → p.map shownS = q.map shownS → p = q
  | [], [], _, _, _ => rfl
  | [], _ :: _, _, _, e => by cases e
  | _ :: _, [], _, _, e => by cases e
  | x :: p, y :: q, hp, hq, e => by
    rw [List.map_cons, List.map_cons] at e
    injection e with e1 e2
    obtain ⟨a, _, rfl⟩ := hp x List.mem_cons_self
    obtain ⟨b, _, rfl⟩ := hq y List.mem_cons_self
    rw [shown_inj e1, shownS_inj_l (fun h hh => hp h (List.mem_cons_of_mem _ hh)) (fun h hh => hq h (List.mem_cons_of_mem _ hh)) e2]
theorem shownS_inj_on {c : Int} {p q : Path} (hp : HPath c p) (hq : HPath c q) (e : p.map shownS = q.map shownS) : p = q := shownS_inj_l hp.hd hq.hd e
theorem pathShown_inj {c : Int} {p q : Path} (hp : HPath c p) (hq : HPath c q) (e : pathShownS p = pathShownS q) : p = q := by
  refine shownS_inj_on hp hq ?_
  have ey : tl (Str.ofString ": ") = 58 :: [32] := by decide
  have h1 := split_join (y := Str.ofString ": ") ey (by decide +kernel) (parts := p.map shownS) (fun e => hp.ne (List.map_eq_nil_iff.mp e)) fun z hz => by
    obtain ⟨h, hh, rfl⟩ := List.mem_map.mp hz
    exact (free_head hp hh).1
  have h2 := split_join (y := Str.ofString ": ") ey (by decide +kernel) (parts := q.map shownS) (fun e => hq.ne (List.map_eq_nil_iff.mp e)) fun z hz => by
    obtain ⟨h, hh, rfl⟩ := List.mem_map.mp hz
    exact (free_head hq hh).1
  rw [← h1, ← h2]
  unfold pathShownS at e
  rw [e]
/-! PbMath2: ### stretches as texts -/
theorem tl_numS {i : Int} (h : 0 ≤ i) : tl (numS i) = numL i.toNat := by
  obtain ⟨n, rfl⟩ := Int.eq_ofNat_of_zero_le h
  unfold numS
  exact tl_num n
theorem strS_chars {g : Pg} (h : PgOk g) : tl (strS g) ≠ [] ∧ ∀ x ∈ tl (strS g), (48 ≤ x ∧ x ≤ 57) ∨ x = 42 ∨ x = 45 := by
  have e1 : tl (Str.ofString "*") = [42] := by decide
  have e2 : tl (Str.ofString "-") = [45] := by decide
  have a := tl_numS h.a0
  have b := tl_numS h.b0
  have core : ∀ t : Str, t = (if g.1 = g.2.1 then numS g.1 else numS g.1 ++ Str.ofString "-" ++ numS g.2.1) → tl t ≠ [] ∧ ∀ x ∈ tl t, (48 ≤ x ∧ x ≤ 57) ∨ x = 42 ∨ x = 45 := fun t ht => by
    subst ht
    split
    · rw [a]
      exact ⟨numL_ne _, fun x hx => .inl (num_dig _ x hx)⟩
    · rw [tl_append, tl_append, a, b, e2]
      refine ⟨by simp, fun x hx => ?_⟩
      rcases List.mem_append.mp hx with hx | hx
      · rcases List.mem_append.mp hx with hx | hx
        · exact .inl (num_dig _ x hx)
        · exact .inr (.inr (List.mem_singleton.mp hx))
      · exact .inl (num_dig _ x hx)
  unfold strS
  have c := core _ rfl
  split
  · rw [tl_append, tl_append, e1]
    refine ⟨by simp, fun x hx => ?_⟩
    rcases List.mem_append.mp hx with hx | hx
    · rcases List.mem_append.mp hx with hx | hx
      · exact .inr (.inl (List.mem_singleton.mp hx))
      · exact c.2 x hx
    · exact .inr (.inl (List.mem_singleton.mp hx))
  · exact c
theorem wd_strS {g : Pg} (h : PgOk g) : Wd (tl (strS g)) := wd_plain (strS_chars h).1 fun x hx e => by
  have := (strS_chars h).2 x hx
  omega
theorem free_strS {g : Pg} (h : PgOk g) : 44 ∉ tl (strS g) := fun hm => by
  have := (strS_chars h).2 _ hm
  omega
theorem split_strS {gs : List Pg} (hn : gs ≠ []) (h : ∀ g ∈ gs, PgOk g) : Txt.split (Txt.join (Str.ofString ", ") (gs.map strS)) (Str.ofString ", ") = gs.map strS :=
  split_join (s := 44) (S := [32]) (by decide) (by decide +kernel) (fun e => hn (List.map_eq_nil_iff.mp e)) fun p hp => by
    obtain ⟨g, hg, rfl⟩ := List.mem_map.mp hp
    exact free_strS (h g hg)
theorem wd_stretches {gs : List Pg} (hn : gs ≠ []) (h : ∀ g ∈ gs, PgOk g) : Wd (tl (Txt.join (Str.ofString ", ") (gs.map strS))) := by
  rw [join_eq, tl_join, show tl (Str.ofString ", ") = [44, 32] by decide]
  refine wd_join (by decide) (fun e => hn (List.map_eq_nil_iff.mp (List.map_eq_nil_iff.mp e))) fun p hp => ?_
  obtain ⟨t, ht, rfl⟩ := List.mem_map.mp hp
  obtain ⟨g, hg, rfl⟩ := List.mem_map.mp ht
  exact wd_strS (h g hg)
theorem wd_see {c : Int} {e : Path} (h : HPath c e) : Wd (tl (wSee e)) := by
  unfold wSee
  rw [tl_append, show tl (Str.ofString "see ") = [115, 101, 101] ++ [32] by decide, List.append_assoc]
  exact (wd_plain (by simp) (by simp)).sp (wd_pathShown h)
theorem wd_alsoS {c : Int} {zs : List Path} (hn : zs ≠ []) (h : ∀ e ∈ zs, HPath c e) : Wd (tl (Str.ofString "also " ++ Txt.join (Str.ofString "; ") (zs.map pathShownS))) := by
  rw [tl_append, show tl (Str.ofString "also ") = [97, 108, 115, 111] ++ [32] by decide, List.append_assoc, join_eq, tl_join, show tl (Str.ofString "; ") = [59, 32] by decide]
  refine (wd_plain (by simp) (by simp)).sp (wd_join (by decide) (fun e => hn (List.map_eq_nil_iff.mp (List.map_eq_nil_iff.mp e))) fun p hp => ?_)
  obtain ⟨t, ht, rfl⟩ := List.mem_map.mp hp
  obtain ⟨g, hg, rfl⟩ := List.mem_map.mp ht
  exact wd_pathShown (h g hg)
theorem split_also {c : Int} {zs : List Path} (hn : zs ≠ []) (h : ∀ e ∈ zs, HPath c e) : Txt.split (Txt.join (Str.ofString "; ") (zs.map pathShownS)) (Str.ofString "; ") = zs.map pathShownS :=
  split_join (s := 59) (S := [32]) (by decide) (by decide +kernel) (fun e => hn (List.map_eq_nil_iff.mp e)) fun p hp => by
    obtain ⟨g, hg, rfl⟩ := List.mem_map.mp hp
    exact free_pathShown (h g hg)
end PB
/-! PbLaw5: the law reads the lines back -/
namespace PB
open PySem PySem.Spec PyProof.Rows L2 TL

theorem split_at {α : Type} {l : List α} {i : Nat} {x : α} (h : l[i]? = some x) : l = l.take i ++ x :: l.drop (i + 1) := by
  obtain ⟨hi, he⟩ := List.getElem?_eq_some_iff.mp h
  rw [← he, ← List.drop_eq_getElem_cons hi, List.take_append_drop]
theorem tl_cut_from (z : Str) (a : Nat) : tl (cutS z (some (a : Int)) none) = (tl z).drop a := by
  unfold cutS
  rw [tl_mk, HT.sIx_none, HT.sIx_nat]
  have e : z.length = (tl z).length := len_tl z
  show ((tl z).drop (min a z.length)).take (z.length - min a z.length) = _
  rw [e]
  by_cases h : a ≤ (tl z).length
  · rw [Nat.min_eq_left h]
    exact List.take_of_length_le (by rw [List.length_drop]; exact Nat.le_refl _)
  · rw [Nat.min_eq_right (by omega), List.drop_of_length_le (Nat.le_refl _), List.drop_of_length_le (by omega), List.take_nil]
theorem tl_cut_mid (z : Str) (a : Nat) : tl (cutS z (some (a : Int)) (some ((a + 2 : Nat) : Int))) = ((tl z).drop a).take 2 := by
  unfold cutS
  rw [tl_mk, HT.sIx_nat, HT.sIx_nat]
  have e : z.length = (tl z).length := len_tl z
  show ((tl z).drop (min a z.length)).take (min (a + 2) z.length - min a z.length) = _
  rw [e]
  by_cases h : a ≤ (tl z).length
  · rw [Nat.min_eq_left h]
    by_cases h2 : a + 2 ≤ (tl z).length
    · rw [Nat.min_eq_left h2, show a + 2 - a = 2 by omega]
    · rw [Nat.min_eq_right (by omega), List.take_of_length_le (by rw [List.length_drop]; exact Nat.le_refl _), List.take_of_length_le (by rw [List.length_drop]; omega)]
  · have h1 : min a (tl z).length = (tl z).length := by omega
    rw [h1, List.drop_of_length_le (Nat.le_refl _), List.drop_of_length_le (by omega), List.take_nil, List.take_nil]
theorem drop_pads (n i : Nat) (w : List Nat) (h : i ≤ n) : ((List.replicate n [32, 32]).flatten ++ w).drop (2 * i) = (List.replicate (n - i) [32, 32]).flatten ++ w := by
  induction i generalizing n with
  | zero => rfl
  | succ i ih =>
    obtain ⟨m, rfl⟩ : ∃ m, n = m + 1 := ⟨n - 1, by omega⟩
    rw [List.replicate_succ, List.flatten_cons, List.append_assoc, show 2 * (i + 1) = 2 + 2 * i by omega, ← List.drop_drop, show m + 1 - (i + 1) = m - i by omega]
    exact ih m (by omega)
def restOf (xs : List (List Str × List Str)) (p : List Str) : List Str := match xs.find? fun r => decide (r.1 = p) with
  | some r => r.2
  | none => []
theorem restOf_mem {xs : List (List Str × List Str)} (hn : (xs.map (·.1)).Nodup) {r : List Str × List Str} (h : r ∈ xs) : restOf xs r.1 = r.2 := by
  unfold restOf
  induction xs with
  | nil => cases h
  | cons a t ih =>
    rw [List.map_cons, List.nodup_cons] at hn
    rw [List.find?_cons]
    rcases List.mem_cons.mp h with rfl | h
    · simp
    · have e : decide (a.1 = r.1) = false := decide_eq_false fun e => hn.1 (e ▸ List.mem_map.mpr ⟨r, h, rfl⟩)
      rw [e]
      exact ih hn.2 h
/-- a line's text, by its shown path and its further words -/
def lineT (x : List Str × List Str) : Str := Txt.mul (Str.ofString "  ") ((x.1.length - 1 : Nat) : Int) ++ Txt.join (Str.ofString "  ") (x.1.getLastD ⟨#[]⟩ :: x.2)
structure XOk (x : List Str × List Str) : Prop where
  ne : x.1 ≠ []
  few : x.1.length ≤ 30
  wd : ∀ w ∈ x.1.getLastD ⟨#[]⟩ :: x.2, Wd (tl w)
  len : (lineT x).length ≤ 2000000
def stAt (xs : List (List Str × List Str)) (i : Nat) : List Str := ((xs.take i).getLast?.map (·.1)).getD []
theorem stAt_succ {xs : List (List Str × List Str)} {i : Nat} {x : List Str × List Str} (h : xs[i]? = some x) : stAt xs (i + 1) = x.1 := by
  unfold stAt
  rw [List.take_add_one, h]
  simp
theorem tl_lineT (x : List Str × List Str) : tl (lineT x) = (List.replicate (x.1.length - 1) [32, 32]).flatten ++ tl (Txt.join (Str.ofString "  ") (x.1.getLastD ⟨#[]⟩ :: x.2)) := by
  unfold lineT
  rw [tl_append, tl_mul]
theorem join_head {x : List Str × List Str} (h : XOk x) : ((tl (Txt.join (Str.ofString "  ") (x.1.getLastD ⟨#[]⟩ :: x.2)))).take 2 ≠ [32, 32] := by
  have w := h.wd _ List.mem_cons_self
  rw [join_eq, tl_join, List.map_cons]
  have hn := w.ne
  intro e
  cases hl : tl (x.1.getLastD ⟨#[]⟩) with
  | nil => exact hn hl
  | cons c r =>
    rw [hl] at e
    have h0 := w.hd
    rw [hl] at h0
    cases hm : x.2.map tl with
    | nil =>
      rw [hm] at e
      simp [joinL] at e
      exact h0 (by simp [e.1])
    | cons a b =>
      rw [hm] at e
      simp [joinL] at e
      exact h0 (by simp [e.1])
section
variable {P : Program} {w : World} {K : PySem.W.Frag} {mg : Str → Option Value} {base : Heap}
/-! PbLaw5: ### _law_deep -/
theorem scDeep : FnScope ["_law_text", "_law_deep_here"] ["_law_text"] (defScope sDeep) := ⟨rfl, rfl, rfl, by decide +kernel, rfl, by decide +kernel, by decide +kernel⟩
def spDeep : Sp := fun vs H Q _ => ∃ (x : List Str × List Str), vs = [.str (lineT x)] ∧ XOk x ∧ Q (.int ((x.1.length - 1 : Nat) : Int)) H
theorem okDeep (T : Top K mg) : Def1 P w K mg base 1 "_law_deep" spDeep := by
  refine def1 T.fDeep scDeep (fun vs H Q E h => ?_) (fun _ _ _ _ _ _ us hl => match us, hl with | [_], _ => rfl) (fun f cdv A outer s H vs Q E hr h => ?_)
  · obtain ⟨x, rfl, _⟩ := h
    rfl
  · obtain ⟨x, rfl, ok, q⟩ := h
    refine ⟨_, pss_cons (ps_set (i := 1) scDeep.nd rfl (.inl rfl) pe_int)
      (pss_cons (ps_while PassesOwn.never (pt_cmpR op_eq (pe_slice sl_str (pv 0) (po_some (pe_op op_mul pe_int (pv 1))) (po_some (pe_op op_add (pe_op op_mul pe_int (pv 1)) pe_int))) pe_str (nomark _))
        (pss_one (ps_set (i := 1) scDeep.nd rfl (.inl rfl) (pe_op op_add (pv 1) pe_int))))
      (pss_one (ps_ret (pv 1)))), ?_⟩
    have hz : (lineT x).length ≤ sizeLine := by rw [sizeLine_eq]; have := ok.len; omega
    have few := ok.few
    refine ⟨fun m σ H1 => ∃ i : Nat, i ≤ x.1.length - 1 ∧ m = x.1.length - 1 - i ∧ σ = [some (.str (lineT x)), some (.int (i : Int))] ∧ H1 = H, ⟨_, 0, Nat.zero_le _, rfl, rfl, rfl⟩, ?_⟩
    rintro m σ H1 ⟨i, hi, rfl, rfl, rfl⟩
    refine ⟨_, rfl, _, rfl, 2, (i : Int), rfl, rfl, .inl ⟨by omega, by omega⟩, 2 * (i : Int), rfl, _, rfl, 2, (i : Int), rfl, rfl, .inl ⟨by omega, by omega⟩, 2 * (i : Int), 2, rfl, rfl, 2 * (i : Int) + 2, rfl, lineT x, rfl, hz, rfl, _, rfl, ?_⟩
    have ecut : tl (cutS (lineT x) (some (2 * (i : Int))) (some (2 * (i : Int) + 2))) = ((List.replicate (x.1.length - 1 - i) [32, 32]).flatten ++ tl (Txt.join (Str.ofString "  ") (x.1.getLastD ⟨#[]⟩ :: x.2))).take 2 := by
      have e1 : (2 * (i : Int)) = ((2 * i : Nat) : Int) := by omega
      have e2 : (2 * (i : Int) + 2) = ((2 * i + 2 : Nat) : Int) := by omega
      rw [e1, show (((2 * i : Nat) : Int) + 2) = ((2 * i + 2 : Nat) : Int) by omega, tl_cut_mid, tl_lineT, drop_pads _ _ _ hi]
    have e32 : tl (Str.ofString "  ") = [32, 32] := by decide
    by_cases hlt : i < x.1.length - 1
    · have ey : cutS (lineT x) (some (2 * (i : Int))) (some (2 * (i : Int) + 2)) = Str.ofString "  " := ext_tl (by
        obtain ⟨m, hm⟩ : ∃ m, x.1.length - 1 - i = m + 1 := ⟨x.1.length - 1 - i - 1, by omega⟩
        rw [ecut, e32, hm, List.replicate_succ, List.flatten_cons]
        rfl)
      refine ifT (decide_eq_true (congrArg V.str ey)) ⟨fun σ' H' => ∃ j : Nat, j ≤ x.1.length - 1 ∧ x.1.length - 1 - (i + 1) = x.1.length - 1 - j ∧ σ' = [some (.str (lineT x)), some (.int (j : Int))] ∧ H' = H1, fun σ' H' h => ⟨x.1.length - 1 - (i + 1), by omega, h⟩, ?_⟩
      exact ⟨_, rfl, (i : Int), 1, rfl, rfl, i + 1, by omega, rfl, rfl, rfl⟩
    · have ei : i = x.1.length - 1 := by omega
      subst ei
      have en : cutS (lineT x) (some (2 * ((x.1.length - 1 : Nat) : Int))) (some (2 * ((x.1.length - 1 : Nat) : Int) + 2)) ≠ Str.ofString "  " := fun e => by
        have := congrArg tl e
        rw [ecut, e32, Nat.sub_self] at this
        exact join_head ok this
      exact ifF (decide_eq_false fun z => en (V.str.inj z)) ⟨_, rfl, q⟩
/-! PbLaw5: ### _law_read -/
theorem scRead : FnScope ["_law_texts", "_law_found", "_law_stack", "_law_text", "_law_deep_here", "_law_parts"] ["_law_texts"] (defScope sRead) := ⟨rfl, rfl, rfl, by decide +kernel, rfl, by decide +kernel, by decide +kernel⟩
def spRead : Sp := fun vs H Q _ => ∃ (a : Addr) (xs : List (List Str × List Str)), vs = [.ref a] ∧ H a = some (.lst ((xs.map lineT).map V.str)) ∧ xs.length ≤ 2000 ∧ (∀ x ∈ xs, XOk x) ∧ (xs.map (·.1)).Nodup ∧ (∀ i x, xs[i]? = some x → x.1.dropLast <+: stAt xs i) ∧
  ∀ (H' : Hp) (d : Addr) (kvs : List (List Key × V)), Same H H' → H d = none → KInv (RList RStr) (restOf xs) H' d kvs (xs.map (·.1)) → Q (.ref d) H'
theorem okRead (T : Top K mg) : Def1 P w K mg base 2 "_law_read" spRead := by
  refine def1 T.fRead scRead (fun vs H Q E h => ?_) (fun _ _ _ _ _ _ us hl => match us, hl with | [_], _ => rfl) (fun f cdv A outer s H vs Q E hr h => ?_)
  · obtain ⟨a, xs, rfl, _⟩ := h
    rfl
  · obtain ⟨a, xs, rfl, ha, hz, ok, hnd, hch, q⟩ := h
    refine ⟨_, pss_cons (ps_set (i := 1) scRead.nd rfl (.inl rfl) pe_dnewT)
      (pss_cons (ps_set (i := 2) scRead.nd rfl (.inl rfl) (pe_lst pa_nil))
      (pss_cons (ps_for PassesOwn.never rfl (pi_list (pv 0)) (pg_name (i := 3) scRead.nd rfl (.inl rfl))
        (pss_cons (ps_set (i := 4) scRead.nd rfl (.inl rfl) (pe_f (okDeep T) hr (by decide) rfl (pa_cons (pv 3) pa_nil)))
        (pss_cons (ps_set (i := 5) scRead.nd rfl (.inl rfl) (pe_split (pe_slice sl_str (pv 3) (po_some (pe_op op_mul pe_int (pv 4))) po_none) pe_str))
        (pss_cons (ps_if (pt_cmpR op_gt (pv 4) (pe_callB call_len_seq (by rfl) T.len PySem.boot_len (pa_cons (pv 2) pa_nil)) (nomark _)) (pss_one (ps_ret pe_non)) pss_nil)
        (pss_cons (ps_set (i := 2) scRead.nd rfl (.inl rfl) (pe_op op_cat (pe_slice sl_list (pv 2) po_none (po_some (pv 4))) (pe_lst (pa_cons (pe_ix ix_list (pv 5) pe_int (fun _ _ => rfl)) pa_nil))))
        (pss_cons (ps_if (pt_cmp (pc_din (hu_of hr) (pe_callTy call_tuple_of (by rfl) T.tuple (by decide +kernel) (pa_cons (pv 2) pa_nil)) (pv 1))) (pss_one (ps_ret pe_non)) pss_nil)
        (pss_one (ps_dput (hu_of hr) (pv 1) (pe_callTy call_tuple_of (by rfl) T.tuple (by decide +kernel) (pa_cons (pv 2) pa_nil)) (pe_slice sl_list (pv 5) (po_some pe_int) po_none) rfl))))))))
      (pss_one (ps_ret (pv 1))))), ?_⟩
    refine fun d hd => ?_
    have sd : Same H (upd H d (.dT [])) := same_upd hd
    refine ⟨Nat.zero_le _, fun o no => ?_⟩
    have so : Same H (upd (upd H d (.dT [])) o (.lst [])) := sd.trans (same_upd no)
    refine ⟨_, rfl, a, rfl, ⟨_, sqL (so _ _ ha)⟩, ?_⟩
    refine for_it (walk_list (xs := (xs.map lineT).map V.str)) (fun i σ H1 => ∃ (kvs : List (List Key × V)) (st : Addr) (y3 y4 y5 : Option V), σ = [some (.ref a), some (.ref d), some (.ref st), y3, y4, y5] ∧ Same H H1 ∧ H1 st = some (.lst ((stAt xs i).map V.str)) ∧ KInv (RList RStr) (restOf xs) H1 d kvs ((xs.take i).map (·.1)))
      ⟨[], o, none, none, none, rfl, so, upd_same, KInv.none (same_upd no _ _ upd_same)⟩ (fun i σ H1 hi hp => ?_) (fun i v σ H1 H2 hi hp hy => ?_) (fun σ H1 hp => ?_)
    · obtain ⟨_, _, _, _, _, _, sm, _⟩ := hp
      exact sqL (sm _ _ ha)
    · obtain ⟨kvs, st, y3, y4, y5, rfl, sm, hst, ki⟩ := hp
      obtain ⟨rfl, hv⟩ := hy
      rw [List.map_map, List.getElem?_map] at hv
      obtain ⟨x, hxi, rfl⟩ := Option.map_eq_some_iff.mp hv
      have hxm := List.mem_of_getElem? hxi
      have okx := ok x hxm
      have et : xs.take (i + 1) = xs.take i ++ [x] := by rw [List.take_add_one, hxi]; rfl
      have hil : i < xs.length := (List.getElem?_eq_some_iff.mp hxi).1
      have hlz := okx.len
      have hpre := hch i x hxi
      obtain ⟨p0, pl, hp0⟩ : ∃ p0 pl, x.1 = p0 ++ [pl] := by
        rcases snoc_cases x.1 with e | e
        · exact absurd e okx.ne
        · exact e
      have hgl : x.1.getLastD ⟨#[]⟩ = pl := by rw [hp0]; simp [List.getLastD_eq_getLast?]
      have hdl : x.1.dropLast = p0 := by rw [hp0]; simp
      have hpl : p0.length = x.1.length - 1 := by rw [hp0]; simp
      rw [hdl] at hpre
      have hpl2 := hpre.length_le
      refine ⟨_, rfl, x, rfl, okx, ?_⟩
      -- parts
      have ew : cutS (lineT x) (some (2 * ((x.1.length - 1 : Nat) : Int))) none = Txt.join (Str.ofString "  ") (pl :: x.2) := ext_tl (by
        rw [show (2 * ((x.1.length - 1 : Nat) : Int)) = ((2 * (x.1.length - 1) : Nat) : Int) by omega, tl_cut_from, tl_lineT, drop_pads _ _ _ (Nat.le_refl _), Nat.sub_self, hgl]
        rfl)
      have hcl : (cutS (lineT x) (some (2 * ((x.1.length - 1 : Nat) : Int))) none).length ≤ 2000000 := Nat.le_trans (cutS_length _ _ _) hlz
      have few := okx.few
      refine ⟨_, rfl, _, rfl, 2, _, rfl, rfl, .inl ⟨by omega, by omega⟩, _, rfl, lineT x, rfl, by rw [sizeLine_eq]; omega, ⟨_, rfl⟩, _, _, rfl, rfl, by decide, by rw [sizeLine_eq]; omega, fun w nw => ?_⟩
      rw [ew, split_two (by simp) (by rw [← hgl]; exact okx.wd)]
      have sw : Same H2 (upd H2 w (.lst ((pl :: x.2).map V.str))) := same_upd nw
      -- the depth's test
      refine ⟨_, rfl, _, rfl, st, _, rfl, .inl (sqL (sw _ _ hst)), _, _, rfl, rfl, _, rfl, ?_⟩
      refine ifF (decide_eq_false (by rw [List.length_map]; omega)) ?_
      -- the stack
      refine ⟨_, rfl, _, rfl, _, rfl, st, _, rfl, sqL (sw _ _ hst), fun c nc => ?_⟩
      have sc := same_upd nc (o := .lst (cutV ((stAt xs i).map V.str) none (some ((x.1.length - 1 : Nat) : Int))))
      refine ⟨_, rfl, w, _, 0, _, rfl, rfl, sqL (sc _ _ upd_same), atI_nat (j := 0) rfl, sz (by show 1 ≤ 100000; decide), fun b nb => ?_⟩
      have sb := same_upd nb (o := .lst [.str pl])
      have ecut : cutV ((stAt xs i).map V.str) none (some ((x.1.length - 1 : Nat) : Int)) = p0.map V.str := by
        unfold cutV
        rw [HT.sIx_none, HT.sIx_nat, List.drop_zero, List.length_map, Nat.sub_zero, Nat.min_eq_left (by omega), ← List.map_take, ← hpl]
        congr 1
        exact (List.prefix_iff_eq_take.mp hpre).symm
      refine ⟨c, b, _, _, rfl, rfl, sb _ _ upd_same, upd_same, ?_, fun s2 ns2 => ?_⟩
      · rw [ecut, List.length_map]
        exact sz (by show p0.length + 1 ≤ _; omega)
      rw [ecut] at sc sb ns2 ⊢
      have es : p0.map V.str ++ [V.str pl] = x.1.map V.str := by rw [hp0, List.map_append]; rfl
      rw [es]
      have ss2 := same_upd ns2 (o := .lst (x.1.map V.str))
      have s26 := sw.trans (sc.trans (sb.trans ss2))
      -- in found?
      refine ⟨_, rfl, s2, _, rfl, .inl ⟨sqL upd_same, fun t nt => ?_⟩⟩
      have st1 := same_upd nt (o := .tup (x.1.map V.str))
      have s27 := s26.trans st1
      have ki1 := ki.same (mono_list mono_str) s27
      have hno : x.1 ∉ (xs.take i).map (·.1) := fun hm => by
        have e := congrArg (List.map (·.1)) (split_at hxi)
        rw [List.map_append, List.map_cons] at e
        rw [e, List.nodup_append] at hnd
        exact hnd.2.2 _ hm _ List.mem_cons_self rfl
      have hv0 : valV kvs (keysOf x.1) = none := by
        cases hv : valV kvs (keysOf x.1) with
        | none => rfl
        | some z => exact absurd (ki1.has.mp ⟨z, hv⟩) hno
      refine ⟨_, rfl, d, _, rfl, DGet.t (k := keysOf x.1) ki1.dat (by rw [keysOf_kV]; exact upd_same), _, rfl, ?_⟩
      rw [hv0]
      refine iteF ?_
      -- the store
      refine ⟨_, rfl, 1, rfl, w, _, rfl, sqL (sc.trans (sb.trans (ss2.trans st1)) _ _ upd_same), fun r nr => ?_⟩
      have er : cutV ((pl :: x.2).map V.str) (some 1) none = x.2.map V.str := by
        unfold cutV
        rw [HT.sIx_none, show (some (1 : Int)) = some ((1 : Nat) : Int) from rfl, HT.sIx_nat, show ((pl :: x.2).map V.str).length = x.2.length + 1 by simp, show min 1 (x.2.length + 1) = 1 by omega]
        show List.take (x.2.length + 1 - 1) (x.2.map V.str) = _
        exact List.take_of_length_le (by simp)
      have sr := same_upd nr (o := .lst (cutV ((pl :: x.2).map V.str) (some 1) none))
      rw [er] at sr ⊢
      refine ⟨_, rfl, _, rfl, s2, _, rfl, .inl ⟨sqL (st1.trans sr _ _ upd_same), fun t2 nt2 => ?_⟩⟩
      have st2 := same_upd nt2 (o := .tup (x.1.map V.str))
      have s29 := s27.trans (sr.trans st2)
      have ki2 := ki.same (mono_list mono_str) s29
      have hkl := ki2.len
      rw [List.length_map, List.length_take] at hkl
      refine ⟨d, _, rfl, DPut.t (k := keysOf x.1) ki2.dat (by rw [keysOf_kV]; exact upd_same) (szlt (by omega)), ?_⟩
      have hs2d : s2 ≠ d := fun e => by
        have := (sb.trans ss2) _ _ (sc _ _ (sw _ _ ki.dat))
        rw [← e, upd_same] at this
        cases this
      have hrd : r ≠ d := fun e => by
        rw [e, s27 _ _ ki.dat] at nr
        cases nr
      refine ⟨putK kvs (keysOf x.1) (.ref r), s2, _, _, _, rfl, same_upd2 hd (sm.trans s29), ?_, ?_⟩
      · rw [upd_ne hs2d, stAt_succ hxi]
        exact (st1.trans (sr.trans st2)) _ _ upd_same
      · rw [et, List.map_append]
        refine ki2.put ?_
        rw [restOf_mem hnd hxm]
        exact ⟨r, _, rfl, erase_at (st2 _ _ upd_same) hrd, pr_strs _ _⟩
    · obtain ⟨kvs, st, y3, y4, y5, rfl, sm, hst, ki⟩ := hp
      rw [List.length_map, List.length_map, List.take_length] at ki
      exact ⟨_, rfl, q H1 d kvs sm hd ki⟩
end
end PB
/-! PbRange: for i in range(a, b), a and b of any size -/
namespace PB
open PySem PySem.Spec PyProof.Rows L2 TL

theorem turn_long {P : Program} {w : World} {K : PySem.W.Frag} {tg : Expr} (it : Addr) (lo : Int) (n : Nat) : Turn P w K tg (Itr lo n) [it] it (fun i h => IsLongIter h it (lo + (i : Nat) * 1) ((n : Int) - (i : Nat)) 1) where
  mem := by simp
  obj := fun i h st b hb => by
    have e : b = it := by simpa using hb
    subst e
    exact ⟨_, st, fun v z => by
      have z' : Data.fields _ = Data.cell v := z
      cases z'⟩
  keep := fun i h h' st k => k it (by simp) _ st
  item := by
    intro X hP hw hK hc i pins s σ H E I hf st hg
    subst hP hw hK
    obtain ⟨f0, f1, f2, f3, f4, f5⟩ := hf it (by simp)
    have W := Walks.longrange (prog := X.prog) (w := X.w) (I.ok.hd hc) it lo 1 n
    refine W.item i s _ _ hg st fun v h' tk hv st' kk => ?_
    obtain ⟨t, rfl⟩ := hv
    have I1 : Inv X pins σ H { s with heap := h', toks := tk } := I.turned (fun b o hb e => kk b o (by simpa using hb) e) f0 f1 f3 f4 f5
    refine ⟨_, rfl, go_of (s := { s with heap := h', toks := tk }) (n := "longrange_iterator") st' rfl rfl (by decide) ⟨.int (lo + i), H, I1, ⟨t, ?_⟩, ⟨rfl, rfl⟩, st', fun b hb => (hf b hb).1⟩⟩
    rw [Int.mul_one]
  done := by
    intro X hP hw hK hc i pins s σ H E I hf st hg
    subst hP hw hK
    obtain ⟨f0, f1, f2, f3, f4, f5⟩ := hf it (by simp)
    exact wpAny_pyNext_long_end (I.ok.hd hc) st (by have : n ≤ i := hg; omega) fun h' eb => ⟨rfl, I.turned (t' := s.toks) (fun b o hb e => eb b o hb e) f0 f1 f3 f4 f5⟩
  self := fun _ _ _ _ _ st h => wpAny_pyIter_longiter st h
section
variable {X : Cx} {tg : Expr}
theorem range_itA {pins : List (Addr × Obj)} {σ : L2.St} {H : Hp} {s : Shared} {R : It → Hp → Prop} {E : Value → Shared → Prop} {lo hi : Int} {t u v : Tok} {tk : Nat} (I : Inv X pins σ H s)
    (q : R (Itr lo (hi - lo).toNat) H) : wpAny (model X.prog X.w) X.A (pyIter (.ref s.heap.objs.size)) (PIE X pins σ tg R) E { s with heap := s.heap.push { cls := .type "range", data := .fields #[.int lo t, .int hi u, .int 1 v] }, toks := tk } := by
  have I1 : Inv X pins σ H { s with heap := s.heap.push { cls := .type "range", data := .fields #[.int lo t, .int hi u, .int 1 v] }, toks := tk } := I.kept fun b o e => Heap.get?_push_of_some _ e
  have fin : ∀ b ∈ [(s.heap.push { cls := .type "range", data := .fields #[.int lo t, .int hi u, .int 1 v] }).objs.size], FpOk X pins H b := fun b hb => by
    have e : b = (s.heap.push { cls := .type "range", data := .fields #[.int lo t, .int hi u, .int 1 v] }).objs.size := by simpa using hb
    subst e
    exact I1.fpOk (Nat.le_refl _) (I1.hok.fresh (Nat.le_refl _))
  have e1 : lo + ((0 : Nat) : Int) * 1 = lo := by simp
  have e2 : (((hi - lo).toNat : Nat) : Int) - ((0 : Nat) : Int) = Builtin.Range.rangeSize lo hi 1 := by rw [rangeSize_one]; split <;> omega
  cases hs : Builtin.Range.small lo hi 1 with
  | true =>
    refine wpAny_pyIter_range (IsRange.new ..) hs ?_
    refine ⟨(s.heap.push { cls := .type "range", data := .fields #[.int lo t, .int hi u, .int 1 v] }).objs.size, [(s.heap.push { cls := .type "range", data := .fields #[.int lo t, .int hi u, .int 1 v] }).objs.size], _, _, H, rfl,
      I1.kept (t' := tk) fun b o e => Heap.get?_push_of_some _ e, turn_range _ lo (hi - lo).toNat, ?_, fin, q⟩
    show IsRangeIter _ _ (lo + ((0 : Nat) : Int) * 1) ((((hi - lo).toNat : Nat) : Int) - ((0 : Nat) : Int)) 1
    rw [e1, e2]
    exact Heap.get?_push_size _ rfl
  | false =>
    refine wpAny_pyIter_longrange (IsRange.new ..) hs ?_
    refine ⟨(s.heap.push { cls := .type "range", data := .fields #[.int lo t, .int hi u, .int 1 v] }).objs.size, [(s.heap.push { cls := .type "range", data := .fields #[.int lo t, .int hi u, .int 1 v] }).objs.size], _, _, H, rfl,
      I1.kept (t' := tk) fun b o e => Heap.get?_push_of_some _ e, turn_long _ lo (hi - lo).toNat, ?_, fin, q⟩
    show IsLongIter _ _ (lo + ((0 : Nat) : Int) * 1) ((((hi - lo).toNat : Nat) : Int) - ((0 : Nat) : Int)) 1
    rw [e1, e2]
    exact Heap.get?_push_size _ rfl
def iRngA (ta : TA) : TI := fun σ H R => ta σ H fun vs H1 => ∃ i j : Int, vs = [.int i, .int j] ∧ R (Itr i (j - i).toNat) H1
theorem pi_rangeA {a b : Expr} {ta : TA} {p pos : Pos} (hg : Gl X "range") (hm : X.mg "range" = none) (ha : PA X [a, b] ta) (hs : starEach [a, b] X.env = [(false, eval a X.env), (false, eval b X.env)] := by rfl) (hs2 : starEach [b] X.env = [(false, eval b X.env)] := by rfl) :
    PI X tg (.Call (.Name "range" p) [a, b] [] pos) (iRngA ta) := by
  refine ⟨fun pins s σ H R I h => ?_⟩
  refine Call_ (ld_blt I hg hm boot_range (PyProof.Rows.callWith_type1 (thn (ha.run pos pins s σ H _ I h) fun us s1 ⟨vs, H1, I1, r1, q1⟩ => ?_) (by rw [hs, hs2]) (by rw [hs2]; rfl)))
  obtain ⟨i, j, e, q⟩ := q1
  subst e
  cases r1 with
  | cons r rr =>
    cases rr with
    | cons r' rr =>
      cases rr
      obtain ⟨t, rfl⟩ := r
      obtain ⟨t', rfl⟩ := r'
      exact call_range_2 (range_itA I1 q)
end
end PB
/-! PbMath3: the stretches: what they cover, that none could be joined -/
namespace PB
open PySem PySem.Spec PyProof.Rows L2 TL

def pagesG (g : Pg) : List Int := (List.range (g.2.1 + 1 - g.1).toNat).map fun i : Nat => g.1 + (i : Int)
def stOf (gs : List Pg) : List (Int × Bool) := gs.flatMap fun g => (pagesG g).map fun n => (n, g.2.2)
def Sep (gs : List Pg) : Prop := ∀ i g g', gs[i]? = some g → gs[i + 1]? = some g' → g.2.1 < g'.1 ∧ ¬ (g'.1 = g.2.1 + 1 ∧ g'.2.2 = g.2.2)
theorem pagesG_one (n : Int) (b : Bool) : pagesG (n, n, b) = [n] := by
  unfold pagesG
  rw [show (n + 1 - n).toNat = 1 by omega]
  simp
theorem pagesG_more (g : Pg) (h : g.1 ≤ g.2.1) (b : Bool) : pagesG (g.1, g.2.1 + 1, b) = pagesG g ++ [g.2.1 + 1] := by
  unfold pagesG
  show (List.range (g.2.1 + 1 + 1 - g.1).toNat).map _ = _
  rw [show (g.2.1 + 1 + 1 - g.1).toNat = (g.2.1 + 1 - g.1).toNat + 1 by omega, List.range_succ, List.map_append]
  congr 1
  simp
  omega
theorem stOf_app (a b : List Pg) : stOf (a ++ b) = stOf a ++ stOf b := by
  unfold stOf
  rw [List.flatMap_append]
theorem stOf_one (g : Pg) : stOf [g] = (pagesG g).map fun n => (n, g.2.2) := by
  unfold stOf
  simp
structure RunsInv (f : Int → Bool) (ps : List Int) (gs : List Pg) : Prop where
  st : stOf gs = ps.map fun n => (n, f n)
  le : ∀ g ∈ gs, g.1 ≤ g.2.1
  sep : Sep gs
  la : gs.getLast?.map (·.2.1) = ps.getLast?
theorem sep_snoc {gs : List Pg} {x : Pg} (h : Sep gs) (hx : ∀ g, gs.getLast? = some g → g.2.1 < x.1 ∧ ¬ (x.1 = g.2.1 + 1 ∧ x.2.2 = g.2.2)) : Sep (gs ++ [x]) := by
  intro i g g' h1 h2
  by_cases hi : i + 1 < gs.length
  · rw [List.getElem?_append_left (by omega)] at h1
    rw [List.getElem?_append_left hi] at h2
    exact h i g g' h1 h2
  · have hl := (List.getElem?_eq_some_iff.mp h2).1
    rw [List.length_append] at hl
    have hl : i + 1 < gs.length + 1 := hl
    have e : i + 1 = gs.length := by omega
    rw [List.getElem?_append_left (by omega)] at h1
    rw [e, List.getElem?_append_right (Nat.le_refl _), Nat.sub_self] at h2
    cases h2
    refine hx g ?_
    rw [List.getLast?_eq_getElem?, show gs.length - 1 = i by omega]
    exact h1
theorem runs_inv (f : Int → Bool) : ∀ n (ps : List Int), ps.length = n → ps.Pairwise (· < ·) → RunsInv f ps (runsL f ps)
  | 0, ps, hl, _ => by
    have e : ps = [] := List.length_eq_zero_iff.mp hl
    subst e
    exact ⟨rfl, fun _ h => absurd h List.not_mem_nil, (fun i g g' h _ => by have h : ([] : List Pg)[i]? = some g := h; simp at h), rfl⟩
  | m + 1, ps, hl, hp => by
    obtain ⟨qs, n, rfl⟩ : ∃ qs n, ps = qs ++ [n] := by
      rcases snoc_cases ps with rfl | h
      · cases hl
      · exact h
    rw [List.length_append] at hl
    have hl : qs.length + 1 = m + 1 := hl
    rw [List.pairwise_append] at hp
    have ih := runs_inv f m qs (by omega) hp.1
    have hlt : ∀ q ∈ qs, q < n := fun q hq => hp.2.2 q hq n (List.mem_singleton.mpr rfl)
    rw [runs_snoc]
    generalize runsL f qs = gs at ih
    have hlast : ∀ g, gs.getLast? = some g → g.2.1 < n := fun g hg => by
      have := ih.la
      rw [hg] at this
      exact hlt _ (List.mem_of_getLast? this.symm)
    have new : (∀ g, gs.getLast? = some g → ¬ (g.2.1 = n - 1 ∧ g.2.2 = f n)) → RunsInv f (qs ++ [n]) (gs ++ [(n, n, f n)]) := fun hno => by
      refine ⟨?_, fun g hg => ?_, sep_snoc ih.sep fun g hg => ⟨hlast g hg, fun z => hno g hg ⟨by have := z.1; show g.2.1 = n - 1; have h1 : n = g.2.1 + 1 := this; omega, z.2.symm⟩⟩, by simp⟩
      · rw [stOf_app, ih.st, stOf_one, pagesG_one, List.map_append]; rfl
      · rcases List.mem_append.mp hg with hg | hg
        · exact ih.le g hg
        · rw [List.mem_singleton.mp hg]; exact Int.le_refl _
    unfold stepRun
    cases hg : gs.getLast? with
    | none => exact new fun g h => by rw [hg] at h; cases h
    | some g =>
      show RunsInv f (qs ++ [n]) (if g.2.1 = n - 1 ∧ g.2.2 = f n then gs.dropLast ++ [(g.1, n, f n)] else gs ++ [(n, n, f n)])
      by_cases hc : g.2.1 = n - 1 ∧ g.2.2 = f n
      · rw [if_pos hc]
        obtain ⟨g0, g', rfl⟩ : ∃ g0 g', gs = g0 ++ [g'] := by
          rcases snoc_cases gs with rfl | h
          · cases hg
          · exact h
        have egg : g' = g := by simpa using hg
        subst egg
        rw [List.dropLast_concat]
        have hle := ih.le g' (by simp)
        have hn : n = g'.2.1 + 1 := by omega
        refine ⟨?_, fun x hx => ?_, ?_, by simp⟩
        · have h1 := ih.st
          rw [stOf_app, stOf_one] at h1
          rw [← hc.2, stOf_app, stOf_one, List.map_append, ← h1, List.append_assoc]
          show stOf g0 ++ (pagesG (g'.1, n, g'.2.2)).map (fun n => (n, g'.2.2)) = stOf g0 ++ ((pagesG g').map (fun n => (n, g'.2.2)) ++ [(n, f n)])
          rw [← hc.2, hn, pagesG_more g' hle, List.map_append]
          rfl
        · rcases List.mem_append.mp hx with hx | hx
          · exact ih.le x (List.mem_append_left _ hx)
          · rw [List.mem_singleton.mp hx]
            show g'.1 ≤ n
            omega
        · have hs0 : Sep g0 := fun i a b h1 h2 => ih.sep i a b (by rw [List.getElem?_append_left (List.getElem?_eq_some_iff.mp h1).1]; exact h1) (by rw [List.getElem?_append_left (List.getElem?_eq_some_iff.mp h2).1]; exact h2)
          refine sep_snoc hs0 fun x hx => ?_
          have hx0 := hx
          rw [List.getLast?_eq_getElem?] at hx0
          have hlen : g0.length - 1 < g0.length := (List.getElem?_eq_some_iff.mp hx0).1
          have := ih.sep (g0.length - 1) x g' (by rw [List.getElem?_append_left hlen]; exact hx0) (by rw [show g0.length - 1 + 1 = g0.length by omega, List.getElem?_append_right (Nat.le_refl _), Nat.sub_self]; rfl)
          exact ⟨this.1, fun z => this.2 ⟨z.1, hc.2.trans z.2⟩⟩
      · rw [if_neg hc]
        refine new fun g2 h2 => ?_
        rw [hg] at h2
        cases h2
        exact hc
theorem cS_map (f : Int → Bool) (ps : List Int) (n : Int) : cS (ps.map fun n => (n, f n)) n = if n ∈ ps then some (f n) else none := by
  unfold cS
  by_cases h : n ∈ ps
  · have h1 : ((ps.map fun n => (n, f n)).any fun s => decide (s.1 = n)) = true := by
      rw [List.any_eq_true]
      exact ⟨_, List.mem_map.mpr ⟨n, h, rfl⟩, decide_eq_true rfl⟩
    rw [if_pos h1, if_pos h]
    congr 1
    cases hf : f n with
    | true =>
      rw [List.any_eq_true]
      exact ⟨_, List.mem_map.mpr ⟨n, h, rfl⟩, by simp [hf]⟩
    | false =>
      rw [List.any_eq_false]
      rintro s hs
      obtain ⟨m, _, rfl⟩ := List.mem_map.mp hs
      by_cases e : m = n
      · subst e; simp [hf]
      · simp [e]
  · have h1 : ¬ ((ps.map fun n => (n, f n)).any fun s => decide (s.1 = n)) = true := by
      rw [List.any_eq_true]
      rintro ⟨s, hs, e⟩
      obtain ⟨m, hm, rfl⟩ := List.mem_map.mp hs
      exact h (of_decide_eq_true e ▸ hm)
    rw [if_neg h1, if_neg h]
/-- the facts of the stretches of marks -/
structure RunsF (nums : List Int) (st : List (Int × Bool)) (gs : List Pg) : Prop where
  ok : ∀ g ∈ gs, PgOk g ∧ g.1 ≤ g.2.1 ∧ g.2.1 - g.1 ≤ 200
  sep : Sep gs
  eq : ∀ n, cS (stOf gs) n = cS st n
  nd : ((stOf gs).map (·.1)).Nodup
  sub : ∀ s ∈ stOf gs, s.1 ∈ nums
  len : gs.length ≤ nums.length
  ne : gs = [] → ∀ n, cS st n = none
theorem mem_pagesG {g : Pg} {n : Int} (h1 : g.1 ≤ n) (h2 : n ≤ g.2.1) : n ∈ pagesG g := by
  unfold pagesG
  refine List.mem_map.mpr ⟨(n - g.1).toNat, List.mem_range.mpr (by omega), by omega⟩
theorem runs_facts {nums : List Int} {ms : List Mk} {gs : List Pg} (hb : ∀ n ∈ nums, 0 ≤ n ∧ n < 10 ^ 70) (hz : nums.length < 64) (h : IsRuns nums ms gs) : RunsF nums (stepsOf nums ms) gs := by
  obtain ⟨ps, hp, hm, hs, rfl⟩ := h
  have inv := runs_inv (fun n => (cS (stepsOf nums ms) n).getD false) ps.length ps rfl hp
  have hlen := runs_len (fun n => (cS (stepsOf nums ms) n).getD false) ps
  generalize hg : runsL (fun n => (cS (stepsOf nums ms) n).getD false) ps = gs at inv hlen
  have hnd : ps.Nodup := hp.imp fun h e => by rw [e] at h; exact Int.lt_irrefl _ h
  have hpl : ps.length ≤ nums.length := List.Nodup.length_le_of_subset hnd hs
  have hfst : (stOf gs).map (·.1) = ps := by rw [inv.st, List.map_map]; simp [Function.comp_def]
  have inG : ∀ g ∈ gs, ∀ n ∈ pagesG g, n ∈ ps := fun g hg n hn => by
    rw [← hfst]
    exact List.mem_map.mpr ⟨(n, g.2.2), List.mem_flatMap.mpr ⟨g, hg, List.mem_map.mpr ⟨n, hn, rfl⟩⟩, rfl⟩
  refine ⟨fun g hg => ?_, inv.sep, fun n => ?_, by rw [hfst]; exact hnd, fun s hs' => ?_, by omega, fun e n => ?_⟩
  · have hle := inv.le g hg
    have ha := hb _ (hs _ (inG g hg g.1 (mem_pagesG (Int.le_refl _) hle)))
    have hbb := hb _ (hs _ (inG g hg g.2.1 (mem_pagesG hle (Int.le_refl _))))
    refine ⟨⟨ha.1, ha.2, hbb.1, hbb.2⟩, hle, ?_⟩
    have hgn : (pagesG g).Nodup := by
      unfold pagesG
      exact List.pairwise_map.mpr (List.nodup_range.imp fun h e => h (by omega))
    have h1 := List.Nodup.length_le_of_subset hgn (l₂ := ps) fun n hn => inG g hg n hn
    unfold pagesG at h1
    rw [List.length_map, List.length_range] at h1
    omega
  · rw [inv.st, cS_map]
    by_cases h : n ∈ ps
    · rw [if_pos h]
      obtain ⟨b, hb'⟩ := Option.isSome_iff_exists.mp ((hm n).mp h)
      rw [hb']; rfl
    · rw [if_neg h]
      cases hc : cS (stepsOf nums ms) n with
      | none => rfl
      | some b => exact absurd ((hm n).mpr (by rw [hc]; rfl)) h
  · refine hs _ ?_
    rw [← hfst]
    exact List.mem_map.mpr ⟨s, hs', rfl⟩
  · have e2 : ps = [] := by rw [← hfst, e]; rfl
    cases hc : cS (stepsOf nums ms) n with
    | none => rfl
    | some b =>
      have := (hm n).mpr (by rw [hc]; rfl)
      rw [e2] at this
      cases this
theorem cS_none {st : List (Int × Bool)} {n : Int} (h : n ∉ st.map (·.1)) : cS st n = none := by
  unfold cS
  rw [if_neg]
  rw [List.any_eq_true]
  rintro ⟨s, hs, e⟩
  exact h (List.mem_map.mpr ⟨s, hs, of_decide_eq_true e⟩)
/-- two such dicts are equal -/
theorem cov_eq {nums : List Int} {st st' : List (Int × Bool)} {ks ls : List (Key × V)} (h : Cov nums st ks) (h' : Cov nums st' ls) (e : ∀ n, cS st n = cS st' n) : ks.length = ls.length ∧ ∀ p ∈ ks, valV ls p.1 = some p.2 ∧ ∃ b, p.2 = .bl b := by
  have hv : ∀ n, valV ks (Sum.inl n) = valV ls (Sum.inl n) := fun n => by rw [h.val, h'.val, e]
  have sub : ∀ {a b : List (Key × V)} {s t : List (Int × Bool)}, Cov nums s a → Cov nums t b → (∀ n, valV a (Sum.inl n) = valV b (Sum.inl n)) → a.length ≤ b.length := fun {a b s t} ha hb hv => by
    have := List.Nodup.length_le_of_subset ha.nd (l₂ := b.map (·.1)) fun k hk => by
      obtain ⟨n, _, rfl⟩ := ha.sub k hk
      cases hx : valV b (Sum.inl n) with
      | some x => exact valV_in hx
      | none =>
        rw [← hv] at hx
        exact absurd hk (valV_not hx)
    rwa [List.length_map, List.length_map] at this
  refine ⟨Nat.le_antisymm (sub h h' hv) (sub h' h fun n => (hv n).symm), fun p hp => ?_⟩
  have h1 := val_nodup h.nd p hp
  obtain ⟨n, _, e1⟩ := h.sub p.1 (List.mem_map.mpr ⟨p, hp, rfl⟩)
  rw [e1] at h1 ⊢
  rw [← hv]
  refine ⟨h1, ?_⟩
  rw [h.val] at h1
  obtain ⟨b, _, hb⟩ := Option.map_eq_some_iff.mp h1
  exact ⟨b, hb.symm⟩
end PB
/-! PbLaw6: the law reads the stretches back -/
namespace PB
open PySem PySem.Spec PyProof.Rows L2 TL

theorem int_numS {i : Int} (h0 : 0 ≤ i) (h1 : i < 10 ^ 70) : intText? (numS i) = some i ∧ (numS i).length ≤ 640 := by
  obtain ⟨n, rfl⟩ := Int.eq_ofNat_of_zero_le h0
  have hl := numS_len h0 h1
  have hn : (numL n).length ≤ 70 := by
    have e : tl (numS (n : Int)) = numL n := tl_num n
    rw [← e, ← len_tl]
    exact hl
  exact ⟨int_num (by omega), by omega⟩
theorem prefix_map {α β : Type} {f : α → β} {l m : List α} (h : l <+: m) : l.map f <+: m.map f := by
  obtain ⟨t, rfl⟩ := h
  exact ⟨t.map f, by rw [List.map_append]⟩
section
variable {P : Program} {w : World} {K : PySem.W.Frag} {mg : Str → Option Value} {base : Heap}
/-! PbLaw6: ### _law_page -/
theorem scPage : FnScope ["_law_part", "_law_star", "_law_first", "_law_line", "_law_last"] ["_law_part"] (defScope sPage) := ⟨rfl, rfl, rfl, by decide +kernel, rfl, by decide +kernel, by decide +kernel⟩
def spPage : Sp := fun vs H Q _ => ∃ (g : Pg), vs = [.str (strS g)] ∧ PgOk g ∧ ∀ (H' : Hp) (v : V), Same H H' → RPg g v H' → Q v H'
def coreS (g : Pg) : Str := if g.1 = g.2.1 then numS g.1 else numS g.1 ++ Str.ofString "-" ++ numS g.2.1
theorem strS_core (g : Pg) : strS g = if g.2.2 = true then Str.ofString "*" ++ coreS g ++ Str.ofString "*" else coreS g := rfl
theorem coreS_head {g : Pg} (h : PgOk g) : ∃ c r, tl (coreS g) = c :: r ∧ c ≠ 42 := by
  have a := tl_numS h.a0
  have hd : ∃ c r, numL g.1.toNat = c :: r ∧ c ≠ 42 := by
    cases hn : numL g.1.toNat with
    | nil => exact absurd hn (numL_ne _)
    | cons c r =>
      have := num_dig g.1.toNat c (by rw [hn]; exact List.mem_cons_self)
      exact ⟨c, r, rfl, by omega⟩
  obtain ⟨c, r, e, h2⟩ := hd
  unfold coreS
  split
  · rw [a]; exact ⟨c, r, e, h2⟩
  · rw [tl_append, tl_append, a, e]
    exact ⟨c, _, rfl, h2⟩
theorem coreS_len {g : Pg} (h : PgOk g) : (coreS g).length ≤ 150 := by
  have h1 := numS_len h.a0 h.a1
  have h2 := numS_len h.b0 h.b1
  have e2 : (Str.ofString "-").length = 1 := by decide
  unfold coreS
  split
  · omega
  · rw [app_len, app_len, e2]; omega
theorem okPage (T : Top K mg) : Def1 P w K mg base 1 "_law_page" spPage := by
  refine def1 T.fPage scPage (fun vs H Q E h => ?_) (fun _ _ _ _ _ _ us hl => match us, hl with | [_], _ => rfl) (fun f cdv A outer s H vs Q E hr h => ?_)
  · obtain ⟨g, rfl, _⟩ := h
    rfl
  · obtain ⟨g, rfl, ok, q⟩ := h
    refine ⟨_, pss_cons (ps_set (i := 1) scPage.nd rfl (.inl rfl) (pe_cmpR op_eq (pe_slice sl_str (pv 0) po_none (po_some pe_int)) pe_str (nomark _)))
      (pss_cons (ps_if (pt_val (pv 1)) (pss_one (ps_set (i := 0) scPage.nd rfl (.inl rfl) (pe_slice sl_str (pv 0) (po_some pe_int) (po_some (pe_un un_neg pe_int))))) pss_nil)
      (pss_cons (ps_asg (pe_partition (pv 0) pe_str) (pg_tup rfl (pgs_cons (pg_name (i := 2) scPage.nd rfl (.inl rfl)) (pgs_cons (pg_name (i := 3) scPage.nd rfl (.inl rfl)) (pgs_cons (pg_name (i := 4) scPage.nd rfl (.inl rfl)) pgs_nil)))))
      (pss_cons (ps_if (pt_cmpR op_eq (pv 3) pe_str (nomark _)) (pss_one (ps_set (i := 4) scPage.nd rfl (.inl rfl) (pv 2))) pss_nil)
      (pss_one (ps_ret (pe_tup (pa_cons (pe_callTy call_int_str (by rfl) T.int (by decide +kernel) (pa_cons (pv 2) pa_nil)) (pa_cons (pe_callTy call_int_str (by rfl) T.int (by decide +kernel) (pa_cons (pv 4) pa_nil)) (pa_cons (pv 1) pa_nil))))))))), ?_⟩
    have hcl := coreS_len ok
    have hsl := strS_len ok
    obtain ⟨c, r, hc, hc42⟩ := coreS_head ok
    have e42 : tl (Str.ofString "*") = [42] := by decide
    have n1 : (some (1 : Int)) = some ((1 : Nat) : Int) := rfl
    have cut1 : ∀ z : Str, tl (cutS z none (some 1)) = (tl z).take 1 := fun z => by
      unfold cutS
      have e : z.length = (tl z).length := len_tl z
      rw [tl_mk, HT.sIx_none, n1, HT.sIx_nat, List.drop_zero, Nat.sub_zero]
      show (tl z).take (min 1 z.length) = _
      rw [e]
      by_cases h : 1 ≤ (tl z).length
      · rw [Nat.min_eq_left h]
      · rw [Nat.min_eq_right (by omega), List.take_of_length_le (Nat.le_refl _), List.take_of_length_le (by omega)]
    have hst : decide (V.str (cutS (strS g) none (some 1)) = V.str (Str.ofString "*")) = g.2.2 := by
      rw [strS_core]
      rcases Bool.eq_false_or_eq_true g.2.2 with hs | hs
      · rw [if_pos hs, hs]
        refine decide_eq_true (congrArg V.str (ext_tl ?_))
        rw [cut1, tl_append, tl_append, e42]
        rfl
      · rw [if_neg (by rw [hs]; decide), hs]
        refine decide_eq_false fun z => ?_
        have := congrArg tl (V.str.inj z)
        rw [cut1, hc, e42] at this
        exact hc42 (by simpa using this)
    refine ⟨_, rfl, 1, rfl, strS g, rfl, sz (by omega), rfl, ?_⟩
    show gName 1 (V.bl (decide (V.str (cutS (strS g) none (some 1)) = V.str (Str.ofString "*")))) _ _ _
    rw [hst]
    refine ⟨_, rfl, _, rfl, ?_⟩
    have hz9 : (strS g).length ≤ sizeLine := sz (by omega)
    have ec : g.2.2 = true → cutS (strS g) (some 1) (some (-1)) = coreS g := fun hs => by
      rw [strS_core, if_pos hs]
      refine ext_tl ?_
      unfold cutS
      have hlen : (Str.ofString "*" ++ coreS g ++ Str.ofString "*").length = (coreS g).length + 2 := by
        rw [app_len, app_len, show (Str.ofString "*").length = 1 by decide]
        omega
      rw [tl_mk, hlen, n1, HT.sIx_nat, show min 1 ((coreS g).length + 2) = 1 by omega, show HT.sIx ((coreS g).length + 2) ((coreS g).length + 2) (some (-1)) = (coreS g).length + 1 by
        unfold HT.sIx
        show (if (-1 : Int) < 0 then ((-1 : Int) + (((coreS g).length + 2 : Nat) : Int)).toNat else _) = _
        rw [if_pos (by decide)]
        omega]
      show ((tl (Str.ofString "*" ++ coreS g ++ Str.ofString "*")).drop 1).take ((coreS g).length + 1 - 1) = _
      rw [tl_append, tl_append, e42, len_tl, Nat.add_sub_cancel]
      show (tl (coreS g) ++ [42]).take _ = _
      rw [List.take_left]
    -- the rest, the stars gone
    apply share
    · intro rest
      rcases Bool.eq_false_or_eq_true g.2.2 with hs | hs
      · refine ifT hs ⟨_, rfl, 1, rfl, 1, rfl, -1, rfl, strS g, rfl, hz9, ?_⟩
        show gName 0 (V.str (cutS (strS g) (some 1) (some (-1)))) _ _ _
        rw [ec hs]
        exact rest
      · have e : strS g = coreS g := by rw [strS_core, if_neg (by rw [hs]; decide)]
        rw [e]
        exact ifF hs rest
    · have ey : tl (Str.ofString "-") = 45 :: [] := by decide
      have hno : 45 ∉ tl (numS g.1) := by
        rw [tl_numS ok.a0]
        exact numL_free (.inl (by decide))
      have i1 := int_numS ok.a0 ok.a1
      have i2 := int_numS ok.b0 ok.b1
      refine ⟨_, rfl, ⟨_, rfl⟩, coreS g, _, rfl, rfl, by decide, sz (by omega), fun p np => ?_⟩
      have sp := same_upd np (o := .tup [.str (Txt.partition (coreS g) (Str.ofString "-")).1, .str (Txt.partition (coreS g) (Str.ofString "-")).2.1, .str (Txt.partition (coreS g) (Str.ofString "-")).2.2])
      refine ⟨p, _, rfl, sqT upd_same, rfl, _, _, rfl, _, _, rfl, _, _, rfl, rfl, ?_⟩
      refine ⟨_, rfl, rfl, _, rfl, ?_⟩
      by_cases h : g.1 = g.2.1
      · have ec : coreS g = numS g.1 := by unfold coreS; rw [if_pos h]
        have e := partition_none ey hno
        rw [ec, e]
        refine ifT (decide_eq_true (congrArg V.str (by rfl))) ⟨_, rfl, _, rfl, _, g.1, rfl, i1.1, i1.2, _, rfl, _, g.1, rfl, i1.1, i1.2, _, rfl, sz (by show 3 ≤ 100000; decide), fun t nt => ?_⟩
        rw [ec, e] at sp
        refine q _ _ (sp.trans (same_upd nt)) ⟨t, rfl, ?_⟩
        rw [upd_same, ← h]
      · have ec : coreS g = numS g.1 ++ Str.ofString "-" ++ numS g.2.1 := by unfold coreS; rw [if_neg h]
        have e := partition_app ey (b := numS g.2.1) hno
        rw [ec, e]
        refine ifF (decide_eq_false fun z => ?_) ⟨_, rfl, _, g.1, rfl, i1.1, i1.2, _, rfl, _, g.2.1, rfl, i2.1, i2.2, _, rfl, sz (by show 3 ≤ 100000; decide), fun t nt => ?_⟩
        · have := congrArg tl (V.str.inj z)
          rw [ey] at this
          cases this
        · rw [ec, e] at sp
          exact q _ _ (sp.trans (same_upd nt)) ⟨t, rfl, upd_same⟩
/-! PbLaw6: ### _law_pages_so -/
theorem scPagesSo : FnScope ["_law_part", "_law_numbers", "_law_marks_here", "_law_covered_by", "_law_path", "_law_low", "_law_high", "_law_most", "_law_page_here", "_law_told", "_law_last", "_law_star", "_law_one"] ["_law_part", "_law_numbers", "_law_marks_here"] (defScope sPagesSo) := ⟨rfl, rfl, rfl, by decide +kernel, rfl, by decide +kernel, by decide +kernel⟩
def spPagesSo : Sp := fun vs H Q _ => ∃ (n m : Addr) (nums : List Int) (ms : List Mk) (us : List V) (gs : List Pg), vs = [.str (Txt.join (Str.ofString ", ") (gs.map strS)), .ref n, .ref m] ∧ H n = some (.lst (nums.map V.int)) ∧ H m = some (.lst us) ∧ Paired (fun b y => RMark b y H) ms us ∧ nums.length < 64 ∧
  RunsF nums (stepsOf nums ms) gs ∧ gs ≠ [] ∧ ∀ H', Same H H' → Q (.bl true) H'
theorem okPagesSo (T : Top K mg) : Def1 P w K mg base 2 "_law_pages_so" spPagesSo := by
  refine def1 T.fPagesSo scPagesSo (fun vs H Q E h => ?_) (fun _ _ _ _ _ _ us hl => match us, hl with | [_, _, _], _ => rfl) (fun f cdv A outer s H vs Q E hr h => ?_)
  · obtain ⟨n, m, nums, ms, us, gs, rfl, _⟩ := h
    rfl
  · obtain ⟨n, m, nums, ms, us, gs, rfl, hn, hm, pr, hz, rf, hgn, q⟩ := h
    refine ⟨_, pss_cons (ps_set (i := 3) scPagesSo.nd rfl (.inl rfl) pe_dnewK)
      (pss_cons (ps_for PassesOwn.never rfl (pi_list (pv 2)) (pg_tup rfl (pgs_cons (pg_name (i := 4) scPagesSo.nd rfl (.inl rfl)) (pgs_cons (pg_name (i := 5) scPagesSo.nd rfl (.inl rfl)) (pgs_cons (pg_name (i := 6) scPagesSo.nd rfl (.inl rfl)) (pgs_cons (pg_name (i := 7) scPagesSo.nd rfl (.inl rfl)) pgs_nil)))))
        (pss_one (ps_for PassesOwn.never rfl (pi_list (pe_slice sl_list (pv 1) (po_some (pv 5)) (po_some (pe_op op_add (pv 6) pe_int)))) (pg_name (i := 8) scPagesSo.nd rfl (.inl rfl))
          (pss_one (ps_dput (hu_of hr) (pv 3) (pv 8) (pe_or (pv 7) (pe_one (pe_dget2 (hu_of hr) (pv 3) (pv 8) pe_bl ⟨rfl, rfl, rfl, rfl⟩))) rfl)))))
      (pss_cons (ps_set (i := 9) scPagesSo.nd rfl (.inl rfl) pe_dnewK)
      (pss_cons (ps_set (i := 10) scPagesSo.nd rfl (.inl rfl) (pe_tup (pa_cons (pe_un un_neg pe_int) (pa_cons pe_bl pa_nil))))
      (pss_cons (ps_for PassesOwn.never rfl (pi_list (pe_lc (own := [("_law_one", 12)]) (g := gName 12) (tt := tYes) rfl scPagesSo.nd (pi_list (pe_split (pv 0) pe_str)) (blkOk_by (own := [("_law_one", 12)]) (N := ["_law_part", "_law_numbers", "_law_marks_here", "_law_covered_by", "_law_path", "_law_low", "_law_high", "_law_most", "_law_page_here", "_law_told", "_law_last", "_law_star", "_law_one"]) (sc := defScope sPagesSo) (by decide +kernel))
            (fun _ _ _ _ _ => pg_name (i := 12) scPagesSo.nd rfl (Or.inl rfl)) (fun _ _ _ _ _ => pts_nil) (fun _ _ _ _ _ => pe_f (okPage T) hr (by decide) rfl (pa_cons (pv 12) pa_nil))))
          (pg_tup rfl (pgs_cons (pg_name (i := 5) scPagesSo.nd rfl (.inl rfl)) (pgs_cons (pg_name (i := 6) scPagesSo.nd rfl (.inl rfl)) (pgs_cons (pg_name (i := 11) scPagesSo.nd rfl (.inl rfl)) pgs_nil))))
        (pss_cons (ps_if (PW.pt (pw_or (pt_cmpR op_gt (pv 5) (pv 6) (nomark _)) (pw_or (pt_cmpR op_le (pv 5) (pe_ix ix_tup (pv 10) pe_int (fun _ _ => rfl)) (nomark _)) (pw_or
              (PW.pt (pw_and (pt_cmpR op_eq (pv 5) (pe_op op_add (pe_ix ix_tup (pv 10) pe_int (fun _ _ => rfl)) pe_int) (nomark _)) (pw_and1 (pt_cmpR op_eq (pv 11) (pe_ix ix_tup (pv 10) pe_int (fun _ _ => rfl)) (nomark _)))))
              (pw_or1 (pt_cmpR op_gt (pe_op op_sub (pv 6) (pv 5)) pe_int (nomark _)))))))
            (pss_one (ps_ret pe_bl)) pss_nil)
        (pss_cons (ps_for PassesOwn.never rfl (pi_rangeA (by rfl) T.range (pa_cons (pv 5) (pa_cons (pe_op op_add (pv 6) pe_int) pa_nil))) (pg_name (i := 8) scPagesSo.nd rfl (.inl rfl))
          (pss_one (ps_dput (hu_of hr) (pv 9) (pv 8) (pv 11) rfl)))
        (pss_one (ps_set (i := 10) scPagesSo.nd rfl (.inl rfl) (pe_tup (pa_cons (pv 6) (pa_cons (pv 11) pa_nil))))))))
      (pss_one (ps_ret (pe_cmpR (op_eq_dictA hr.units0) (pv 9) (pv 3) (nomark _)))))))), ?_⟩
    have hsplit := split_strS hgn fun g hg => (rf.ok g hg).1
    have hplen : (Txt.join (Str.ofString ", ") (gs.map strS)).length ≤ 64 * 202 := by
      have h1 := join_len (Str.ofString ", ") (gs.map strS) (n := 200) fun x hx => by
        obtain ⟨g, hg, rfl⟩ := List.mem_map.mp hx
        exact strS_len (rf.ok g hg).1
      rw [List.length_map, show (Str.ofString ", ").length = 2 by decide] at h1
      have := rf.len
      omega
    generalize Txt.join (Str.ofString ", ") (gs.map strS) = part at hsplit hplen
    refine fun d hd => ⟨.ref m, rfl, m, rfl, ⟨_, sqL (same_upd hd _ _ hm)⟩, ?_⟩
    refine for_it (walk_list (xs := us)) (fun i σ H1 => ∃ (kvs : List (Key × V)) (y3 y4 y5 y6 y7 : Option V), σ = [some (.str part), some (.ref n), some (.ref m), some (.ref d), y3, y4, y5, y6, y7, none, none, none, none] ∧ Same H H1 ∧ H1 d = some (.dK kvs) ∧ Cov nums (stepsOf nums (ms.take i)) kvs)
      ⟨[], none, none, none, none, none, rfl, same_upd hd, upd_same, Cov.none nums⟩ (fun i σ H1 hi hp => ?_) (fun i x σ H1 H2 hi hp hy => ?_) (fun σ H1 hp => ?_)
    · obtain ⟨_, _, _, _, _, _, _, sm, _⟩ := hp
      exact sqL (sm _ _ hm)
    · obtain ⟨kvs, y3, y4, y5, y6, y7, rfl, sm, ho, hc⟩ := hp
      obtain ⟨rfl, hx⟩ := hy
      obtain ⟨mk, hmk, r⟩ := pr_get2 (Paired.monoR mono_mark sm pr) hx
      obtain ⟨a, p, rfl, ha, hpp⟩ := r
      refine ⟨a, _, rfl, sqT ha, rfl, _, _, rfl, _, _, rfl, _, _, rfl, _, _, rfl, rfl, ?_⟩
      refine ⟨_, rfl, _, rfl, _, rfl, _, rfl, mk.2.2.1, 1, rfl, rfl, mk.2.2.1 + 1, rfl, n, nums.map V.int, rfl, sqL (sm _ _ hn), fun c nc => ?_⟩
      have scn : Same H2 (upd H2 c (.lst (cutV (nums.map V.int) (some mk.2.1) (some (mk.2.2.1 + 1))))) := same_upd nc
      have hcd : d ≠ c := ne_of_none ho nc
      have ecut := cutV_int nums mk.2.1 (mk.2.2.1 + 1)
      rw [ecut] at scn ⊢
      have et : ms.take (i + 1) = ms.take i ++ [mk] := by rw [List.take_add_one, hmk]; rfl
      refine ⟨c, rfl, ⟨_, sqL upd_same⟩, ?_⟩
      refine for_it (walk_list (xs := (cutG nums mk.2.1 (mk.2.2.1 + 1)).map V.int)) (fun j σ H3 => ∃ (kvs : List (Key × V)) (y7 : Option V), σ = [some (.str part), some (.ref n), some (.ref m), some (.ref d), some (.ref p), some (.int mk.2.1), some (.int mk.2.2.1), some (.bl mk.2.2.2), y7, none, none, none, none] ∧ Same H H3 ∧ H3 c = some (.lst ((cutG nums mk.2.1 (mk.2.2.1 + 1)).map V.int)) ∧ H3 d = some (.dK kvs) ∧
        Cov nums (stepsOf nums (ms.take i) ++ ((cutG nums mk.2.1 (mk.2.2.1 + 1)).take j).map fun p => (p, mk.2.2.2)) kvs) ⟨kvs, y7, rfl, sm.trans scn, upd_same, scn _ _ ho, by rw [List.take_zero, List.map_nil, List.append_nil]; exact hc⟩ (fun j σ H3 hj hp => ?_) (fun j x σ H3 H4 hj hp hy => ?_) (fun σ H3 hp => ?_)
      · obtain ⟨_, _, _, _, hcc, _⟩ := hp
        exact sqL hcc
      · obtain ⟨kvs, y7, rfl, sm3, hcc, ho3, hc3⟩ := hp
        obtain ⟨rfl, hx2⟩ := hy
        rw [List.getElem?_map] at hx2
        obtain ⟨pg, hpg, rfl⟩ := Option.map_eq_some_iff.mp hx2
        have et2 : (cutG nums mk.2.1 (mk.2.2.1 + 1)).take (j + 1) = (cutG nums mk.2.1 (mk.2.2.1 + 1)).take j ++ [pg] := by rw [List.take_add_one, hpg]; rfl
        have hpn : pg ∈ nums := cutG_mem (List.mem_of_getElem? hpg)
        have hnx := hc3.put hpn mk.2.2.2
        have hcl : kvs.length < sizeLine := szlt (Nat.le_trans hc3.len (by omega))
        have fin : ∀ v, v = V.bl (mk.2.2.2 || (cS (stepsOf nums (ms.take i) ++ ((cutG nums mk.2.1 (mk.2.2.1 + 1)).take j).map fun p => (p, mk.2.2.2)) pg).getD false) → ∃ (kvs' : List (Key × V)) (y7 : Option V), [some (.str part), some (.ref n), some (.ref m), some (.ref d), some (.ref p), some (.int mk.2.1), some (.int mk.2.2.1), some (.bl mk.2.2.2), some (.int pg), none, none, none, none] = [some (.str part), some (.ref n), some (.ref m), some (.ref d), some (.ref p), some (.int mk.2.1), some (.int mk.2.2.1), some (.bl mk.2.2.2), y7, none, none, none, none] ∧ Same H (upd H4 d (.dK (putK kvs (Sum.inl pg) v))) ∧ (upd H4 d (.dK (putK kvs (Sum.inl pg) v))) c = some (.lst ((cutG nums mk.2.1 (mk.2.2.1 + 1)).map V.int)) ∧ (upd H4 d (.dK (putK kvs (Sum.inl pg) v))) d = some (.dK kvs') ∧
            Cov nums (stepsOf nums (ms.take i) ++ ((cutG nums mk.2.1 (mk.2.2.1 + 1)).take (j + 1)).map fun p => (p, mk.2.2.2)) kvs' := fun v ev => by
          subst ev
          refine ⟨_, _, rfl, same_upd2 hd sm3, by rw [upd_ne hcd.symm]; exact hcc, upd_same, ?_⟩
          rw [et2, List.map_append, ← List.append_assoc]
          exact hnx
        refine ⟨.bl mk.2.2.2, rfl, mk.2.2.2, rfl, ?_⟩
        cases hmm : mk.2.2.2 with
        | true =>
          rw [hmm] at fin
          exact iteT ⟨_, rfl, _, rfl, d, _, rfl, DPut.k (k := Sum.inl pg) ho3 hcl, fin _ rfl⟩
        | false =>
          rw [hmm] at fin hc3
          refine iteF ⟨_, rfl, d, rfl, .inl ⟨_, .inl ho3⟩, _, rfl, _, DGet.k (k := Sum.inl pg) ho3, _, rfl, _, rfl, d, _, rfl, DPut.k (k := Sum.inl pg) ho3 hcl, fin _ ?_⟩
          rw [cov_get hc3, Bool.false_or]
      · obtain ⟨kvs, y7, rfl, sm3, hcc, ho3, hc3⟩ := hp
        refine ⟨kvs, _, _, _, _, _, rfl, sm3, ho3, ?_⟩
        rw [List.length_map, List.take_length] at hc3
        rw [et]
        unfold stepsOf at hc3 ⊢
        rw [List.flatMap_append, List.flatMap_cons, List.flatMap_nil, List.append_nil]
        exact hc3
    · obtain ⟨kvs, y3, y4, y5, y6, y7, rfl, sm, ho, hc⟩ := hp
      rw [← Paired.length pr, List.take_length] at hc
      -- told
      refine fun d2 hd2 => ?_
      have sd2 : Same H1 (upd H1 d2 (.dK [])) := same_upd hd2
      have nd2 : H d2 = none := Same.free sm hd2
      have hdd2 : d ≠ d2 := ne_of_none ho hd2
      refine ⟨2, rfl, sz (by show 2 ≤ 100000; decide), fun t nt => ?_⟩
      have st1 : Same (upd H1 d2 (.dK [])) (upd (upd H1 d2 (.dK [])) t (.tup [.int (-2), .bl true])) := same_upd nt
      have s12 := sd2.trans st1
      -- the comprehension
      refine ⟨_, rfl, ⟨_, rfl⟩, part, _, rfl, rfl, by decide, sz (by omega), fun l nl => ?_⟩
      rw [hsplit]
      have sl := same_upd nl (o := .lst ((gs.map strS).map V.str))
      refine ⟨l, rfl, ⟨_, sqL upd_same⟩, fun D hD => ?_⟩
      have hgl := rf.len
      refine lc_m (walk_list (xs := (gs.map strS).map V.str)) gs (fun g => g) RPg mono_pg (by rw [List.length_map, List.length_map]) (by rw [List.length_map, List.length_map]; omega) hD (fun H6 s6 => sqL (s6 _ _ upd_same)) (fun i g x H6 H7 Kn hg sm6 hacc hy kn => ?_) gName_mono (fun H6 gvs sm6 hD6 pg => ?_)
      · obtain ⟨rfl, hx⟩ := hy
        rw [List.map_map, List.getElem?_map, hg] at hx
        cases hx
        obtain ⟨acc, hacc⟩ := hacc
        refine ⟨rfl, _, rfl, g, rfl, (rf.ok g (List.mem_of_getElem? hg)).1, fun H8 v s8 rg => kn _ _ s8 ?_⟩
        obtain ⟨ga, rfl, hga⟩ := rg
        exact ⟨ga, rfl, erase_at hga (ne_of hga (s8 _ _ hacc) (fun z => nomatch z))⟩
      rw [List.map_id'] at pg
      have pg : Paired (fun b y => RPg b y H6) gs gvs := L2.Paired.mapP pg fun b y r => mono_pg _ _ _ _ (erase_same _ _) r
      have s16 := s12.trans (sl.trans sm6)
      refine ⟨D, rfl, ⟨_, sqL hD6⟩, ?_⟩
      refine for_it (walk_list (xs := gvs)) (fun i σ H8 => ∃ (ks : List (Key × V)) (la : Addr) (y4 y5 y6 y7 y8 y11 : Option V), σ = [some (.str part), some (.ref n), some (.ref m), some (.ref d), y4, y5, y6, y7, y8, some (.ref d2), some (.ref la), y11, none] ∧ Same H H8 ∧ H8 d = some (.dK kvs) ∧ H8 D = some (.lst gvs) ∧ Paired (fun b y => RPg b y H8) gs gvs ∧ H8 d2 = some (.dK ks) ∧ Cov nums (stOf (gs.take i)) ks ∧
        H8 la = some (.tup [.int (match (gs.take i).getLast? with | some g => g.2.1 | none => -2), .bl (match (gs.take i).getLast? with | some g => g.2.2 | none => true)]))
        ⟨[], t, y3, y4, y5, y6, y7, none, rfl, sm.trans s16, s16 _ _ ho, hD6, pg, (st1.trans (sl.trans sm6)) _ _ upd_same, Cov.none nums, (sl.trans sm6) _ _ upd_same⟩ (fun i σ H8 hi hp => ?_) (fun i x σ H8 H9 hi hp hy => ?_) (fun σ H8 hp => ?_)
      · obtain ⟨_, _, _, _, _, _, _, _, _, _, _, hDD, _⟩ := hp
        exact sqL hDD
      · obtain ⟨ks, la, y4, y5, y6, y7, y8, y11, rfl, sm8, ho8, hDD, pg8, hk, hcv, hla⟩ := hp
        obtain ⟨rfl, hx⟩ := hy
        obtain ⟨g, hgi, rg⟩ := pr_get2 pg8 hx
        have hgm := List.mem_of_getElem? hgi
        have okg := rf.ok g hgm
        have et : gs.take (i + 1) = gs.take i ++ [g] := by rw [List.take_add_one, hgi]; rfl
        have elast : (gs.take (i + 1)).getLast? = some g := by rw [et]; simp
        obtain ⟨ga, rfl, hga⟩ := rg
        refine ⟨ga, _, rfl, sqT hga, rfl, _, _, rfl, _, _, rfl, _, _, rfl, rfl, ?_⟩
        have hla1 := atI_nat (j := 1) (xs := [V.int (match (gs.take i).getLast? with | some g => g.2.1 | none => -2), .bl (match (gs.take i).getLast? with | some g => g.2.2 | none => true)]) rfl
        have hla0 := atI_nat (j := 0) (xs := [V.int (match (gs.take i).getLast? with | some g => g.2.1 | none => -2), .bl (match (gs.take i).getLast? with | some g => g.2.2 | none => true)]) rfl
        obtain ⟨la0, la1, e0, e1, hlt, hnj⟩ : ∃ la0 la1, (match (gs.take i).getLast? with | some g => g.2.1 | none => (-2 : Int)) = la0 ∧ (match (gs.take i).getLast? with | some g => g.2.2 | none => true) = la1 ∧ la0 < g.1 ∧ ¬ (g.1 = la0 + 1 ∧ g.2.2 = la1) := by
          refine ⟨_, _, rfl, rfl, ?_⟩
          cases hl : (gs.take i).getLast? with
          | none =>
            have := okg.1.a0
            exact ⟨show (-2 : Int) < g.1 by omega, fun z => by have h1 : g.1 = -2 + 1 := z.1; omega⟩
          | some g0 =>
            have hi0 : 0 < i := by
              cases i with
              | zero => simp at hl
              | succ i => exact Nat.succ_pos _
            rw [List.getLast?_eq_getElem?, List.length_take, List.getElem?_take] at hl
            split at hl
            · rename_i hlt
              have hil : i < gs.length := (List.getElem?_eq_some_iff.mp hgi).1
              rw [show min i gs.length - 1 = i - 1 by omega] at hl
              exact rf.sep (i - 1) g0 g hl (by rw [show i - 1 + 1 = i by omega]; exact hgi)
            · cases hl
        rw [e0, e1] at hla0 hla1 hla
        -- the test
        refine ⟨_, rfl, _, rfl, g.1, g.2.1, rfl, rfl, _, rfl, ifF (decide_eq_false (by omega)) ?_⟩
        refine ⟨_, rfl, _, rfl, la, _, 0, _, rfl, rfl, sqT hla, hla0, g.1, la0, rfl, rfl, _, rfl, ifF (decide_eq_false (by omega)) ?_⟩
        refine ⟨_, rfl, _, rfl, la, _, 0, _, rfl, rfl, sqT hla, hla0, la0, 1, rfl, rfl, rfl, _, rfl, ?_⟩
        apply share
        · intro rest
          by_cases h1 : g.1 = la0 + 1
          · refine ifT (decide_eq_true (congrArg V.int h1)) ⟨_, rfl, _, rfl, la, _, 1, _, rfl, rfl, sqT hla, hla1, rfl, _, rfl, ifF (decide_eq_false fun z => hnj ⟨h1, V.bl.inj z⟩) rest⟩
          · exact ifF (decide_eq_false fun z => h1 (V.int.inj z)) (ifF rfl rest)
        refine ⟨_, rfl, _, rfl, g.2.1, g.1, rfl, rfl, g.2.1 - g.1, 200, rfl, rfl, _, rfl, ifF (decide_eq_false (by have := okg.2.2; omega)) ?_⟩
        -- the pages
        refine ⟨_, rfl, _, rfl, g.2.1, 1, rfl, rfl, g.1, g.2.1 + 1, rfl, ?_⟩
        have hpgl : (pagesG g).length = (g.2.1 + 1 - g.1).toNat := by unfold pagesG; rw [List.length_map, List.length_range]
        refine for_it walk_range (fun j σ H10 => ∃ (ks : List (Key × V)) (y8 : Option V), σ = [some (.str part), some (.ref n), some (.ref m), some (.ref d), y4, some (.int g.1), some (.int g.2.1), y7, y8, some (.ref d2), some (.ref la), some (.bl g.2.2), none] ∧ Same H H10 ∧ H10 d = some (.dK kvs) ∧ H10 D = some (.lst gvs) ∧ Paired (fun b y => RPg b y H10) gs gvs ∧ H10 d2 = some (.dK ks) ∧
          Cov nums (stOf (gs.take i) ++ ((pagesG g).take j).map fun n => (n, g.2.2)) ks) ⟨ks, y8, rfl, sm8, ho8, hDD, pg8, hk, by rw [List.take_zero, List.map_nil, List.append_nil]; exact hcv⟩ (fun _ _ _ _ _ => trivial) (fun j x σ H10 H11 hj hp hy => ?_) (fun σ H10 hp => ?_)
        · obtain ⟨ks, y8, rfl, sm10, ho10, hD10, pg10, hk10, hcv10⟩ := hp
          obtain ⟨rfl, hx⟩ := hy
          have hx : x = .int (g.1 + (j : Int)) := hx
          subst hx
          have hpj : (pagesG g)[j]? = some (g.1 + (j : Int)) := by
            unfold pagesG
            rw [List.getElem?_map, List.getElem?_range hj]; rfl
          have etj : (pagesG g).take (j + 1) = (pagesG g).take j ++ [g.1 + (j : Int)] := by rw [List.take_add_one, hpj]; rfl
          -- the page is new
          have hall : stOf (gs.take i) ++ (((pagesG g).take j).map fun n => (n, g.2.2)) ++ [(g.1 + (j : Int), g.2.2)] <+: stOf gs := by
            have e1 : stOf gs = stOf (gs.take i) ++ ((pagesG g).map (fun n => (n, g.2.2)) ++ stOf (gs.drop (i + 1))) := by
              have e := congrArg stOf (split_at hgi)
              rw [stOf_app] at e
              rw [e]
              congr 1
            have e2 : (pagesG g).map (fun n => (n, g.2.2)) = (((pagesG g).take j).map fun n => (n, g.2.2)) ++ ([(g.1 + (j : Int), g.2.2)] ++ ((pagesG g).drop (j + 1)).map fun n => (n, g.2.2)) := by
              have e := congrArg (List.map fun n : Int => (n, g.2.2)) (split_at hpj)
              rw [List.map_append, List.map_cons] at e
              exact e
            rw [e1, e2]
            refine ⟨((pagesG g).drop (j + 1)).map (fun n => (n, g.2.2)) ++ stOf (gs.drop (i + 1)), ?_⟩
            simp [List.append_assoc]
          have hfst := prefix_map (f := Prod.fst) hall
          have hnd1 := hfst.sublist.nodup rf.nd
          rw [List.map_append, List.nodup_append] at hnd1
          have hno : cS (stOf (gs.take i) ++ ((pagesG g).take j).map fun n => (n, g.2.2)) (g.1 + (j : Int)) = none := cS_none fun hm => hnd1.2.2 _ hm _ (List.mem_singleton.mpr rfl) rfl
          have hpn : g.1 + (j : Int) ∈ nums := rf.sub _ (hall.subset (List.mem_append_right _ (List.mem_singleton.mpr rfl)))
          have hnx := hcv10.put hpn g.2.2
          rw [hno] at hnx
          have hnx : Cov nums (stOf (gs.take i) ++ (((pagesG g).take j).map fun n => (n, g.2.2)) ++ [(g.1 + (j : Int), g.2.2)]) (putK ks (Sum.inl (g.1 + (j : Int))) (.bl g.2.2)) := by
            have e : (g.2.2 || (none : Option Bool).getD false) = g.2.2 := by simp
            rw [e] at hnx
            exact hnx
          refine ⟨_, rfl, _, rfl, _, rfl, d2, _, rfl, DPut.k (k := Sum.inl (g.1 + (j : Int))) hk10 (szlt (Nat.le_trans hcv10.len (by omega))), ?_⟩
          have ts := tsame_upd (o := .dK (putK ks (Sum.inl (g.1 + (j : Int))) (.bl g.2.2))) hk10 (fun _ z => nomatch z)
          refine ⟨_, _, rfl, same_upd2 nd2 sm10, by rw [upd_ne hdd2]; exact ho10, by rw [upd_ne (ne_of hD10 hk10 (fun z => nomatch z))]; exact hD10, L2.Paired.mapP pg10 fun b y r => ?_, upd_same, ?_⟩
          · obtain ⟨a, rfl, ha⟩ := r
            exact ⟨a, rfl, ts _ _ ha⟩
          · rw [etj, List.map_append, ← List.append_assoc]
            exact hnx
        · obtain ⟨ks, y8, rfl, sm10, ho10, hD10, pg10, hk10, hcv10⟩ := hp
          rw [← hpgl, List.take_length] at hcv10
          refine ⟨_, rfl, _, rfl, sz (by show 2 ≤ 100000; decide), fun t2 nt2 => ?_⟩
          have st2 := same_upd nt2 (o := .tup [.int g.2.1, .bl g.2.2])
          refine ⟨ks, t2, _, _, _, _, _, _, rfl, sm10.trans st2, st2 _ _ ho10, st2 _ _ hD10, Paired.monoR mono_pg st2 pg10, st2 _ _ hk10, ?_, ?_⟩
          · rw [et, stOf_app, stOf_one]
            exact hcv10
          · rw [elast]
            exact upd_same
      · obtain ⟨ks, la, y4, y5, y6, y7, y8, y11, rfl, sm8, ho8, hDD, pg8, hk, hcv, hla⟩ := hp
        rw [← Paired.length pg8, List.take_length] at hcv
        obtain ⟨h1, h2⟩ := cov_eq hcv hc rf.eq
        refine ⟨_, rfl, _, rfl, d2, d, ks, kvs, rfl, rfl, hk, ho8, h1, fun p hp => ⟨(h2 p hp).1, ?_⟩, q H8 sm8⟩
        obtain ⟨b, e⟩ := (h2 p hp).2
        rw [e]
        rfl
end
end PB
/-! PbMath4: sorted texts; texts as data -/
namespace PB
open PySem PySem.Spec PyProof.Rows L2 TL

theorem sl_trans {a b c : List Nat} (h1 : ¬ b < a) (h2 : ¬ c < b) : ¬ c < a := fun h => by
  have h1 : a ≤ b := h1
  have h2 : b ≤ c := h2
  exact absurd (List.le_trans h1 h2) (List.not_le.mpr h)
theorem sl_anti {a b : List Nat} (h1 : ¬ b < a) (h2 : ¬ a < b) : a = b := List.le_antisymm (show a ≤ b from h1) (show b ≤ a from h2)
theorem rising_pw : ∀ (p : Str) (l : List Str), risingS p l = true → (p :: l).Pairwise fun a b => ¬ tl b < tl a
  | p, [], _ => List.pairwise_singleton _ _
  | p, x :: r, h => by
    unfold risingS at h
    rw [Bool.and_eq_true, PyProof.Rows.ltCps_eq] at h
    have h1 : ¬ tl x < tl p := by simpa using h.1
    have ih := rising_pw x r h.2
    rw [List.pairwise_cons]
    refine ⟨fun y hy => ?_, ih⟩
    rcases List.mem_cons.mp hy with rfl | hy
    · exact h1
    · exact sl_trans h1 ((List.pairwise_cons.mp ih).1 y hy)
theorem sorted_pw : ∀ {l : List Str}, sortedS l = true → l.Pairwise fun a b => ¬ tl b < tl a
  | [], _ => .nil
  | x :: r, h => rising_pw x r h
theorem sorted_eq : ∀ {ys zs : List Str}, ys.Perm zs → (ys.Pairwise fun a b => ¬ tl b < tl a) → (zs.Pairwise fun a b => ¬ tl b < tl a) → ys = zs
  | [], zs, p, _, _ => (List.nil_perm.mp p).symm
  | a :: ys, [], p, _, _ => by
    have := p.length_eq
    simp at this
  | a :: ys, b :: zs, p, h1, h2 => by
    rw [List.pairwise_cons] at h1 h2
    have e : a = b := by
      have ha : a ∈ b :: zs := p.mem_iff.mp List.mem_cons_self
      have hb : b ∈ a :: ys := p.mem_iff.mpr List.mem_cons_self
      rcases List.mem_cons.mp ha with e | ha
      · exact e
      · rcases List.mem_cons.mp hb with e | hb
        · exact e.symm
        · exact ext_tl (sl_anti (h1.1 b hb) (h2.1 a ha))
    subst e
    rw [sorted_eq (List.Perm.cons_inv p) h1.2 h2.2]
theorem strOk_of {t : Str} (h : ∀ c ∈ tl t, c < 128) : PyData.strOk t = true := by
  unfold PyData.strOk
  rw [← Array.all_toList, List.all_eq_true]
  intro c hc
  exact decide_eq_true (Nat.lt_trans (h c hc) (by decide))
theorem shownL_128 (c : Int) (k : Nat) : ∀ x ∈ shownL c k, x < 128 := by
  have app : ∀ {l m : List Nat}, (∀ x ∈ l, x < 128) → (∀ x ∈ m, x < 128) → ∀ x ∈ l ++ m, x < 128 := fun h1 h2 x hx => by
    rcases List.mem_append.mp hx with hx | hx
    · exact h1 x hx
    · exact h2 x hx
  have al : ∀ {l : List Nat}, (∀ x ∈ l, Al x) → ∀ x ∈ l, x < 128 := fun h x hx => by
    have := h x hx
    unfold Al at this
    omega
  have one : ∀ n, n < 128 → ∀ x ∈ [n], x < 128 := fun n hn x hx => by rw [List.mem_singleton.mp hx]; exact hn
  have hb := al (base_al c)
  have hx := al (headX_al c (k / 2))
  have hs := al (suf_al k)
  unfold shownL
  split
  · exact app (app hb hs) (app (one _ (by decide)) (app (one _ (by decide)) hx))
  · split
    · exact app (app hb (app (one _ (by decide)) (app hb hs))) (app (one _ (by decide)) (app (one _ (by decide)) hx))
    · split
      · exact app hb (app (one _ (by decide)) (app hx hs))
      · split
        · exact app (one _ (by decide)) (app hx hs)
        · exact app hx hs
theorem pathShown_128 {c : Int} {p : Path} (h : HPath c p) : ∀ x ∈ tl (pathShownS p), x < 128 := fun x hx => by
  rw [tl_pathShown] at hx
  rcases mem_joinL hx with hx | ⟨q, hq, hx⟩
  · simp at hx
    omega
  · obtain ⟨z, hz, rfl⟩ := List.mem_map.mp hq
    obtain ⟨k, _, rfl⟩ := h.hd z hz
    rw [shown_head, tl_mk] at hx
    exact shownL_128 c k x hx
theorem ok_pathShown {c : Int} {p : Path} (h : HPath c p) : PyData.strOk (pathShownS p) = true := strOk_of (pathShown_128 h)
theorem ok_see {c : Int} {p : Path} (h : HPath c p) : PyData.strOk (wSee p) = true := strOk_of fun x hx => by
  unfold wSee at hx
  rw [tl_append, show tl (Str.ofString "see ") = [115, 101, 101, 32] by decide] at hx
  rcases List.mem_append.mp hx with hx | hx
  · simp at hx
    omega
  · exact pathShown_128 h x hx
theorem ok_alsoS {c : Int} {zs : List Path} (h : ∀ e ∈ zs, HPath c e) : PyData.strOk (Str.ofString "also " ++ Txt.join (Str.ofString "; ") (zs.map pathShownS)) = true := strOk_of fun x hx => by
  rw [tl_append, show tl (Str.ofString "also ") = [97, 108, 115, 111, 32] by decide, join_eq, tl_join, show tl (Str.ofString "; ") = [59, 32] by decide] at hx
  rcases List.mem_append.mp hx with hx | hx
  · simp at hx
    omega
  · rcases mem_joinL hx with hx | ⟨q, hq, hx⟩
    · simp at hx
      omega
    · obtain ⟨t, ht, rfl⟩ := List.mem_map.mp hq
      obtain ⟨g, hg, rfl⟩ := List.mem_map.mp ht
      exact pathShown_128 (h g hg) x hx
theorem dp_texts {K : PySem.W.Frag} {H : Hp} {a : Addr} {ts : List Str} (h : H a = some (.lst (ts.map V.str))) : Dp K H (.ref a) (.list (ts.map .str)) := .lst (sqL h) (dp_strs ts)
theorem low_texts {ts : List Str} (h : ∀ t ∈ ts, PyData.strOk t = true) : Low 1 (.list (ts.map .str)) := low_list fun d hd => by
  obtain ⟨x, hx, rfl⟩ := List.mem_map.mp hd
  exact low_str (h x hx)
theorem eq_texts {K : PySem.W.Frag} {H : Hp} {a b : Addr} {ts us : List Str} {Q : VK} (ha : H a = some (.lst (ts.map V.str))) (hb : H b = some (.lst (us.map V.str))) (h1 : ∀ t ∈ ts, PyData.strOk t = true) (h2 : ∀ t ∈ us, PyData.strOk t = true) (q : Q (.bl (decide (ts = us))) H) : rEqD K (.ref a) (.ref b) H Q :=
  ⟨_, _, dp_texts ha, dp_texts hb, (low_texts h1).shaped (by decide), (low_texts h2).shaped (by decide), by rw [PyData.eqv, eqv_strs]; exact q⟩
theorem ne_texts {K : PySem.W.Frag} {H : Hp} {a b : Addr} {ts us : List Str} {Q : VK} (ha : H a = some (.lst (ts.map V.str))) (hb : H b = some (.lst (us.map V.str))) (h1 : ∀ t ∈ ts, PyData.strOk t = true) (h2 : ∀ t ∈ us, PyData.strOk t = true) (q : Q (.bl (!decide (ts = us))) H) : rNeD K (.ref a) (.ref b) H Q :=
  ⟨_, _, dp_texts ha, dp_texts hb, (low_texts h1).shaped (by decide), (low_texts h2).shaped (by decide), by rw [PyData.eqv, eqv_strs]; exact q⟩
theorem filterMap_if {α β : Type} (c : α → Bool) (f : α → β) (l : List α) : l.filterMap (fun x => if c x = true then some (f x) else none) = (l.filter c).map f := by
  induction l with
  | nil => rfl
  | cons a l ih =>
    cases h : c a <;> simp [h, ih]
theorem ixT {X : Cx} {K : PySem.W.Frag} (h : X.K = K) : IxR X (rIxT K) := by
  subst h
  exact ix_tup

def seesL (sent : List Fd) : List Str := (sent.filter fun r => !r.2.2.1).map fun r => wSee r.2.2.2.1
def furL (sent : List Fd) : List Path := (sent.filter fun r => r.2.2.1).map fun r => r.2.2.2.1
section
variable {P : Program} {w : World} {K : PySem.W.Frag} {mg : Str → Option Value} {base : Heap}
theorem scSeesSo : FnScope ["_law_parts", "_law_sent", "_law_one", "_law_further", "_law_told", "_law_row"] ["_law_parts", "_law_sent"] (defScope sSeesSo) := ⟨rfl, rfl, rfl, by decide +kernel, rfl, by decide +kernel, by decide +kernel⟩
def spSeesSo : Sp := fun vs H Q _ => ∃ (p s : Addr) (by_ : Int) (sent : List Fd) (svs : List V) (zs : List Path), vs = [.ref p, .ref s] ∧ H p = some (.lst ((seesL sent ++ tailWords zs).map V.str)) ∧ H s = some (.lst svs) ∧ Paired (fun b y => RFd b y H) sent svs ∧ sent.length ≤ 40 ∧
  (∀ r ∈ sent, HPath by_ r.2.2.2.1) ∧ zs.Nodup ∧ (∀ e, e ∈ zs ↔ e ∈ furL sent) ∧ ∀ H', Same H H' → Q (.bl true) H'
theorem okSeesSo (T : Top K mg) : Def1 P w K mg base 3 "_law_sees_so" spSeesSo := by
  refine def1 T.fSeesSo scSeesSo (fun vs H Q E h => ?_) (fun _ _ _ _ _ _ us hl => match us, hl with | [_, _], _ => rfl) (fun f cdv A outer s0 H vs Q E hr h => ?_)
  · obtain ⟨p, s, by_, sent, svs, zs, rfl, _⟩ := h
    rfl
  · obtain ⟨p, s, by_, sent, svs, zs, rfl, hp, hs, prs, hz, hh, hzn, hzm, q⟩ := h
    refine ⟨_, pss_cons (ps_setLc (i := 2) (own := [("_law_row", 5)]) (g := gName 5) rfl scSeesSo.nd rfl rfl (sw_true rfl rfl rfl (by decide +kernel)) (pi_list (pv 1)) (blkOk_by (own := [("_law_row", 5)]) (N := ["_law_parts", "_law_sent", "_law_one", "_law_further", "_law_told", "_law_row"]) (sc := defScope sSeesSo) (by decide +kernel))
        (fun _ _ _ _ _ => pg_name (i := 5) scSeesSo.nd rfl (Or.inl rfl)) (fun _ _ _ _ _ => pts_one (pt_not (pt_val (pe_ix (ixT (K := K) rfl) (pv 5) pe_int (fun _ _ => rfl)))))
        (fun _ _ _ _ _ => pe_op op_add_str pe_str (pe_f (okPathShown T) hr (by decide) rfl (pa_cons (pe_ix (ixT (K := K) rfl) (pv 5) pe_int (fun _ _ => rfl)) pa_nil))))
      (pss_cons (ps_setLc (i := 3) (own := [("_law_row", 5)]) (g := gName 5) rfl scSeesSo.nd rfl rfl (sw_true rfl rfl rfl (by decide +kernel)) (pi_list (pv 1)) (blkOk_by (own := [("_law_row", 5)]) (N := ["_law_parts", "_law_sent", "_law_one", "_law_further", "_law_told", "_law_row"]) (sc := defScope sSeesSo) (by decide +kernel))
        (fun _ _ _ _ _ => pg_name (i := 5) scSeesSo.nd rfl (Or.inl rfl)) (fun _ _ _ _ _ => pts_one (pt_val (pe_ix (ixT (K := K) rfl) (pv 5) pe_int (fun _ _ => rfl))))
        (fun _ _ _ _ _ => pe_f (okPathShown T) hr (by decide) rfl (pa_cons (pe_ix (ixT (K := K) rfl) (pv 5) pe_int (fun _ _ => rfl)) pa_nil)))
      (pss_cons (ps_if (pt_cmpR (op_neD hr.units) (pv 3) (pe_lst pa_nil) (nomark _))
        (pss_cons (ps_if (PW.pt (pw_or (pt_cmpR (op_eqD hr.units) (pv 0) (pe_lst pa_nil) (nomark _)) (pw_or1 (pt_cmpR op_ne (pe_slice sl_str (pe_ix ix_list (pv 0) (pe_un un_neg pe_int) (fun _ _ => rfl)) po_none (po_some pe_int)) pe_str (nomark _))))) (pss_one (ps_ret pe_bl)) pss_nil)
        (pss_cons (ps_set (i := 4) scSeesSo.nd rfl (.inl rfl) (pe_split (pe_slice sl_str (pe_ix ix_list (pv 0) (pe_un un_neg pe_int) (fun _ _ => rfl)) (po_some pe_int) po_none) pe_str))
        (pss_cons (ps_if (pt_cmpR (op_neD hr.units) (pe_callB cr_sortedS (by rfl) T.sorted (by decide +kernel) (pa_cons (pv 4) pa_nil)) (pe_callB (cr_sortTx rfl) (by rfl) T.sorted (by decide +kernel) (pa_cons (pe_callTy (cr_setTx rfl) (by rfl) T.set (by decide +kernel) (pa_cons (pv 3) pa_nil)) pa_nil)) (nomark _)) (pss_one (ps_ret pe_bl)) pss_nil)
        (pss_one (ps_set (i := 0) scSeesSo.nd rfl (.inl rfl) (pe_slice sl_list (pv 0) po_none (po_some (pe_un un_neg pe_int)))))))) pss_nil)
      (pss_one (ps_ret (pe_cmpR (op_eqD hr.units) (pv 0) (pv 2) (nomark _)))))), ?_⟩
    have hlen := Paired.length prs
    -- one
    refine ⟨_, rfl, s, rfl, ⟨_, sqL hs⟩, fun D hD => ?_⟩
    refine lc_f (walk_list (xs := svs)) sent (fun r => if (!r.2.2.1) = true then some (wSee r.2.2.2.1) else none) RStr mono_str hlen (by rw [← hlen]; omega) hD (fun H6 s6 => sqL (s6 _ _ hs)) (fun i r x H6 H7 Kn Ks hri sm6 hacc hy kn ks => ?_) (fun H6 ys sm6 hD6 pd => ?_)
    · obtain ⟨rfl, hx⟩ := hy
      obtain ⟨x', hx', rr⟩ := pr_get prs hri
      rw [hx] at hx'
      cases hx'
      obtain ⟨a, q1, g1, e1, rfl, ha, _, _, he1⟩ := mono_fd _ _ _ _ sm6 rr
      have hrm := List.mem_of_getElem? hri
      refine ⟨rfl, _, rfl, a, _, 2, _, rfl, rfl, sqT ha, atI_nat (j := 2) rfl, _, rfl, ?_⟩
      rcases Bool.eq_false_or_eq_true r.2.2.1 with h | h
      · exact ifN h (ks _ (Same.refl _) (by rw [h]; rfl))
      · refine ifY h ⟨_, rfl, a, _, 3, _, rfl, rfl, sqT ha, atI_nat (j := 3) rfl, _, r.2.2.2.1, rfl, ⟨e1, rfl, he1⟩, (hh r hrm).ok.1, fun H8 s8 => ?_⟩
        have hl := pathShown_len (hh r hrm).ok.1
        have e4 : (Str.ofString "see ").length = 4 := by decide
        exact ⟨_, _, rfl, rfl, sz (by omega), kn _ _ _ s8 (by rw [h]; rfl) rfl⟩
    have pd := pr_str pd
    subst pd
    rw [filterMap_if] at hD6
    have hD6 : H6 D = some (.lst ((seesL sent).map V.str)) := hD6
    -- further
    have prs6 := Paired.monoR mono_fd sm6 prs
    refine ⟨_, rfl, s, rfl, ⟨_, sqL (sm6 _ _ hs)⟩, fun F hF => ?_⟩
    refine lc_f (walk_list (xs := svs)) sent (fun r => if r.2.2.1 = true then some (pathShownS r.2.2.2.1) else none) RStr mono_str hlen (by rw [← hlen]; omega) hF (fun H7 s7 => sqL (s7 _ _ (sm6 _ _ hs))) (fun i r x H7 H8 Kn Ks hri sm7 hacc hy kn ks => ?_) (fun H7 ys sm7 hF7 pf => ?_)
    · obtain ⟨rfl, hx⟩ := hy
      obtain ⟨x', hx', rr⟩ := pr_get prs6 hri
      rw [hx] at hx'
      cases hx'
      obtain ⟨a, q1, g1, e1, rfl, ha, _, _, he1⟩ := mono_fd _ _ _ _ sm7 rr
      have hrm := List.mem_of_getElem? hri
      refine ⟨rfl, _, rfl, a, _, 2, _, rfl, rfl, sqT ha, atI_nat (j := 2) rfl, _, rfl, ?_⟩
      rcases Bool.eq_false_or_eq_true r.2.2.1 with h | h
      · exact ifT h ⟨_, rfl, a, _, 3, _, rfl, rfl, sqT ha, atI_nat (j := 3) rfl, _, r.2.2.2.1, rfl, ⟨e1, rfl, he1⟩, (hh r hrm).ok.1, fun H8 s8 => kn _ _ _ s8 (by rw [h]; rfl) rfl⟩
      · exact ifF h (ks _ (Same.refl _) (by rw [h]; rfl))
    have pf := pr_str pf
    subst pf
    rw [filterMap_if] at hF7
    have efur : (sent.filter fun r => r.2.2.1).map (fun r => pathShownS r.2.2.2.1) = (furL sent).map pathShownS := by
      unfold furL
      rw [List.map_map]
      rfl
    rw [efur] at hF7
    have s07 := sm6.trans sm7
    have hfh : ∀ e ∈ furL sent, HPath by_ e := fun e he => by
      obtain ⟨r, hr', rfl⟩ := List.mem_map.mp he
      exact hh r (List.mem_filter.mp hr').1
    have hzh : ∀ e ∈ zs, HPath by_ e := fun e he => hfh e ((hzm e).mp he)
    have hfl : (furL sent).length ≤ 40 := by
      unfold furL
      rw [List.length_map]
      exact Nat.le_trans (List.length_filter_le _ _) hz
    have hzl : zs.length ≤ 40 := Nat.le_trans (List.Nodup.length_le_of_subset hzn fun e he => (hzm e).mp he) hfl
    have okF : ∀ t ∈ (furL sent).map pathShownS, PyData.strOk t = true := fun t ht => by
      obtain ⟨e, he, rfl⟩ := List.mem_map.mp ht
      exact ok_pathShown (hfh e he)
    have okS : ∀ t ∈ seesL sent, PyData.strOk t = true := fun t ht => by
      obtain ⟨r, hr', rfl⟩ := List.mem_map.mp ht
      exact ok_see (hh r (List.mem_filter.mp hr').1)
    have hD7 := sm7 _ _ hD6
    refine ⟨_, rfl, Nat.zero_le _, fun l nl => ?_⟩
    have sl := same_upd nl (o := .lst [])
    refine ne_nilB (n := 1) (furL sent).isEmpty (by cases furL sent <;> rfl) (dp_texts (sl _ _ hF7)) upd_same (low_texts okF) (by decide) ⟨_, rfl, ?_⟩
    have s08 := s07.trans sl
    cases hfe : (furL sent).isEmpty with
    | true =>
      have hfe : furL sent = [] := List.isEmpty_iff.mp hfe
      have hz0 : zs = [] := List.eq_nil_iff_forall_not_mem.mpr fun e he => by
        have := (hzm e).mp he
        rw [hfe] at this
        cases this
      subst hz0
      rw [show tailWords [] = [] from rfl, List.append_nil] at hp
      refine iteF ⟨_, rfl, _, rfl, eq_texts (s08 _ _ hp) (sl _ _ hD7) okS okS ?_⟩
      rw [decide_eq_true rfl]
      exact q _ s08
    | false =>
      have hz0 : zs ≠ [] := fun e => by
        subst e
        cases hf0 : furL sent with
        | nil => rw [hf0] at hfe; cases hfe
        | cons a b =>
          have := (hzm a).mpr (by rw [hf0]; exact List.mem_cons_self)
          cases this
      have hp8 := s08 _ _ hp
      unfold tailWords at hp8
      rw [if_neg hz0] at hp8
      have okW : PyData.strOk (Str.ofString "also " ++ Txt.join (Str.ofString "; ") (zs.map pathShownS)) = true := ok_alsoS hzh
      have hwl : (Str.ofString "also " ++ Txt.join (Str.ofString "; ") (zs.map pathShownS)).length ≤ 700000 := by
        have h1 := join_len (Str.ofString "; ") (zs.map pathShownS) (n := 16100) fun x hx => by
          obtain ⟨g, hg, rfl⟩ := List.mem_map.mp hx
          exact pathShown_len (hzh g hg).ok.1
        have e : (Str.ofString "; ").length = 2 := by decide
        have e2 : (Str.ofString "also ").length = 5 := by decide
        rw [List.length_map, e] at h1
        rw [app_len, e2]
        omega
      have c5a : cutS (Str.ofString "also " ++ Txt.join (Str.ofString "; ") (zs.map pathShownS)) none (some 5) = Str.ofString "also " := ext_tl (by
        unfold cutS
        have e5 : (Str.ofString "also ").length = 5 := by decide
        rw [tl_mk, app_len, e5, HT.sIx_none, show (some (5 : Int)) = some ((5 : Nat) : Int) from rfl, HT.sIx_nat, List.drop_zero, Nat.min_eq_left (Nat.le_add_right _ _)]
        show (tl (Str.ofString "also " ++ _)).take 5 = _
        rw [tl_append, show tl (Str.ofString "also ") = [97, 108, 115, 111, 32] by decide]
        rfl)
      have c5b : cutS (Str.ofString "also " ++ Txt.join (Str.ofString "; ") (zs.map pathShownS)) (some 5) none = Txt.join (Str.ofString "; ") (zs.map pathShownS) := ext_tl (by
        rw [show (some (5 : Int)) = some ((5 : Nat) : Int) from rfl, tl_cut_from, tl_append, show tl (Str.ofString "also ") = [97, 108, 115, 111, 32] by decide]
        rfl)
      have hsp := split_also hz0 hzh
      generalize (Str.ofString "also " ++ Txt.join (Str.ofString "; ") (zs.map pathShownS)) = W at hp8 okW hwl c5a c5b
      have okA : ∀ t ∈ seesL sent ++ [W], PyData.strOk t = true := fun t ht => by
        rcases List.mem_append.mp ht with ht | ht
        · exact okS t ht
        · rw [List.mem_singleton.mp ht]; exact okW
      have hat : atI ((seesL sent ++ [W]).map V.str) (-1) = some (.str W) := by rw [List.map_append]; exact atI_last _ _
      refine iteT ⟨_, rfl, Nat.zero_le _, fun l2 nl2 => ?_⟩
      have sl2 := same_upd nl2 (o := .lst [])
      have hp9 := sl2 _ _ hp8
      refine eq_nilB (n := 1) false (by cases seesL sent <;> rfl) (dp_texts hp9) upd_same (low_texts okA) (by decide) ⟨_, rfl, iteF ?_⟩
      refine ⟨_, rfl, 1, rfl, p, _, -1, _, rfl, rfl, sqL hp9, hat, 5, rfl, W, rfl, by rw [sizeLine_eq]; omega, rfl, _, rfl, ?_⟩
      rw [c5a]
      refine ifN (decide_eq_true rfl) ?_
      -- told
      refine ⟨_, rfl, 1, rfl, p, _, -1, _, rfl, rfl, sqL hp9, hat, 5, rfl, W, rfl, by rw [sizeLine_eq]; omega, ⟨_, rfl⟩, _, _, rfl, rfl, by decide, ?_, fun t nt => ?_⟩
      · have := cutS_length W (some 5) none
        rw [sizeLine_eq]; omega
      rw [c5b, hsp]
      have st := same_upd nt (o := .lst ((zs.map pathShownS).map V.str))
      refine ⟨_, rfl, t, zs.map pathShownS, rfl, sqL upd_same, by rw [List.length_map]; omega, fun ys1 p1 perm1 srt1 np1 => ?_⟩
      have sp1 := same_upd np1 (o := .lst (ys1.map V.str))
      have s9 := sl2.trans (st.trans sp1)
      refine ⟨_, rfl, F, (furL sent).map pathShownS, rfl, sqL (s9 _ _ (sl _ _ hF7)), by rw [List.length_map]; omega, fun p2 ks np2 kn km kl => ?_⟩
      refine ⟨p2, ks, rfl, upd_same, by rw [List.length_map] at kl; omega, fun ys2 p3 perm2 srt2 np3 => ?_⟩
      have sp3 := (same_upd np2 (o := SetTxO P _ p2 ks)).trans (same_upd np3 (o := .lst (ys2.map V.str)))
      have hpn : (zs.map pathShownS).Nodup := by
        rw [List.nodup_iff_pairwise_ne, List.pairwise_map]
        refine (List.Pairwise.imp_of_mem fun {a b} ha hb hab e => hab (pathShown_inj (hzh a ha) (hzh b hb) e)) hzn
      have hperm : (zs.map pathShownS).Perm ks := (List.perm_ext_iff_of_nodup hpn kn).mpr fun x => by
        rw [km]
        constructor
        · intro hx
          obtain ⟨e, he, rfl⟩ := List.mem_map.mp hx
          exact List.mem_map.mpr ⟨e, (hzm e).mp he, rfl⟩
        · intro hx
          obtain ⟨e, he, rfl⟩ := List.mem_map.mp hx
          exact List.mem_map.mpr ⟨e, (hzm e).mpr he, rfl⟩
      have eys : ys1 = ys2 := sorted_eq ((perm1.trans hperm).trans perm2.symm) (sorted_pw srt1) (sorted_pw srt2)
      have okY : ∀ t ∈ ys1, PyData.strOk t = true := fun x hx => by
        obtain ⟨e, he, rfl⟩ := List.mem_map.mp (perm1.mem_iff.mp hx)
        exact ok_pathShown (hzh e he)
      refine ne_texts (sp3 _ _ upd_same) upd_same okY (by rw [← eys]; exact okY) ⟨_, rfl, ifN (decide_eq_true eys) ?_⟩
      -- parts[:-1]
      have s10 := s9.trans sp3
      refine ⟨_, rfl, 1, rfl, -1, rfl, p, _, rfl, sqL (s10 _ _ hp8), fun c nc => ?_⟩
      have sc := same_upd nc (o := .lst (cutV ((seesL sent ++ [W]).map V.str) none (some (-1))))
      have ecut : cutV ((seesL sent ++ [W]).map V.str) none (some (-1)) = (seesL sent).map V.str := by
        unfold cutV
        have e : ((seesL sent ++ [W]).map V.str).length = (seesL sent).length + 1 := by simp
        rw [e, HT.sIx_none, List.drop_zero, Nat.sub_zero]
        have e2 : HT.sIx ((seesL sent).length + 1) ((seesL sent).length + 1) (some (-1)) = (seesL sent).length := by
          unfold HT.sIx
          show (if (-1 : Int) < 0 then ((-1 : Int) + (((seesL sent).length + 1 : Nat) : Int)).toNat else _) = _
          rw [if_pos (by decide)]
          omega
        rw [e2, List.map_append, List.take_left' (by simp)]
      rw [ecut] at sc ⊢
      refine ⟨_, rfl, _, rfl, eq_texts upd_same ((s10.trans sc) _ _ (sl _ _ hD7)) okS okS ?_⟩
      rw [decide_eq_true rfl]
      exact q _ (s08.trans (s10.trans sc))
end
end PB
/-! PbLaw7: the law looks at one path; the paths -/
namespace PB
open PySem PySem.Spec PyProof.Rows L2 TL

theorem op_eqK {X : Cx} {K : PySem.W.Frag} (hu : X.A.units + 64 < cLine) (h : X.K = K) : OpR X (compareOp .Eq) (rEqD K) := by
  subst h
  exact op_eqD hu
def stretchWords (gs : List Pg) : List Str := if gs = [] then [] else [Txt.join (Str.ofString ", ") (gs.map strS)]
theorem ok_stretch {gs : List Pg} (h : ∀ g ∈ gs, PgOk g) : ∀ t ∈ stretchWords gs, PyData.strOk t = true := fun t ht => by
  unfold stretchWords at ht
  split at ht
  · cases ht
  · rw [List.mem_singleton.mp ht]
    refine strOk_of fun x hx => ?_
    rw [join_eq, tl_join, show tl (Str.ofString ", ") = [44, 32] by decide] at hx
    rcases mem_joinL hx with hx | ⟨q, hq, hx⟩
    · simp at hx
      omega
    · obtain ⟨z, hz, rfl⟩ := List.mem_map.mp hq
      obtain ⟨g, hg, rfl⟩ := List.mem_map.mp hz
      have := (strS_chars (h g hg)).2 x hx
      omega
theorem ok_tail {c : Int} {zs : List Path} (h : ∀ e ∈ zs, HPath c e) : ∀ t ∈ tailWords zs, PyData.strOk t = true := fun t ht => by
  unfold tailWords at ht
  split at ht
  · cases ht
  · rw [List.mem_singleton.mp ht]
    exact ok_alsoS h
theorem seesL_sent (path : Path) (found : List Fd) : seesL (found.filter fun r => decide (r.1 = path)) = seeWords path found := by
  unfold seesL seeWords
  rw [List.filter_filter]
  congr 1
  refine List.filter_congr fun r _ => ?_
  rw [Bool.and_comm]
theorem furL_sent (path : Path) (found : List Fd) : furL (found.filter fun r => decide (r.1 = path)) = alsoOf path found := by
  unfold furL alsoOf
  rw [List.filter_filter]
  congr 1
  refine List.filter_congr fun r _ => ?_
  rw [Bool.and_comm]
theorem ok_seeWords {c : Int} {path : Path} {found : List Fd} (h : ∀ r ∈ found, HPath c r.2.2.2.1) : ∀ t ∈ seeWords path found, PyData.strOk t = true := fun t ht => by
  obtain ⟨r, hr, rfl⟩ := List.mem_map.mp ht
  exact ok_see (h r (List.mem_filter.mp hr).1)
section
variable {P : Program} {w : World} {K : PySem.W.Frag} {mg : Str → Option Value} {base : Heap}
/-! PbLaw7: ### _law_path_so -/
theorem scPathSo : FnScope ["_law_path", "_law_parts", "_law_numbers", "_law_marks_here", "_law_found", "_law_mine", "_law_rest", "_law_mark", "_law_row"] ["_law_path", "_law_parts", "_law_numbers", "_law_marks_here", "_law_found"] (defScope sPathSo) := ⟨rfl, rfl, rfl, by decide +kernel, rfl, by decide +kernel, by decide +kernel⟩
def spPathSo (K : PySem.W.Frag) : Sp := fun vs H Q _ => ∃ (pv : V) (path : Path) (p n m f : Addr) (by_ : Int) (nums : List Int) (ms : List Mk) (us : List V) (found : List Fd) (fvs : List V) (gs : List Pg) (zs : List Path), vs = [pv, .ref p, .ref n, .ref m, .ref f] ∧ RPath path pv H ∧ Sg path ∧
  H p = some (.lst ((stretchWords gs ++ seeWords path found ++ tailWords zs).map V.str)) ∧ H n = some (.lst (nums.map V.int)) ∧ nums.length < 64 ∧ H m = some (.lst us) ∧ Paired (fun b y => RMark b y H) ms us ∧ ms.length ≤ 40 ∧ (∀ m ∈ ms, Sg m.1) ∧
  H f = some (.lst fvs) ∧ Paired (fun b y => RFd b y H) found fvs ∧ found.length ≤ 40 ∧ (∀ r ∈ found, Sg r.1 ∧ HPath by_ r.2.2.2.1) ∧
  RunsF nums (stepsOf nums (ms.filter fun m => decide (m.1 = path))) gs ∧ ((ms.filter fun m => decide (m.1 = path)) = [] ↔ gs = []) ∧ zs.Nodup ∧ (∀ e, e ∈ zs ↔ e ∈ alsoOf path found) ∧ ∀ H', Same H H' → Q (.bl true) H'
theorem okPathSo (T : Top K mg) : Def1 P w K mg base 4 "_law_path_so" (spPathSo K) := by
  refine def1 T.fPathSo scPathSo (fun vs H Q E h => ?_) (fun _ _ _ _ _ _ us hl => match us, hl with | [_, _, _, _, _], _ => rfl) (fun f0 cdv A outer s0 H vs Q E hr h => ?_)
  · obtain ⟨pv, path, p, n, m, f, by_, nums, ms, us, found, fvs, gs, zs, rfl, _⟩ := h
    rfl
  · obtain ⟨_, path, p, n, m, f, by_, nums, ms, us, found, fvs, gs, zs, rfl, ⟨pa, rfl, hpa⟩, hsg, hp, hn, hnz, hm, prm, hmz, hms, hf, prf, hfz, hfo, rf, hmine, hzn, hzm, q⟩ := h
    refine ⟨_, pss_cons (ps_setLc (i := 5) (own := [("_law_mark", 7)]) (g := gName 7) rfl scPathSo.nd rfl rfl (sw_true rfl rfl rfl (by decide +kernel)) (pi_list (pv 3)) (blkOk_by (own := [("_law_mark", 7)]) (N := ["_law_path", "_law_parts", "_law_numbers", "_law_marks_here", "_law_found", "_law_mine", "_law_rest", "_law_mark", "_law_row"]) (sc := defScope sPathSo) (by decide +kernel))
        (fun _ _ _ _ _ => pg_name (i := 7) scPathSo.nd rfl (Or.inl rfl)) (fun _ _ _ _ _ => pts_one (pt_cmpR (op_eqK (K := K) hr.units rfl) (pe_ix (ixT (K := K) rfl) (pv 7) pe_int (fun _ _ => rfl)) (pv 0) (nomark _)))
        (fun _ _ _ _ _ => pv 7))
      (pss_cons (ps_set (i := 6) scPathSo.nd rfl (.inl rfl) (pe_callTy call_list_of (by rfl) T.list (by decide +kernel) (pa_cons (pv 1) pa_nil)))
      (pss_cons (ps_if (pt_cmpR (op_neD hr.units) (pv 5) (pe_lst pa_nil) (nomark _))
        (pss_cons (ps_if (PW.pt (pw_or (pt_cmpR (op_eqD hr.units) (pv 6) (pe_lst pa_nil) (nomark _)) (pw_or1 (pt_not (pt_val (pe_f (okPagesSo T) hr (by decide) rfl (pa_cons (pe_ix ix_list (pv 6) pe_int (fun _ _ => rfl)) (pa_cons (pv 2) (pa_cons (pv 5) pa_nil))))))))) (pss_one (ps_ret pe_bl)) pss_nil)
        (pss_one (ps_set (i := 6) scPathSo.nd rfl (.inl rfl) (pe_slice sl_list (pv 6) (po_some pe_int) po_none)))) pss_nil)
      (pss_one (ps_ret (pe_f (okSeesSo T) hr (by decide) rfl (pa_cons (pv 6) (pa_cons (pe_lc (own := [("_law_row", 8)]) (g := gName 8) rfl scPathSo.nd (pi_list (pv 4)) (blkOk_by (own := [("_law_row", 8)]) (N := ["_law_path", "_law_parts", "_law_numbers", "_law_marks_here", "_law_found", "_law_mine", "_law_rest", "_law_mark", "_law_row"]) (sc := defScope sPathSo) (by decide +kernel))
        (fun _ _ _ _ _ => pg_name (i := 8) scPathSo.nd rfl (Or.inl rfl)) (fun _ _ _ _ _ => pts_one (pt_cmpR (op_eqK (K := K) hr.units rfl) (pe_ix (ixT (K := K) rfl) (pv 8) pe_int (fun _ _ => rfl)) (pv 0) (nomark _)))
        (fun _ _ _ _ _ => pv 8)) pa_nil))))))), ?_⟩
    have hlm := Paired.length prm
    have hlf := Paired.length prf
    have hzh : ∀ e ∈ zs, HPath by_ e := fun e he => by
      obtain ⟨r, hr', rfl⟩ := List.mem_map.mp ((hzm e).mp he)
      exact (hfo r (List.mem_filter.mp hr').1).2
    have okR : ∀ t ∈ seeWords path found ++ tailWords zs, PyData.strOk t = true := fun t ht => by
      rcases List.mem_append.mp ht with ht | ht
      · exact ok_seeWords (fun r hr' => (hfo r hr').2) t ht
      · exact ok_tail hzh t ht
    have okW : ∀ t ∈ stretchWords gs ++ seeWords path found ++ tailWords zs, PyData.strOk t = true := fun t ht => by
      rw [List.append_assoc] at ht
      rcases List.mem_append.mp ht with ht | ht
      · exact ok_stretch (fun g hg => (rf.ok g hg).1) t ht
      · exact okR t ht
    -- mine
    refine ⟨_, rfl, m, rfl, ⟨_, sqL hm⟩, fun D hD => ?_⟩
    refine lc_f (walk_list (xs := us)) ms (fun k => if decide (k.1 = path) = true then some k else none) RMark mono_mark hlm (by rw [← hlm]; omega) hD (fun H6 s6 => sqL (s6 _ _ hm)) (fun i k x H6 H7 Kn Ks hri sm6 hacc hy kn ks => ?_) (fun H6 mvs sm6 hD6 pm => ?_)
    · obtain ⟨rfl, hx⟩ := hy
      obtain ⟨x', hx', rr⟩ := pr_get prm hri
      rw [hx] at hx'
      cases hx'
      have rr6 := mono_mark _ _ _ _ sm6 rr
      obtain ⟨acc, hacc⟩ := hacc
      obtain ⟨a, q1, rfl, ha, hq1⟩ := rr6
      have hkm := List.mem_of_getElem? hri
      refine ⟨rfl, _, rfl, a, _, 0, _, rfl, rfl, sqT ha, atI_nat (j := 0) rfl, _, rfl, eq_path ⟨q1, rfl, hq1⟩ ⟨pa, rfl, sm6 _ _ hpa⟩ (hms k hkm) hsg ⟨_, rfl, ?_⟩⟩
      by_cases e : k.1 = path
      · exact ifT (decide_eq_true e) ⟨_, rfl, kn _ _ k (Same.refl _) (by rw [decide_eq_true e]; rfl) (mark_t (tsame_erase hacc) ⟨a, q1, rfl, ha, hq1⟩)⟩
      · exact ifF (decide_eq_false e) (ks _ (Same.refl _) (by rw [decide_eq_false e]; rfl))
    rw [filterMap_if (fun k : Mk => decide (k.1 = path)) (fun k => k), List.map_id'] at pm
    have pm : Paired (fun b y => RMark b y H6) (ms.filter fun m => decide (m.1 = path)) mvs := L2.Paired.mapP pm fun b y r => mono_mark _ _ _ _ (erase_same _ _) r
    generalize hmn : (ms.filter fun m => decide (m.1 = path)) = mine at pm rf hmine
    have hmnl : mine.length ≤ 40 := by
      rw [← hmn]
      exact Nat.le_trans (List.length_filter_le _ _) hmz
    have hmnS : ∀ k ∈ mine, Sg k.1 := fun k hk => by
      rw [← hmn] at hk
      exact hms k (List.mem_filter.mp hk).1
    -- rest = list(parts)
    refine ⟨_, rfl, p, _, rfl, .inl (sqL (sm6 _ _ hp)), fun c nc => ?_⟩
    have sc := same_upd nc (o := .lst ((stretchWords gs ++ seeWords path found ++ tailWords zs).map V.str))
    refine ⟨_, rfl, Nat.zero_le _, fun l nl => ?_⟩
    have sl := same_upd nl (o := .lst [])
    have s68 := sc.trans sl
    refine ne_nilB (n := 3) mine.isEmpty (by cases mine <;> rfl) (.lst (sqL (s68 _ _ hD6)) (dp_pair (fun b v h => dp_mark h) (Paired.monoR mono_mark s68 pm))) upd_same (low_list fun d hd => by obtain ⟨x, hx, rfl⟩ := List.mem_map.mp hd; exact low_mark (hmnS x hx)) (by decide) ⟨_, rfl, ?_⟩
    have s08 := sm6.trans s68
    -- the last call
    have fin : ∀ (H9 : Hp) (c' : Addr) (σ7 : Option V), Same H H9 → H9 c' = some (.lst ((seeWords path found ++ tailWords zs).map V.str)) → (tRet (tCall spSeesSo [] E0 (tCons (tVar 6) (tCons (tLc (iList K (tVar 4)) (gName 8) (tTest (tOp (rEqD K) (tOp (rIxT K) (tVar 8) (tC (V.int 0))) (tVar 0))) (tVar 8) [8]) tNil)))) { nx := fun _ H' => Q V.non H', rt := Q }
        [some (.ref pa), some (.ref p), some (.ref n), some (.ref m), some (.ref f), some (.ref D), some (.ref c'), none, none] H9 := fun H9 c' _ s9 hc9 => by
      refine ⟨_, rfl, _, rfl, f, rfl, ⟨_, sqL (s9 _ _ hf)⟩, fun F hF => ?_⟩
      have prf9 := Paired.monoR mono_fd s9 prf
      refine lc_f (walk_list (xs := fvs)) found (fun r => if decide (r.1 = path) = true then some r else none) RFd mono_fd hlf (by rw [← hlf]; omega) hF (fun H6 s6 => sqL (s6 _ _ (s9 _ _ hf))) (fun i k x H10 H11 Kn Ks hri sm10 hacc hy kn ks => ?_) (fun H10 rvs sm10 hF10 prr => ?_)
      · obtain ⟨rfl, hx⟩ := hy
        obtain ⟨x', hx', rr⟩ := pr_get prf9 hri
        rw [hx] at hx'
        cases hx'
        have rr6 := mono_fd _ _ _ _ sm10 rr
        obtain ⟨acc, hacc⟩ := hacc
        obtain ⟨a, q1, g1, e1, rfl, ha, hq1, hg1, he1⟩ := rr6
        have hkm := List.mem_of_getElem? hri
        refine ⟨rfl, _, rfl, a, _, 0, _, rfl, rfl, sqT ha, atI_nat (j := 0) rfl, _, rfl, eq_path ⟨q1, rfl, hq1⟩ ⟨pa, rfl, sm10 _ _ (s9 _ _ hpa)⟩ (hfo k hkm).1 hsg ⟨_, rfl, ?_⟩⟩
        by_cases e : k.1 = path
        · exact ifT (decide_eq_true e) ⟨_, rfl, kn _ _ k (Same.refl _) (by rw [decide_eq_true e]; rfl) (fd_t (tsame_erase hacc) ⟨a, q1, g1, e1, rfl, ha, hq1, hg1, he1⟩)⟩
        · exact ifF (decide_eq_false e) (ks _ (Same.refl _) (by rw [decide_eq_false e]; rfl))
      rw [filterMap_if (fun k : Fd => decide (k.1 = path)) (fun k => k), List.map_id'] at prr
      have prr : Paired (fun b y => RFd b y H10) (found.filter fun m => decide (m.1 = path)) rvs := L2.Paired.mapP prr fun b y r => mono_fd _ _ _ _ (erase_same _ _) r
      refine ⟨c', F, by_, found.filter fun r => decide (r.1 = path), rvs, zs, rfl, ?_, hF10, prr, Nat.le_trans (List.length_filter_le _ _) hfz, fun r hr' => (hfo r (List.mem_filter.mp hr').1).2, hzn, fun e => by rw [hzm, furL_sent], fun H' s' => q H' (s9.trans (sm10.trans s'))⟩
      rw [seesL_sent]
      exact sm10 _ _ hc9
    cases hme : mine.isEmpty with
    | true =>
      have hgs : gs = [] := hmine.mp (List.isEmpty_iff.mp hme)
      refine iteF (fin _ c none s08 ?_)
      rw [sl _ _ upd_same]
      unfold stretchWords
      rw [if_pos hgs, List.nil_append]
    | false =>
      have hgs : gs ≠ [] := fun e => by
        have := hmine.mpr e
        rw [this] at hme
        cases hme
      have ews : stretchWords gs = [Txt.join (Str.ofString ", ") (gs.map strS)] := by
        unfold stretchWords
        rw [if_neg hgs]
      rw [ews, List.append_assoc] at s68 sc sl s08 okW
      rw [ews, List.append_assoc]
      have hc8 := sl _ _ (upd_same (H := H6) (a := c) (o := .lst (([Txt.join (Str.ofString ", ") (gs.map strS)] ++ (seeWords path found ++ tailWords zs)).map V.str)))
      refine iteT ⟨_, rfl, Nat.zero_le _, fun l2 nl2 => ?_⟩
      have sl2 := same_upd nl2 (o := .lst [])
      refine eq_nilB (n := 1) false rfl (dp_texts (sl2 _ _ hc8)) upd_same (low_texts okW) (by decide) ⟨_, rfl, iteF ?_⟩
      have s09 := s08.trans sl2
      refine ⟨_, rfl, c, _, 0, _, rfl, rfl, sqL (sl2 _ _ hc8), atI_nat (j := 0) rfl, _, rfl, _, rfl, n, D, nums, mine, mvs, gs, rfl, s09 _ _ hn, (s68.trans sl2) _ _ hD6, Paired.monoR mono_mark (s68.trans sl2) pm, hnz, rf, hgs, fun H10 s10 => ⟨true, rfl, iteF ?_⟩⟩
      have s0 := s09.trans s10
      refine ⟨_, rfl, 1, rfl, c, _, rfl, sqL (s10 _ _ (sl2 _ _ hc8)), fun r nr => ?_⟩
      have ecut : cutV (([Txt.join (Str.ofString ", ") (gs.map strS)] ++ (seeWords path found ++ tailWords zs)).map V.str) (some 1) none = (seeWords path found ++ tailWords zs).map V.str := by
        unfold cutV
        rw [HT.sIx_none, show (some (1 : Int)) = some ((1 : Nat) : Int) from rfl, HT.sIx_nat, List.map_append, show ([Txt.join (Str.ofString ", ") (gs.map strS)].map V.str ++ (seeWords path found ++ tailWords zs).map V.str).length = (seeWords path found ++ tailWords zs).length + 1 by simp, show min 1 ((seeWords path found ++ tailWords zs).length + 1) = 1 by omega]
        show List.take ((seeWords path found ++ tailWords zs).length + 1 - 1) ((seeWords path found ++ tailWords zs).map V.str) = _
        exact List.take_of_length_le (by simp)
      have sr := same_upd nr (o := .lst (cutV (([Txt.join (Str.ofString ", ") (gs.map strS)] ++ (seeWords path found ++ tailWords zs)).map V.str) (some 1) none))
      rw [ecut] at sr ⊢
      exact fin _ r none (s0.trans sr) upd_same
/-! PbLaw7: ### _law_paths -/
def RThing : Rl Path := fun p v H => ∃ a q rest, v = .ref a ∧ H a = some (.tup (.ref q :: rest)) ∧ H q = some (.tup (p.map V.str))
theorem mono_thing : Mono RThing := fun _ _ _ _ e h => by
  obtain ⟨a, q, r, rfl, ha, hq⟩ := h
  exact ⟨a, q, r, rfl, e _ _ ha, e _ _ hq⟩
theorem scPaths : FnScope ["_law_marks_here", "_law_found", "_law_paths_here", "_law_thing", "_law_many"] ["_law_marks_here", "_law_found"] (defScope sPaths) := ⟨rfl, rfl, rfl, by decide +kernel, rfl, by decide +kernel, by decide +kernel⟩
def spPaths : Sp := fun vs H Q _ => ∃ (m f : Addr) (ps qs : List Path) (us fvs : List V), vs = [.ref m, .ref f] ∧ H m = some (.lst us) ∧ Paired (fun b y => RThing b y H) ps us ∧ H f = some (.lst fvs) ∧ Paired (fun b y => RThing b y H) qs fvs ∧ ps.length ≤ 40 ∧ qs.length ≤ 40 ∧ (∀ p ∈ ps ++ qs, p.length ≤ 20) ∧
  ∀ (H' : Hp) (o : Addr) (rs : List Path) (rvs : List V), Same H H' → H o = none → H' o = some (.lst rvs) → Paired (fun b y => RPath b y H') rs rvs → rs.Nodup → (∀ p, p ∈ rs ↔ ∃ t ∈ ps ++ qs, p ≠ [] ∧ p <+: t) → Q (.ref o) H'
theorem okPaths (T : Top K mg) : Def1 P w K mg base 1 "_law_paths" spPaths := by
  refine def1 T.fPaths scPaths (fun vs H Q E h => ?_) (fun _ _ _ _ _ _ us hl => match us, hl with | [_, _], _ => rfl) (fun f0 cdv A outer s0 H vs Q E hr h => ?_)
  · obtain ⟨m, f, ps, qs, us, fvs, rfl, _⟩ := h
    rfl
  · obtain ⟨m, f, ps, qs, us, fvs, rfl, hm, prm, hf, prf, hpz, hqz, hlen, q⟩ := h
    refine ⟨_, pss_cons (ps_set (i := 2) scPaths.nd rfl (.inl rfl) pe_dnewT)
      (pss_cons (ps_for PassesOwn.never rfl (pi_list (pe_op op_cat (pv 0) (pv 1))) (pg_name (i := 3) scPaths.nd rfl (.inl rfl))
        (pss_one (ps_for PassesOwn.never rfl (pi_range1 rfl T.range (pa_cons (pe_callB call_len_seq (by rfl) T.len PySem.boot_len (pa_cons (pe_ix ix_tup (pv 3) pe_int (fun _ _ => rfl)) pa_nil)) pa_nil)) (pg_name (i := 4) scPaths.nd rfl (.inl rfl))
          (pss_one (ps_dput (hu_of hr) (pv 2) (pe_slice sl_tupA (pe_ix ix_tup (pv 3) pe_int (fun _ _ => rfl)) po_none (po_some (pe_op op_add (pv 4) pe_int))) pe_bl rfl)))))
      (pss_one (ps_ret (pe_callTy (call_list_dT rfl) (by rfl) T.list (by decide +kernel) (pa_cons (pv 2) pa_nil))))), ?_⟩
    refine fun d hd => ?_
    have sd := same_upd hd (o := .dT [])
    have hl1 := Paired.length prm
    have hl2 := Paired.length prf
    refine ⟨_, rfl, _, rfl, m, f, us, fvs, rfl, rfl, sd _ _ hm, sd _ _ hf, sz (by omega), fun c nc => ?_⟩
    have sc := same_upd nc (o := .lst (us ++ fvs))
    have s0 := sd.trans sc
    refine ⟨c, rfl, ⟨_, sqL upd_same⟩, ?_⟩
    have pr0 : Paired (fun b y => RThing b y H) (ps ++ qs) (us ++ fvs) := pr_app prm prf
    have htl : (ps ++ qs).length ≤ 80 := by rw [List.length_append]; omega
    generalize hth : ps ++ qs = things at pr0 htl hlen
    generalize htv : us ++ fvs = tvs at pr0 sc s0
    have htlv := Paired.length pr0
    have hc0 : (upd (upd H d (.dT [])) c (.lst tvs)) c = some (.lst tvs) := upd_same
    have hdc : (upd (upd H d (.dT [])) c (.lst tvs)) d = some (.dT []) := sc _ _ upd_same
    have hplen : ∀ j, j ≤ things.length → ((things.take j).flatMap prefsOf).length ≤ 20 * j := fun j => by
      induction j with
      | zero => intro _; simp
      | succ j ih =>
        intro hj
        obtain ⟨t, ht⟩ : ∃ t, things[j]? = some t := ⟨_, List.getElem?_eq_getElem (by omega)⟩
        have h1 := ih (by omega)
        have h2 := hlen t (List.mem_of_getElem? ht)
        have e : things.take (j + 1) = things.take j ++ [t] := by rw [List.take_add_one, ht]; rfl
        rw [e, List.flatMap_append, List.length_append, List.flatMap_cons, List.flatMap_nil, List.append_nil, prefsOf_len]
        omega
    refine for_it (walk_list (xs := tvs)) (fun i σ H1 => ∃ (kvs : List (List Key × V)) (y3 y4 : Option V), σ = [some (.ref m), some (.ref f), some (.ref d), y3, y4] ∧ Same H H1 ∧ H1 c = some (.lst tvs) ∧ KInv RBl (fun _ => true) H1 d kvs ((things.take i).flatMap prefsOf)) ⟨[], none, none, rfl, s0, hc0, KInv.none hdc⟩ (fun i σ H1 hi hp => ?_) (fun i x σ H1 H2 hi hp hy => ?_) (fun σ H1 hp => ?_)
    · obtain ⟨_, _, _, _, _, hcc, _⟩ := hp
      exact sqL hcc
    · obtain ⟨kvs, y3, y4, rfl, sm, hcc, ki⟩ := hp
      obtain ⟨rfl, hx⟩ := hy
      obtain ⟨t, ht, rt⟩ := pr_get2 (Paired.monoR mono_thing sm pr0) hx
      obtain ⟨a, p, rest, rfl, ha, hpp⟩ := rt
      have hfew := hlen t (List.mem_of_getElem? ht)
      have et : things.take (i + 1) = things.take i ++ [t] := by rw [List.take_add_one, ht]; rfl
      have hil : i < things.length := (List.getElem?_eq_some_iff.mp ht).1
      have hpi := hplen i (by omega)
      refine ⟨_, rfl, a, _, 0, _, rfl, rfl, sqT ha, atI_nat (j := 0) rfl, p, _, rfl, .inr (sqT hpp), _, rfl, by omega, by rw [List.length_map]; omega, ?_⟩
      have hcnt : ((t.map V.str).length : Int).toNat = t.length := by rw [List.length_map]; omega
      rw [hcnt]
      refine for_it walk_range (fun j σ H5 => ∃ (kvs : List (List Key × V)) (y4 : Option V), σ = [some (.ref m), some (.ref f), some (.ref d), some (.ref a), y4] ∧ Same H H5 ∧ H5 c = some (.lst tvs) ∧ H5 a = some (.tup (.ref p :: rest)) ∧ H5 p = some (.tup (t.map V.str)) ∧
        KInv RBl (fun _ => true) H5 d kvs ((things.take i).flatMap prefsOf ++ (prefsOf t).take j)) ⟨kvs, y4, rfl, sm, hcc, ha, hpp, by rw [List.take_zero, List.append_nil]; exact ki⟩ (fun _ _ _ _ _ => trivial) (fun j x σ H5 H6 hj hp hy => ?_) (fun σ H5 hp => ?_)
      · obtain ⟨kvs, y4, rfl, sm, hcc, ha, hpp, ki⟩ := hp
        obtain ⟨rfl, hx7⟩ := hy
        have hx8 : x = .int (j : Int) := hx7.trans (congrArg V.int (by omega))
        subst hx8
        have ej : (j : Int) + 1 = ((j + 1 : Nat) : Int) := by omega
        refine ⟨_, rfl, _, rfl, a, _, 0, _, rfl, rfl, sqT ha, atI_nat (j := 0) rfl, _, rfl, (j : Int), 1, rfl, rfl, (j : Int) + 1, rfl, ?_⟩
        show rSlA K (.ref p) none (some ((j : Int) + 1)) H6 _
        rw [ej]
        refine slA_take hpp fun H7 v s7 rp => ?_
        obtain ⟨tt, rfl, htt⟩ := rp
        have enx : (prefsOf t).take (j + 1) = (prefsOf t).take j ++ [t.take (j + 1)] := by
          have : (prefsOf t)[j]? = some (t.take (j + 1)) := by
            unfold prefsOf
            rw [List.getElem?_map, List.getElem?_range hj]; rfl
          rw [List.take_add_one, this]; rfl
        have ki7 := ki.same mono_bl s7
        have hkl := ki7.len
        have h2 := prefsOf_len t
        rw [List.length_append, List.length_take] at hkl
        refine ⟨d, _, rfl, DPut.t (k := keysOf (t.take (j + 1))) ki7.dat (by rw [keysOf_kV]; exact htt) (szlt (by omega)), ?_⟩
        refine ⟨putK kvs (keysOf (t.take (j + 1))) (.bl true), some (.int (j : Int)), rfl, same_upd2 hd (sm.trans s7), ?_, ?_, ?_, ?_⟩
        · rw [upd_ne (ne_of hcc ki.dat (fun z => nomatch z))]; exact s7 _ _ hcc
        · rw [upd_ne (ne_of ha ki.dat (fun z => nomatch z))]; exact s7 _ _ ha
        · rw [upd_ne (ne_of hpp ki.dat (fun z => nomatch z))]; exact s7 _ _ hpp
        · rw [enx, ← List.append_assoc]
          exact ki7.put rfl
      · obtain ⟨kvs, y4, rfl, sm, hcc, ha, hpp, ki⟩ := hp
        have e0 : (prefsOf t).take t.length = prefsOf t := List.take_of_length_le (by rw [prefsOf_len]; exact Nat.le_refl _)
        rw [e0] at ki
        refine ⟨kvs, _, _, rfl, sm, hcc, ?_⟩
        rw [et, List.flatMap_append, List.flatMap_cons, List.flatMap_nil, List.append_nil]
        exact ki
    · obtain ⟨kvs, y3, y4, rfl, sm, hcc, ki⟩ := hp
      rw [← htlv, List.take_length] at ki
      obtain ⟨rs, hrs⟩ := keys_paths fun k hk => (ki.keys k).mp hk
      refine ⟨_, rfl, d, kvs, rfl, .inl ki.dat, fun o bs no hbs => ?_⟩
      have so := same_upd no (o := .lst (bs.map V.ref))
      refine q _ o rs _ (sm.trans so) (Same.free sm no) upd_same (Paired.monoR mono_path so (isKeys_paths hrs hbs)) (nodup_paths (hrs ▸ ki.nd)) fun p => ?_
      rw [hth, ← mem_paths, ← hrs, ki.keys]
      constructor
      · rintro ⟨x, hx, e⟩
        rw [keysOf_inj e]
        obtain ⟨t, ht, hx⟩ := List.mem_flatMap.mp hx
        exact ⟨t, ht, prefsOf_mem.mp hx⟩
      · rintro ⟨t, ht, hx⟩
        exact ⟨p, List.mem_flatMap.mpr ⟨t, ht, prefsOf_mem.mpr hx⟩, rfl⟩
end
end PB
/-! PbMath5: the sorted lines: each line's parent is above it -/
namespace PB
open PySem PySem.Spec PyProof.Rows L2 TL

abbrev Tk := Int ⊕ List Nat
def tokH (h : Str) : List Tk := [.inl 1, .inl 1, .inr (tl (keyS h)), .inl 1, .inr (tl (shownS h)), .inl 0]
def toks (p : Path) : List Tk := p.flatMap tokH ++ [.inl 0]
theorem toks_cons (h : Str) (p : Path) : toks (h :: p) = tokH h ++ toks p := by
  unfold toks
  rw [List.flatMap_cons, List.append_assoc]
theorem toks_rank : ∀ p : Path, PySem.W.keyToks (rankD p) = toks p
  | [] => by
    unfold rankD
    rw [PySem.W.keyToks, List.map_nil, PySem.W.keyToksAll]
    rfl
  | h :: p => by
    have ih := toks_rank p
    unfold rankD at ih ⊢
    rw [PySem.W.keyToks] at ih ⊢
    rw [List.map_cons, PySem.W.keyToksAll, ih, toks_cons, PySem.W.keyToks]
    simp only [PySem.W.keyToksAll, PySem.W.keyToks]
    rfl
abbrev LT (a b : List Tk) : Bool := PyProof.Rows.lexLt PyProof.Rows.itemOrd a b
theorem rank_lt (p q : Path) : PySem.W.dataLt (rankD p) (rankD q) = LT (toks p) (toks q) := by
  unfold PySem.W.dataLt
  rw [toks_rank, toks_rank]
theorem lex_same {s t x y : List Tk} (hl : s.length = t.length) (hne : s ≠ t) : LT (s ++ x) (t ++ y) = LT s t := by
  induction s generalizing t with
  | nil =>
    cases t with
    | nil => exact absurd rfl hne
    | cons _ _ => cases hl
  | cons a s ih =>
    cases t with
    | nil => cases hl
    | cons b t =>
      show PyProof.Rows.lexLt PyProof.Rows.itemOrd (a :: (s ++ x)) (b :: (t ++ y)) = PyProof.Rows.lexLt PyProof.Rows.itemOrd (a :: s) (b :: t)
      by_cases h : a = b
      · subst h
        rw [PyProof.Rows.lex_self, PyProof.Rows.lex_self]
        exact ih (by simpa using hl) (fun e => hne (by rw [e]))
      · rw [PyProof.Rows.lex_diff h, PyProof.Rows.lex_diff h]
theorem tokH_shown {a b : Str} (h : tokH a = tokH b) : shownS a = shownS b := by
  unfold tokH at h
  simp at h
  exact Str.ext' h.2
/-- between a path and its child stand only paths below it -/
theorem between : ∀ (par r : Path) (h : Str), LT (toks r) (toks par) = false → LT (toks (par ++ [h])) (toks r) = false → par.map shownS <+: r.map shownS
  | [], _, _, _, _ => List.nil_prefix
  | a :: par, [], h, h1, _ => by
    rw [toks_cons] at h1
    have : LT (toks []) (tokH a ++ toks par) = true := by
      show PyProof.Rows.lexLt PyProof.Rows.itemOrd (.inl 0 :: []) (.inl 1 :: _) = true
      rw [PyProof.Rows.lex_diff (by decide)]
      decide
    rw [this] at h1
    cases h1
  | a :: par, b :: r, h, h1, h2 => by
    rw [toks_cons, toks_cons] at h1
    rw [List.cons_append, toks_cons, toks_cons] at h2
    by_cases e : tokH b = tokH a
    · have es := tokH_shown e
      rw [e] at h1 h2
      have h1 : LT (toks r) (toks par) = false := by
        have := PySem.W.lex_pre (tokH a) (toks r) (toks par)
        exact this.symm.trans h1
      have h2 : LT (toks (par ++ [h])) (toks r) = false := by
        have := PySem.W.lex_pre (tokH a) (toks (par ++ [h])) (toks r)
        exact this.symm.trans h2
      have ih := between par r h h1 h2
      rw [List.map_cons, List.map_cons, es, List.cons_prefix_cons]
      exact ⟨rfl, ih⟩
    · rw [lex_same (s := tokH b) (t := tokH a) rfl e] at h1
      rw [lex_same (s := tokH a) (t := tokH b) rfl (fun z => e z.symm)] at h2
      exact absurd (PyProof.Rows.lex_total _ _ h1 h2) e
theorem lt_child (par : Path) (h : Str) : LT (toks par) (toks (par ++ [h])) = true := by
  unfold toks
  rw [List.flatMap_append, List.flatMap_cons, List.flatMap_nil, List.append_nil, List.append_assoc]
  show PyProof.Rows.lexLt PyProof.Rows.itemOrd _ _ = true
  rw [PySem.W.lex_pre]
  show PyProof.Rows.lexLt PyProof.Rows.itemOrd (.inl 0 :: []) (.inl 1 :: _) = true
  rw [PyProof.Rows.lex_diff (by decide)]
  decide
theorem above {ps : List Path} (hs : ps.Pairwise fun a b => PySem.W.dataLt (rankD b) (rankD a) = false) (hc : ∀ p ∈ ps, ∀ q, q ≠ [] → q <+: p → q ∈ ps) {i : Nat} {par : Path} {h : Str} (hi : ps[i]? = some (par ++ [h])) (hpar : par ≠ []) :
    ∃ r, 0 < i ∧ ps[i - 1]? = some r ∧ par.map shownS <+: r.map shownS := by
  have hm := List.mem_of_getElem? hi
  have hpm := hc _ hm par hpar (List.prefix_append _ _)
  obtain ⟨j, hj⟩ := List.getElem?_of_mem hpm
  obtain ⟨hil, hie⟩ := List.getElem?_eq_some_iff.mp hi
  obtain ⟨hjl, hje⟩ := List.getElem?_eq_some_iff.mp hj
  have pw := List.pairwise_iff_getElem.mp hs
  have hji : j < i := by
    rcases Nat.lt_trichotomy j i with h1 | h1 | h1
    · exact h1
    · subst h1
      rw [hie] at hje
      have := congrArg List.length hje
      simp at this
    · have := pw i j hil hjl h1
      rw [hie, hje, rank_lt, lt_child] at this
      cases this
  refine ⟨ps[i - 1], by omega, List.getElem?_eq_getElem (by omega), ?_⟩
  by_cases e : j = i - 1
  · subst e
    rw [hje]
    exact List.prefix_refl _
  · have h1 := pw j (i - 1) hjl (by omega) (by omega)
    have h2 := pw (i - 1) i (by omega) hil (by omega)
    rw [hje, rank_lt] at h1
    rw [hie, rank_lt] at h2
    exact between par _ h h1 h2
end PB
/-! PbMath6: the law's facts, together -/
namespace PB
open PySem PySem.Spec PyProof.Rows L2 TL

/-! PbMath6: ### the entries -/
theorem cut_ne {nums : List Int} {lo hi : Int} (h0 : 0 ≤ lo) (h1 : lo ≤ hi) (h2 : hi < nums.length) : cutG nums lo (hi + 1) ≠ [] := by
  obtain ⟨a, rfl⟩ := Int.eq_ofNat_of_zero_le h0
  obtain ⟨b, rfl⟩ := Int.eq_ofNat_of_zero_le (Int.le_trans h0 h1)
  unfold cutG
  rw [HT.sIx_nat, show ((b : Int) + 1) = ((b + 1 : Nat) : Int) by omega, HT.sIx_nat]
  intro e
  have := congrArg List.length e
  rw [List.length_take, List.length_drop] at this
  simp at this
  omega
theorem cS_some {st : List (Int × Bool)} {n : Int} (h : n ∈ st.map (·.1)) : cS st n ≠ none := by
  unfold cS
  obtain ⟨s, hs, rfl⟩ := List.mem_map.mp h
  rw [if_pos (List.any_eq_true.mpr ⟨s, hs, decide_eq_true rfl⟩)]
  exact fun z => nomatch z
theorem runs_none {nums : List Int} {gs : List Pg} (h : IsRuns nums [] gs) : gs = [] := by
  obtain ⟨ps, _, hm, _, rfl⟩ := h
  have : ps = [] := List.eq_nil_iff_forall_not_mem.mpr fun n hn => by
    have := (hm n).mp hn
    cases this
  rw [this]
  rfl
theorem runsF_nil (nums : List Int) : RunsF nums [] [] :=
  ⟨(fun _ h => absurd h List.not_mem_nil), (fun i g g' h _ => by simp at h), (fun _ => rfl), (by unfold stOf; simp), (fun _ h => absurd h List.not_mem_nil), Nat.zero_le _, fun _ _ => rfl⟩
/-- the facts of the rows, for every path -/
structure RowsF (by_ : Int) (nums : List Int) (ms : List Mk) (rows : List Row) : Prop where
  nd : (rows.map (·.1)).Nodup
  mem : ∀ p, p ∈ rows.map (·.1) ↔ ∃ m ∈ ms, p ≠ [] ∧ p <+: m.1
  path : ∀ p ∈ rows.map (·.1), MPath by_ p
  runs : ∀ p, RunsF nums (stepsOf nums (ms.filter fun m => decide (m.1 = p))) (partsOf rows p)
  iff : ∀ p, (ms.filter fun m => decide (m.1 = p)) = [] ↔ partsOf rows p = []
  few : rows.length ≤ 6 * ms.length
theorem prefix_mpath {by_ : Int} {p q : Path} (h : MPath by_ q) (hp : p ≠ []) (hq : p <+: q) : MPath by_ p :=
  ⟨hp, Nat.le_trans hq.length_le h.few, fun x hx => h.hd x (hq.subset hx)⟩
theorem flat_len (f : Mk → List Path) (n : Nat) : ∀ ms : List Mk, (∀ m ∈ ms, (f m).length ≤ n) → (ms.flatMap f).length ≤ n * ms.length
  | [], _ => by simp
  | m :: ms, h => by
    have ih := flat_len f n ms fun x hx => h x (List.mem_cons_of_mem _ hx)
    have h1 := h m List.mem_cons_self
    rw [List.flatMap_cons, List.length_append, List.length_cons, Nat.mul_add, Nat.mul_one]
    omega
theorem rows_facts {by_ : Int} {many : Nat} {nums : List Int} {ms : List Mk} {rows : List Row} (hn : nums.length = many) (hz : many < 64) (hb : ∀ n ∈ nums, 0 ≤ n ∧ n < 10 ^ 70) (hm : ∀ m ∈ ms, MarkOk by_ many m) (h : RowsOf nums ms rows) : RowsF by_ nums ms rows := by
  have inRow : ∀ p ∈ rows.map (·.1), ∃ r ∈ rows, r.1 = p := fun p hp => by
    obtain ⟨r, h1, h2⟩ := List.mem_map.mp hp
    exact ⟨r, h1, h2⟩
  have own : ∀ m ∈ ms, m.1 ∈ rows.map (·.1) := fun m hmm => (h.mem _).mpr ⟨m, hmm, (hm m hmm).p.ne, List.prefix_refl _⟩
  have out : ∀ p, p ∉ rows.map (·.1) → (ms.filter fun m => decide (m.1 = p)) = [] := fun p hp => by
    rw [List.filter_eq_nil_iff]
    intro m hmm z
    exact hp (of_decide_eq_true z ▸ own m hmm)
  have runs : ∀ p, RunsF nums (stepsOf nums (ms.filter fun m => decide (m.1 = p))) (partsOf rows p) := fun p => by
    by_cases hp : p ∈ rows.map (·.1)
    · obtain ⟨r, hr, rfl⟩ := inRow p hp
      rw [partsOf_mem h.nd hr]
      exact runs_facts hb (by omega) (h.runs r hr)
    · rw [partsOf_not hp, out p hp]
      exact runsF_nil nums
  refine ⟨h.nd, h.mem, fun p hp => ?_, runs, fun p => ⟨fun e => ?_, fun e => ?_⟩, ?_⟩
  · obtain ⟨m, hmm, hp, hq⟩ := (h.mem p).mp hp
    exact prefix_mpath (hm m hmm).p hp hq
  · by_cases hp : p ∈ rows.map (·.1)
    · obtain ⟨r, hr, rfl⟩ := inRow p hp
      rw [partsOf_mem h.nd hr]
      have := h.runs r hr
      rw [e] at this
      exact runs_none this
    · exact partsOf_not hp
  · have rf := (runs p).ne e
    cases hf : ms.filter fun m => decide (m.1 = p) with
    | nil => rfl
    | cons m t =>
      have hmf : m ∈ ms.filter fun m => decide (m.1 = p) := by rw [hf]; exact List.mem_cons_self
      have ok := hm m (List.mem_filter.mp hmf).1
      have hne := cut_ne (nums := nums) ok.lo ok.le (by rw [hn]; exact ok.hi)
      cases hc : cutG nums m.2.1 (m.2.2.1 + 1) with
      | nil => exact absurd hc hne
      | cons n r =>
        refine absurd (rf n) (cS_some ?_)
        refine List.mem_map.mpr ⟨(n, m.2.2.2), List.mem_flatMap.mpr ⟨m, hmf, List.mem_map.mpr ⟨n, ?_, rfl⟩⟩, rfl⟩
        rw [hc]
        exact List.mem_cons_self
  · have h1 := List.Nodup.length_le_of_subset h.nd (l₂ := ms.flatMap fun m => prefsOf m.1) fun p hp => by
      obtain ⟨m, hmm, hx⟩ := (h.mem p).mp hp
      exact List.mem_flatMap.mpr ⟨m, hmm, prefsOf_mem.mpr hx⟩
    rw [List.length_map] at h1
    exact Nat.le_trans h1 (flat_len _ 6 ms fun m hmm => by rw [prefsOf_len]; exact (hm m hmm).p.few)
theorem RowsF.row {by_ : Int} {nums : List Int} {ms : List Mk} {rows : List Row} (h : RowsF by_ nums ms rows) (hz : nums.length < 64) : ∀ r ∈ rows, RowOk r := fun r hr => by
  have hp := (h.path r.1 (List.mem_map.mpr ⟨r, hr, rfl⟩)).h
  have hr2 := h.runs r.1
  rw [partsOf_mem h.nd hr] at hr2
  exact ⟨⟨hp.ok, hp.ne⟩, ⟨by have := hr2.len; omega, fun g hg => (hr2.ok g hg).1⟩⟩
def fullOf (rows : List Row) : List Path := (rows.filter fun r => !r.2.isEmpty).map (·.1)
theorem full_mem {by_ : Int} {nums : List Int} {ms : List Mk} {rows : List Row} (h : RowsF by_ nums ms rows) {p : Path} : p ∈ fullOf rows ↔ p ∈ rows.map (·.1) ∧ partsOf rows p ≠ [] := by
  unfold fullOf
  rw [List.mem_map]
  constructor
  · rintro ⟨r, hr, rfl⟩
    have := List.mem_filter.mp hr
    refine ⟨List.mem_map.mpr ⟨r, this.1, rfl⟩, ?_⟩
    rw [partsOf_mem h.nd this.1]
    intro e
    have h2 := this.2
    rw [e] at h2
    cases h2
  · rintro ⟨hp, hne⟩
    obtain ⟨r, hr, rfl⟩ := List.mem_map.mp hp
    rw [partsOf_mem h.nd hr] at hne
    refine ⟨r, List.mem_filter.mpr ⟨hr, ?_⟩, rfl⟩
    cases hr2 : r.2 with
    | nil => exact absurd hr2 hne
    | cons _ _ => rfl
theorem full_ne {by_ : Int} {nums : List Int} {ms : List Mk} {rows : List Row} (h : RowsF by_ nums ms rows) (hm : ∀ m ∈ ms, m.1 ≠ []) (hne : rows.map (·.1) ≠ []) : fullOf rows ≠ [] := by
  cases hr : rows.map (·.1) with
  | nil => exact absurd hr hne
  | cons p t =>
    obtain ⟨m, hmm, _⟩ := (h.mem p).mp (by rw [hr]; exact List.mem_cons_self)
    have hx : m.1 ∈ fullOf rows := (full_mem h).mpr ⟨(h.mem _).mpr ⟨m, hmm, hm m hmm, List.prefix_refl _⟩, fun e => by
      have := (h.iff m.1).mpr e
      have hf : m ∈ ms.filter fun k => decide (k.1 = m.1) := List.mem_filter.mpr ⟨hmm, decide_eq_true rfl⟩
      rw [this] at hf
      cases hf⟩
    exact List.ne_nil_of_mem hx
/-! PbMath6: ### the sees -/
theorem sees_ok {by_ : Int} {nums : List Int} {ms : List Mk} {rows : List Row} {fr : List Path} {E : List (Path × Path)} {ss : List Se} (h : RowsF by_ nums ms rows) (hf : ∀ p ∈ fr, HPath by_ p) (hE : E.length ≤ 9) (si : SInv (rows.map (·.1)) (fullOf rows) fr E ss) : SeesOk rows ss (muE E) (finE E) := by
  have hp : ∀ p, (p ∈ rows.map (·.1) ∨ p ∈ fr) → HPath by_ p := fun p hp => by
    rcases hp with hp | hp
    · exact (h.path p hp).h
    · exact hf p hp
  refine ⟨fun s hs => ⟨(hp _ (si.p s hs).1).ok, (hp _ (si.p s hs).2).ok⟩, si.ne, fun s hs ha => ?_, si.one, si.dn, fun s hs => Nat.le_trans (muE_le E _) (by omega), si.fi, fun p hp => ?_, fun s hs => si.known _ (si.p s hs).2, si.also⟩
  · by_cases hr : s.1 ∈ rows.map (·.1)
    · by_cases e : partsOf rows s.1 = []
      · exact e
      · exact absurd ((full_mem h).mpr ⟨hr, e⟩) (si.bare s hs ha)
    · exact partsOf_not hr
  · refine finE_not fun hk => hp ?_
    obtain ⟨s, hs, ha, e⟩ := si.sentr p hk
    exact sent_iff.mpr ⟨s, hs, ha, e⟩
/-! PbMath6: ### the lines -/
structure XFor (rows : List Row) (found : List Fd) (p : Path) (x : List Str × List Str) : Prop where
  fst : x.1 = p.map shownS
  snd : ∃ zs : List Path, zs.Nodup ∧ (∀ e, e ∈ zs ↔ e ∈ alsoOf p found) ∧ x.2 = stretchWords (partsOf rows p) ++ seeWords p found ++ tailWords zs
def lnT (ln : Ln) : Str := Txt.mul (Str.ofString "  ") ((ln.1.toNat : Nat) : Int) ++ ln.2
theorem last_map {p : Path} (h : p ≠ []) : (p.map shownS).getLastD ⟨#[]⟩ = shownS (p.getLastD ⟨#[]⟩) := by
  rcases snoc_cases p with rfl | ⟨a, b, rfl⟩
  · exact absurd rfl h
  · simp [List.getLastD_eq_getLast?]
theorem lines_x {rows : List Row} {found : List Fd} : ∀ {ps : List Path} {lns : List Ln}, (∀ p ∈ ps, p ≠ []) → Paired (fun p ln => ln.1 = (p.length : Int) - 1 ∧ TextIs p (partsOf rows p) found ln.2) ps lns →
    ∃ xs, Paired (XFor rows found) ps xs ∧ lns.map lnT = xs.map lineT
  | _, _, _, .nil => ⟨[], .nil, rfl⟩
  | p :: ps, ln :: lns, hne, .cons h t => by
    obtain ⟨xs, h1, h2⟩ := lines_x (fun q hq => hne q (List.mem_cons_of_mem _ hq)) t
    obtain ⟨e1, zs, hn, hm, e2⟩ := h
    have hp := hne p List.mem_cons_self
    have hpl : 0 < p.length := List.length_pos_iff.mpr hp
    refine ⟨(p.map shownS, stretchWords (partsOf rows p) ++ seeWords p found ++ tailWords zs) :: xs, .cons ⟨rfl, zs, hn, hm, rfl⟩ h1, ?_⟩
    rw [List.map_cons, List.map_cons, h2]
    congr 1
    unfold lnT lineT
    rw [e2, e1, last_map hp, List.length_map]
    have e3 : ((p.length : Int) - 1).toNat = p.length - 1 := by omega
    rw [e3]
    rfl
theorem x_fst {rows : List Row} {found : List Fd} : ∀ {ps : List Path} {xs : List (List Str × List Str)}, Paired (XFor rows found) ps xs → xs.map (·.1) = ps.map fun p => p.map shownS
  | _, _, .nil => rfl
  | _, _, .cons h t => by rw [List.map_cons, List.map_cons, h.fst, x_fst t]
/-- the paths that the lines show -/
structure LinesF (by_ : Int) (rows : List Row) (ms : List Mk) (found : List Fd) (ps : List Path) (xs : List (List Str × List Str)) : Prop where
  nd : ps.Nodup
  mem : ∀ p, p ∈ ps ↔ ∃ t ∈ ms.map (·.1) ++ found.map (·.1), p ≠ [] ∧ p <+: t
  path : ∀ p ∈ ps, HPath by_ p
  pr : Paired (XFor rows found) ps xs
  few : ps.length ≤ 1000
  ok : ∀ x ∈ xs, XOk x
  xnd : (xs.map (·.1)).Nodup
  ch : ∀ i x, xs[i]? = some x → x.1.dropLast <+: stAt xs i
theorem prefix_hpath {by_ : Int} {p q : Path} (h : HPath by_ q) (hp : p ≠ []) (hq : p <+: q) : HPath by_ p :=
  ⟨hp, Nat.le_trans hq.length_le h.few, fun x hx => h.hd x (hq.subset hx)⟩
theorem flat_lenP (n : Nat) : ∀ ts : List Path, (∀ t ∈ ts, t.length ≤ n) → (ts.flatMap prefsOf).length ≤ n * ts.length
  | [], _ => by simp
  | t :: ts, h => by
    have ih := flat_lenP n ts fun x hx => h x (List.mem_cons_of_mem _ hx)
    have h1 := h t List.mem_cons_self
    rw [List.flatMap_cons, List.length_append, List.length_cons, Nat.mul_add, Nat.mul_one, prefsOf_len]
    omega
theorem lines_facts {by_ : Int} {nums : List Int} {ms : List Mk} {rows : List Row} {found : List Fd} {lns : List Ln} (hr : RowsF by_ nums ms rows) (hz : nums.length < 64) (hmz : ms.length ≤ 40) (hfz : found.length ≤ 24) (hmp : ∀ m ∈ ms, HPath by_ m.1)
    (hf : ∀ r ∈ found, HPath by_ r.1 ∧ HPath by_ r.2.1 ∧ HPath by_ r.2.2.2.1) (h : LinesOf rows found lns) : ∃ ps xs, LinesF by_ rows ms found ps xs ∧ lns.map lnT = xs.map lineT ∧ lns.length = ps.length ∧ ∀ ln ∈ lns, 0 ≤ ln.1 ∧ ln.1 ≤ 100 ∧ ln.2.length ≤ 2000000 := by
  obtain ⟨ps, hnd, hm, hs, pr⟩ := h
  have hm2 : ∀ p, p ∈ ps ↔ ∃ t ∈ ms.map (·.1) ++ found.map (·.1), p ≠ [] ∧ p <+: t := fun p => by
    rw [hm, hr.mem]
    constructor
    · rintro (⟨m, hmm, hx⟩ | ⟨r, hrr, hx⟩)
      · exact ⟨m.1, List.mem_append_left _ (List.mem_map.mpr ⟨m, hmm, rfl⟩), hx⟩
      · exact ⟨r.1, List.mem_append_right _ (List.mem_map.mpr ⟨r, hrr, rfl⟩), hx⟩
    · rintro ⟨t, ht, hx⟩
      rcases List.mem_append.mp ht with ht | ht
      · obtain ⟨m, hmm, rfl⟩ := List.mem_map.mp ht
        exact .inl ⟨m, hmm, hx⟩
      · obtain ⟨r, hrr, rfl⟩ := List.mem_map.mp ht
        exact .inr ⟨r, hrr, hx⟩
  have hall : ∀ t ∈ ms.map (·.1) ++ found.map (·.1), HPath by_ t := fun t ht => by
    rcases List.mem_append.mp ht with ht | ht
    · obtain ⟨m, hmm, rfl⟩ := List.mem_map.mp ht
      exact hmp m hmm
    · obtain ⟨r, hrr, rfl⟩ := List.mem_map.mp ht
      exact (hf r hrr).1
  have hpath : ∀ p ∈ ps, HPath by_ p := fun p hp => by
    obtain ⟨t, ht, h0, hx⟩ := (hm2 p).mp hp
    exact prefix_hpath (hall t ht) h0 hx
  have hcl : ∀ p ∈ ps, ∀ q, q ≠ [] → q <+: p → q ∈ ps := fun p hp q h0 hq => by
    obtain ⟨t, ht, _, hx⟩ := (hm2 p).mp hp
    exact (hm2 q).mpr ⟨t, ht, h0, hq.trans hx⟩
  obtain ⟨xs, px, ex⟩ := lines_x (fun p hp => (hpath p hp).ne) pr
  have hfd : ∀ r ∈ found, FdOk r := fun r hrr => ⟨(hf r hrr).1.ok, (hf r hrr).2.1.ok, (hf r hrr).2.2.ok⟩
  have hlx := Paired.length px
  refine ⟨ps, xs, ⟨hnd, hm2, hpath, px, ?_, fun x hx => ?_, ?_, fun i x hx => ?_⟩, ex, (Paired.length pr).symm, fun ln hln => ?_⟩
  · have h1 := List.Nodup.length_le_of_subset hnd (l₂ := (ms.map (·.1) ++ found.map (·.1)).flatMap prefsOf) fun p hp => by
      obtain ⟨t, ht, hx⟩ := (hm2 p).mp hp
      exact List.mem_flatMap.mpr ⟨t, ht, prefsOf_mem.mpr hx⟩
    have h2 := flat_lenP 7 (ms.map (·.1) ++ found.map (·.1)) fun t ht => (hall t ht).few
    rw [List.length_append, List.length_map, List.length_map] at h2
    omega
  · obtain ⟨p, hp, f⟩ := pr_mem2 px hx
    have hpp := hpath p hp
    have rf := hr.runs p
    have hg : ∀ g ∈ partsOf rows p, PgOk g := fun g hg => (rf.ok g hg).1
    have hgl : (partsOf rows p).length ≤ 64 := by have := rf.len; omega
    obtain ⟨zs, hzn, hzm, e2⟩ := f.snd
    have hzh : ∀ e ∈ zs, HPath by_ e := fun e he => by
      obtain ⟨r, hr', rfl⟩ := List.mem_map.mp ((hzm e).mp he)
      exact (hf r (List.mem_filter.mp hr').1).2.2
    have hlast : x.1.getLastD ⟨#[]⟩ = shownS (p.getLastD ⟨#[]⟩) := by rw [f.fst]; exact last_map hpp.ne
    refine ⟨by rw [f.fst]; intro e; exact hpp.ne (List.map_eq_nil_iff.mp e), by rw [f.fst, List.length_map]; have := hpp.few; omega, fun w hw => ?_, ?_⟩
    · rw [hlast, e2] at hw
      rcases List.mem_cons.mp hw with rfl | hw
      · obtain ⟨a, b, e⟩ : ∃ a b, p = a ++ [b] := by
          rcases snoc_cases p with e | e
          · exact absurd e hpp.ne
          · exact e
        have hb : p.getLastD ⟨#[]⟩ = b := by rw [e]; simp [List.getLastD_eq_getLast?]
        rw [hb]
        exact wd_head hpp (by rw [e]; simp)
      · rcases List.mem_append.mp hw with hw | hw
        · rcases List.mem_append.mp hw with hw | hw
          · unfold stretchWords at hw
            split at hw
            · cases hw
            · rename_i hne
              rw [List.mem_singleton.mp hw]
              exact wd_stretches hne hg
          · obtain ⟨r, hr', rfl⟩ := List.mem_map.mp hw
            exact wd_see (hf r (List.mem_filter.mp hr').1).2.2
        · unfold tailWords at hw
          split at hw
          · cases hw
          · rename_i hne
            rw [List.mem_singleton.mp hw]
            exact wd_alsoS hne hzh
    · unfold lineT
      rw [app_len, mul_len, hlast, e2]
      have ht := textIs_len (t := Txt.join (Str.ofString "  ") (headWords p (partsOf rows p) ++ seeWords p found ++ tailWords zs)) hpp.ok.1 hgl hg (by omega) hfd ⟨zs, hzn, hzm, rfl⟩
      have e3 : shownS (p.getLastD ⟨#[]⟩) :: (stretchWords (partsOf rows p) ++ seeWords p found ++ tailWords zs) = headWords p (partsOf rows p) ++ seeWords p found ++ tailWords zs := rfl
      rw [e3, f.fst, List.length_map]
      have := hpp.few
      omega
  · have e := x_fst px
    rw [e, List.nodup_iff_pairwise_ne, List.pairwise_map]
    exact List.Pairwise.imp_of_mem (fun {a b} ha hb hab e => hab (shownS_inj_on (hpath a ha) (hpath b hb) e)) hnd
  · obtain ⟨p, hp, f⟩ := pr_get2 px hx
    have hpp := hpath p (List.mem_of_getElem? hp)
    rw [f.fst]
    rcases snoc_cases p with e | ⟨par, h, e⟩
    · exact absurd e hpp.ne
    · subst e
      rw [List.map_append]
      show (par.map shownS ++ [shownS h]).dropLast <+: _
      rw [List.dropLast_concat]
      by_cases h0 : par = []
      · subst h0
        exact List.nil_prefix
      · obtain ⟨r, hi, hr', hpre⟩ := above hs hcl hp h0
        obtain ⟨y, hy, fy⟩ := pr_get px hr'
        have := stAt_succ hy
        rw [show i - 1 + 1 = i by omega] at this
        rw [this, fy.fst]
        exact hpre
  · obtain ⟨p, hp, e1, e2⟩ := pr_mem2 pr hln
    have hpp := hpath p hp
    have hpl : 0 < p.length := List.length_pos_iff.mpr hpp.ne
    have hfew := hpp.few
    have rf := hr.runs p
    have := textIs_len hpp.ok.1 (by have := rf.len; omega) (fun g hg => (rf.ok g hg).1) (by omega) hfd e2
    exact ⟨by omega, by omega, by omega⟩
end PB
/-! PbLaw8: the law -/
namespace PB
open PySem PySem.Spec PyProof.Rows L2 TL

theorem op_neK {X : Cx} {K : PySem.W.Frag} (hu : X.A.units + 64 < cLine) (h : X.K = K) : OpR X (compareOp .NotEq) (rNeD K) := by
  subst h
  exact op_neD hu
def cutX {α : Type} (xs : List α) (lo hi : Option Int) : List α := (xs.drop (HT.sIx xs.length 0 lo)).take (HT.sIx xs.length xs.length hi - HT.sIx xs.length 0 lo)
theorem cutV_map (ns : List Int) (lo hi : Option Int) : cutV (ns.map V.int) lo hi = (cutX ns lo hi).map V.int := by
  unfold cutV cutX
  rw [List.length_map, ← List.map_drop, ← List.map_take]
theorem cutX_a (ns : List Int) : (cutX ns (some 1) (some 201)).length ≤ ns.length - 1 := by
  unfold cutX
  rw [show (some (1 : Int)) = some ((1 : Nat) : Int) from rfl, HT.sIx_nat, List.length_take, List.length_drop]
  omega
theorem cutX_b (ns : List Int) : (cutX ns (some 1) (some 9)).length ≤ 8 := by
  unfold cutX
  rw [show (some (1 : Int)) = some ((1 : Nat) : Int) from rfl, HT.sIx_nat, show (some (9 : Int)) = some ((9 : Nat) : Int) from rfl, HT.sIx_nat, List.length_take, List.length_drop]
  omega
theorem cutX_c (ns : List Int) : (cutX ns (some (-8)) none).length ≤ 8 := by
  unfold cutX
  rw [HT.sIx_none, List.length_take, List.length_drop]
  have : HT.sIx ns.length 0 (some (-8)) = ((-8 : Int) + (ns.length : Int)).toNat := by
    unfold HT.sIx
    show (if (-8 : Int) < 0 then ((-8 : Int) + (ns.length : Int)).toNat else _) = _
    rw [if_pos (by decide)]
  rw [this]
  omega
theorem kinv_len {β : Type} {R : Rl β} {g : Path → β} {H : Hp} {d : Addr} {kvs : List (List Key × V)} {ins : List Path} (h : KInv R g H d kvs ins) (hn : ins.Nodup) : kvs.length = ins.length := by
  refine Nat.le_antisymm h.len ?_
  have hk : (ins.map keysOf).Nodup := by
    rw [List.nodup_iff_pairwise_ne, List.pairwise_map]
    exact hn.imp fun h e => h (keysOf_inj e)
  have := List.Nodup.length_le_of_subset hk (l₂ := kvs.map (·.1)) fun k hk => by
    obtain ⟨p, hp, rfl⟩ := List.mem_map.mp hk
    exact (h.keys _).mpr ⟨p, hp, rfl⟩
  rwa [List.length_map, List.length_map] at this
section
variable {P : Program} {w : World} {K : PySem.W.Frag} {mg : Str → Option Value} {base : Heap}
theorem scLaw : FnScope ["_law_script", "_law_by", "_law_most", "_law_first", "_law_book_here", "_law_marks_here", "_law_rows", "_law_full", "_law_found", "_law_told", "_law_paths_here", "_law_numbers", "_law_path", "_law_key", "_law_row", "_law_line", "_law_head"] ["_law_script"] (defScope sLaw) := ⟨rfl, rfl, rfl, by decide +kernel, rfl, by decide +kernel, by decide +kernel⟩
def spLaw (K : PySem.W.Frag) : Sp := fun vs H Q _ => ∃ (a : Addr) (ns : List Int), vs = [.ref a] ∧ SqL K H a (ns.map V.int) ∧ ns.length ≤ 63 ∧ ∀ H', Q (.bl true) H'
theorem okLaw (T : Top K mg) {f : Addr} {fd : FuncData} (F : Fun K "law" "law" sLaw f fd) : FnOk P w K mg base CX0 9 f fd ["_law_script"] (spLaw K) := by
  refine F.ok scLaw (fun vs H Q E h => ?_) (fun cdv A outer s0 H vs Q E hr h => ?_)
  · obtain ⟨a, ns, rfl, _⟩ := h
    rfl
  · obtain ⟨a, ns, rfl, hS, hnz, q⟩ := h
    refine ⟨_, pss_cons (ps_set (i := 1) scLaw.nd rfl (.inl rfl) (pe_f (okCellAt T) hr (by decide) rfl (pa_cons (pv 0) (pa_cons pe_int pa_nil))))
      (pss_cons (ps_asg (pe_f (okSettings T) hr (by decide) rfl (pa_cons (pv 1) pa_nil)) (pg_tup rfl (pgs_cons (pg_name (i := 2) scLaw.nd rfl (.inl rfl)) (pgs_cons (pg_name (i := 3) scLaw.nd rfl (.inl rfl)) pgs_nil))))
      (pss_cons (ps_set (i := 4) scLaw.nd rfl (.inl rfl) (pe_f (okBook T) hr (by decide) rfl (pa_cons (pe_slice sl_list (pv 0) (po_some pe_int) (po_some pe_int)) pa_nil)))
      (pss_cons (ps_set (i := 5) scLaw.nd rfl (.inl rfl) (pe_f (okMarks T) hr (by decide) rfl (pa_cons (pe_slice sl_list (pv 0) (po_some pe_int) (po_some pe_int)) (pa_cons (pe_callB call_len_seq (by rfl) T.len PySem.boot_len (pa_cons (pv 4) pa_nil)) (pa_cons (pv 1) pa_nil)))))
      (pss_cons (ps_set (i := 6) scLaw.nd rfl (.inl rfl) (pe_f (okEntries T) hr (by decide) rfl (pa_cons (pv 4) (pa_cons (pv 2) (pa_cons (pv 3) (pa_cons (pv 5) pa_nil))))))
      (pss_cons (ps_setLc (i := 7) (own := [("_law_row", 14)]) (g := gName 14) rfl scLaw.nd rfl rfl (sw_true rfl rfl rfl (by decide +kernel)) (pi_list (pv 6)) (blkOk_by (own := [("_law_row", 14)]) (N := ["_law_script", "_law_by", "_law_most", "_law_first", "_law_book_here", "_law_marks_here", "_law_rows", "_law_full", "_law_found", "_law_told", "_law_paths_here", "_law_numbers", "_law_path", "_law_key", "_law_row", "_law_line", "_law_head"]) (sc := defScope sLaw) (by decide +kernel))
        (fun _ _ _ _ _ => pg_name (i := 14) scLaw.nd rfl (Or.inl rfl)) (fun _ _ _ _ _ => pts_one (pt_cmpR (op_neK (K := K) hr.units rfl) (pe_ix (ixT (K := K) rfl) (pv 14) pe_int (fun _ _ => rfl)) (pe_lst pa_nil) (nomark _)))
        (fun _ _ _ _ _ => pe_ix (ixT (K := K) rfl) (pv 14) pe_int (fun _ _ => rfl)))
      (pss_cons (ps_set (i := 8) scLaw.nd rfl (.inl rfl) (pe_f (okWays T) hr (by decide) rfl (pa_cons (pv 6) (pa_cons (pe_f (okSees T) hr (by decide) rfl (pa_cons (pe_slice sl_list (pv 0) (po_some (pe_un un_neg pe_int)) po_none)
        (pa_cons (pe_lc (own := [("_law_row", 14)]) (g := gName 14) (tt := tYes) rfl scLaw.nd (pi_list (pv 6)) (blkOk_by (own := [("_law_row", 14)]) (N := ["_law_script", "_law_by", "_law_most", "_law_first", "_law_book_here", "_law_marks_here", "_law_rows", "_law_full", "_law_found", "_law_told", "_law_paths_here", "_law_numbers", "_law_path", "_law_key", "_law_row", "_law_line", "_law_head"]) (sc := defScope sLaw) (by decide +kernel))
          (fun _ _ _ _ _ => pg_name (i := 14) scLaw.nd rfl (Or.inl rfl)) (fun _ _ _ _ _ => pts_nil) (fun _ _ _ _ _ => pe_ix (ixT (K := K) rfl) (pv 14) pe_int (fun _ _ => rfl)))
        (pa_cons (pv 7) (pa_cons (pv 1) pa_nil))))) pa_nil))))
      (pss_cons (ps_set (i := 9) scLaw.nd rfl (.inl rfl) (pe_f (okRead T) hr (by decide) rfl (pa_cons (pe_lc (own := [("_law_line", 15)]) (g := gName 15) (tt := tYes) rfl scLaw.nd (pi_list (pe_f (okLines T) hr (by decide) rfl (pa_cons (pv 6) (pa_cons (pv 8) pa_nil)))) (blkOk_by (own := [("_law_line", 15)]) (N := ["_law_script", "_law_by", "_law_most", "_law_first", "_law_book_here", "_law_marks_here", "_law_rows", "_law_full", "_law_found", "_law_told", "_law_paths_here", "_law_numbers", "_law_path", "_law_key", "_law_row", "_law_line", "_law_head"]) (sc := defScope sLaw) (by decide +kernel))
          (fun _ _ _ _ _ => pg_name (i := 15) scLaw.nd rfl (Or.inl rfl)) (fun _ _ _ _ _ => pts_nil) (fun _ _ _ _ _ => pe_f (okWritten T) hr (by decide) rfl (pa_cons (pv 15) pa_nil))) pa_nil)))
      (pss_cons (ps_set (i := 10) scLaw.nd rfl (.inl rfl) (pe_f (okPaths T) hr (by decide) rfl (pa_cons (pv 5) (pa_cons (pv 8) pa_nil))))
      (pss_cons (ps_if (PW.pt (pw_or (pt_cmp (pc_isN (pv 9))) (pw_or1 (pt_cmpR op_ne (pe_callB (call_len_dT) (by rfl) T.len PySem.boot_len (pa_cons (pv 9) pa_nil)) (pe_callB call_len_seq (by rfl) T.len PySem.boot_len (pa_cons (pv 10) pa_nil)) (nomark _))))) (pss_one (ps_ret pe_bl)) pss_nil)
      (pss_cons (ps_set (i := 11) scLaw.nd rfl (.inl rfl) (pe_f (okPages T) hr (by decide) rfl (pa_cons (pv 4) (pa_cons (pv 2) (pa_cons (pv 3) pa_nil)))))
      (pss_cons (ps_for PassesOwn.never rfl (pi_list (pv 10)) (pg_name (i := 12) scLaw.nd rfl (.inl rfl))
        (pss_cons (ps_set (i := 13) scLaw.nd rfl (.inl rfl) (pe_callTy call_tuple_of (by rfl) T.tuple (by decide +kernel) (pa_cons (pe_lc (own := [("_law_head", 16)]) (g := gName 16) (tt := tYes) rfl scLaw.nd (pi_tup (pv 12)) (blkOk_by (own := [("_law_head", 16)]) (N := ["_law_script", "_law_by", "_law_most", "_law_first", "_law_book_here", "_law_marks_here", "_law_rows", "_law_full", "_law_found", "_law_told", "_law_paths_here", "_law_numbers", "_law_path", "_law_key", "_law_row", "_law_line", "_law_head"]) (sc := defScope sLaw) (by decide +kernel))
          (fun _ _ _ _ _ => pg_name (i := 16) scLaw.nd rfl (Or.inl rfl)) (fun _ _ _ _ _ => pts_nil) (fun _ _ _ _ _ => pe_f (okShown T) hr (by decide) rfl (pa_cons (pv 16) pa_nil))) pa_nil)))
        (pss_one (ps_if (PW.pt (pw_or (pt_cmp (pc_dnotin (hu_of hr) (pv 13) (pv 9))) (pw_or1 (pt_not (pt_val (pe_f (okPathSo T) hr (by decide) rfl (pa_cons (pv 12) (pa_cons (pe_dget (hu_of hr) (pv 9) (pv 13) (fun _ _ => rfl)) (pa_cons (pv 11) (pa_cons (pv 5) (pa_cons (pv 8) pa_nil)))))))))))
          (pss_one (ps_ret pe_bl)) pss_nil))))
      (pss_one (ps_ret pe_bl))))))))))))), ?_⟩
    -- by, most, first
    refine ⟨_, rfl, a, ns, rfl, hS, ?_⟩
    show gName 1 (V.int (ns.headD 0)) _ _ _
    generalize ns.headD 0 = by_
    refine ⟨_, rfl, by_, rfl, fun H1 t most first s1 ht hf0 hf1 => ⟨t, _, rfl, sqT ht, rfl, _, _, rfl, _, _, rfl, rfl, ?_⟩⟩
    -- the book
    refine ⟨_, rfl, 1, rfl, 201, rfl, a, _, rfl, s1.seq hS, fun c1 nc1 => ?_⟩
    rw [cutV_map]
    have sc1 := same_upd nc1 (o := .lst ((cutX ns (some 1) (some 201)).map V.int))
    have la := cutX_a ns
    refine ⟨c1, cutX ns (some 1) (some 201), rfl, upd_same, by omega, fun H2 b bs s2 nb hb hbl => ?_⟩
    have hbz : bs.length ≤ 62 := by omega
    have s02 : Same H H2 := s1.trans (sc1.trans s2)
    -- the marks
    refine ⟨_, rfl, 1, rfl, 9, rfl, a, _, rfl, s02.seq hS, fun c2 nc2 => ?_⟩
    rw [cutV_map]
    have sc2 := same_upd nc2 (o := .lst ((cutX ns (some 1) (some 9)).map V.int))
    have lb := cutX_b ns
    refine ⟨_, rfl, b, _, rfl, .inl (sqL (sc2 _ _ hb)), _, rfl, c2, cutX ns (some 1) (some 9), (bs.map V.bl).length, by_, rfl, upd_same, by omega, by rw [List.length_map]; omega, fun H3 mo us ms s3 nmo hmo pm hml hmk => ?_⟩
    rw [List.length_map] at hmk
    have s23 := sc2.trans s3
    have hb3 := s23 _ _ hb
    have hmz : ms.length ≤ 8 := by omega
    -- the entries
    refine ⟨_, rfl, _, rfl, _, rfl, _, rfl, b, mo, most, first, bs, ms, us, rfl, hb3, hmo, pm, by omega, by omega, fun m hm => ⟨(hmk m hm).p.h.ok, (hmk m hm).p.ne, (hmk m hm).lo, (hmk m hm).le, (hmk m hm).hi⟩, fun H4 ro rows s4 nro hrows hrof => ?_⟩
    have hnl := pagesL_len most first bs
    have hnb : ∀ n ∈ pagesL most first bs, 0 ≤ n ∧ n < 10 ^ 70 := fun n hn => by
      have h1 := pagesGo_ge most bs first 0 false n hn
      have h2 : (10 : Int) ^ 60 + 62 < 10 ^ 70 := by decide +kernel
      have h3 : (bs.length : Int) ≤ 62 := by omega
      exact ⟨by omega, by omega⟩
    have RF := rows_facts (by_ := by_) hnl (by omega) hnb hmk hrof
    have hnz64 : (pagesL most first bs).length < 64 := by omega
    have hrz : rows.length ≤ 48 := by have := RF.few; omega
    have hrok := RF.row hnz64
    obtain ⟨_, rvs, hro, hrl, prr⟩ := hrows
    cases hro
    have s03 : Same H H3 := s02.trans s23
    have s04 : Same H H4 := s03.trans s4
    -- full
    have hrvl := Paired.length prr
    refine ⟨_, rfl, ro, rfl, ⟨_, sqL hrl⟩, fun fu nfu => ?_⟩
    refine lc_f (walk_list (xs := rvs)) rows (fun r => if (!r.2.isEmpty) = true then some r.1 else none) RPath mono_path hrvl (by rw [← hrvl]; omega) nfu (fun H6 s6 => sqL (s6 _ _ hrl)) (fun i r x H6 H7 Kn Ks hri sm6 hacc hy kn ks => ?_) (fun H5 fvs s5 hfu pfu => ?_)
    · obtain ⟨rfl, hx⟩ := hy
      obtain ⟨x', hx', rr⟩ := pr_get prr hri
      rw [hx] at hx'
      cases hx'
      obtain ⟨ra, rq, rl, rfl, hra, hrq, hrg⟩ := mono_row _ _ _ _ sm6 rr
      obtain ⟨rl', gvs, e, hgl, pg⟩ := hrg
      cases e
      obtain ⟨acc, hacc⟩ := hacc
      refine ⟨rfl, _, rfl, ra, _, 1, _, rfl, rfl, sqT hra, atI_nat (j := 1) rfl, Nat.zero_le _, fun l nl => ?_⟩
      have sl := same_upd nl (o := .lst [])
      refine ne_nilB (n := 2) r.2.isEmpty (by cases r.2 <;> rfl) (.lst (sqL (sl _ _ hgl)) (dp_pair (fun b v h => dp_pg h) (Paired.monoR mono_pg sl pg))) upd_same (low_list fun d hd => by obtain ⟨x, _, rfl⟩ := List.mem_map.mp hd; exact low_pg x) (by decide) ⟨_, rfl, ?_⟩
      rcases Bool.eq_false_or_eq_true r.2.isEmpty with h | h
      · exact ifN h (ks _ sl (by rw [h]; rfl))
      · refine ifY h ⟨_, rfl, ra, _, 0, _, rfl, rfl, sqT (sl _ _ hra), atI_nat (j := 0) rfl, kn _ _ r.1 sl (by rw [h]; rfl) (path_t (tsame_erase (sl _ _ hacc)) ⟨rq, rfl, sl _ _ hrq⟩)⟩
    rw [filterMap_if (fun r : Row => !r.2.isEmpty) (fun r => r.1)] at pfu
    have pfu : Paired (fun b y => RPath b y H5) (fullOf rows) fvs := L2.Paired.mapP pfu fun b y r => mono_path _ _ _ _ (erase_same _ _) r
    have s45 := s4.trans s5
    have s05 := s04.trans s5
    have prr5 := Paired.monoR mono_row s5 prr
    -- the sees
    refine ⟨_, rfl, _, rfl, 8, rfl, -8, rfl, a, _, rfl, s05.seq hS, fun c3 nc3 => ?_⟩
    rw [cutV_map]
    have sc3 := same_upd nc3 (o := .lst ((cutX ns (some (-8)) none).map V.int))
    have lc := cutX_c ns
    have hrl3 := sc3 _ _ (s5 _ _ hrl)
    have prr3 := Paired.monoR mono_row sc3 prr5
    refine ⟨_, rfl, ro, rfl, ⟨_, sqL hrl3⟩, fun tu ntu => ?_⟩
    refine lc_m (walk_list (xs := rvs)) rows (fun r => r.1) RPath mono_path hrvl (by rw [← hrvl]; omega) ntu (fun H6 s6 => sqL (s6 _ _ hrl3)) (fun i r x H6 H7 Kn hri sm6 hacc hy kn => ?_) gName_mono (fun H6 tvs s6 htu ptu => ?_)
    · obtain ⟨rfl, hx⟩ := hy
      obtain ⟨x', hx', rr⟩ := pr_get prr3 hri
      rw [hx] at hx'
      cases hx'
      obtain ⟨ra, rq, rl, rfl, hra, hrq, hrg⟩ := mono_row _ _ _ _ sm6 rr
      obtain ⟨acc, hacc⟩ := hacc
      exact ⟨rfl, _, rfl, ra, _, 0, _, rfl, rfl, sqT hra, atI_nat (j := 0) rfl, kn _ _ (Same.refl _) (path_t (tsame_erase hacc) ⟨rq, rfl, hrq⟩)⟩
    have ptu : Paired (fun b y => RPath b y H6) (rows.map (·.1)) tvs := L2.Paired.mapP ptu fun b y r => mono_path _ _ _ _ (erase_same _ _) r
    have s56 := sc3.trans s6
    have s06 := s05.trans s56
    refine ⟨_, rfl, _, rfl, c3, tu, fu, by_, cutX ns (some (-8)) none, rows.map (·.1), fullOf rows, tvs, fvs, rfl, s6 _ _ upd_same, lc, htu, ptu, s56 _ _ hfu, Paired.monoR mono_path s56 pfu, RF.path, fun p hp => ((full_mem RF).mp hp).1, full_ne RF (fun m hm => (hmk m hm).p.ne), by rw [List.length_map]; omega, fun H7 so us7 ss fr E s7 nso hso pss si hfr hssz hEz => ?_⟩
    have SO := sees_ok RF hfr hEz si
    have s67 := s56.trans s7
    have prr7 := Paired.monoR mono_row s67 prr5
    -- the ways
    refine ⟨ro, so, rows, rvs, ss, us7, muE E, finE E, rfl, s67 _ _ (s5 _ _ hrl), prr7, RF.nd, by omega, hso, pss, by omega, SO, fun H8 fo fds s8 nfo hfds hfdl hfdm => ?_⟩
    obtain ⟨_, fdvs, hfo, hfov, pfd⟩ := hfds
    cases hfo
    have hpH : ∀ p, (p ∈ rows.map (·.1) ∨ p ∈ fr) → HPath by_ p := fun p hp => by
      rcases hp with hp | hp
      · exact (RF.path p hp).h
      · exact hfr p hp
    have hfH : ∀ r ∈ fds, HPath by_ r.1 ∧ HPath by_ r.2.1 ∧ HPath by_ r.2.2.2.1 := fun r hr' => by
      obtain ⟨t, ht, e1, e2, _, e4⟩ := hfdm r hr'
      have h1 := si.p t ht
      rw [e1, e2, e4]
      exact ⟨hpH _ h1.1, hpH _ h1.2, hpH _ (.inl (si.known _ h1.2))⟩
    have s78 := s67.trans s8
    have s58 : Same H5 H8 := s78
    have s48 : Same H4 H8 := s5.trans s58
    have s38 : Same H3 H8 := s4.trans s48
    have s08 : Same H H8 := s05.trans s58
    have prr8 := Paired.monoR mono_row s78 prr5
    have hrl8 := s58 _ _ (s5 _ _ hrl)
    -- the lines
    refine ⟨_, rfl, _, rfl, ro, fo, rows, rvs, fds, fdvs, rfl, hrl8, prr8, hfov, pfd, RF.nd, by omega, hrok, by omega, fun r hr' => ⟨⟨(hfH r hr').1.ok, (hfH r hr').2.1.ok, (hfH r hr').2.2.ok⟩, (hfH r hr').1.ne⟩, fun H9 lo lns s9 nlo hlns hlof => ?_⟩
    obtain ⟨ps, xs, LF, elx, ell, hlok⟩ := lines_facts RF hnz64 (by omega) (by omega) (fun m hm => (hmk m hm).p.h) hfH hlof
    obtain ⟨_, lvs, hlo, hlov, pln⟩ := hlns
    cases hlo
    have hlvl := Paired.length pln
    have hpsz := LF.few
    refine ⟨lo, rfl, ⟨_, sqL hlov⟩, fun tx ntx => ?_⟩
    refine lc_m (walk_list (xs := lvs)) lns lnT RStr mono_str hlvl (by rw [← hlvl]; omega) ntx (fun H10 s10 => sqL (s10 _ _ hlov)) (fun i r x H10 H11 Kn hri sm10 hacc hy kn => ?_) gName_mono (fun H10 txs s10 htx ptx => ?_)
    · obtain ⟨rfl, hx⟩ := hy
      obtain ⟨x', hx', rr⟩ := pr_get pln hri
      rw [hx] at hx'
      cases hx'
      have ok := hlok r (List.mem_of_getElem? hri)
      have en : ((r.1.toNat : Nat) : Int) = r.1 := Int.toNat_of_nonneg ok.1
      refine ⟨rfl, _, rfl, x, r.1.toNat, r.2, rfl, ?_, by omega, ok.2.2, kn _ _ (Same.refl _) rfl⟩
      rw [en]
      exact mono_line _ _ _ _ sm10 rr
    have ptx := pr_str ptx
    subst ptx
    rw [elx] at htx
    have hxl : xs.length = ps.length := (Paired.length LF.pr).symm
    refine ⟨tx, xs, rfl, htx, by omega, LF.ok, LF.xnd, LF.ch, fun H11 d kvs s11 nd ki => ?_⟩
    have s9b := s9.trans (s10.trans s11)
    have s0b := s08.trans s9b
    -- the paths
    have s3b := s38.trans s9b
    refine ⟨_, rfl, _, rfl, mo, fo, ms.map (·.1), fds.map (·.1), us, fdvs, rfl, s3b _ _ hmo, ?_, s9b _ _ hfov, ?_, by rw [List.length_map]; omega, by rw [List.length_map]; omega, fun p hp => ?_, fun H12 po rs rpvs s12 npo hpo prp hrn hrm => ?_⟩
    · refine pr_map (L2.Paired.mapP (Paired.monoR mono_mark s3b pm) fun m v r => ?_)
      obtain ⟨a, q, rfl, ha, hq⟩ := r
      exact ⟨a, q, _, rfl, ha, hq⟩
    · refine pr_map (L2.Paired.mapP (Paired.monoR mono_fd s9b pfd) fun m v r => ?_)
      obtain ⟨a, q, g, e, rfl, ha, hq, _, _⟩ := r
      exact ⟨a, q, _, rfl, ha, hq⟩
    · rcases List.mem_append.mp hp with hp | hp
      · obtain ⟨m, hm, rfl⟩ := List.mem_map.mp hp
        have := (hmk m hm).p.few
        omega
      · obtain ⟨r, hr', rfl⟩ := List.mem_map.mp hp
        have := (hfH r hr').1.few
        omega
    have hrs : ∀ p, p ∈ rs ↔ p ∈ ps := fun p => by rw [hrm, LF.mem]
    have hrl : rs.length = ps.length := Nat.le_antisymm (List.Nodup.length_le_of_subset hrn fun p hp => (hrs p).mp hp) (List.Nodup.length_le_of_subset LF.nd fun p hp => (hrs p).mpr hp)
    have ki12 := ki.same (mono_list mono_str) s12
    have hkl := kinv_len ki LF.xnd
    have hrpl := Paired.length prp
    -- the count
    refine ⟨_, rfl, _, rfl, ifF (decide_eq_false fun z => nomatch z) ?_⟩
    refine ⟨_, rfl, d, kvs, rfl, ki12.dat, _, rfl, po, _, rfl, .inl (sqL hpo), rfl, _, rfl, ifN (decide_eq_true (congrArg V.int ?_)) ?_⟩
    · rw [hkl, List.length_map, hxl, ← hrl, hrpl]
    -- the numbers
    have s2c := s23.trans (s3b.trans s12)
    refine ⟨_, rfl, _, rfl, _, rfl, b, most, first, bs, rfl, s2c _ _ hb, by omega, fun H13 no s13 nno hno => ?_⟩
    have s1d := s12.trans s13
    have ki13 := ki.same (mono_list mono_str) s1d
    -- each path
    refine ⟨_, rfl, po, rfl, ⟨_, sqL (s13 _ _ hpo)⟩, ?_⟩
    refine for_it (walk_list (xs := rpvs)) (fun i σ H14 => ∃ (y12 y13 : Option V), σ = [some (.ref a), some (.int by_), some (.int most), some (.int first), some (.ref b), some (.ref mo), some (.ref ro), some (.ref fu), some (.ref fo), some (.ref d), some (.ref po), some (.ref no), y12, y13, none, none, none] ∧ Same H13 H14) ⟨none, none, rfl, Same.refl _⟩ (fun i σ H14 hi hp => ?_) (fun i x σ H14 H15 hi hp hy => ?_) (fun σ H14 hp => ?_)
    · obtain ⟨_, _, _, sm⟩ := hp
      exact sqL (sm _ _ (s13 _ _ hpo))
    · obtain ⟨y12, y13, rfl, sm⟩ := hp
      obtain ⟨rfl, hx⟩ := hy
      obtain ⟨p, hp0, rp⟩ := pr_get2 prp hx
      have hpm : p ∈ ps := (hrs p).mp (List.mem_of_getElem? hp0)
      have hpp := LF.path p hpm
      obtain ⟨pa, rfl, hpa⟩ := rp
      have s15 := s13.trans sm
      have hpa15 := s15 _ _ hpa
      have hfew := hpp.few
      -- the key
      refine ⟨_, rfl, pa, rfl, ⟨_, sqT hpa15⟩, fun D hD => ?_⟩
      refine lc_m (walk_tup (xs := p.map V.str)) p shownS RStr mono_str (by rw [List.length_map]) (by rw [List.length_map]; omega) hD (fun H1 s1 => sqT (s1 _ _ hpa15)) (fun i h x H16 H17 Kn hh sm16 hacc hy kn => ?_) gName_mono (fun H16 ys s16 hD16 py => ?_)
      · obtain ⟨rfl, hx⟩ := hy
        rw [List.getElem?_map, hh] at hx
        cases hx
        exact ⟨rfl, _, rfl, h, rfl, Nat.le_trans (hpp.ok.1.short h (List.mem_of_getElem? hh)) (by decide), fun H3 s3 => kn _ _ s3 rfl⟩
      have py := pr_str py
      subst py
      refine ⟨D, _, rfl, .inl ⟨sqL hD16, fun t nt => ?_⟩⟩
      have st := same_upd nt (o := .tup ((p.map shownS).map V.str))
      have s17 := sm.trans (s16.trans st)
      have ki17 := ki13.same (mono_list mono_str) s17
      obtain ⟨j, hj⟩ := List.getElem?_of_mem hpm
      obtain ⟨x0, hx0, XF⟩ := pr_get LF.pr hj
      have hx0m := List.mem_of_getElem? hx0
      obtain ⟨vk, hvk⟩ := ki17.has.mpr (show p.map shownS ∈ xs.map (·.1) from List.mem_map.mpr ⟨x0, hx0m, XF.fst⟩)
      refine ⟨_, rfl, _, rfl, d, _, rfl, DGet.t (k := keysOf (p.map shownS)) ki17.dat (by rw [keysOf_kV]; exact upd_same), _, rfl, ?_⟩
      rw [hvk]
      have rv := mono_list mono_str _ _ _ _ (erase_same _ _) (ki17.vals (p.map shownS) vk hvk)
      have erest : restOf xs (p.map shownS) = x0.2 := by
        rw [← XF.fst]
        exact restOf_mem LF.xnd hx0m
      rw [erest] at rv
      obtain ⟨zs, hzn, hzm, ex2⟩ := XF.snd
      rw [ex2] at rv
      obtain ⟨wa, wvs, rfl, hwa, pw⟩ := rv
      have pw := pr_str pw
      subst pw
      have s3e := s3b.trans (s12.trans (s13.trans s17))
      have s9e := s9b.trans (s12.trans (s13.trans s17))
      refine iteF ⟨_, rfl, _, rfl, _, rfl, d, _, rfl, by rw [← hvk]; exact DGet.t ki17.dat (by rw [keysOf_kV]; exact upd_same), _, rfl, _, rfl, _, rfl, .ref pa, p, wa, no, mo, fo, by_, pagesL most first bs, ms, us, fds, fdvs, partsOf rows p, zs, rfl, ⟨pa, rfl, s17 _ _ (s13 _ _ hpa)⟩, hpp.ok.2, hwa, s17 _ _ hno, hnz64, s3e _ _ hmo, Paired.monoR mono_mark s3e pm, by omega, fun m hm => (hmk m hm).p.h.ok.2, s9e _ _ hfov, Paired.monoR mono_fd s9e pfd, by omega, fun r hr' => ⟨(hfH r hr').1.ok.2, (hfH r hr').2.2⟩, RF.runs p, RF.iff p, hzn, hzm, fun H18 s18 => ⟨true, rfl, iteF ⟨_, _, rfl, s17.trans s18⟩⟩⟩
    · obtain ⟨y12, y13, rfl, sm⟩ := hp
      exact q H14
end
end PB
namespace PB
open PySem PySem.Spec PyProof.Rows L2 TL
theorem here_of {K : PySem.W.Frag} {h : Heap} {mg : Str → Option Value} (X : K.In h) (G : h.Ns mainGlobals mg) {x : Str} {st : Stmt} {f : Addr} {od an : Option Addr} {sl : Array (Option Value)} {oc kV dc pm cd ct : Value}
    (a : PySem.W.nsIn K mainGlobals x = some (some (.ref f))) (l : K.lookup f = some ⟨oc, od, .func (PySem.W.fnOf x x (defArgs st) (defBody st) (defScope st) .none kV dc pm an cd ct), sl⟩) (c : PySem.W.codeIn K cd x = true) (k : PySem.W.keepIn K (.ref f) = true) : Here K mg x st :=
  ⟨f, _, fun_mk l c k, PySem.W.mg_of X G a⟩
theorem const_of {K : PySem.W.Frag} {h : Heap} {mg : Str → Option Value} (X : K.In h) (G : h.Ns mainGlobals mg) {x z : Str} {v : Value} (a : PySem.W.nsIn K mainGlobals x = some (some v)) (e : ∃ t, v = .str z t) : ∃ t, mg x = some (.str z t) := by
  obtain ⟨t, rfl⟩ := e
  exact ⟨t, PySem.W.mg_of X G a⟩
theorem law_mk {l : PySem.W.OpenLaw} {w : World} {K : PySem.W.Frag} {h : Heap} {mg : Str → Option Value} {fa f2 : Addr} (X : K.In h) (G : h.Ns mainGlobals mg) (hfa : mg "law" = some (.ref fa)) (T : Here K mg "law" sLaw → Top K mg)
    {od2 an2 : Option Addr} {sl2 : Array (Option Value)} {oc2 kV2 dc2 pm2 cd2 ct2 : Value}
    (a2 : PySem.W.nsIn K mainGlobals "law" = some (some (.ref f2))) (l2 : K.lookup f2 = some ⟨oc2, od2, .func (PySem.W.fnOf "law" "law" (defArgs sLaw) (defBody sLaw) (defScope sLaw) .none kV2 dc2 pm2 an2 cd2 ct2), sl2⟩) (c2 : PySem.W.codeIn K cd2 "law" = true) (k2 : PySem.W.keepIn K (.ref f2) = true) :
    ∃ fd : FuncData, (∀ (s : Shared) (v : Value), BindsTo s fd ⟨[v], []⟩ [("_law_script", v)]) ∧ ∀ base : Heap, K.In base → base.Ns mainGlobals mg → FnOk l.prog w K mg base CX0 9 fa fd ["_law_script"] (spLaw K) := by
  have e := hfa.symm.trans (PySem.W.mg_of X G a2)
  cases e
  have F2 := fun_mk (st := sLaw) l2 c2 k2
  have T := T (here_of X G a2 l2 c2 k2)
  exact ⟨PySem.W.fnOf "law" "law" (defArgs sLaw) (defBody sLaw) (defScope sLaw) .none kV2 dc2 pm2 an2 cd2 ct2, fun s v => .of_eq rfl, fun base _ _ => okLaw T F2⟩
end PB
open PySem PySem.W PyProof.Rows
set_option maxHeartbeats 0 in
theorem PySem.Challenge.cw_pageback_k26_whole_lines_read_back_holds : PySem.Challenge.rw_pageback_k26_whole_lines_read_back.Holds := by
  w_on; o_law; k_head; (case hw => w_witness2)
  k_fill
  refine L2.walk_of (l := PySem.Challenge.rw_pageback_k26_whole_lines_read_back) (n := 63) (k := 9) (x := "_law_script") (CX := fun _ => L2.CX0) (sp := fun w => PB.spLaw _) rfl (by decide) rfl ⟨rfl, by decide, by decide⟩ (fun w h Y => PySem.W.kIn_of Y) ?F (fun _ _ a ns hl _ hS => ⟨a, ns, rfl, hS, hl, fun _ => rfl⟩) (fun _ _ _ _ _ h => h)
  case F =>
    intro w mg fa h KX G hmg
    refine' PB.law_mk KX G hmg (fun hL => PB.Top.mk (PySem.W.mg_none_of KX G ?zz0)
      (PySem.W.mg_none_of KX G ?zz1)
      (PySem.W.mg_none_of KX G ?zz2)
      (PySem.W.mg_none_of KX G ?zz3)
      (PySem.W.mg_none_of KX G ?zz4)
      (PySem.W.mg_none_of KX G ?zz5)
      (PySem.W.mg_none_of KX G ?zz6)
      (PySem.W.mg_none_of KX G ?zz7)
      (PySem.W.mg_none_of KX G ?zz8)
      (PySem.W.mg_none_of KX G ?zz9)
      (PB.const_of KX G ?cc0 ?ee0)
      (PB.const_of KX G ?cc1 ?ee1)
      (PB.const_of KX G ?cc2 ?ee2)
      (PB.here_of KX G ?a0 ?l0 ?c0 ?k0)
      (PB.here_of KX G ?a1 ?l1 ?c1 ?k1)
      (PB.here_of KX G ?a2 ?l2 ?c2 ?k2)
      (PB.here_of KX G ?a3 ?l3 ?c3 ?k3)
      (PB.here_of KX G ?a4 ?l4 ?c4 ?k4)
      (PB.here_of KX G ?a5 ?l5 ?c5 ?k5)
      (PB.here_of KX G ?a6 ?l6 ?c6 ?k6)
      (PB.here_of KX G ?a7 ?l7 ?c7 ?k7)
      (PB.here_of KX G ?a8 ?l8 ?c8 ?k8)
      (PB.here_of KX G ?a9 ?l9 ?c9 ?k9)
      (PB.here_of KX G ?a10 ?l10 ?c10 ?k10)
      (PB.here_of KX G ?a11 ?l11 ?c11 ?k11)
      (PB.here_of KX G ?a12 ?l12 ?c12 ?k12)
      (PB.here_of KX G ?a13 ?l13 ?c13 ?k13)
      (PB.here_of KX G ?a14 ?l14 ?c14 ?k14)
      (PB.here_of KX G ?a15 ?l15 ?c15 ?k15)
      (PB.here_of KX G ?a16 ?l16 ?c16 ?k16)
      (PB.here_of KX G ?a17 ?l17 ?c17 ?k17)
      (PB.here_of KX G ?a18 ?l18 ?c18 ?k18)
      (PB.here_of KX G ?a19 ?l19 ?c19 ?k19)
      (PB.here_of KX G ?a20 ?l20 ?c20 ?k20)
      (PB.here_of KX G ?a21 ?l21 ?c21 ?k21)
      (PB.here_of KX G ?a22 ?l22 ?c22 ?k22)
      (PB.here_of KX G ?a23 ?l23 ?c23 ?k23)
      (PB.here_of KX G ?a24 ?l24 ?c24 ?k24)
      (PB.here_of KX G ?a25 ?l25 ?c25 ?k25)
      (PB.here_of KX G ?a26 ?l26 ?c26 ?k26)
      (PB.here_of KX G ?a27 ?l27 ?c27 ?k27)
      (PB.here_of KX G ?a28 ?l28 ?c28 ?k28)
      (PB.here_of KX G ?a29 ?l29 ?c29 ?k29)
      (PB.here_of KX G ?a30 ?l30 ?c30 ?k30)
      (PB.here_of KX G ?a31 ?l31 ?c31 ?k31)
      (PB.here_of KX G ?a32 ?l32 ?c32 ?k32)
      (PB.here_of KX G ?a33 ?l33 ?c33 ?k33)
      (PB.here_of KX G ?a34 ?l34 ?c34 ?k34)
      (PB.here_of KX G ?a35 ?l35 ?c35 ?k35)
      (PB.here_of KX G ?a36 ?l36 ?c36 ?k36)
      (PB.here_of KX G ?a37 ?l37 ?c37 ?k37)
      (PB.here_of KX G ?a38 ?l38 ?c38 ?k38)
      hL) ?aL ?lL ?cL ?kL
    (case zz0 => k_is); (case zz1 => k_is); (case zz2 => k_is); (case zz3 => k_is); (case zz4 => k_is); (case zz5 => k_is); (case zz6 => k_is); (case zz7 => k_is)
    (case zz8 => k_is); (case zz9 => k_is); (case cc0 => k_is); (case ee0 => exact ⟨_, rfl⟩); (case cc1 => k_is); (case ee1 => exact ⟨_, rfl⟩); (case cc2 => k_is); (case ee2 => exact ⟨_, rfl⟩)
    (case a0 => k_is); (case l0 => k_is); (case c0 => k_is); (case k0 => k_is); (case a1 => k_is); (case l1 => k_is); (case c1 => k_is); (case k1 => k_is)
    (case a2 => k_is); (case l2 => k_is); (case c2 => k_is); (case k2 => k_is); (case a3 => k_is); (case l3 => k_is); (case c3 => k_is); (case k3 => k_is)
    (case a4 => k_is); (case l4 => k_is); (case c4 => k_is); (case k4 => k_is); (case a5 => k_is); (case l5 => k_is); (case c5 => k_is); (case k5 => k_is)
    (case a6 => k_is); (case l6 => k_is); (case c6 => k_is); (case k6 => k_is); (case a7 => k_is); (case l7 => k_is); (case c7 => k_is); (case k7 => k_is)
    (case a8 => k_is); (case l8 => k_is); (case c8 => k_is); (case k8 => k_is); (case a9 => k_is); (case l9 => k_is); (case c9 => k_is); (case k9 => k_is)
    (case a10 => k_is); (case l10 => k_is); (case c10 => k_is); (case k10 => k_is); (case a11 => k_is); (case l11 => k_is); (case c11 => k_is); (case k11 => k_is)
    (case a12 => k_is); (case l12 => k_is); (case c12 => k_is); (case k12 => k_is); (case a13 => k_is); (case l13 => k_is); (case c13 => k_is); (case k13 => k_is)
    (case a14 => k_is); (case l14 => k_is); (case c14 => k_is); (case k14 => k_is); (case a15 => k_is); (case l15 => k_is); (case c15 => k_is); (case k15 => k_is)
    (case a16 => k_is); (case l16 => k_is); (case c16 => k_is); (case k16 => k_is); (case a17 => k_is); (case l17 => k_is); (case c17 => k_is); (case k17 => k_is)
    (case a18 => k_is); (case l18 => k_is); (case c18 => k_is); (case k18 => k_is); (case a19 => k_is); (case l19 => k_is); (case c19 => k_is); (case k19 => k_is)
    (case a20 => k_is); (case l20 => k_is); (case c20 => k_is); (case k20 => k_is); (case a21 => k_is); (case l21 => k_is); (case c21 => k_is); (case k21 => k_is)
    (case a22 => k_is); (case l22 => k_is); (case c22 => k_is); (case k22 => k_is); (case a23 => k_is); (case l23 => k_is); (case c23 => k_is); (case k23 => k_is)
    (case a24 => k_is); (case l24 => k_is); (case c24 => k_is); (case k24 => k_is); (case a25 => k_is); (case l25 => k_is); (case c25 => k_is); (case k25 => k_is)
    (case a26 => k_is); (case l26 => k_is); (case c26 => k_is); (case k26 => k_is); (case a27 => k_is); (case l27 => k_is); (case c27 => k_is); (case k27 => k_is)
    (case a28 => k_is); (case l28 => k_is); (case c28 => k_is); (case k28 => k_is); (case a29 => k_is); (case l29 => k_is); (case c29 => k_is); (case k29 => k_is)
    (case a30 => k_is); (case l30 => k_is); (case c30 => k_is); (case k30 => k_is); (case a31 => k_is); (case l31 => k_is); (case c31 => k_is); (case k31 => k_is)
    (case a32 => k_is); (case l32 => k_is); (case c32 => k_is); (case k32 => k_is); (case a33 => k_is); (case l33 => k_is); (case c33 => k_is); (case k33 => k_is)
    (case a34 => k_is); (case l34 => k_is); (case c34 => k_is); (case k34 => k_is); (case a35 => k_is); (case l35 => k_is); (case c35 => k_is); (case k35 => k_is)
    (case a36 => k_is); (case l36 => k_is); (case c36 => k_is); (case k36 => k_is); (case a37 => k_is); (case l37 => k_is); (case c37 => k_is); (case k37 => k_is)
    (case a38 => k_is); (case l38 => k_is); (case c38 => k_is); (case k38 => k_is); (case aL => k_is); (case lL => k_is); (case cL => k_is); (case kL => k_is)
